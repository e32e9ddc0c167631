import PyProof.Rows.All
import HandS.ForMost
import HandS.ForExc
import HandS.Zip
import HandS.Wide
import HandS.Walk
import HandS.Rev
import KE.GoesNew
import KE.GoesMore
import KE.GoesZip
import KE.GoesEnum
import HandS.ExcCtx
import HandS.HotCalls
import HandS.ExcIs
import HandS.TupAny
import HandS.TupMul
import HandS.TupLe
import HandS.IsInst
import HandS.SortInts
import PyProof.Rows.RuleB_pow
import HandS.Style
import PyProof.CallFns
import KE.DataMinMax
import PyProof.SumAny
import HandS.Deep
import HandS.Small
import HandS.Iter
import PyProof.ListIndex
import KE.KEqDict
import PyProof.DictFindH
import PyProof.DictRoadsH
import HandS.Conv
import HandS.More
import HandS.Flt
import PyProof.ListNew
import HandS.SortOrd
import HandS.DictTup
import KE.KDictCopyH
import HandS.SortKw
import KE.SortData
import HandS.Comp
import PyProof.TupleIter
import HandS.Text
import KE.KIndexOf
import PyProof.ReprRoads
import KE.KDictWalk
import KE.DataMinKey
import PyProof.NeData
import PyProof.CallStr
import PyProof.Rows.IntBool
import Wide.All
import OpenK.AllK
import Wide.FinOn
import PySem.Challenge.RW_movedminutes_k02_halls_judged
set_option Elab.async false
set_option linter.all false
set_option maxRecDepth 100000
set_option autoImplicit false
/-! ZI: zip and enumerate over rows of either kind (a tuple: true, a list: false). -/
namespace Zi
open PySem PySem.Spec PyProof.Rows L2
def Sq (K : PySem.W.Frag) (b : Bool) (H : Hp) (p : Addr) (xs : List V) : Prop := match b with
  | true => SqT K H p xs
  | false => SqL K H p xs
def SeqAt (b : Bool) (h : Heap) (p : Addr) (its : Array Value) : Prop := match b with
  | true => h.IsTuple p its
  | false => h.IsList p its
def IterAt (b : Bool) (h : Heap) (it p : Addr) (i : Nat) : Prop := match b with
  | true => h.IsTupleIter it p i
  | false => h.IsListIter it p i
section
variable {X : Cx} {pins : List (Addr × Obj)} {σ : L2.St} {H : Hp} {s : Shared} {b : Bool} {p : Addr} {xs ys : List V}
theorem draws {prog : Program} {w : World} {A : Around} (hh : A.handled = none) (b : Bool) (it l : Addr) (hne : l ≠ it) (items : Array Value) :
    Draws prog w A it [it, l] items.size (fun i v => items[i]? = some v) (fun i h => IterAt b h it l i ∧ SeqAt b h l items) := by
  cases b with
  | true => exact Draws.tuple hh it l hne items
  | false => exact Draws.list hh it l hne items
theorem IterAt.keep {h h' : Heap} {it l : Addr} {i : Nat} (x : IterAt b h it l i) (k : ∀ o, h.get? it = some o → h'.get? it = some o) : IterAt b h' it l i := by
  cases b with
  | true => exact Heap.IsTupleIter.at (show h.IsTupleIter it l i from x) k
  | false => exact Heap.IsListIter.at (show h.IsListIter it l i from x) k
end
/-! ### two -/
end Zi
set_option Elab.async false
set_option linter.all false
set_option maxRecDepth 100000
set_option autoImplicit false
/-! ZI2: zip of three, enumerate of either kind. -/
namespace Zi
open PySem PySem.Spec PyProof.Rows L2
/-! ### enumerate -/
end Zi
set_option Elab.async false
set_option linter.all false
set_option maxRecDepth 100000
set_option autoImplicit false
/-! ZI3: zip of two rows, its pairs kept by a name. -/
namespace Zi
open PySem PySem.Spec PyProof.Rows L2
section
variable {prog : Program} {w : World} {A : Around} {E : Value → Shared → Prop} {s : Shared} {z tI tO i1 i2 : Addr} {fp1 fp2 : List Addr} {n1 n2 i : Nat} {P1 P2 : Nat → Value → Prop} {St1 St2 : Nat → Heap → Prop} {a1 a2 u : Value} {b : Bool}
end
end Zi
namespace Zi
open PySem PySem.Spec PyProof.Rows L2
section
variable {prog : Program} {w : World} {A : Around} {E : Value → Shared → Prop} {s : Shared} {z tI tO i1 i2 : Addr} {fp1 fp2 : List Addr} {n1 n2 i : Nat} {P1 P2 : Nat → Value → Prop} {St1 St2 : Nat → Heap → Prop} {a1 a2 u : Value} {b : Bool}
end
end Zi
set_option Elab.async false
set_option linter.all false
set_option maxRecDepth 100000
/-! Z0: values as trees, how they stand in the abstract heap, who owns what. -/
namespace Zm
open PySem PySem.Spec PyProof.Rows L2
abbrev Cnt := Addr → Nat
def cp (p : Addr) : Cnt := fun x => if x = p then 1 else 0
theorem cp_same {p : Addr} : cp p p = 1 := if_pos rfl
def c0 : Cnt := fun _ => 0
theorem cp_ne {p x : Addr} (h : x ≠ p) : cp p x = 0 := if_neg h
/-- values as trees. lst true: nobody else holds this list; lst false: it is never changed from here on; box n: the n-th list of the store -/
inductive D where
  | non | bl (b : Bool) | int (i : Int) | str (x : Str)
  | tup (xs : List D) | lst (o : Bool) (xs : List D) | dic (o t : Bool) (ks vs : List D)
  | box (n : Nat) | fn (x : Str) | ty (x : String) | ro (ns : List Int)
  | exc (c : Str) (m : Option Int)
  | dil (o : Bool) (ks vs : List D)
  deriving Inhabited
abbrev Sto := List (List D)
abbrev Env := List (Option D)
mutual
/-- all lists within are frozen -/
@[simp] def fz : D → D
  | .tup xs => .tup (fzs xs)
  | .lst _ xs => .lst false (fzs xs)
  | .dic _ t ks vs => .dic false t ks vs
  | .dil _ ks vs => .dil false ks vs
  | .non => .non | .bl b => .bl b | .int i => .int i | .str x => .str x | .box n => .box n | .fn x => .fn x | .ty x => .ty x | .exc c m => .exc c m | .ro ns => .ro ns
@[simp] def fzs : List D → List D
  | [] => []
  | x :: xs => fz x :: fzs xs
end
mutual
/-- no frozen list within -/
@[simp] def noF : D → Bool
  | .tup xs => noFs xs
  | .lst o xs => o && noFs xs
  | .dic o _ _ _ => o
  | .dil o _ vs => o && noFs vs
  | .non => true | .bl _ => true | .int _ => true | .str _ => true | .box _ => true | .fn _ => true | .ty _ => true | .exc _ _ => true | .ro _ => true
@[simp] def noFs : List D → Bool
  | [] => true
  | x :: xs => noF x && noFs xs
end
mutual
/-- no list at all within (but boxes) -/
@[simp] def plain : D → Bool
  | .tup xs => plains xs
  | .lst _ _ => false
  | .dic _ _ _ _ => false
  | .dil _ _ _ => false
  | .non => true | .bl _ => true | .int _ => true | .str _ => true | .box _ => true | .fn _ => true | .ty _ => true | .exc _ _ => true | .ro _ => true
@[simp] def plains : List D → Bool
  | [] => true
  | x :: xs => plain x && plains xs
end
mutual
def pd : D → Option PyData
  | .non => some .none
  | .bl b => some (.bool b)
  | .int i => some (.int i)
  | .str x => some (.str x)
  | .tup xs => (pds xs).map .tuple
  | .lst _ xs => (pds xs).map .list
  | .ro ns => some (.list (ns.map .int))
  | .dic _ _ _ _ => none | .dil _ _ _ => none | .box _ => none | .fn _ => none | .ty _ => none | .exc _ _ => none
def pds : List D → Option (List PyData)
  | [] => some []
  | x :: xs => match pd x, pds xs with
    | some y, some ys => some (y :: ys)
    | _, _ => none
end
theorem fzs_eq : ∀ xs : List D, fzs xs = xs.map fz
  | [] => rfl
  | x :: xs => by rw [fzs, fzs_eq xs]; rfl
theorem noFs_iff : ∀ {xs : List D}, noFs xs = true ↔ ∀ x ∈ xs, noF x = true
  | [] => by simp [noFs]
  | x :: xs => by simp [noFs, noFs_iff (xs := xs)]
theorem plains_iff : ∀ {xs : List D}, plains xs = true ↔ ∀ x ∈ xs, plain x = true
  | [] => by simp [plains]
  | x :: xs => by simp [plains, plains_iff (xs := xs)]
section
variable (K : PySem.W.Frag) (mg : Str → Option Value) (H : Hp) (ρ : List Addr)
/-- a list of the written part -/
def SqK (K : PySem.W.Frag) (a : Addr) (xs : List V) : Prop :=
  ∃ (o : Obj) (its : Array Value) (n : Nat), K.lookup a = some o ∧ o.cls = .type "list" ∧ o.dict = none ∧ o.data = .seq its n ∧ its.size ≤ sizeLine ∧ Vals xs its.toList
/-- a list that is read only: known to the object, or of the written part -/
def SqR (K : PySem.W.Frag) (H : Hp) (a : Addr) (xs : List V) : Prop := (∃ o, H a = some (.frz o (.lst xs))) ∨ SqK K a xs
def kD : Key → D
  | .inl i => .int i
  | .inr z => .str z
def ktD (k : List Key) : D := .tup (k.map kD)
/-- a dict; t: its keys are tuples -/
def DicV (t : Bool) (ks : List D) (ws : List V) (u : HO) : Prop := match t with
  | false => ∃ kvs : List (Key × V), u = .dK kvs ∧ ks = kvs.map (fun z => kD z.1) ∧ ws = kvs.map (·.2)
  | true => ∃ kvs : List (List Key × V), u = .dT kvs ∧ ks = kvs.map (fun z => ktD z.1) ∧ ws = kvs.map (·.2)
/-- .. that may be written; .. that is read (locked, may be) -/
def DicAt (H : Hp) (t : Bool) (p : Addr) (ks : List D) (ws : List V) : Prop := ∃ u, H p = some u ∧ DicV t ks ws u
def DicRd (H : Hp) (t : Bool) (p : Addr) (ks : List D) (ws : List V) : Prop := ∃ u, Rd H p u ∧ DicV t ks ws u
/-- an exception's object, of the class at C -/
def ExO (p C : Addr) (h : Heap) : Prop := ∃ (o : Obj) (vs : Array Value), h.get? p = some o ∧ o.cls = .ref C ∧ o.dict = none ∧ o.data = .fields vs
/-- an exception: one that is handled (by its address), one that is kept -/
def XcAt (mg : Str → Option Value) (H : Hp) (c : Str) (m : Option Int) (p : Addr) : Prop := match m with
  | some a => (p : Int) = a
  | none => ∃ C, mg c = some (.ref C) ∧ H p = some (.ext (ExO p C))
mutual
/-- the tree d stands at v: A counts the lists that are owned in it, F those that are frozen -/
inductive Rep : D → V → Cnt → Cnt → Prop
  | non {A F : Cnt} : (∀ x, A x = 0) → (∀ x, F x = 0) → Rep .non .non A F
  | bl {b : Bool} {A F : Cnt} : (∀ x, A x = 0) → (∀ x, F x = 0) → Rep (.bl b) (.bl b) A F
  | int {i : Int} {A F : Cnt} : (∀ x, A x = 0) → (∀ x, F x = 0) → Rep (.int i) (.int i) A F
  | str {z : Str} {A F : Cnt} : (∀ x, A x = 0) → (∀ x, F x = 0) → Rep (.str z) (.str z) A F
  | tup {p : Addr} {ds : List D} {vs : List V} {A F : Cnt} : H p = some (.tup vs) → Reps ds vs A F → Rep (.tup ds) (.ref p) A F
  | own {p : Addr} {ds : List D} {vs : List V} {a A F : Cnt} : H p = some (.lst vs) → p ∉ ρ → Reps ds vs a F → (∀ x, A x = cp p x + a x) → Rep (.lst true ds) (.ref p) A F
  | frz {p : Addr} {ds : List D} {vs : List V} {f A F : Cnt} : H p = some (.lst vs) → p ∉ ρ → Reps ds vs A f → (∀ x, F x = cp p x + f x) → Rep (.lst false ds) (.ref p) A F
  | ro {p : Addr} {ns : List Int} {A F : Cnt} : SqR K H p (ns.map V.int) → (∀ x, A x = 0) → (∀ x, F x = 0) → Rep (.ro ns) (.ref p) A F
  | box {n : Nat} {p : Addr} {A F : Cnt} : ρ[n]? = some p → (∀ x, A x = 0) → (∀ x, F x = 0) → Rep (.box n) (.ref p) A F
  | fn {x : Str} {p : Addr} {A F : Cnt} : mg x = some (.ref p) → PySem.W.keepIn K (.ref p) = true → (∀ x, A x = 0) → (∀ x, F x = 0) → Rep (.fn x) (.ref p) A F
  | ty {x : String} {A F : Cnt} : (∀ x, A x = 0) → (∀ x, F x = 0) → Rep (.ty x) (.ty x) A F
  | exc {c : Str} {m : Option Int} {p : Addr} {A F : Cnt} : XcAt mg H c m p → (∀ x, A x = 0) → (∀ x, F x = 0) → Rep (.exc c m) (.ref p) A F
  | dicO {t : Bool} {p : Addr} {ks vs : List D} {ws : List V} {A F : Cnt} : DicAt H t p ks ws → p ∉ ρ → plains vs = true → Reps vs ws c0 c0 → (∀ x, A x = cp p x) → (∀ x, F x = 0) → Rep (.dic true t ks vs) (.ref p) A F
  | dicF {t : Bool} {p : Addr} {ks vs : List D} {ws : List V} {A F : Cnt} : DicRd H t p ks ws → p ∉ ρ → plains vs = true → Reps vs ws c0 c0 → (∀ x, A x = 0) → (∀ x, F x = cp p x) → Rep (.dic false t ks vs) (.ref p) A F
  | dilO {p : Addr} {ks vs : List D} {ws : List V} {f A F : Cnt} : DicAt H true p ks ws → p ∉ ρ → fzs vs = vs → Reps vs ws c0 f → (∀ x, A x = cp p x) → (∀ x, F x = f x) → Rep (.dil true ks vs) (.ref p) A F
  | dilF {p : Addr} {ks vs : List D} {ws : List V} {f A F : Cnt} : DicRd H true p ks ws → p ∉ ρ → fzs vs = vs → Reps vs ws c0 f → (∀ x, A x = 0) → (∀ x, F x = cp p x + f x) → Rep (.dil false ks vs) (.ref p) A F
inductive Reps : List D → List V → Cnt → Cnt → Prop
  | nil {A F : Cnt} : (∀ x, A x = 0) → (∀ x, F x = 0) → Reps [] [] A F
  | cons {d : D} {ds : List D} {v : V} {vs : List V} {a f a' f' A F : Cnt} : Rep d v a f → Reps ds vs a' f' → (∀ x, A x = a x + a' x) → (∀ x, F x = f x + f' x) → Reps (d :: ds) (v :: vs) A F
end
end
section
variable {K : PySem.W.Frag} {mg : Str → Option Value} {H H' : Hp} {ρ ρ' : List Addr} {d : D} {ds es : List D} {v : V} {vs ws : List V} {A F A' F' a f : Cnt}
theorem Rep.cong : Rep K mg H ρ d v A F → (∀ x, A' x = A x) → (∀ x, F' x = F x) → Rep K mg H ρ d v A' F' := by
  intro h hA hF
  have : A' = A := funext hA
  have : F' = F := funext hF
  subst_vars; exact h
theorem Reps.cong : Reps K mg H ρ ds vs A F → (∀ x, A' x = A x) → (∀ x, F' x = F x) → Reps K mg H ρ ds vs A' F' := by
  intro h hA hF
  have : A' = A := funext hA
  have : F' = F := funext hF
  subst_vars; exact h
theorem Reps.length : ∀ {ds : List D} {vs : List V} {A F : Cnt}, Reps K mg H ρ ds vs A F → ds.length = vs.length
  | _, _, _, _, .nil _ _ => rfl
  | _, _, _, _, .cons _ t _ _ => congrArg (· + 1) t.length
/-- what may be written: lists, dicts -/
def Mu : HO → Prop
  | .lst _ => True
  | .dK _ => True
  | .dT _ => True
  | _ => False
/-- what may change from H to H': M, and the boxes -/
structure Fr (M : Cnt) (H H' : Hp) (ρ ρ' : List Addr) : Prop where
  keep : ∀ x o, H x = some o → H' x = some o ∨ (Mu o ∧ (x ∈ ρ ∨ 1 ≤ M x))
  there : ∀ x, H' x = none → H x = none
  ext : ∃ r, ρ' = ρ ++ r ∧ ∀ p ∈ r, H p = none
theorem Fr.refl {M : Cnt} : Fr M H H ρ ρ := ⟨fun _ _ h => .inl h, fun _ h => h, [], by simp, by simp⟩
theorem Fr.mono {M M' : Cnt} (h : Fr M H H' ρ ρ') (hm : ∀ x, 1 ≤ M x → 1 ≤ M' x ∨ H x = none) : Fr M' H H' ρ ρ' := by
  refine ⟨fun x o e => ?_, h.there, h.ext⟩
  rcases h.keep x o e with z | ⟨l, z | z⟩
  · exact .inl z
  · exact .inr ⟨l, .inl z⟩
  · rcases hm x z with y | y
    · exact .inr ⟨l, .inr y⟩
    · rw [y] at e; cases e
theorem Fr.trans {M M1 : Cnt} {H1 : Hp} {ρ1 : List Addr} (h : Fr M H H1 ρ ρ1) (h1 : Fr M1 H1 H' ρ1 ρ') (hm : ∀ x, 1 ≤ M1 x → 1 ≤ M x ∨ H x = none) : Fr M H H' ρ ρ' := by
  obtain ⟨r, e, n⟩ := h.ext
  obtain ⟨r1, e1, n1⟩ := h1.ext
  refine ⟨fun x o q => ?_, fun x q => h.there x (h1.there x q), r ++ r1, by rw [e1, e, List.append_assoc], fun p hp => ?_⟩
  · rcases h.keep x o q with z | z
    · rcases h1.keep x o z with y | ⟨l, y⟩
      · exact .inl y
      · rcases y with y | y
        · rw [e] at y
          rcases List.mem_append.mp y with y | y
          · exact .inr ⟨l, .inl y⟩
          · have := n x y
            rw [q] at this; cases this
        · rcases hm x y with y | y
          · exact .inr ⟨l, .inr y⟩
          · rw [q] at y; cases y
    · exact .inr z
  · rcases List.mem_append.mp hp with z | z
    · exact n p z
    · exact h.there p (n1 p z)
theorem Fr.get (h : Fr A H H' ρ ρ') {n : Nat} {p : Addr} (hx : ρ[n]? = some p) : ρ'[n]? = some p := by
  obtain ⟨r, e, _⟩ := h.ext
  obtain ⟨hl, _⟩ := List.getElem?_eq_some_iff.mp hx
  rw [e, List.getElem?_append_left hl]; exact hx
theorem Fr.nmem (h : Fr A H H' ρ ρ') {x : Addr} {o : HO} (e : H x = some o) (hx : x ∉ ρ) : x ∉ ρ' := by
  obtain ⟨r, q, n⟩ := h.ext
  rw [q]; intro z
  rcases List.mem_append.mp z with z | z
  · exact hx z
  · have := n x z
    rw [e] at this; cases this
theorem Fr.rdT {M : Cnt} (h : Fr M H H' ρ ρ') {p : Addr} (e : H p = some (.tup vs)) : H' p = some (.tup vs) := by
  rcases h.keep _ _ e with z | ⟨z, _⟩
  · exact z
  · exact z.elim
theorem Fr.rdX {M : Cnt} (h : Fr M H H' ρ ρ') {mg : Str → Option Value} {c : Str} {m : Option Int} {p : Addr} (e : XcAt mg H c m p) : XcAt mg H' c m p := by
  cases m with
  | some a => exact e
  | none =>
    obtain ⟨C, e1, e2⟩ := e
    rcases h.keep _ _ e2 with z | ⟨z, _⟩
    · exact ⟨C, e1, z⟩
    · exact z.elim
theorem Fr.rdR {M : Cnt} (h : Fr M H H' ρ ρ') {p : Addr} (e : SqR K H p vs) : SqR K H' p vs := by
  rcases e with ⟨o, e⟩ | e
  · rcases h.keep _ _ e with z | ⟨z, _⟩
    · exact .inl ⟨o, z⟩
    · exact z.elim
  · exact .inr e
theorem SqR.L {p : Addr} (h : SqR K H p vs) : SqL K H p vs := by
  rcases h with ⟨o, h⟩ | h
  · exact .inl (.inr ⟨o, h⟩)
  · exact .inr h
theorem DicV.mu {t : Bool} {ks : List D} {ws : List V} {u : HO} (h : DicV t ks ws u) : Mu u := by
  cases t with
  | false => obtain ⟨kvs, rfl, _⟩ := h; exact trivial
  | true => obtain ⟨kvs, rfl, _⟩ := h; exact trivial
theorem DicAt.sm {t : Bool} {p : Addr} {ks : List D} {ws : List V} (h : DicAt H t p ks ws) : ∃ o, H p = some o := let ⟨u, e, _⟩ := h; ⟨u, e⟩
theorem DicAt.rd {t : Bool} {p : Addr} {ks : List D} {ws : List V} (h : DicAt H t p ks ws) : DicRd H t p ks ws := let ⟨u, e, q⟩ := h; ⟨u, .inl e, q⟩
theorem DicRd.sm {t : Bool} {p : Addr} {ks : List D} {ws : List V} (h : DicRd H t p ks ws) : ∃ o, H p = some o := by
  obtain ⟨u, e | ⟨o, e⟩, _⟩ := h
  · exact ⟨_, e⟩
  · exact ⟨_, e⟩
theorem Fr.at_ {M : Cnt} (fr : Fr M H H' ρ ρ') {p : Addr} {o : HO} (e : H p = some o) (hp : p ∉ ρ) (hM : M p = 0) : H' p = some o ∧ p ∉ ρ' := by
  refine ⟨?_, fr.nmem e hp⟩
  rcases fr.keep _ _ e with z | ⟨_, z | z⟩
  · exact z
  · exact (hp z).elim
  · omega
theorem DicAt.frm {M : Cnt} (fr : Fr M H H' ρ ρ') {t : Bool} {p : Addr} {ks : List D} {ws : List V} (h : DicAt H t p ks ws) (hp : p ∉ ρ) (hM : M p = 0) : DicAt H' t p ks ws ∧ p ∉ ρ' := by
  obtain ⟨u, e, q⟩ := h
  have := fr.at_ e hp hM
  exact ⟨⟨u, this.1, q⟩, this.2⟩
theorem DicRd.frm {M : Cnt} (fr : Fr M H H' ρ ρ') {t : Bool} {p : Addr} {ks : List D} {ws : List V} (h : DicRd H t p ks ws) (hp : p ∉ ρ) (hM : M p = 0) : DicRd H' t p ks ws ∧ p ∉ ρ' := by
  obtain ⟨u, e | ⟨o, e⟩, q⟩ := h
  · have := fr.at_ e hp hM
    exact ⟨⟨u, .inl this.1, q⟩, this.2⟩
  · have := fr.at_ e hp hM
    exact ⟨⟨u, .inr ⟨o, this.1⟩, q⟩, this.2⟩
mutual
/-- a tree of which nothing is changed stands on -/
theorem Rep.frame {M : Cnt} (fr : Fr M H H' ρ ρ') : ∀ {d : D} {v : V} {A F : Cnt}, Rep K mg H ρ d v A F → (∀ x, 1 ≤ M x → A x = 0 ∧ F x = 0) → Rep K mg H' ρ' d v A F
  | _, _, _, _, .non a f, _ => .non a f
  | _, _, _, _, .bl a f, _ => .bl a f
  | _, _, _, _, .int a f, _ => .int a f
  | _, _, _, _, .str a f, _ => .str a f
  | _, _, _, _, .tup h t, hm => .tup (fr.rdT h) (Reps.frame fr t hm)
  | _, _, A, F, .own (p := p) h hp t e, hm => by
    have hM : M p = 0 := by
      cases z : M p with
      | zero => rfl
      | succ k => have := (hm p (by omega)).1; rw [e p, cp_same] at this; omega
    rcases fr.keep _ _ h with z | ⟨_, z | z⟩
    · exact .own z (fr.nmem h hp) (Reps.frame fr t fun x hx => by have := hm x hx; rw [e x] at this; omega) e
    · exact (hp z).elim
    · omega
  | _, _, A, F, .frz (p := p) h hp t e, hm => by
    have hM : M p = 0 := by
      cases z : M p with
      | zero => rfl
      | succ k => have := (hm p (by omega)).2; rw [e p, cp_same] at this; omega
    rcases fr.keep _ _ h with z | ⟨_, z | z⟩
    · exact .frz z (fr.nmem h hp) (Reps.frame fr t fun x hx => by have := hm x hx; rw [e x] at this; omega) e
    · exact (hp z).elim
    · omega
  | _, _, _, _, .ro h a f, _ => .ro (fr.rdR h) a f
  | _, _, _, _, .box h a f, _ => .box (fr.get h) a f
  | _, _, _, _, .fn h k a f, _ => .fn h k a f
  | _, _, _, _, .ty a f, _ => .ty a f
  | _, _, _, _, .exc h a f, _ => .exc (fr.rdX h) a f
  | _, _, A, F, .dicO (p := p) h hp pl t e1 e2, hm => by
    have hM : M p = 0 := by
      cases z : M p with
      | zero => rfl
      | succ k => have := (hm p (by omega)).1; rw [e1 p, cp_same] at this; omega
    exact .dicO (h.frm fr hp hM).1 (h.frm fr hp hM).2 pl (Reps.frame fr t fun x _ => ⟨rfl, rfl⟩) e1 e2
  | _, _, A, F, .dicF (p := p) h hp pl t e1 e2, hm => by
    have hM : M p = 0 := by
      cases z : M p with
      | zero => rfl
      | succ k => have := (hm p (by omega)).2; rw [e2 p, cp_same] at this; omega
    exact .dicF (h.frm fr hp hM).1 (h.frm fr hp hM).2 pl (Reps.frame fr t fun x _ => ⟨rfl, rfl⟩) e1 e2
  | _, _, A, F, .dilO (p := p) h hp pl t e1 e2, hm => by
    have hM : M p = 0 := by
      cases z : M p with
      | zero => rfl
      | succ k => have := (hm p (by omega)).1; rw [e1 p, cp_same] at this; omega
    exact .dilO (h.frm fr hp hM).1 (h.frm fr hp hM).2 pl (Reps.frame fr t fun x hx => ⟨rfl, by have := hm x hx; rw [e2 x] at this; omega⟩) e1 e2
  | _, _, A, F, .dilF (p := p) h hp pl t e1 e2, hm => by
    have hM : M p = 0 := by
      cases z : M p with
      | zero => rfl
      | succ k => have := (hm p (by omega)).2; rw [e2 p, cp_same] at this; omega
    exact .dilF (h.frm fr hp hM).1 (h.frm fr hp hM).2 pl (Reps.frame fr t fun x hx => ⟨rfl, by have := hm x hx; rw [e2 x] at this; omega⟩) e1 e2
theorem Reps.frame {M : Cnt} (fr : Fr M H H' ρ ρ') : ∀ {ds : List D} {vs : List V} {A F : Cnt}, Reps K mg H ρ ds vs A F → (∀ x, 1 ≤ M x → A x = 0 ∧ F x = 0) → Reps K mg H' ρ' ds vs A F
  | _, _, _, _, .nil a f, _ => .nil a f
  | _, _, _, _, .cons h t e1 e2, hm => .cons (Rep.frame fr h fun x hx => by have := hm x hx; rw [e1, e2] at this; omega) (Reps.frame fr t fun x hx => by have := hm x hx; rw [e1, e2] at this; omega) e1 e2
end
mutual
/-- what is counted is there -/
theorem Rep.there : ∀ {d : D} {v : V} {A F : Cnt}, Rep K mg H ρ d v A F → ∀ x, 1 ≤ A x + F x → (∃ o, H x = some o) ∧ x ∉ ρ
  | _, _, _, _, .non a f, x, hx => by rw [a, f] at hx; omega
  | _, _, _, _, .bl a f, x, hx => by rw [a, f] at hx; omega
  | _, _, _, _, .int a f, x, hx => by rw [a, f] at hx; omega
  | _, _, _, _, .str a f, x, hx => by rw [a, f] at hx; omega
  | _, _, _, _, .tup _ t, x, hx => Reps.there t x hx
  | _, _, _, _, .own (p := p) h hp t e, x, hx => by
    by_cases q : x = p
    · subst q; exact ⟨⟨_, h⟩, hp⟩
    · rw [e, cp_ne q] at hx
      exact Reps.there t x (by omega)
  | _, _, _, _, .frz (p := p) h hp t e, x, hx => by
    by_cases q : x = p
    · subst q; exact ⟨⟨_, h⟩, hp⟩
    · rw [e, cp_ne q] at hx
      exact Reps.there t x (by omega)
  | _, _, _, _, .ro _ a f, x, hx => by rw [a, f] at hx; omega
  | _, _, _, _, .box _ a f, x, hx => by rw [a, f] at hx; omega
  | _, _, _, _, .fn _ _ a f, x, hx => by rw [a, f] at hx; omega
  | _, _, _, _, .ty a f, x, hx => by rw [a, f] at hx; omega
  | _, _, _, _, .exc _ a f, x, hx => by rw [a, f] at hx; omega
  | _, _, _, _, .dicO (p := p) h hp pl t e1 e2, x, hx => by
    by_cases q : x = p
    · subst q; exact ⟨h.sm, hp⟩
    · rw [e1, e2, cp_ne q] at hx; omega
  | _, _, _, _, .dicF (p := p) h hp pl t e1 e2, x, hx => by
    by_cases q : x = p
    · subst q; exact ⟨h.sm, hp⟩
    · rw [e1, e2, cp_ne q] at hx; omega
  | _, _, _, _, .dilO (p := p) h hp pl t e1 e2, x, hx => by
    by_cases q : x = p
    · subst q; exact ⟨h.sm, hp⟩
    · rw [e1, e2, cp_ne q] at hx
      exact Reps.there t x (by omega)
  | _, _, _, _, .dilF (p := p) h hp pl t e1 e2, x, hx => by
    by_cases q : x = p
    · subst q; exact ⟨h.sm, hp⟩
    · rw [e1, e2, cp_ne q] at hx
      exact Reps.there t x (by omega)
theorem Reps.there : ∀ {ds : List D} {vs : List V} {A F : Cnt}, Reps K mg H ρ ds vs A F → ∀ x, 1 ≤ A x + F x → (∃ o, H x = some o) ∧ x ∉ ρ
  | _, _, _, _, .nil a f, x, hx => by rw [a, f] at hx; omega
  | _, _, _, _, .cons (a := a) (f := f) (a' := a') (f' := f') h t e1 e2, x, hx => by
    rw [e1, e2] at hx
    by_cases z : 1 ≤ a x + f x
    · exact Rep.there h x z
    · exact Reps.there t x (by omega)
end
mutual
/-- frozen: what was owned is no longer -/
theorem Rep.fz : ∀ {d : D} {v : V} {A F : Cnt}, Rep K mg H ρ d v A F → ∃ F', Rep K mg H ρ (fz d) v c0 F' ∧ ∀ x, 1 ≤ F' x → 1 ≤ A x + F x
  | _, _, _, _, .non a f => ⟨c0, .non (fun _ => rfl) (fun _ => rfl), fun x h => by simp [c0] at h⟩
  | _, _, _, _, .bl a f => ⟨c0, .bl (fun _ => rfl) (fun _ => rfl), fun x h => by simp [c0] at h⟩
  | _, _, _, _, .int a f => ⟨c0, .int (fun _ => rfl) (fun _ => rfl), fun x h => by simp [c0] at h⟩
  | _, _, _, _, .str a f => ⟨c0, .str (fun _ => rfl) (fun _ => rfl), fun x h => by simp [c0] at h⟩
  | _, _, _, _, .tup h t => let ⟨F', r, q⟩ := Reps.fz t; ⟨F', .tup h r, q⟩
  | _, _, _, _, .own (p := p) h hp t e => by
    obtain ⟨F', r, q⟩ := Reps.fz t
    refine ⟨fun x => cp p x + F' x, .frz h hp r (fun _ => rfl), fun x hx => ?_⟩
    rw [e]
    have := q x
    by_cases z : 1 ≤ F' x
    · have := q x z; omega
    · have hx : 1 ≤ cp p x + F' x := hx
      omega
  | _, _, _, _, .frz (p := p) h hp t e => by
    obtain ⟨F', r, q⟩ := Reps.fz t
    refine ⟨fun x => cp p x + F' x, .frz h hp r (fun _ => rfl), fun x hx => ?_⟩
    rw [e]
    by_cases z : 1 ≤ F' x
    · have := q x z; omega
    · have hx : 1 ≤ cp p x + F' x := hx
      omega
  | _, _, _, _, .ro h a f => ⟨c0, .ro h (fun _ => rfl) (fun _ => rfl), fun x h => by simp [c0] at h⟩
  | _, _, _, _, .box h a f => ⟨c0, .box h (fun _ => rfl) (fun _ => rfl), fun x h => by simp [c0] at h⟩
  | _, _, _, _, .fn h k a f => ⟨c0, .fn h k (fun _ => rfl) (fun _ => rfl), fun x h => by simp [c0] at h⟩
  | _, _, _, _, .ty a f => ⟨c0, .ty (fun _ => rfl) (fun _ => rfl), fun x h => by simp [c0] at h⟩
  | _, _, _, _, .exc h a f => ⟨c0, .exc h (fun _ => rfl) (fun _ => rfl), fun x h => by simp [c0] at h⟩
  | _, _, _, _, .dicO (p := p) h hp pl t e1 e2 => ⟨cp p, .dicF h.rd hp pl t (fun _ => rfl) (fun _ => rfl), fun x hx => by rw [e1]; omega⟩
  | _, _, _, _, .dicF (p := p) h hp pl t e1 e2 => ⟨cp p, .dicF h hp pl t (fun _ => rfl) (fun _ => rfl), fun x hx => by rw [e2]; omega⟩
  | _, _, _, _, .dilO (p := p) (f := f) h hp pl t e1 e2 => ⟨fun x => cp p x + f x, .dilF h.rd hp pl t (fun _ => rfl) (fun _ => rfl), fun x hx => by rw [e1, e2]; exact hx⟩
  | _, _, _, _, .dilF (p := p) (f := f) h hp pl t e1 e2 => ⟨fun x => cp p x + f x, .dilF h hp pl t (fun _ => rfl) (fun _ => rfl), fun x hx => by rw [e2]; exact Nat.le_trans hx (Nat.le_add_left _ _)⟩
theorem Reps.fz : ∀ {ds : List D} {vs : List V} {A F : Cnt}, Reps K mg H ρ ds vs A F → ∃ F', Reps K mg H ρ (fzs ds) vs c0 F' ∧ ∀ x, 1 ≤ F' x → 1 ≤ A x + F x
  | _, _, _, _, .nil a f => ⟨c0, .nil (fun _ => rfl) (fun _ => rfl), fun x h => by simp [c0] at h⟩
  | _, _, _, _, .cons h t e1 e2 => by
    obtain ⟨F1, r1, q1⟩ := Rep.fz h
    obtain ⟨F2, r2, q2⟩ := Reps.fz t
    refine ⟨fun x => F1 x + F2 x, .cons r1 r2 (fun _ => rfl) (fun _ => rfl), fun x hx => ?_⟩
    rw [e1, e2]
    by_cases z : 1 ≤ F1 x
    · have := q1 x z; omega
    · have hx : 1 ≤ F1 x + F2 x := hx
      have := q2 x (by omega); omega
end
mutual
theorem Rep.noF : ∀ {d : D} {v : V} {A F : Cnt}, Rep K mg H ρ d v A F → noF d = true → ∀ x, F x = 0
  | _, _, _, _, .non _ f, _, x => f x
  | _, _, _, _, .bl _ f, _, x => f x
  | _, _, _, _, .int _ f, _, x => f x
  | _, _, _, _, .str _ f, _, x => f x
  | _, _, _, _, .tup _ t, h, x => Reps.noF t (by simpa [Zm.noF] using h) x
  | _, _, _, _, .own _ _ t _, h, x => Reps.noF t (by simpa [Zm.noF] using h) x
  | _, _, _, _, .frz _ _ t _, h, x => by simp [Zm.noF] at h
  | _, _, _, _, .ro _ _ f, _, x => f x
  | _, _, _, _, .box _ _ f, _, x => f x
  | _, _, _, _, .fn _ _ _ f, _, x => f x
  | _, _, _, _, .ty _ f, _, x => f x
  | _, _, _, _, .exc _ _ f, _, x => f x
  | _, _, _, _, .dicO _ _ _ _ _ e2, _, x => e2 x
  | _, _, _, _, .dicF _ _ _ _ _ _, h, x => by simp [Zm.noF] at h
  | _, _, _, _, .dilO _ _ _ t _ e2, h, x => (e2 x).trans (Reps.noF t (by simpa [Zm.noF] using h) x)
  | _, _, _, _, .dilF _ _ _ _ _ _, h, x => by simp [Zm.noF] at h
theorem Reps.noF : ∀ {ds : List D} {vs : List V} {A F : Cnt}, Reps K mg H ρ ds vs A F → noFs ds = true → ∀ x, F x = 0
  | _, _, _, _, .nil _ f, _, x => f x
  | _, _, _, _, .cons h t e1 e2, hn, x => by
    simp only [noFs, Bool.and_eq_true] at hn
    rw [e2, Rep.noF h hn.1, Reps.noF t hn.2]
end
mutual
theorem Rep.plain : ∀ {d : D} {v : V} {A F : Cnt}, Rep K mg H ρ d v A F → plain d = true → ∀ x, A x = 0 ∧ F x = 0
  | _, _, _, _, .non a f, _, x => ⟨a x, f x⟩
  | _, _, _, _, .bl a f, _, x => ⟨a x, f x⟩
  | _, _, _, _, .int a f, _, x => ⟨a x, f x⟩
  | _, _, _, _, .str a f, _, x => ⟨a x, f x⟩
  | _, _, _, _, .tup _ t, h, x => Reps.plain t (by simpa [Zm.plain] using h) x
  | _, _, _, _, .own _ _ t _, h, x => by simp [Zm.plain] at h
  | _, _, _, _, .frz _ _ t _, h, x => by simp [Zm.plain] at h
  | _, _, _, _, .ro _ a f, _, x => ⟨a x, f x⟩
  | _, _, _, _, .box _ a f, _, x => ⟨a x, f x⟩
  | _, _, _, _, .fn _ _ a f, _, x => ⟨a x, f x⟩
  | _, _, _, _, .ty a f, _, x => ⟨a x, f x⟩
  | _, _, _, _, .exc _ a f, _, x => ⟨a x, f x⟩
  | _, _, _, _, .dicO _ _ _ _ _ _, h, x => by simp [Zm.plain] at h
  | _, _, _, _, .dicF _ _ _ _ _ _, h, x => by simp [Zm.plain] at h
  | _, _, _, _, .dilO _ _ _ _ _ _, h, x => by simp [Zm.plain] at h
  | _, _, _, _, .dilF _ _ _ _ _ _, h, x => by simp [Zm.plain] at h
theorem Reps.plain : ∀ {ds : List D} {vs : List V} {A F : Cnt}, Reps K mg H ρ ds vs A F → plains ds = true → ∀ x, A x = 0 ∧ F x = 0
  | _, _, _, _, .nil a f, _, x => ⟨a x, f x⟩
  | _, _, _, _, .cons h t e1 e2, hn, x => by
    simp only [plains, Bool.and_eq_true] at hn
    have z1 := Rep.plain h hn.1 x
    have z2 := Reps.plain t hn.2 x
    rw [e1, e2]; omega
end
/-- a place in a row -/
theorem Reps.at : ∀ {ds : List D} {vs : List V} {A F : Cnt} {i : Nat} {d : D}, Reps K mg H ρ ds vs A F → ds[i]? = some d → ∃ v a f, vs[i]? = some v ∧ Rep K mg H ρ d v a f ∧ ∀ x, a x ≤ A x ∧ f x ≤ F x
  | _, _, _, _, i, _, .nil _ _, e => by simp at e
  | _, _, _, _, 0, _, .cons h t e1 e2, e => by
    simp at e; subst e
    exact ⟨_, _, _, rfl, h, fun x => by rw [e1, e2]; omega⟩
  | _, _, _, _, i + 1, _, .cons h t e1 e2, e => by
    obtain ⟨v, a, f, q1, q2, q3⟩ := Reps.at t (i := i) (by simpa using e)
    exact ⟨v, a, f, by simpa using q1, q2, fun x => by have := q3 x; rw [e1, e2]; omega⟩
/-- .. put otherwise -/
theorem Reps.set : ∀ {ds : List D} {vs : List V} {A F : Cnt} {i : Nat} {d e : D} {v : V} {a f : Cnt}, Reps K mg H ρ ds vs A F → ds[i]? = some d → Rep K mg H ρ e v a f →
    ∃ w a0 f0, vs[i]? = some w ∧ Rep K mg H ρ d w a0 f0 ∧ ∃ A' F', Reps K mg H ρ (ds.set i e) (vs.set i v) A' F' ∧ ∀ x, A' x + a0 x = A x + a x ∧ F' x + f0 x = F x + f x
  | _, _, _, _, i, _, _, _, _, _, .nil _ _, e, _ => by simp at e
  | _, _, _, _, 0, _, _, _, _, _, .cons h t e1 e2, e, r => by
    simp at e; subst e
    refine ⟨_, _, _, rfl, h, _, _, .cons r t (fun _ => rfl) (fun _ => rfl), fun x => ?_⟩
    rw [e1, e2]; omega
  | _, _, _, _, i + 1, _, _, _, _, _, .cons h t e1 e2, e, r => by
    obtain ⟨w, a0, f0, q1, q2, A', F', q3, q4⟩ := Reps.set t (i := i) (by simpa using e) r
    refine ⟨w, a0, f0, by simpa using q1, q2, _, _, .cons h q3 (fun _ => rfl) (fun _ => rfl), fun x => ?_⟩
    have := q4 x
    rw [e1, e2]; omega
theorem Reps.append : ∀ {ds es : List D} {vs ws : List V} {A F A' F' : Cnt}, Reps K mg H ρ ds vs A F → Reps K mg H ρ es ws A' F' → Reps K mg H ρ (ds ++ es) (vs ++ ws) (fun x => A x + A' x) (fun x => F x + F' x)
  | _, _, _, _, _, _, _, _, .nil a f, s => s.cong (fun x => by show _ + _ = _; rw [a]; omega) (fun x => by show _ + _ = _; rw [f]; omega)
  | _, _, _, _, _, _, _, _, .cons h t e1 e2, s => .cons h (Reps.append t s) (fun x => by show _ + _ = _; rw [e1]; omega) (fun x => by show _ + _ = _; rw [e2]; omega)
theorem Reps.one (h : Rep K mg H ρ d v A F) : Reps K mg H ρ [d] [v] A F := .cons h (.nil (A := c0) (F := c0) (fun _ => rfl) (fun _ => rfl)) (fun _ => rfl) (fun _ => rfl)
theorem Reps.split : ∀ {ds es : List D} {vs : List V} {A F : Cnt}, Reps K mg H ρ (ds ++ es) vs A F →
    ∃ ws us a f a' f', vs = ws ++ us ∧ Reps K mg H ρ ds ws a f ∧ Reps K mg H ρ es us a' f' ∧ ∀ x, A x = a x + a' x ∧ F x = f x + f' x
  | [], es, vs, A, F, h => ⟨[], vs, c0, c0, A, F, rfl, .nil (fun _ => rfl) (fun _ => rfl), h, fun x => by simp [c0]⟩
  | d :: ds, es, _, _, _, .cons h t e1 e2 => by
    obtain ⟨ws, us, a, f, a', f', e, r1, r2, q⟩ := Reps.split t
    subst e
    exact ⟨_ :: ws, us, _, _, a', f', rfl, .cons h r1 (fun _ => rfl) (fun _ => rfl), r2, fun x => by rw [e1, e2]; have := q x; omega⟩
theorem Reps.reverse : ∀ {ds : List D} {vs : List V} {A F : Cnt}, Reps K mg H ρ ds vs A F → Reps K mg H ρ ds.reverse vs.reverse A F
  | _, _, _, _, .nil a f => .nil a f
  | _, _, _, _, .cons h t e1 e2 => by
    rw [List.reverse_cons, List.reverse_cons]
    exact (Reps.append (Reps.reverse t) (Reps.one h)).cong (fun x => by rw [e1]; omega) (fun x => by rw [e2]; omega)
end
end Zm
set_option Elab.async false
set_option linter.all false
set_option maxRecDepth 100000
set_option autoImplicit false
/-! Z1: the state of the machine, what an expression's tree promises. -/
namespace Zm
open PySem PySem.Spec PyProof.Rows L2
theorem no0 {x : Addr} {P : Prop} (h : 1 ≤ c0 x) : P := absurd h (by show ¬ 1 ≤ 0; omega)
abbrev Xc := Str × Option Int
inductive R (α : Type) where
  | ok (a : α) (s : Sto) | ex (x : Xc) (s : Sto) | bad
def R.bind {α β : Type} (r : R α) (k : α → Sto → R β) : R β := match r with
  | .ok a s => k a s
  | .ex x s => .ex x s
  | .bad => .bad
@[simp] theorem R.bind_ok {α β : Type} {a : α} {s : Sto} {k : α → Sto → R β} : (R.ok a s).bind k = k a s := rfl
@[simp] theorem R.bind_ex {α β : Type} {x : Xc} {s : Sto} {k : α → Sto → R β} : (R.ex x s : R α).bind k = .ex x s := rfl
@[simp] theorem R.bind_bad {α β : Type} {k : α → Sto → R β} : (R.bad : R α).bind k = .bad := rfl
abbrev M := Env → Sto → R D
abbrev Fn := List D → Sto → R D
def R.of {α : Type} (d : Option α) (s : Sto) : R α := match d with
  | some d => .ok d s
  | none => .bad
@[simp] theorem R.of_some {α : Type} {d : α} {s : Sto} : R.of (some d) s = .ok d s := rfl
@[simp] theorem R.of_none {α : Type} {s : Sto} : R.of (none : Option α) s = .bad := rfl
section
variable (K : PySem.W.Frag) (mg : Str → Option Value)
/-- the store's lists, where they stand -/
structure Wd (ρ : List Addr) (s : Sto) (H : Hp) : Prop where
  len : ρ.length = s.length
  nd : ρ.Nodup
  at_ : ∀ (n : Nat) (p : Addr) (xs : List D), ρ[n]? = some p → s[n]? = some xs → plains xs = true ∧ ∃ vs a f, H p = some (.lst vs) ∧ Reps K mg H ρ xs vs a f
inductive EnvR (H : Hp) (ρ : List Addr) : Env → L2.St → Cnt → Cnt → Prop
  | nil {A F : Cnt} : (∀ x, A x = 0) → (∀ x, F x = 0) → EnvR H ρ [] [] A F
  | no {σm : Env} {w : Option V} {σ : L2.St} {A F : Cnt} : EnvR H ρ σm σ A F → EnvR H ρ (none :: σm) (w :: σ) A F
  | yes {d : D} {v : V} {σm : Env} {σ : L2.St} {a f a' f' A F : Cnt} : Rep K mg H ρ d v a f → EnvR H ρ σm σ a' f' → (∀ x, A x = a x + a' x) → (∀ x, F x = f x + f' x) → EnvR H ρ (some d :: σm) (some v :: σ) A F
structure Rel (σm : Env) (s : Sto) (σ : L2.St) (H : Hp) (ρ : List Addr) (A F : Cnt) : Prop where
  env : EnvR K mg H ρ σm σ A F
  wd : Wd K mg ρ s H
  sep : ∀ x, A x ≤ 1 ∧ (1 ≤ A x → F x = 0)
end
/-- an exception of the machine, as it lies -/
def RepX (mg : Str → Option Value) (H : Hp) (x : Xc) (cls : Value) (dd : Option Addr) : Prop :=
  ∃ C, mg x.1 = some (.ref C) ∧ cls = .ref C ∧ match x.2 with
    | none => dd = none
    | some m => ∃ q, dd = some q ∧ H q = some (.xd [("many", .int m)])
section
variable {K : PySem.W.Frag} {mg : Str → Option Value} {H H' H1 : Hp} {ρ ρ' ρ1 : List Addr} {σm : Env} {σ : L2.St} {s s' s1 : Sto} {d e : D} {ds es : List D} {v : V} {vs ws : List V} {A F A' F' a f Mc : Cnt}
theorem EnvR.cong : EnvR K mg H ρ σm σ A F → (∀ x, A' x = A x) → (∀ x, F' x = F x) → EnvR K mg H ρ σm σ A' F' := by
  intro h hA hF
  have : A' = A := funext hA
  have : F' = F := funext hF
  subst_vars; exact h
theorem EnvR.length : ∀ {σm : Env} {σ : L2.St} {A F : Cnt}, EnvR K mg H ρ σm σ A F → σm.length = σ.length
  | _, _, _, _, .nil _ _ => rfl
  | _, _, _, _, .no t => congrArg (· + 1) t.length
  | _, _, _, _, .yes _ t _ _ => congrArg (· + 1) t.length
theorem EnvR.frame (fr : Fr Mc H H' ρ ρ') : ∀ {σm : Env} {σ : L2.St} {A F : Cnt}, EnvR K mg H ρ σm σ A F → (∀ x, 1 ≤ Mc x → A x = 0 ∧ F x = 0) → EnvR K mg H' ρ' σm σ A F
  | _, _, _, _, .nil a f, _ => .nil a f
  | _, _, _, _, .no t, hm => .no (EnvR.frame fr t hm)
  | _, _, _, _, .yes h t e1 e2, hm => .yes (h.frame fr fun x hx => by have := hm x hx; rw [e1, e2] at this; omega) (EnvR.frame fr t fun x hx => by have := hm x hx; rw [e1, e2] at this; omega) e1 e2
theorem EnvR.there : ∀ {σm : Env} {σ : L2.St} {A F : Cnt}, EnvR K mg H ρ σm σ A F → ∀ x, 1 ≤ A x + F x → (∃ o, H x = some o) ∧ x ∉ ρ
  | _, _, _, _, .nil a f, x, hx => by rw [a, f] at hx; omega
  | _, _, _, _, .no t, x, hx => EnvR.there t x hx
  | _, _, _, _, .yes (a := a) (f := f) h t e1 e2, x, hx => by
    rw [e1, e2] at hx
    by_cases z : 1 ≤ a x + f x
    · exact h.there x z
    · exact EnvR.there t x (by omega)
theorem EnvR.get : ∀ {σm : Env} {σ : L2.St} {A F : Cnt} {i : Nat} {d : D}, EnvR K mg H ρ σm σ A F → σm[i]? = some (some d) → ∃ v a f, σ[i]? = some (some v) ∧ Rep K mg H ρ d v a f ∧ ∀ x, a x ≤ A x ∧ f x ≤ F x
  | _, _, _, _, i, _, .nil _ _, e => by simp at e
  | _, _, _, _, 0, _, .no _, e => by simp at e
  | _, _, _, _, i + 1, _, .no t, e => by
    obtain ⟨v, a, f, q⟩ := EnvR.get t (i := i) (by simpa using e)
    exact ⟨v, a, f, by simpa using q⟩
  | _, _, _, _, 0, _, .yes h t e1 e2, e => by
    simp at e; subst e
    exact ⟨_, _, _, rfl, h, fun x => by rw [e1, e2]; omega⟩
  | _, _, _, _, i + 1, _, .yes h t e1 e2, e => by
    obtain ⟨v, a, f, q1, q2, q3⟩ := EnvR.get t (i := i) (by simpa using e)
    exact ⟨v, a, f, by simpa using q1, q2, fun x => by have := q3 x; rw [e1, e2]; omega⟩
/-- a slot stored: what it held goes -/
theorem EnvR.set : ∀ {σm : Env} {σ : L2.St} {A F : Cnt} (i : Nat) {d : D} {v : V} {a f : Cnt}, EnvR K mg H ρ σm σ A F → Rep K mg H ρ d v a f → i < σm.length →
    ∃ A' F', EnvR K mg H ρ (σm.set i (some d)) (σ.set i (some v)) A' F' ∧ (∀ x, A' x ≤ A x + a x ∧ F' x ≤ F x + f x) ∧
      ∀ e, σm[i]? = some (some e) → ∃ w a0 f0, σ[i]? = some (some w) ∧ Rep K mg H ρ e w a0 f0 ∧ ∀ x, A' x + a0 x = A x + a x ∧ F' x + f0 x = F x + f x
  | _, _, _, _, i, _, _, _, _, .nil _ _, _, hi => by simp at hi
  | _, _, _, _, 0, _, _, _, _, .no t, r, _ => ⟨_, _, .yes r t (fun _ => rfl) (fun _ => rfl), fun x => by constructor <;> show _ + _ ≤ _ <;> omega, fun e q => by simp at q⟩
  | _, _, _, _, i + 1, _, _, _, _, .no t, r, hi => by
    obtain ⟨A', F', q1, q2, q3⟩ := EnvR.set i t r (by simpa using hi)
    exact ⟨A', F', .no q1, q2, fun e q => q3 e (by simpa using q)⟩
  | _, _, _, _, 0, _, _, _, _, .yes h t e1 e2, r, _ => by
    refine ⟨_, _, .yes r t (fun _ => rfl) (fun _ => rfl), fun x => by rw [e1, e2]; omega, fun e q => ?_⟩
    simp at q; subst q
    exact ⟨_, _, _, rfl, h, fun x => by rw [e1, e2]; omega⟩
  | _, _, _, _, i + 1, _, _, _, _, .yes h t e1 e2, r, hi => by
    obtain ⟨A', F', q1, q2, q3⟩ := EnvR.set i t r (by simpa using hi)
    refine ⟨_, _, .yes h q1 (fun _ => rfl) (fun _ => rfl), fun x => by have := q2 x; rw [e1, e2]; omega, fun e q => ?_⟩
    obtain ⟨w, a0, f0, z1, z2, z3⟩ := q3 e (by simpa using q)
    exact ⟨w, a0, f0, by simpa using z1, z2, fun x => by have := z3 x; rw [e1, e2]; omega⟩
/-- fewer slots known -/
theorem EnvR.less : ∀ {σm σn : Env} {σ : L2.St} {A F : Cnt}, EnvR K mg H ρ σm σ A F → σn.length = σm.length → (∀ (i : Nat) (d : D), σn[i]? = some (some d) → σm[i]? = some (some d)) →
    ∃ A' F', EnvR K mg H ρ σn σ A' F' ∧ ∀ x, A' x ≤ A x ∧ F' x ≤ F x
  | [], [], _, _, _, .nil a f, _, _ => ⟨_, _, .nil a f, fun x => ⟨Nat.le_refl _, Nat.le_refl _⟩⟩
  | _ :: _, n :: σn, _, _, _, .no t, hl, hi => by
    obtain ⟨A', F', r, q⟩ := EnvR.less t (σn := σn) (by simpa using hl) fun i d e => by simpa using hi (i + 1) d (by simpa using e)
    cases n with
    | none => exact ⟨A', F', .no r, q⟩
    | some d => have := hi 0 d rfl; simp at this
  | _ :: _, n :: σn, _, _, _, .yes h t e1 e2, hl, hi => by
    obtain ⟨A', F', r, q⟩ := EnvR.less t (σn := σn) (by simpa using hl) fun i d e => by simpa using hi (i + 1) d (by simpa using e)
    cases n with
    | none => exact ⟨A', F', .no r, fun x => by have := q x; rw [e1, e2]; omega⟩
    | some d =>
      have := hi 0 d rfl
      simp at this; subst this
      exact ⟨_, _, .yes h r (fun _ => rfl) (fun _ => rfl), fun x => by have := q x; rw [e1, e2]; omega⟩
theorem Wd.same (w : Wd K mg ρ s H) (h : Same H H') : Wd K mg ρ s H' := by
  have fr : Fr c0 H H' ρ ρ := ⟨fun x o e => .inl (h x o e), fun x e => h.free e, [], by simp, by simp⟩
  refine ⟨w.len, w.nd, fun n p xs e1 e2 => ?_⟩
  obtain ⟨q, vs, a, f, q1, q2⟩ := w.at_ n p xs e1 e2
  exact ⟨q, vs, a, f, h _ _ q1, q2.frame fr fun x hx => by simp [c0] at hx⟩
theorem Wd.lst (w : Wd K mg ρ s H) {p : Addr} (h : p ∈ ρ) : ∃ l, H p = some (.lst l) := by
  obtain ⟨n, hn⟩ := List.getElem?_of_mem h
  have hl := (List.getElem?_eq_some_iff.mp hn).1
  rw [w.len] at hl
  obtain ⟨_, vs, _, _, q, _⟩ := w.at_ n p _ hn (List.getElem?_eq_getElem hl)
  exact ⟨vs, q⟩
theorem Fr.of_same (h : Same H H') : Fr Mc H H' ρ ρ := ⟨fun x o e => .inl (h x o e), fun x e => h.free e, [], by simp, by simp⟩
theorem Rel.next (r : Rel K mg σm s σ H ρ A F) (fr : Fr c0 H H' ρ ρ') (w : Wd K mg ρ' s' H') : Rel K mg σm s' σ H' ρ' A F :=
  ⟨r.env.frame fr fun _ hx => no0 hx, w, r.sep⟩
/-- the counts of a result, against the slots' and the heap at the start -/
def Gd (A F : Cnt) (H : Hp) (a f : Cnt) : Prop := ∀ x, a x ≤ 1 ∧ (1 ≤ a x → f x = 0 ∧ H x = none) ∧ (1 ≤ f x → 1 ≤ A x ∨ 1 ≤ F x ∨ H x = none)
/-- .. against the arguments' -/
def Out (a f : Cnt) (H : Hp) (a' f' : Cnt) : Prop := ∀ x, a' x ≤ 1 ∧ (1 ≤ a' x → f' x = 0 ∧ (H x = none ∨ 1 ≤ a x)) ∧ (1 ≤ f' x → 1 ≤ a x ∨ 1 ≤ f x ∨ H x = none)
def Sp1 (a f : Cnt) : Prop := ∀ x, a x ≤ 1 ∧ (1 ≤ a x → f x = 0)
theorem Gd.sp (g : Gd A F H a f) : Sp1 a f := fun x => ⟨(g x).1, fun h => ((g x).2.1 h).1⟩
theorem Out.sp (g : Out A F H a f) : Sp1 a f := fun x => ⟨(g x).1, fun h => ((g x).2.1 h).1⟩
theorem Gd.out {a' f' : Cnt} (g : Gd A F H a f) (fr : Fr c0 H H1 ρ ρ1) (o : Out a f H1 a' f') : Gd A F H a' f' := fun x => by
  obtain ⟨o1, o2, o3⟩ := o x
  obtain ⟨g1, g2, g3⟩ := g x
  refine ⟨o1, fun h => ⟨(o2 h).1, ?_⟩, fun h => ?_⟩
  · rcases (o2 h).2 with z | z
    · exact fr.there x z
    · exact (g2 z).2
  · rcases o3 h with z | z | z
    · exact .inr (.inr (g2 z).2)
    · exact g3 z
    · exact .inr (.inr (fr.there x z))
theorem Gd.zero (ha : ∀ x, a x = 0) (hf : ∀ x, f x = 0) : Gd A F H a f := fun x => by rw [ha, hf]; omega
theorem Out.zero {a' f' : Cnt} (ha : ∀ x, a' x = 0) (hf : ∀ x, f' x = 0) : Out a f H a' f' := fun x => by rw [ha, hf]; omega
theorem Rep.on (r : Rep K mg H ρ d v A F) (fr : Fr c0 H H' ρ ρ') : Rep K mg H' ρ' d v A F := r.frame fr fun _ hx => no0 hx
theorem Reps.on (r : Reps K mg H ρ ds vs A F) (fr : Fr c0 H H' ρ ρ') : Reps K mg H' ρ' ds vs A F := r.frame fr fun _ hx => no0 hx
theorem Rep.sm (r : Rep K mg H ρ d v A F) (h : Same H H') : Rep K mg H' ρ d v A F := r.on (Fr.of_same h)
theorem Reps.sm (r : Reps K mg H ρ ds vs A F) (h : Same H H') : Reps K mg H' ρ ds vs A F := r.on (Fr.of_same h)
theorem Fr.tr (a : Fr c0 H H1 ρ ρ1) (b : Fr c0 H1 H' ρ1 ρ') : Fr c0 H H' ρ ρ' := a.trans b fun _ hx => no0 hx
theorem same_upd {H : Hp} {p : Addr} {o : HO} (hp : H p = none) : Same H (upd H p o) := fun x u e => by rw [upd_ne (ne_of_none e hp)]; exact e
/-! ### an expression's reading -/
section
variable (K mg) (W : WX) (σ : L2.St) (A F : Cnt) (H : Hp) (ρ : List Addr)
def oE (Q : VK) : R D → Prop
  | .ok d s' => ∀ v H' ρ' a f, Fr c0 H H' ρ ρ' → Wd K mg ρ' s' H' → Rep K mg H' ρ' d v a f → Gd A F H a f → Q v H'
  | .ex x s' => ∀ cls dd H' ρ', Fr c0 H H' ρ ρ' → Wd K mg ρ' s' H' → RepX mg H' x cls dd → W cls dd σ H'
  | .bad => False
def oA (Q : List V → Hp → Prop) : R (List D) → Prop
  | .ok ds s' => ∀ vs H' ρ' a f, Fr c0 H H' ρ ρ' → Wd K mg ρ' s' H' → Reps K mg H' ρ' ds vs a f → Gd A F H a f → Q vs H'
  | .ex x s' => ∀ cls dd H' ρ', Fr c0 H H' ρ ρ' → Wd K mg ρ' s' H' → RepX mg H' x cls dd → W cls dd σ H'
  | .bad => False
end
section
variable (K : PySem.W.Frag) (mg : Str → Option Value) (W : WX)
def rE (m : M) : TE := fun σ H Q => ∃ σm s ρ A F, Rel K mg σm s σ H ρ A F ∧ oE K mg W σ A F H ρ Q (m σm s)
def rA (m : Env → Sto → R (List D)) : TA := fun σ H Q => ∃ σm s ρ A F, Rel K mg σm s σ H ρ A F ∧ oA K mg W σ A F H ρ Q (m σm s)
end
@[simp] def mArgs : List M → Env → Sto → R (List D)
  | [], _, s => .ok [] s
  | m :: ms, σ, s => (m σ s).bind fun d s1 => (mArgs ms σ s1).bind fun ds s2 => .ok (d :: ds) s2
end
def SE (X : Cx) (W : WX) (e : Expr) (m : M) : Prop := PE X e (rE X.K X.mg W m)
def SA (X : Cx) (W : WX) (es : List Expr) (ms : List M) : Prop := PA X es (rA X.K X.mg W (mArgs ms))
theorem PE.imp {X : Cx} {e : Expr} {t t' : TE} (h : PE X e t) (q : ∀ σ H Q, t' σ H Q → t σ H Q) : PE X e t' := ⟨fun pins s σ H Q I w => h.run pins s σ H Q I (q σ H Q w)⟩
theorem PT.imp {X : Cx} {e : Expr} {t t' : TT} (h : PT X e t) (q : ∀ σ H Q, t' σ H Q → t σ H Q) : PT X e t' := ⟨fun pins s σ H Q I w => h.run pins s σ H Q I (q σ H Q w)⟩
theorem PA.imp {X : Cx} {e : List Expr} {t t' : TA} (h : PA X e t) (q : ∀ σ H Q, t' σ H Q → t σ H Q) : PA X e t' := ⟨fun pos pins s σ H Q I w => h.run pos pins s σ H Q I (q σ H Q w)⟩
theorem PS.imp {X : Cx} {e : Stmt} {t t' : TS} (h : PS X e t) (q : ∀ D σ H, t' D σ H → t D σ H) : PS X e t' := ⟨fun pins s σ H D I w => h.run pins s σ H D I (q D σ H w)⟩
theorem PSs.imp {X : Cx} {e : List Stmt} {t t' : TS} (h : PSs X e t) (q : ∀ D σ H, t' D σ H → t D σ H) : PSs X e t' := ⟨fun pins s σ H D I w => h.run pins s σ H D I (q D σ H w)⟩
section
variable {K : PySem.W.Frag} {mg : Str → Option Value} {W : WX} {m : M} {ms : List M} {σ : L2.St} {H : Hp}
theorem rA_nil {R : List V → Hp → Prop} (h : rA K mg W (mArgs []) σ H R) : R [] H := by
  obtain ⟨σm, s, ρ, A, F, rel, h⟩ := h
  exact h [] H ρ c0 c0 .refl rel.wd (.nil (fun _ => rfl) (fun _ => rfl)) (.zero (fun _ => rfl) (fun _ => rfl))
theorem rA_cons {R : List V → Hp → Prop} (h : rA K mg W (mArgs (m :: ms)) σ H R) : rE K mg W m σ H fun x H1 => rA K mg W (mArgs ms) σ H1 fun xs H2 => R (x :: xs) H2 := by
  obtain ⟨σm, s, ρ, A, F, rel, h⟩ := h
  refine ⟨σm, s, ρ, A, F, rel, ?_⟩
  unfold mArgs at h
  cases e1 : m σm s with
  | bad => rw [e1] at h; exact h
  | ex x s1 => rw [e1] at h; exact h
  | ok d s1 =>
    rw [e1] at h
    intro v H1 ρ1 a f fr wd rp g
    refine ⟨σm, s1, ρ1, A, F, rel.next fr wd, ?_⟩
    rw [Zm.R.bind_ok] at h
    cases e2 : mArgs ms σm s1 with
    | bad => rw [e2] at h; exact h
    | ex x s2 =>
      rw [e2] at h
      intro cls dd H2 ρ2 fr2 wd2 rx
      exact h cls dd H2 ρ2 (fr.trans fr2 fun _ hx => no0 hx) wd2 rx
    | ok ds s2 =>
      rw [e2] at h
      intro vs H2 ρ2 a2 f2 fr2 wd2 rp2 g2
      refine h (v :: vs) H2 ρ2 (fun x => a x + a2 x) (fun x => f x + f2 x) (fr.trans fr2 fun _ hx => no0 hx) wd2 (.cons (rp.frame fr2 fun _ hx => no0 hx) rp2 (fun _ => rfl) (fun _ => rfl)) fun x => ?_
      obtain ⟨p1, p2, p3⟩ := g x
      obtain ⟨q1, q2, q3⟩ := g2 x
      have th := rp.there x
      have ev := rel.env.there x
      have n1 : H1 x = none → H x = none := fr.there x
      by_cases ha : 1 ≤ a x
      · obtain ⟨⟨o, ho⟩, _⟩ := th (by omega)
        have z2 : a2 x = 0 := by
          cases q : a2 x with
          | zero => rfl
          | succ k => have := (q2 (by omega)).2; rw [ho] at this; cases this
        have z3 : f2 x = 0 := by
          cases q : f2 x with
          | zero => rfl
          | succ k =>
            have hn := (p2 ha).2
            rcases q3 (by omega) with z | z | z
            · obtain ⟨⟨o', ho'⟩, _⟩ := ev (by omega); rw [hn] at ho'; cases ho'
            · obtain ⟨⟨o', ho'⟩, _⟩ := ev (by omega); rw [hn] at ho'; cases ho'
            · rw [ho] at z; cases z
        have := p2 ha
        refine ⟨by show a x + a2 x ≤ 1; omega, fun _ => ⟨by show f x + f2 x = 0; omega, this.2⟩, fun h => ?_⟩
        have h : 1 ≤ f x + f2 x := h
        omega
      · have ha0 : a x = 0 := by omega
        refine ⟨by show a x + a2 x ≤ 1; omega, fun h => ?_, fun h => ?_⟩
        · have h : 1 ≤ a x + a2 x := h
          have z := q2 (by omega)
          have zf : f x = 0 := by
            cases q : f x with
            | zero => rfl
            | succ k => obtain ⟨⟨o, ho⟩, _⟩ := th (by omega); rw [z.2] at ho; cases ho
          exact ⟨by show f x + f2 x = 0; omega, n1 z.2⟩
        · have h : 1 ≤ f x + f2 x := h
          by_cases z : 1 ≤ f x
          · exact p3 z
          · rcases q3 (by omega) with y | y | y
            · exact .inl y
            · exact .inr (.inl y)
            · exact .inr (.inr (n1 y))
end
section
variable {X : Cx} {W : WX} {e : Expr} {es : List Expr} {m ma mb mc : M} {ms : List M} {pos : Pos}
theorem sa_nil : SA X W [] [] := PA.imp pa_nil fun σ H Q h => rA_nil h
theorem sa_cons (he : SE X W e m) (hs : SA X W es ms) (hst : starEach (e :: es) X.env = (false, eval e X.env) :: starEach es X.env := by rfl) : SA X W (e :: es) (m :: ms) :=
  PA.imp (pa_cons he hs hst) fun σ H Q h => rA_cons h
/-! ### what values make of values -/
/-- by values: the arguments ds give d; only new objects come -/
def OpV (K : PySem.W.Frag) (mg : Str → Option Value) (r : List V → Hp → VK → Prop) (g : Sto → List D → Option D) : Prop :=
  ∀ ρ s H ds vs a f d, Wd K mg ρ s H → Reps K mg H ρ ds vs a f → Sp1 a f → g s ds = some d → ∀ Q : VK, (∀ v H' a' f', Same H H' → Rep K mg H' ρ d v a' f' → Out a f H a' f' → Q v H') → r vs H Q
@[simp] def mOp (g : Sto → List D → Option D) (ms : List M) : M := fun σ s => (mArgs ms σ s).bind fun ds s' => R.of (g s' ds) s'
theorem rA_op {K : PySem.W.Frag} {mg : Str → Option Value} {W : WX} {σ : L2.St} {H : Hp} {Q : VK} {r : List V → Hp → VK → Prop} {g : Sto → List D → Option D} (ho : OpV K mg r g) (h : rE K mg W (mOp g ms) σ H Q) : rA K mg W (mArgs ms) σ H fun vs H' => r vs H' Q := by
  obtain ⟨σm, s, ρ, A, F, rel, h⟩ := h
  refine ⟨σm, s, ρ, A, F, rel, ?_⟩
  unfold mOp at h
  cases e1 : mArgs ms σm s with
  | bad => rw [e1] at h; exact h
  | ex x s1 => rw [e1] at h; exact h
  | ok ds s1 =>
    rw [e1, Zm.R.bind_ok] at h
    intro vs H1 ρ1 a f fr wd rp g1
    cases e2 : g s1 ds with
    | none => rw [e2] at h; exact h.elim
    | some d =>
      rw [e2] at h
      exact ho ρ1 s1 H1 ds vs a f d wd rp g1.sp e2 Q fun v H2 a' f' sm rp2 o => h v H2 ρ1 a' f' (fr.trans (Fr.of_same (Mc := c0) sm) fun _ hx => no0 hx) (wd.same sm) rp2 (g1.out fr o)
abbrev r2 (r : R2) : List V → Hp → VK → Prop := fun vs H Q => ∃ x y, vs = [x, y] ∧ r x y H Q
abbrev r1 (r : V → Hp → VK → Prop) : List V → Hp → VK → Prop := fun vs H Q => ∃ x, vs = [x] ∧ r x H Q
theorem rA_2 {K : PySem.W.Frag} {mg : Str → Option Value} {W : WX} {σ : L2.St} {H : Hp} {Q : List V → Hp → Prop} (h : rA K mg W (mArgs [ma, mb]) σ H Q) : rE K mg W ma σ H fun x H1 => rE K mg W mb σ H1 fun y H2 => Q [x, y] H2 := by
  obtain ⟨σm, s, ρ, A, F, rel, h⟩ := rA_cons h
  refine ⟨σm, s, ρ, A, F, rel, ?_⟩
  cases e1 : ma σm s with
  | bad => rw [e1] at h; exact h
  | ex x s1 => rw [e1] at h; exact h
  | ok d s1 =>
    rw [e1] at h
    intro v H1 ρ1 a f fr wd rp g
    obtain ⟨σm, s, ρ, A, F, rel, h⟩ := rA_cons (h v H1 ρ1 a f fr wd rp g)
    refine ⟨σm, s, ρ, A, F, rel, ?_⟩
    cases e2 : mb σm s with
    | bad => rw [e2] at h; exact h
    | ex x s1 => rw [e2] at h; exact h
    | ok d s1 =>
      rw [e2] at h
      intro v H1 ρ1 a f fr wd rp g
      exact rA_nil (h v H1 ρ1 a f fr wd rp g)
theorem rA_1 {K : PySem.W.Frag} {mg : Str → Option Value} {W : WX} {σ : L2.St} {H : Hp} {Q : List V → Hp → Prop} (h : rA K mg W (mArgs [ma]) σ H Q) : rE K mg W ma σ H fun x H1 => Q [x] H1 := by
  obtain ⟨σm, s, ρ, A, F, rel, h⟩ := rA_cons h
  refine ⟨σm, s, ρ, A, F, rel, ?_⟩
  cases e1 : ma σm s with
  | bad => rw [e1] at h; exact h
  | ex x s1 => rw [e1] at h; exact h
  | ok d s1 =>
    rw [e1] at h
    intro v H1 ρ1 a f fr wd rp g
    exact rA_nil (h v H1 ρ1 a f fr wd rp g)
theorem rE_mono {K : PySem.W.Frag} {mg : Str → Option Value} {W : WX} {σ : L2.St} {H : Hp} {Q Q' : VK} (h : rE K mg W m σ H Q) (q : ∀ v H', Q v H' → Q' v H') : rE K mg W m σ H Q' := by
  obtain ⟨σm, s, ρ, A, F, rel, h⟩ := h
  refine ⟨σm, s, ρ, A, F, rel, ?_⟩
  cases e1 : m σm s with
  | bad => rw [e1] at h; exact h
  | ex x s1 => rw [e1] at h; exact h
  | ok d s1 =>
    rw [e1] at h
    intro v H1 ρ1 a f fr wd rp g
    exact q _ _ (h v H1 ρ1 a f fr wd rp g)
theorem s_bin {a b : Expr} {op : Operator} {r : R2} {g : Sto → List D → Option D} (ho : OpR X (binaryOp op) r) (hv : OpV X.K X.mg (r2 r) g) (ha : SE X W a ma) (hb : SE X W b mb) : SE X W (.BinOp a op b pos) (mOp g [ma, mb]) :=
  PE.imp (pe_op ho ha hb) fun σ H Q h => rE_mono (rA_2 (rA_op hv h)) fun v H1 q => rE_mono q fun u H2 ⟨x, y, e, z⟩ => by cases e; exact z
theorem s_un {a : Expr} {op : UnaryOp} {r : V → Hp → VK → Prop} {g : Sto → List D → Option D} (ho : UnR X (unaryOp op) r) (hv : OpV X.K X.mg (r1 r) g) (ha : SE X W a ma) : SE X W (.UnaryOp op a pos) (mOp g [ma]) :=
  PE.imp (pe_un ho ha) fun σ H Q h => rE_mono (rA_1 (rA_op hv h)) fun v H1 ⟨x, e, z⟩ => by cases e; exact z
theorem s_cmp {a b : Expr} {op : CmpOp} {r : R2} {g : Sto → List D → Option D} (ho : OpR X (compareOp op) r) (hv : OpV X.K X.mg (r2 r) g) (ha : SE X W a ma) (hb : SE X W b mb) (hm : behindInMarks op b = false := by first | exact nomark _ | rfl) : SE X W (.Compare a [op] [b] pos) (mOp g [ma, mb]) :=
  PE.imp (pe_cmpR ho ha hb hm) fun σ H Q h => rE_mono (rA_2 (rA_op hv h)) fun v H1 q => rE_mono q fun u H2 ⟨x, y, e, z⟩ => by cases e; exact z
/-- a built-in by its name -/
theorem s_blt {x : Str} {id : String} {p : Pos} {r : List V → Hp → VK → Prop} {g : Sto → List D → Option D} (ho : CallR X (.builtin id) r) (hv : OpV X.K X.mg r g) (hm : X.mg x = none) (hb : bootBuiltins x = some (.builtin id)) (ha : SA X W (e :: es) ms) (hg : Gl X x := by rfl)
    (hn : x ≠ "__name__" := by decide) (hdb : (x == ("__debug__" : Str)) = false := by decide) (he : starEach (e :: es) X.env = (false, eval e X.env) :: starEach es X.env := by rfl) (hpl : (backTo pos (starEach es X.env)).any (·.1) = false := by rfl) : SE X W (.Call (.Name x p) (e :: es) [] pos) (mOp g ms) :=
  PE.imp (pe_callB ho hg hm hb ha hn hdb he hpl) fun σ H Q h => rA_op hv h
theorem s_blty {x : Str} {T : String} {p : Pos} {r : List V → Hp → VK → Prop} {g : Sto → List D → Option D} (ho : CallR X (.type T) r) (hv : OpV X.K X.mg r g) (hm : X.mg x = none) (hb : bootBuiltins x = some (.type T)) (ha : SA X W (e :: es) ms) (hg : Gl X x := by rfl)
    (hn : x ≠ "__name__" := by decide) (hdb : (x == ("__debug__" : Str)) = false := by decide) (he : starEach (e :: es) X.env = (false, eval e X.env) :: starEach es X.env := by rfl) (hpl : (backTo pos (starEach es X.env)).any (·.1) = false := by rfl) : SE X W (.Call (.Name x p) (e :: es) [] pos) (mOp g ms) :=
  PE.imp (pe_callTy ho hg hm hb ha hn hdb he hpl) fun σ H Q h => rA_op hv h
/-! ### names and constants -/
@[simp] def mVar (i : Nat) : M := fun σ s => match σ[i]? with
  | some (some d) => .ok (fz d) s
  | _ => .bad
@[simp] def mC (d : D) : M := fun _ s => .ok d s
theorem rE_var {K : PySem.W.Frag} {mg : Str → Option Value} {W : WX} {i : Nat} {σ : L2.St} {H : Hp} {Q : VK} (h : rE K mg W (mVar i) σ H Q) : tVar i σ H Q := by
  obtain ⟨σm, s, ρ, A, F, rel, h⟩ := h
  unfold mVar at h
  cases e : σm[i]? with
  | none => rw [e] at h; exact h.elim
  | some o =>
    cases o with
    | none => rw [e] at h; exact h.elim
    | some d =>
      rw [e] at h
      obtain ⟨v, a, f, e2, rp, le⟩ := rel.env.get e
      obtain ⟨f', rp', q⟩ := rp.fz
      exact ⟨v, e2, h v H ρ c0 f' .refl rel.wd rp' fun x => ⟨by simp [c0], fun z => by simp [c0] at z, fun z => by have := q x z; have := le x; omega⟩⟩
theorem s_var (i : Nat) {x : Str} {pos : Pos} (hN : X.N[i]? = some x := by rfl) (hv : Vis X.env.scope x := by first | exact Or.inl rfl | exact Or.inr (Or.inl rfl) | exact Or.inr (Or.inr rfl)) (hd : (x == ("__debug__" : Str)) = false := by decide)
    (hcd : (x == ("__classdict__" : Str)) = false := by decide) : SE X W (.Name x pos) (mVar i) := PE.imp (pe_var hN hv hd hcd) fun σ H Q h => rE_var h
theorem rE_c {K : PySem.W.Frag} {mg : Str → Option Value} {W : WX} {d : D} {v : V} {σ : L2.St} {H : Hp} {Q : VK} (hr : ∀ H ρ, Rep K mg H ρ d v c0 c0) (h : rE K mg W (mC d) σ H Q) : tC v σ H Q := by
  obtain ⟨σm, s, ρ, A, F, rel, h⟩ := h
  exact h v H ρ c0 c0 .refl rel.wd (hr H ρ) (.zero (fun _ => rfl) (fun _ => rfl))
theorem s_int {i j pos} : SE X W (.Constant (.int i) j pos) (mC (.int i)) := PE.imp pe_int fun σ H Q h => rE_c (fun _ _ => .int (fun _ => rfl) (fun _ => rfl)) h
theorem s_bl {i j pos} : SE X W (.Constant (.bool i) j pos) (mC (.bl i)) := PE.imp pe_bl fun σ H Q h => rE_c (fun _ _ => .bl (fun _ => rfl) (fun _ => rfl)) h
theorem s_non {j pos} : SE X W (.Constant .none j pos) (mC .non) := PE.imp pe_non fun σ H Q h => rE_c (fun _ _ => .non (fun _ => rfl) (fun _ => rfl)) h
theorem s_str {x j pos} : SE X W (.Constant (.str x) j pos) (mC (.str x)) := PE.imp pe_str fun σ H Q h => rE_c (fun _ _ => .str (fun _ => rfl) (fun _ => rfl)) h
/-- a constant of the module -/
theorem s_gi {x : Str} {i : Int} {t : Tok} {pos : Pos} (hm : X.mg x = some (.int i t)) (hg : Gl X x := by rfl) (hd : (x == ("__debug__" : Str)) = false := by decide) : SE X W (.Name x pos) (mC (.int i)) :=
  PE.imp (pe_glob (v := .int i) hg hm ⟨t, rfl⟩ hd) fun σ H Q h => rE_c (fun _ _ => .int (fun _ => rfl) (fun _ => rfl)) h
/-! ### displays -/
def gTup : Sto → List D → Option D := fun _ ds => if ds.length ≤ sizeLine then some (.tup ds) else none
def gLst : Sto → List D → Option D := fun _ ds => if ds.length ≤ sizeLine then some (.lst true ds) else none
theorem new_tup {K : PySem.W.Frag} {mg : Str → Option Value} {H : Hp} {ρ : List Addr} {p : Addr} {ds : List D} {vs : List V} {a f : Cnt} (hp : H p = none) (r : Reps K mg H ρ ds vs a f) : Rep K mg (upd H p (.tup vs)) ρ (.tup ds) (.ref p) a f :=
  .tup upd_same (r.sm (Zm.same_upd hp))
theorem new_lst {K : PySem.W.Frag} {mg : Str → Option Value} {H : Hp} {ρ : List Addr} {s : Sto} {p : Addr} {ds : List D} {vs : List V} {a f : Cnt} (w : Wd K mg ρ s H) (hp : H p = none) (r : Reps K mg H ρ ds vs a f) (h : Sp1 a f) : Rep K mg (upd H p (.lst vs)) ρ (.lst true ds) (.ref p) (fun x => cp p x + a x) f ∧ Out a f H (fun x => cp p x + a x) f := by
  have hn : p ∉ ρ := fun z => by obtain ⟨l, q⟩ := w.lst z; rw [hp] at q; cases q
  have h0 : a p = 0 ∧ f p = 0 := by
    have := r.there p
    by_cases z : 1 ≤ a p + f p
    · obtain ⟨⟨o, q⟩, _⟩ := this z; rw [hp] at q; cases q
    · omega
  refine ⟨.own upd_same hn (r.sm (Zm.same_upd hp)) (fun _ => rfl), fun x => ?_⟩
  have := h x
  by_cases q : x = p
  · subst q
    dsimp only
    rw [cp_same]
    exact ⟨by omega, fun _ => ⟨h0.2, .inl hp⟩, fun z => .inr (.inl z)⟩
  · dsimp only
    rw [cp_ne q]
    exact ⟨by omega, fun z => ⟨this.2 (by omega), .inr (by omega)⟩, fun z => .inr (.inl z)⟩
theorem Out.refl {a f : Cnt} {H : Hp} (h : Sp1 a f) : Out a f H a f := fun x => by have := h x; exact ⟨this.1, fun z => ⟨this.2 z, .inr z⟩, fun z => .inr (.inl z)⟩
theorem v_tup {K mg} : OpV K mg (fun vs H Q => vs.length ≤ sizeLine ∧ ∀ p, H p = none → Q (.ref p) (upd H p (.tup vs))) gTup := by
  intro ρ s H ds vs a f d w r h e Q q
  unfold Zm.gTup at e
  split at e
  · rename_i z
    cases e
    exact ⟨by rw [← r.length]; exact z, fun p hp => q _ _ _ _ (same_upd hp) (new_tup hp r) (.refl h)⟩
  · cases e
theorem v_lst {K mg} : OpV K mg (fun vs H Q => vs.length ≤ sizeLine ∧ ∀ p, H p = none → Q (.ref p) (upd H p (.lst vs))) gLst := by
  intro ρ s H ds vs a f d w r h e Q q
  unfold Zm.gLst at e
  split at e
  · rename_i z
    cases e
    exact ⟨by rw [← r.length]; exact z, fun p hp => q _ _ _ _ (same_upd hp) (new_lst w hp r h).1 (new_lst w hp r h).2⟩
  · cases e
theorem s_tup {x1} (h : SA X W es ms) : SE X W (.Tuple es x1 pos) (mOp Zm.gTup ms) := PE.imp (pe_tup h) fun σ H Q q => rA_op v_tup q
theorem s_lst (h : SA X W es ms) : SE X W (.List es pos) (mOp Zm.gLst ms) := PE.imp (pe_lst h) fun σ H Q q => rA_op v_lst q
/-- a list that is kept in the store -/
def mBox (ms : List M) : M := fun σ s => (mArgs ms σ s).bind fun ds s' => if ds.length ≤ sizeLine ∧ plains ds = true then .ok (.box s'.length) (s' ++ [ds]) else .bad
theorem s_box (h : SA X W es ms) : SE X W (.List es pos) (mBox ms) := PE.imp (pe_lst h) fun σ H Q q => by
  obtain ⟨σm, s, ρ, A, F, rel, q⟩ := q
  refine ⟨σm, s, ρ, A, F, rel, ?_⟩
  unfold mBox at q
  cases e1 : mArgs ms σm s with
  | bad => rw [e1] at q; exact q
  | ex x s1 => rw [e1] at q; exact q
  | ok ds s1 =>
    rw [e1, Zm.R.bind_ok] at q
    intro vs H1 ρ1 a f fr wd rp g1
    by_cases hz : ds.length ≤ sizeLine ∧ plains ds = true
    · rw [if_pos hz] at q
      refine ⟨by rw [← rp.length]; exact hz.1, fun p hp => ?_⟩
      have sm : Same H1 (upd H1 p (.lst vs)) := Zm.same_upd hp
      have hn : p ∉ ρ1 := fun z => by obtain ⟨l, q⟩ := wd.lst z; rw [hp] at q; cases q
      have fr2 : Fr c0 H1 (upd H1 p (.lst vs)) ρ1 (ρ1 ++ [p]) := ⟨fun x o e => .inl (sm x o e), fun x e => sm.free e, [p], rfl, fun y hy => by simp at hy; subst hy; exact hp⟩
      have hc : ∀ {xs : List D} {ws : List V} {a f : Cnt}, Reps X.K X.mg H1 ρ1 xs ws a f → Reps X.K X.mg (upd H1 p (.lst vs)) (ρ1 ++ [p]) xs ws a f := fun r => r.frame fr2 fun _ hx => no0 hx
      refine q (.ref p) _ (ρ1 ++ [p]) c0 c0 (fr.trans fr2 fun _ hx => no0 hx) ⟨by simp [wd.len], ?_, fun n p' xs e1 e2 => ?_⟩ (.box ?_ (fun _ => rfl) (fun _ => rfl)) (.zero (fun _ => rfl) (fun _ => rfl))
      · rw [List.nodup_append]
        exact ⟨wd.nd, by simp, fun a ha b hb => by simp at hb; subst hb; exact fun z => hn (z ▸ ha)⟩
      · by_cases hl : n < s1.length
        · rw [List.getElem?_append_left (by rw [wd.len]; exact hl)] at e1
          rw [List.getElem?_append_left hl] at e2
          obtain ⟨z, ws, a', f', z1, z2⟩ := wd.at_ n p' xs e1 e2
          exact ⟨z, ws, a', f', sm _ _ z1, hc z2⟩
        · have e : n = s1.length := by
            have := (List.getElem?_eq_some_iff.mp e2).1
            simp at this; omega
          subst e
          rw [← wd.len] at e1
          simp [wd.len] at e1 e2
          subst e1 e2
          exact ⟨hz.2, vs, a, f, upd_same, hc rp⟩
      · rw [← wd.len]; simp
    · rw [if_neg hz] at q; exact q.elim
end
end Zm
set_option Elab.async false
set_option linter.all false
set_option maxRecDepth 100000
set_option autoImplicit false
/-! Z2: tests, chains, conditional values; statements. -/
namespace Zm
open PySem PySem.Spec PyProof.Rows L2
abbrev T := Env → Sto → R Bool
section
variable {K : PySem.W.Frag} {mg : Str → Option Value} {H : Hp} {ρ : List Addr} {x y z : D} {vs : List V} {A F : Cnt}
theorem Reps.inv0 (h : Reps K mg H ρ [] vs A F) : vs = [] ∧ ∀ p, A p = 0 ∧ F p = 0 := by
  cases h with
  | nil a f => exact ⟨rfl, fun p => ⟨a p, f p⟩⟩
theorem Reps.inv1 (h : Reps K mg H ρ [x] vs A F) : ∃ vx, vs = [vx] ∧ Rep K mg H ρ x vx A F := by
  cases h with
  | cons h t e1 e2 =>
    obtain ⟨rfl, z⟩ := Reps.inv0 t
    exact ⟨_, rfl, h.cong (fun p => by rw [e1, (z p).1]; rfl) (fun p => by rw [e2, (z p).2]; rfl)⟩
theorem Reps.inv2 (h : Reps K mg H ρ [x, y] vs A F) : ∃ vx vy ax fx ay fy, vs = [vx, vy] ∧ Rep K mg H ρ x vx ax fx ∧ Rep K mg H ρ y vy ay fy ∧ ∀ p, A p = ax p + ay p ∧ F p = fx p + fy p := by
  cases h with
  | cons h t e1 e2 =>
    obtain ⟨vy, rfl, r⟩ := Reps.inv1 t
    exact ⟨_, vy, _, _, _, _, rfl, h, r, fun p => ⟨e1 p, e2 p⟩⟩
end
section
variable {K : PySem.W.Frag} {mg : Str → Option Value} {W : WX} {H H' H1 : Hp} {ρ ρ' ρ1 : List Addr} {σm : Env} {σ : L2.St} {s s' s1 : Sto} {d e : D} {ds es : List D} {v : V} {vs ws : List V} {A F A' F' a f Mc : Cnt}
theorem Gd.step (fr : Fr c0 H H1 ρ ρ1) (g : Gd A F H1 a f) : Gd A F H a f := fun x => by
  obtain ⟨p, q, r⟩ := g x
  exact ⟨p, fun h => ⟨(q h).1, fr.there x (q h).2⟩, fun h => (r h).elim .inl fun z => z.elim (fun z => .inr (.inl z)) fun z => .inr (.inr (fr.there x z))⟩
theorem oE.step {Q : VK} {r : R D} (fr : Fr c0 H H1 ρ ρ1) (h : oE K mg W σ A F H ρ Q r) : oE K mg W σ A F H1 ρ1 Q r := by
  cases r with
  | bad => exact h
  | ex x s => exact fun cls dd H' ρ' fr' => h cls dd H' ρ' (fr.tr fr')
  | ok d s => exact fun v H' ρ' a f fr' wd rp g => h v H' ρ' a f (fr.tr fr') wd rp (g.step fr)
section
variable (K : PySem.W.Frag) (mg : Str → Option Value) (W : WX) (σ : L2.St) (A F : Cnt) (H : Hp) (ρ : List Addr)
def oT (Q : Bool → Hp → Prop) : R Bool → Prop
  | .ok b s' => ∀ H' ρ', Fr c0 H H' ρ ρ' → Wd K mg ρ' s' H' → Q b H'
  | .ex x s' => ∀ cls dd H' ρ', Fr c0 H H' ρ ρ' → Wd K mg ρ' s' H' → RepX mg H' x cls dd → W cls dd σ H'
  | .bad => False
end
theorem oT.step {Q : Bool → Hp → Prop} {r : R Bool} (fr : Fr c0 H H1 ρ ρ1) (h : oT K mg W σ H ρ Q r) : oT K mg W σ H1 ρ1 Q r := by
  cases r with
  | bad => exact h
  | ex x s => exact fun cls dd H' ρ' fr' => h cls dd H' ρ' (fr.tr fr')
  | ok d s => exact fun H' ρ' fr' => h H' ρ' (fr.tr fr')
variable (K mg W) in
def rT (t : T) : TT := fun σ H Q => ∃ σm s ρ A F, Rel K mg σm s σ H ρ A F ∧ oT K mg W σ H ρ Q (t σm s)
end
def ST (X : Cx) (W : WX) (e : Expr) (t : T) : Prop := PT X e (rT X.K X.mg W t)
def SW (X : Cx) (W : WX) (e : Expr) (t : T) : Prop := PW X e (rT X.K X.mg W t)
theorem PW.imp {X : Cx} {e : Expr} {t t' : TT} (h : PW X e t) (q : ∀ σ H Q, t' σ H Q → t σ H Q) : PW X e t' := ⟨fun wh pins s σ H Q I w => h.run wh pins s σ H Q I (q σ H Q w)⟩
@[simp] def tV (m : M) : T := fun σ s => (m σ s).bind fun d s' => match d with
  | .bl b => .ok b s'
  | _ => .bad
@[simp] def tAnd (t u : T) : T := fun σ s => (t σ s).bind fun b s' => if b = true then u σ s' else .ok false s'
@[simp] def tOr (t u : T) : T := fun σ s => (t σ s).bind fun b s' => if b = true then .ok true s' else u σ s'
@[simp] def tNot (t : T) : T := fun σ s => (t σ s).bind fun b s' => .ok (!b) s'
@[simp] def mIfE (t : T) (a b : M) : M := fun σ s => (t σ s).bind fun c s' => if c = true then a σ s' else b σ s'
@[simp] def mAnd (a b : M) : M := fun σ s => (a σ s).bind fun d s' => match d with
  | .bl true => b σ s'
  | .bl false => .ok (.bl false) s'
  | _ => .bad
@[simp] def mOr (a b : M) : M := fun σ s => (a σ s).bind fun d s' => match d with
  | .bl true => .ok (.bl true) s'
  | .bl false => b σ s'
  | _ => .bad
@[simp] def mNot (a : M) : M := fun σ s => (a σ s).bind fun d s' => match d with
  | .bl b => .ok (.bl (!b)) s'
  | _ => .bad
/-- a op b op' c: b reckoned once -/
def mChain (g g' : Sto → List D → Option D) (a b c : M) : M := fun σ s => (mArgs [a, b] σ s).bind fun ds s' => match ds with
  | [x, y] => (R.of (g s' [x, y]) s').bind fun z s2 => match z with
    | .bl true => (c σ s2).bind fun w s3 => R.of (g' s3 [y, w]) s3
    | .bl false => .ok (.bl false) s2
    | _ => .bad
  | _ => .bad
section
variable {K : PySem.W.Frag} {mg : Str → Option Value} {W : WX} {σ : L2.St} {H : Hp} {m a b c : M} {t u : T}
theorem rT_val {Q : Bool → Hp → Prop} (h : rT K mg W (tV m) σ H Q) : rE K mg W m σ H fun x H1 => ∃ k, x = .bl k ∧ Q k H1 := by
  obtain ⟨σm, s, ρ, A, F, rel, h⟩ := h
  refine ⟨σm, s, ρ, A, F, rel, ?_⟩
  unfold tV at h
  cases e : m σm s with
  | bad => rw [e] at h; exact h
  | ex x s1 => rw [e] at h; exact h
  | ok d s1 =>
    rw [e, Zm.R.bind_ok] at h
    intro v H1 ρ1 a f fr wd rp g
    cases d <;> first | exact (h.elim) | skip
    cases rp
    exact ⟨_, rfl, h H1 ρ1 fr wd⟩
theorem rT_and {Q : Bool → Hp → Prop} (h : rT K mg W (tAnd t u) σ H Q) : rT K mg W t σ H fun c H1 => if c = true then rT K mg W u σ H1 Q else Q false H1 := by
  obtain ⟨σm, s, ρ, A, F, rel, h⟩ := h
  refine ⟨σm, s, ρ, A, F, rel, ?_⟩
  unfold Zm.tAnd at h
  cases e : t σm s with
  | bad => rw [e] at h; exact h
  | ex x s1 => rw [e] at h; exact h
  | ok d s1 =>
    rw [e, Zm.R.bind_ok] at h
    intro H1 ρ1 fr wd
    cases d with
    | true => exact iteT ⟨σm, s1, ρ1, A, F, rel.next fr wd, oT.step fr (by simpa using h)⟩
    | false => exact iteF ((show oT K mg W σ H ρ Q (.ok false s1) by simpa using h) H1 ρ1 fr wd)
theorem rT_or {Q : Bool → Hp → Prop} (h : rT K mg W (tOr t u) σ H Q) : rT K mg W t σ H fun c H1 => if c = true then Q true H1 else rT K mg W u σ H1 Q := by
  obtain ⟨σm, s, ρ, A, F, rel, h⟩ := h
  refine ⟨σm, s, ρ, A, F, rel, ?_⟩
  unfold Zm.tOr at h
  cases e : t σm s with
  | bad => rw [e] at h; exact h
  | ex x s1 => rw [e] at h; exact h
  | ok d s1 =>
    rw [e, Zm.R.bind_ok] at h
    intro H1 ρ1 fr wd
    cases d with
    | true => exact iteT ((show oT K mg W σ H ρ Q (.ok true s1) by simpa using h) H1 ρ1 fr wd)
    | false => exact iteF ⟨σm, s1, ρ1, A, F, rel.next fr wd, oT.step fr (by simpa using h)⟩
theorem rT_not {Q : Bool → Hp → Prop} (h : rT K mg W (tNot t) σ H Q) : rT K mg W t σ H fun c H1 => Q (!c) H1 := by
  obtain ⟨σm, s, ρ, A, F, rel, h⟩ := h
  refine ⟨σm, s, ρ, A, F, rel, ?_⟩
  unfold Zm.tNot at h
  cases e : t σm s with
  | bad => rw [e] at h; exact h
  | ex x s1 => rw [e] at h; exact h
  | ok d s1 => rw [e, Zm.R.bind_ok] at h; exact h
theorem rE_if {Q : VK} (h : rE K mg W (mIfE t a b) σ H Q) : rT K mg W t σ H fun c H1 => if c = true then rE K mg W a σ H1 Q else rE K mg W b σ H1 Q := by
  obtain ⟨σm, s, ρ, A, F, rel, h⟩ := h
  refine ⟨σm, s, ρ, A, F, rel, ?_⟩
  unfold mIfE at h
  cases e : t σm s with
  | bad => rw [e] at h; exact h
  | ex x s1 => rw [e] at h; exact h
  | ok d s1 =>
    rw [e, Zm.R.bind_ok] at h
    intro H1 ρ1 fr wd
    cases d with
    | true => exact iteT ⟨σm, s1, ρ1, A, F, rel.next fr wd, oE.step fr (by simpa using h)⟩
    | false => exact iteF ⟨σm, s1, ρ1, A, F, rel.next fr wd, oE.step fr (by simpa using h)⟩
theorem rE_and {Q : VK} (h : rE K mg W (mAnd a b) σ H Q) : rE K mg W a σ H fun x H1 => ∃ c, x = .bl c ∧ if c = true then rE K mg W b σ H1 Q else Q (.bl false) H1 := by
  obtain ⟨σm, s, ρ, A, F, rel, h⟩ := h
  refine ⟨σm, s, ρ, A, F, rel, ?_⟩
  unfold mAnd at h
  cases e : a σm s with
  | bad => rw [e] at h; exact h
  | ex x s1 => rw [e] at h; exact h
  | ok d s1 =>
    rw [e, Zm.R.bind_ok] at h
    intro v H1 ρ1 a f fr wd rp g
    cases d <;> first | exact (h.elim) | skip
    rename_i c
    cases rp
    cases c with
    | true => exact ⟨true, rfl, iteT ⟨σm, s1, ρ1, A, F, rel.next fr wd, oE.step fr h⟩⟩
    | false => exact ⟨false, rfl, iteF (h (.bl false) H1 ρ1 c0 c0 fr wd (.bl (fun _ => rfl) (fun _ => rfl)) (.zero (fun _ => rfl) (fun _ => rfl)))⟩
theorem rE_not {Q : VK} (h : rE K mg W (mNot a) σ H Q) : rE K mg W a σ H fun x H1 => ∃ c, x = .bl c ∧ Q (.bl (!c)) H1 := by
  obtain ⟨σm, s, ρ, A, F, rel, h⟩ := h
  refine ⟨σm, s, ρ, A, F, rel, ?_⟩
  unfold mNot at h
  cases e : a σm s with
  | bad => rw [e] at h; exact h
  | ex x s1 => rw [e] at h; exact h
  | ok d s1 =>
    rw [e, Zm.R.bind_ok] at h
    intro v H1 ρ1 a f fr wd rp g
    cases d <;> first | exact (h.elim) | skip
    rename_i c
    cases rp
    exact ⟨c, rfl, h (.bl (!c)) H1 ρ1 c0 c0 fr wd (.bl (fun _ => rfl) (fun _ => rfl)) (.zero (fun _ => rfl) (fun _ => rfl))⟩
/-- two of a chain: r on x y, then r' on y and c's -/
theorem rE_chain {r r' : R2} {g g' : Sto → List D → Option D} (hv : OpV K mg (r2 r) g) (hv' : OpV K mg (r2 r') g') {Q : VK} (h : rE K mg W (mChain g g' a b c) σ H Q) :
    rA K mg W (mArgs [a, b]) σ H fun vs H2 => ∃ x y, vs = [x, y] ∧ r x y H2 fun z H3 => ∃ k, z = .bl k ∧ (if k = true then rE K mg W c σ H3 fun w' H4 => r' y w' H4 Q else Q (.bl false) H3) := by
  obtain ⟨σm, s, ρ, A, F, rel, h⟩ := h
  refine ⟨σm, s, ρ, A, F, rel, ?_⟩
  unfold mChain at h
  cases e : mArgs [a, b] σm s with
  | bad => rw [e] at h; exact h
  | ex x s1 => rw [e] at h; exact h
  | ok ds s1 =>
    rw [e, Zm.R.bind_ok] at h
    intro vs H1 ρ1 a1 f1 fr wd rp gd
    match ds, rp, h with
    | [x, y], rp, h =>
      have rpp := rp
      obtain ⟨vx, vy, ax, fx, ay, fy, ev, rx, ry, e12⟩ := rp.inv2
      subst ev
      refine ⟨_, _, rfl, ?_⟩
      cases eg : g s1 [x, y] with
      | none => simp only [eg, R.of_none, R.bind_bad] at h; exact h.elim
      | some z =>
        simp only [eg, R.of_some, R.bind_ok] at h
        obtain ⟨x', y', ex, q⟩ := hv ρ1 s1 H1 _ _ a1 f1 z wd rpp gd.sp eg (fun z H3 => ∃ k, z = .bl k ∧ (if k = true then rE K mg W c σ H3 fun w' H4 => r' vy w' H4 Q else Q (.bl false) H3)) fun v H2 a' f' sm rz ou => by
          have fr2 : Fr c0 H H2 ρ ρ1 := fr.tr (Fr.of_same sm)
          cases z <;> first | exact (h.elim) | skip
          rename_i k
          cases rz
          refine ⟨k, rfl, ?_⟩
          cases k with
          | false => exact iteF (h (.bl false) H2 ρ1 c0 c0 fr2 (wd.same sm) (.bl (fun _ => rfl) (fun _ => rfl)) (.zero (fun _ => rfl) (fun _ => rfl)))
          | true =>
            refine iteT ⟨σm, s1, ρ1, A, F, rel.next fr2 (wd.same sm), ?_⟩
            cases ec : c σm s1 with
            | bad => simp only [ec, R.bind_bad] at h; exact h
            | ex x s2 => simp only [ec, R.bind_ex] at h; exact oE.step fr2 h
            | ok w s2 =>
              simp only [ec, R.bind_ok] at h
              intro vw H3 ρ3 a3 f3 fr3 wd3 rw3 g3
              cases eg' : g' s2 [y, w] with
              | none => simp only [eg', R.of_none] at h; exact h.elim
              | some zz =>
                simp only [eg', R.of_some] at h
                have ry3 : Rep K mg H3 ρ3 y vy ay fy := (ry.sm sm).on fr3
                -- the counts of y and w together
                have gy : Gd A F H ay fy := fun p => by
                  obtain ⟨g1, g2, g3⟩ := gd p
                  have q1 := e12 p
                  have i1 : ay p ≤ a1 p := by omega
                  have i2 : fy p ≤ f1 p := by omega
                  exact ⟨by omega, fun z => ⟨by have := (g2 (by omega)).1; omega, (g2 (by omega)).2⟩, fun z => g3 (by omega)⟩
                have g3' : Gd A F H a3 f3 := Gd.step fr2 g3
                have gg : Gd A F H (fun p => ay p + (a3 p + 0)) (fun p => fy p + (f3 p + 0)) := fun p => by
                  obtain ⟨p1, p2, p3⟩ := gy p
                  obtain ⟨q1, q2, q3⟩ := g3 p
                  have th := (ry.sm sm).there p
                  have ev := rel.env.there p
                  have n1 : H2 p = none → H p = none := fr2.there p
                  dsimp only
                  by_cases ha : 1 ≤ ay p
                  · obtain ⟨⟨o, ho⟩, _⟩ := th (by omega)
                    have z2 : a3 p = 0 := by
                      cases q : a3 p with
                      | zero => rfl
                      | succ k => have := (q2 (by omega)).2; rw [ho] at this; cases this
                    have z3 : f3 p = 0 := by
                      cases q : f3 p with
                      | zero => rfl
                      | succ k =>
                        have hn := (p2 ha).2
                        rcases q3 (by omega) with z | z | z
                        · obtain ⟨⟨o', ho'⟩, _⟩ := ev (by omega); rw [hn] at ho'; cases ho'
                        · obtain ⟨⟨o', ho'⟩, _⟩ := ev (by omega); rw [hn] at ho'; cases ho'
                        · rw [ho] at z; cases z
                    have := p2 ha
                    exact ⟨by omega, fun _ => ⟨by omega, this.2⟩, fun h => by omega⟩
                  · refine ⟨by omega, fun h => ?_, fun h => ?_⟩
                    · have z := q2 (by omega)
                      have zf : fy p = 0 := by
                        cases q : fy p with
                        | zero => rfl
                        | succ k => obtain ⟨⟨o, ho⟩, _⟩ := th (by omega); rw [z.2] at ho; cases ho
                      exact ⟨by omega, n1 z.2⟩
                    · by_cases z : 1 ≤ fy p
                      · exact p3 z
                      · rcases q3 (by omega) with y | y | y
                        · exact .inl y
                        · exact .inr (.inl y)
                        · exact .inr (.inr (n1 y))
                obtain ⟨x2, y2, ex2, q2⟩ := hv' ρ3 s2 H3 [y, w] [vy, vw] _ _ zz wd3 (.cons ry3 (Reps.cons rw3 (.nil (A := c0) (F := c0) (fun _ => rfl) (fun _ => rfl)) (A := fun p => a3 p + 0) (F := fun p => f3 p + 0) (fun _ => rfl) (fun _ => rfl)) (A := fun p => ay p + (a3 p + 0)) (F := fun p => fy p + (f3 p + 0)) (fun _ => rfl) (fun _ => rfl)) gg.sp eg' Q
                  fun v H4 a' f' sm4 rz4 ou4 => h v H4 ρ3 a' f' ((fr2.tr fr3).tr (Fr.of_same sm4)) (wd3.same sm4) rz4 (gg.out (fr2.tr fr3) ou4)
                cases ex2
                exact q2
        cases ex
        exact q
end
section
variable {X : Cx} {W : WX} {e : Expr} {es : List Expr} {m ma mb mc : M} {t u : T} {pos : Pos} {rest : List Expr} {a b c : Expr}
theorem st_val (h : SE X W e m) (he : ∀ whole, isTrue e X.env whole = (do let v ← whole; standAt e.pos; holding [v] (truthy v)) := by intro _; rfl) : ST X W e (tV m) := PT.imp (pt_val h he) fun σ H Q q => rT_val q
theorem st_cmp {op : CmpOp} {r : R2} {g : Sto → List D → Option D} (ho : OpR X (compareOp op) r) (hv : OpV X.K X.mg (r2 r) g) (ha : SE X W a ma) (hb : SE X W b mb) (hm : behindInMarks op b = false := by first | exact nomark _ | rfl) : ST X W (.Compare a [op] [b] pos) (tV (mOp g [ma, mb])) :=
  PT.imp (pt_cmpR ho ha hb hm) fun σ H Q h => rE_mono (rA_2 (rA_op hv (rT_val h))) fun v H1 q => rE_mono q fun u H2 ⟨x, y, e, z⟩ => by cases e; exact z
theorem sw_and1 (ha : ST X W a t) : SW X W (.BoolOp .And [a] pos) t := pw_and1 ha
theorem sw_or1 (ha : ST X W a t) : SW X W (.BoolOp .Or [a] pos) t := pw_or1 ha
theorem sw_and (ha : ST X W a t) (hb : SW X W (.BoolOp .And (b :: rest) pos) u) : SW X W (.BoolOp .And (a :: b :: rest) pos) (tAnd t u) := PW.imp (pw_and ha hb) fun σ H Q h => rT_and h
theorem sw_or (ha : ST X W a t) (hb : SW X W (.BoolOp .Or (b :: rest) pos) u) : SW X W (.BoolOp .Or (a :: b :: rest) pos) (tOr t u) := PW.imp (pw_or ha hb) fun σ H Q h => rT_or h
theorem SW.st (h : SW X W e t) : ST X W e t := PW.pt h
theorem st_not (h : ST X W a t) : ST X W (.UnaryOp .Not a pos) (tNot t) := PT.imp (pt_not h) fun σ H Q q => rT_not q
theorem s_if (hc : ST X W c t) (ha : SE X W a ma) (hb : SE X W b mb) : SE X W (.IfExp c a b pos) (mIfE t ma mb) := PE.imp (pe_ifExp hc ha hb) fun σ H Q q => rE_if q
theorem s_one {op} (h : SE X W a ma) : SE X W (.BoolOp op [a] pos) ma := pe_one h
theorem s_and (ha : SE X W a ma) (hb : SE X W (.BoolOp .And (b :: rest) pos) mb) : SE X W (.BoolOp .And (a :: b :: rest) pos) (mAnd ma mb) := PE.imp (pe_and ha hb) fun σ H Q q => rE_and q
theorem s_not (ha : SE X W a ma) : SE X W (.UnaryOp .Not a pos) (mNot ma) := PE.imp (pe_not ha) fun σ H Q q => rE_not q
theorem s_chain {op op' : CmpOp} {r r' : R2} {g g' : Sto → List D → Option D} (ho : OpR X (compareOp op) r) (ho' : OpR X (compareOp op') r') (hv : OpV X.K X.mg (r2 r) g) (hv' : OpV X.K X.mg (r2 r') g') (ha : SE X W a ma) (hb : SE X W b mb) (hc : SE X W c mc)
    (h1 : behindInMarks op' c = false := by first | exact nomark _ | rfl) : SE X W (.Compare a [op, op'] [b, c] pos) (mChain g g' ma mb mc) :=
  PE.imp (pe_chain ho ho' ha hb hc h1) fun σ H Q h => rE_mono (rA_2 (rE_chain hv hv' h)) fun v H1 q => rE_mono q fun u H2 ⟨x, y, e, z⟩ => by cases e; exact z
theorem st_chain {op op' : CmpOp} {r r' : R2} {g g' : Sto → List D → Option D} (ho : OpR X (compareOp op) r) (ho' : OpR X (compareOp op') r') (hv : OpV X.K X.mg (r2 r) g) (hv' : OpV X.K X.mg (r2 r') g') (ha : SE X W a ma) (hb : SE X W b mb) (hc : SE X W c mc)
    (h1 : behindInMarks op' c = false := by first | exact nomark _ | rfl) : ST X W (.Compare a [op, op'] [b, c] pos) (tV (mChain g g' ma mb mc)) :=
  PT.imp (pt_chain ho ho' ha hb hc h1) fun σ H Q h => rE_mono (rA_2 (rE_chain hv hv' (rT_val h))) fun v H1 q => rE_mono q fun u H2 ⟨x, y, e, z⟩ => by cases e; exact z
end
end Zm
set_option Elab.async false
set_option linter.all false
set_option maxRecDepth 100000
set_option autoImplicit false
/-! Z3: statements. -/
namespace Zm
open PySem PySem.Spec PyProof.Rows L2
inductive RS where
  | nx (σ : Env) (s : Sto) | rt (d : D) (s : Sto) | bk (σ : Env) (s : Sto) | ct (σ : Env) (s : Sto) | ex (x : Xc) (σ : Env) (s : Sto) | bad
abbrev MS := Env → Sto → RS
def R.to {α : Type} (r : R α) (σ : Env) (k : α → Sto → RS) : RS := match r with
  | .ok a s => k a s
  | .ex x s => .ex x σ s
  | .bad => .bad
@[simp] theorem R.to_ok {α : Type} {a : α} {s : Sto} {σ : Env} {k : α → Sto → RS} : (R.ok a s).to σ k = k a s := rfl
@[simp] theorem R.to_ex {α : Type} {x : Xc} {s : Sto} {σ : Env} {k : α → Sto → RS} : (R.ex x s : R α).to σ k = .ex x σ s := rfl
@[simp] theorem R.to_bad {α : Type} {σ : Env} {k : α → Sto → RS} : (R.bad : R α).to σ k = .bad := rfl
def RS.then (r : RS) (k : Env → Sto → RS) : RS := match r with
  | .nx σ s => k σ s
  | r => r
@[simp] theorem RS.then_nx {σ : Env} {s : Sto} {k : Env → Sto → RS} : (RS.nx σ s).then k = k σ s := rfl
@[simp] theorem RS.then_rt {d : D} {s : Sto} {k : Env → Sto → RS} : (RS.rt d s).then k = .rt d s := rfl
@[simp] theorem RS.then_bk {σ : Env} {s : Sto} {k : Env → Sto → RS} : (RS.bk σ s).then k = .bk σ s := rfl
@[simp] theorem RS.then_ct {σ : Env} {s : Sto} {k : Env → Sto → RS} : (RS.ct σ s).then k = .ct σ s := rfl
@[simp] theorem RS.then_ex {x : Xc} {σ : Env} {s : Sto} {k : Env → Sto → RS} : (RS.ex x σ s).then k = .ex x σ s := rfl
@[simp] theorem RS.then_bad {k : Env → Sto → RS} : RS.bad.then k = .bad := rfl
/-- what may newly be held, as against before -/
def Nx (A F : Cnt) (H : Hp) (A' F' : Cnt) : Prop := ∀ x, (1 ≤ A' x → 1 ≤ A x ∨ H x = none) ∧ (1 ≤ F' x → 1 ≤ A x ∨ 1 ≤ F x ∨ H x = none)
section
variable {K : PySem.W.Frag} {mg : Str → Option Value} {W : WX} {H H' H1 : Hp} {ρ ρ' ρ1 : List Addr} {σm : Env} {σ : L2.St} {s s' s1 : Sto} {d e : D} {ds es : List D} {v : V} {vs ws : List V} {A F A' F' A1 F1 a f Mc : Cnt}
theorem Nx.refl : Nx A F H A F := fun x => ⟨fun h => .inl h, fun h => .inr (.inl h)⟩
theorem Nx.trans (n : Nx A F H A1 F1) (fr : Fr A H H1 ρ ρ1) (m : Nx A1 F1 H1 A' F') : Nx A F H A' F' := fun x => by
  obtain ⟨p, q⟩ := n x
  obtain ⟨r, t⟩ := m x
  refine ⟨fun h => ?_, fun h => ?_⟩
  · rcases r h with z | z
    · exact p z
    · exact .inr (fr.there x z)
  · rcases t h with z | z | z
    · rcases p z with y | y
      · exact .inl y
      · exact .inr (.inr y)
    · exact q z
    · exact .inr (.inr (fr.there x z))
theorem Fr.thenN (fr : Fr A H H1 ρ ρ1) (n : Nx A F H A1 F1) (fr2 : Fr A1 H1 H' ρ1 ρ') : Fr A H H' ρ ρ' := fr.trans fr2 fun x h => (n x).1 h
theorem Fr.up (fr : Fr c0 H H1 ρ ρ1) : Fr A H H1 ρ ρ1 := fr.mono fun _ h => no0 h
section
variable (K : PySem.W.Frag) (mg : Str → Option Value) (W : WX) (A F : Cnt) (H : Hp) (ρ : List Addr)
def oS (D : Ends) : RS → Prop
  | .nx σm' s' => ∀ σ' H' ρ' A' F', Fr A H H' ρ ρ' → Rel K mg σm' s' σ' H' ρ' A' F' → Nx A F H A' F' → D.nx σ' H'
  | .bk σm' s' => ∀ σ' H' ρ' A' F', Fr A H H' ρ ρ' → Rel K mg σm' s' σ' H' ρ' A' F' → Nx A F H A' F' → D.bk σ' H'
  | .ct σm' s' => ∀ σ' H' ρ' A' F', Fr A H H' ρ ρ' → Rel K mg σm' s' σ' H' ρ' A' F' → Nx A F H A' F' → D.ct σ' H'
  | .rt d s' => ∀ v H' ρ' a f, Fr A H H' ρ ρ' → Wd K mg ρ' s' H' → Rep K mg H' ρ' d v a f → Out A F H a f → D.rt v H'
  | .ex x σm' s' => ∀ cls dd σ' H' ρ' A' F', Fr A H H' ρ ρ' → Rel K mg σm' s' σ' H' ρ' A' F' → Nx A F H A' F' → RepX mg H' x cls dd → W cls dd σ' H'
  | .bad => False
end
variable (K mg W) in
def rS (m : MS) : TS := fun D σ H => ∃ σm s ρ A F, Rel K mg σm s σ H ρ A F ∧ oS K mg W A F H ρ D (m σm s)
theorem Out.stepN (fr : Fr A H H1 ρ ρ1) (n : Nx A F H A1 F1) (o : Out A1 F1 H1 a f) : Out A F H a f := fun x => by
  obtain ⟨p, q, r⟩ := o x
  refine ⟨p, fun h => ⟨(q h).1, ?_⟩, fun h => ?_⟩
  · rcases (q h).2 with z | z
    · exact .inl (fr.there x z)
    · exact ((n x).1 z).elim .inr .inl
  · rcases r h with z | z | z
    · exact ((n x).1 z).elim .inl fun z => .inr (.inr z)
    · exact (n x).2 z
    · exact .inr (.inr (fr.there x z))
theorem oS.step {D : Ends} {r : RS} (fr : Fr A H H1 ρ ρ1) (n : Nx A F H A1 F1) (h : oS K mg W A F H ρ D r) : oS K mg W A1 F1 H1 ρ1 D r := by
  cases r with
  | bad => exact h
  | nx σ s => exact fun σ' H' ρ' A' F' fr' r' n' => h σ' H' ρ' A' F' (fr.thenN n fr') r' (n.trans fr n')
  | bk σ s => exact fun σ' H' ρ' A' F' fr' r' n' => h σ' H' ρ' A' F' (fr.thenN n fr') r' (n.trans fr n')
  | ct σ s => exact fun σ' H' ρ' A' F' fr' r' n' => h σ' H' ρ' A' F' (fr.thenN n fr') r' (n.trans fr n')
  | rt d s => exact fun v H' ρ' a f fr' wd rp o => h v H' ρ' a f (fr.thenN n fr') wd rp (o.stepN fr n)
  | ex x σ s => exact fun cls dd σ' H' ρ' A' F' fr' r' n' => h cls dd σ' H' ρ' A' F' (fr.thenN n fr') r' (n.trans fr n')
theorem oS.imp {D D' : Ends} {r : RS} (h : oS K mg W A F H ρ D r) (h1 : ∀ σ H, D.nx σ H → D'.nx σ H) (h2 : ∀ v H, D.rt v H → D'.rt v H) (h3 : ∀ σ H, D.bk σ H → D'.bk σ H) (h4 : ∀ σ H, D.ct σ H → D'.ct σ H) : oS K mg W A F H ρ D' r := by
  cases r with
  | bad => exact h
  | nx σ s => exact fun σ' H' ρ' A' F' a b c => h1 _ _ (h σ' H' ρ' A' F' a b c)
  | bk σ s => exact fun σ' H' ρ' A' F' a b c => h3 _ _ (h σ' H' ρ' A' F' a b c)
  | ct σ s => exact fun σ' H' ρ' A' F' a b c => h4 _ _ (h σ' H' ρ' A' F' a b c)
  | rt d s => exact fun v H' ρ' a f b c d e => h2 _ _ (h v H' ρ' a f b c d e)
  | ex x σ s => exact h
end
end Zm
namespace Zm
open PySem PySem.Spec PyProof.Rows L2
def SS (X : Cx) (W : WX) (e : Stmt) (m : MS) : Prop := PS X e (rS X.K X.mg W m)
def SSs (X : Cx) (W : WX) (e : List Stmt) (m : MS) : Prop := PSs X e (rS X.K X.mg W m)
@[simp] def mNil : MS := fun σ s => .nx σ s
@[simp] def mSeq (a b : MS) : MS := fun σ s => (a σ s).then b
def mSet (i : Nat) (m : M) : MS := fun σ s => (m σ s).to σ fun d s' => if noF d = true ∧ i < σ.length then .nx (σ.set i (some d)) s' else .bad
/-- a mask's slots alone; its slots frozen -/
@[simp] def restr : List Bool → Env → Env
  | [], σ => σ.map fun _ => none
  | _, [] => []
  | b :: bs, o :: σ => (if b = true then o else none) :: restr bs σ
@[simp] def frzE : List Bool → Env → Env
  | [], σ => σ
  | _, [] => []
  | b :: bs, o :: σ => (if b = true then o.map fz else o) :: frzE bs σ
def mSetF (msk : List Bool) (i : Nat) (m : M) : MS := fun σ s => (m (restr msk σ) s).to σ fun d s' => if i < σ.length then .nx ((frzE msk σ).set i (some (fz d))) s' else .bad
@[simp] def mIf (t : T) (a b : MS) : MS := fun σ s => (t σ s).to σ fun c s' => if c = true then a σ s' else b σ s'
@[simp] def mRet (m : M) : MS := fun σ s => (m σ s).to σ fun d s' => .rt d s'
@[simp] def mRetN : MS := fun _ s => .rt .non s
def mRetV (i : Nat) : MS := fun σ s => match σ[i]? with
  | some (some d) => .rt d s
  | _ => .bad
@[simp] def mDo (m : M) : MS := fun σ s => (m σ s).to σ fun _ s' => .nx σ s'
@[simp] def mBreak : MS := fun σ s => .bk σ s
@[simp] def mCont : MS := fun σ s => .ct σ s
def mApp (i : Nat) (m : M) : MS := fun σ s => match σ[i]? with
  | some (some (.lst true xs)) => (m σ s).to σ fun d s' => if xs.length < sizeLine ∧ noF d = true then .nx (σ.set i (some (.lst true (xs ++ [d])))) s' else .bad
  | _ => .bad
section
variable {K : PySem.W.Frag} {mg : Str → Option Value} {W : WX} {H H' H1 : Hp} {ρ ρ' ρ1 : List Addr} {σm : Env} {σ : L2.St} {s s' s1 : Sto} {d e : D} {v : V} {A F A' F' A1 F1 a f Mc : Cnt}
theorem frzE_length : ∀ {msk : List Bool} {σ : Env}, (frzE msk σ).length = σ.length
  | [], σ => by simp [frzE]
  | _ :: _, [] => by simp [frzE]
  | b :: bs, o :: σ => by simp [frzE, frzE_length (msk := bs) (σ := σ)]
/-- the slots in two parts: those of the mask may be frozen -/
theorem EnvR.none_of : ∀ {σm : Env} {σ : L2.St} {A F : Cnt}, EnvR K mg H ρ σm σ A F → EnvR K mg H ρ (σm.map fun _ => none) σ c0 c0
  | _, _, _, _, .nil _ _ => .nil (fun _ => rfl) (fun _ => rfl)
  | _, _, _, _, .no t => .no (EnvR.none_of t)
  | _, _, _, _, .yes _ t _ _ => .no (EnvR.none_of t)
theorem EnvR.mask : ∀ {msk : List Bool} {σm : Env} {σ : L2.St} {A F : Cnt}, EnvR K mg H ρ σm σ A F →
    ∃ Am Fm Ar F2, EnvR K mg H ρ (restr msk σm) σ Am Fm ∧ EnvR K mg H ρ (frzE msk σm) σ Ar F2 ∧ ∀ x, A x = Am x + Ar x ∧ Fm x ≤ F x ∧ (1 ≤ F2 x → 1 ≤ F x ∨ 1 ≤ Am x)
  | [], σm, σ, A, F, h => by
    refine ⟨c0, c0, A, F, ?_, by rw [frzE]; exact h, fun x => ⟨by simp [c0], by simp [c0], fun z => .inl z⟩⟩
    rw [restr]; exact h.none_of
  | b :: bs, _, _, A, F, .nil a f => ⟨A, F, c0, c0, .nil a f, .nil (fun _ => rfl) (fun _ => rfl), fun x => ⟨by simp [c0], Nat.le_refl _, fun z => no0 z⟩⟩
  | b :: bs, _, _, _, _, .no t => by
    obtain ⟨Am, Fm, Ar, F2, r1, r2, q⟩ := EnvR.mask (msk := bs) t
    refine ⟨Am, Fm, Ar, F2, ?_, ?_, q⟩
    · rw [restr]; split <;> exact .no r1
    · rw [frzE]; split <;> exact .no r2
  | true :: bs, _, _, _, _, .yes (a := a) (f := f) h t e1 e2 => by
    obtain ⟨Am, Fm, Ar, F2, r1, r2, q⟩ := EnvR.mask (msk := bs) t
    obtain ⟨f', h', q'⟩ := h.fz
    refine ⟨_, _, Ar, _, .yes h r1 (fun _ => rfl) (fun _ => rfl), .yes h' r2 (fun x => by show Ar x = c0 x + Ar x; simp [c0]) (fun _ => rfl), fun x => ?_⟩
    have z := q x
    have z' := q' x
    rw [e1, e2]
    refine ⟨by omega, by omega, fun y => ?_⟩
    have y : 1 ≤ f' x + F2 x := y
    by_cases w : 1 ≤ f' x
    · have := z' w; omega
    · have := z.2.2 (by omega); omega
  | false :: bs, _, _, _, _, .yes (a := a) (f := f) h t e1 e2 => by
    obtain ⟨Am, Fm, Ar, F2, r1, r2, q⟩ := EnvR.mask (msk := bs) t
    refine ⟨Am, Fm, _, _, .no r1, .yes h r2 (fun _ => rfl) (fun _ => rfl), fun x => ?_⟩
    have z := q x
    rw [e1, e2]
    refine ⟨by omega, by omega, fun y => ?_⟩
    have y : 1 ≤ f x + F2 x := y
    by_cases w : 1 ≤ f x
    · omega
    · have := z.2.2 (by omega); omega
/-- a slot stored with what is not frozen -/
theorem Rel.set (rel : Rel K mg σm s σ H ρ A F) (fr : Fr c0 H H1 ρ ρ1) (wd : Wd K mg ρ1 s1 H1) (rp : Rep K mg H1 ρ1 d v a f) (g : Gd A F H a f) (hf : ∀ x, f x = 0) (i : Nat) (hi : i < σm.length) :
    ∃ A' F', Rel K mg (σm.set i (some d)) s1 (σ.set i (some v)) H1 ρ1 A' F' ∧ Nx A F H A' F' := by
  have r1 := rel.next fr wd
  obtain ⟨A', F', e', le, _⟩ := r1.env.set i rp hi
  have ev := rel.env.there
  refine ⟨A', F', ⟨e', wd, fun x => ?_⟩, fun x => ?_⟩
  · have := le x
    have s0 := rel.sep x
    obtain ⟨g1, g2, g3⟩ := g x
    have h0 := hf x
    by_cases z : 1 ≤ a x
    · have hn := (g2 z).2
      have q : ¬ 1 ≤ A x + F x := fun y => by obtain ⟨⟨o, ho⟩, _⟩ := ev x y; rw [hn] at ho; cases ho
      omega
    · refine ⟨by omega, fun y => ?_⟩
      have := s0.2 (by omega)
      omega
  · have := le x
    have h0 := hf x
    obtain ⟨g1, g2, g3⟩ := g x
    refine ⟨fun y => ?_, fun y => by omega⟩
    by_cases z : 1 ≤ a x
    · exact .inr (g2 z).2
    · exact .inl (by omega)
/-- a slot stored with what may be frozen, the mask's slots frozen -/
theorem Rel.setF {msk : List Bool} {Am Fm Ar F2 : Cnt} (rel : Rel K mg σm s σ H ρ A F) (r2 : EnvR K mg H ρ (frzE msk σm) σ Ar F2) (q : ∀ x, A x = Am x + Ar x ∧ Fm x ≤ F x ∧ (1 ≤ F2 x → 1 ≤ F x ∨ 1 ≤ Am x))
    (fr : Fr c0 H H1 ρ ρ1) (wd : Wd K mg ρ1 s1 H1) (rp : Rep K mg H1 ρ1 d v a f) (g : Gd Am Fm H a f) (i : Nat) (hi : i < σm.length) :
    ∃ A' F', Rel K mg ((frzE msk σm).set i (some (fz d))) s1 (σ.set i (some v)) H1 ρ1 A' F' ∧ Nx A F H A' F' := by
  obtain ⟨f', rp', qf⟩ := rp.fz
  have e1 := r2.frame fr fun _ hx => no0 hx
  obtain ⟨A', F', e', le, _⟩ := e1.set i rp' (by rw [frzE_length]; exact hi)
  have ev := rel.env.there
  have key : ∀ x, 1 ≤ f' x → 1 ≤ Am x ∨ 1 ≤ Fm x ∨ H x = none := fun x h => by
    have := qf x h
    obtain ⟨g1, g2, g3⟩ := g x
    by_cases z : 1 ≤ a x
    · exact .inr (.inr (g2 z).2)
    · exact g3 (by omega)
  refine ⟨A', F', ⟨e', wd, fun x => ?_⟩, fun x => ?_⟩
  · have l := le x
    have l1 : A' x ≤ Ar x + 0 := l.1
    have l2 := l.2
    have s0 := rel.sep x
    have q0 := q x
    refine ⟨by omega, fun y => ?_⟩
    have hA : 1 ≤ A x := by omega
    have hF := s0.2 hA
    obtain ⟨⟨o, ho⟩, _⟩ := ev x (by omega)
    have h1 : F2 x = 0 := by
      cases z : F2 x with
      | zero => rfl
      | succ k => have := q0.2.2 (by omega); omega
    have h2 : f' x = 0 := by
      cases z : f' x with
      | zero => rfl
      | succ k =>
        rcases key x (by omega) with w | w | w
        · omega
        · omega
        · rw [w] at ho; cases ho
    omega
  · have l := le x
    have l1 : A' x ≤ Ar x + 0 := l.1
    have q0 := q x
    refine ⟨fun y => .inl (by omega), fun y => ?_⟩
    by_cases z : 1 ≤ f' x
    · rcases key x z with w | w | w
      · exact .inl (by omega)
      · exact .inr (.inl (by omega))
      · exact .inr (.inr w)
    · have := q0.2.2 (by omega)
      omega
theorem Rel.mask {msk : List Bool} (rel : Rel K mg σm s σ H ρ A F) : ∃ Am Fm Ar F2, Rel K mg (restr msk σm) s σ H ρ Am Fm ∧ EnvR K mg H ρ (frzE msk σm) σ Ar F2 ∧ ∀ x, A x = Am x + Ar x ∧ Fm x ≤ F x ∧ (1 ≤ F2 x → 1 ≤ F x ∨ 1 ≤ Am x) := by
  obtain ⟨Am, Fm, Ar, F2, r1, r2, q⟩ := EnvR.mask (msk := msk) rel.env
  exact ⟨Am, Fm, Ar, F2, ⟨r1, rel.wd, fun x => by have := rel.sep x; have := q x; exact ⟨by omega, fun z => by have := (rel.sep x).2 (by omega); omega⟩⟩, r2, q⟩
theorem EnvR.take : ∀ {σm : Env} {σ : L2.St} {A F : Cnt} {i : Nat} {d : D}, EnvR K mg H ρ σm σ A F → σm[i]? = some (some d) →
    ∃ v a f A2 F2, σ[i]? = some (some v) ∧ Rep K mg H ρ d v a f ∧ EnvR K mg H ρ (σm.set i none) σ A2 F2 ∧ ∀ x, A x = a x + A2 x ∧ F x = f x + F2 x
  | _, _, _, _, i, _, .nil _ _, e => by simp at e
  | _, _, _, _, 0, _, .no _, e => by simp at e
  | _, _, _, _, i + 1, _, .no t, e => by
    obtain ⟨v, a, f, A2, F2, q1, q2, q3, q4⟩ := EnvR.take t (i := i) (by simpa using e)
    exact ⟨v, a, f, A2, F2, by simpa using q1, q2, .no q3, q4⟩
  | _, _, _, _, 0, _, .yes h t e1 e2, e => by
    simp at e; subst e
    exact ⟨_, _, _, _, _, rfl, h, .no t, fun x => ⟨e1 x, e2 x⟩⟩
  | _, _, _, _, i + 1, _, .yes h t e1 e2, e => by
    obtain ⟨v, a, f, A2, F2, q1, q2, q3, q4⟩ := EnvR.take t (i := i) (by simpa using e)
    exact ⟨v, a, f, _, _, by simpa using q1, q2, .yes h q3 (fun _ => rfl) (fun _ => rfl), fun x => by have := q4 x; rw [e1, e2]; omega⟩
theorem EnvR.put : ∀ {σm : Env} {σ : L2.St} {A F : Cnt} {i : Nat} {d : D} {v : V} {a f : Cnt}, EnvR K mg H ρ σm σ A F → σm[i]? = some none → σ[i]? = some (some v) → Rep K mg H ρ d v a f →
    EnvR K mg H ρ (σm.set i (some d)) σ (fun x => a x + A x) (fun x => f x + F x)
  | _, _, _, _, i, _, _, _, _, .nil _ _, e, _, _ => by simp at e
  | _, _, _, _, 0, _, _, _, _, .no t, _, e, r => by
    simp at e; subst e
    exact .yes r t (fun _ => rfl) (fun _ => rfl)
  | _, _, _, _, i + 1, _, _, _, _, .no t, e1, e2, r => .no (EnvR.put t (by simpa using e1) (by simpa using e2) r)
  | _, _, _, _, 0, _, _, _, _, .yes h t _ _, e, _, _ => by simp at e
  | _, _, _, _, i + 1, _, _, _, _, .yes h t e1 e2, q1, q2, r => .yes h (EnvR.put t (by simpa using q1) (by simpa using q2) r) (fun x => by rw [e1]; omega) (fun x => by rw [e2]; omega)
/-- an owned list at a slot, to be written -/
theorem Rel.wr (rel : Rel K mg σm s σ H ρ A F) {i : Nat} {xs : List D} (hi : σm[i]? = some (some (.lst true xs))) :
    ∃ (p : Addr) (vs : List V) (a1 f1 A2 F2 : Cnt), σ[i]? = some (some (.ref p)) ∧ H p = some (.lst vs) ∧ Reps K mg H ρ xs vs a1 f1 ∧ (∀ x, A x = cp p x + a1 x + A2 x ∧ F x = f1 x + F2 x) ∧
      ∀ (H1 : Hp) (ρ1 : List Addr) (s1 : Sto) (xs' : List D) (vs' : List V) (a' f' : Cnt), Fr c0 H H1 ρ ρ1 → Wd K mg ρ1 s1 H1 → Reps K mg H1 ρ1 xs' vs' a' f' → (∀ x, cp p x + a' x + A2 x ≤ 1 ∧ (1 ≤ cp p x + a' x + A2 x → f' x + F2 x = 0)) →
        H1 p = some (.lst vs) ∧ Fr A H (upd H1 p (.lst vs')) ρ ρ1 ∧ Rel K mg (σm.set i (some (.lst true xs'))) s1 σ (upd H1 p (.lst vs')) ρ1 (fun x => cp p x + a' x + A2 x) (fun x => f' x + F2 x) := by
  obtain ⟨w, a0, f0, A2, F2, e1, rp0, e2, q⟩ := rel.env.take hi
  cases rp0 with
  | own hp hn t e =>
    rename_i p vs a1
    have hil : i < σm.length := (List.getElem?_eq_some_iff.mp hi).1
    refine ⟨p, vs, a1, f0, A2, F2, e1, hp, t, fun x => by have := q x; rw [e] at this; exact this, fun H1 ρ1 s1 xs' vs' a' f' fr wd r' hs => ?_⟩
    have hAp : 1 ≤ A p := by have := (q p).1; rw [e p, cp_same] at this; omega
    have hp1 : H1 p = some (.lst vs) := by
      rcases fr.keep p _ hp with z | ⟨_, z | z⟩
      · exact z
      · exact (hn z).elim
      · exact no0 z
    have hn1 : p ∉ ρ1 := fr.nmem hp hn
    have fr1 : Fr (cp p) H1 (upd H1 p (.lst vs')) ρ1 ρ1 := by
      refine ⟨fun x o q => ?_, fun x q => ?_, [], by simp, by simp⟩
      · by_cases z : x = p
        · subst z
          rw [hp1] at q; cases q
          exact .inr ⟨trivial, .inr (by rw [cp_same]; omega)⟩
        · rw [upd_ne z]; exact .inl q
      · by_cases z : x = p
        · subst z; rw [upd_same] at q; cases q
        · rw [upd_ne z] at q; exact q
    have hs0 := hs p
    rw [cp_same] at hs0
    have out : ∀ x, 1 ≤ cp p x → (a' x = 0 ∧ f' x = 0) ∧ A2 x = 0 ∧ F2 x = 0 := fun x hx => by
      by_cases z : x = p
      · subst z
        have := hs0.2 (by omega)
        omega
      · rw [cp_ne z] at hx; omega
    refine ⟨hp1, ⟨fun x o q => ?_, fun x q => fr.there x (fr1.there x q), fr.ext⟩, ?_⟩
    · rcases fr.keep x o q with z | ⟨l, z | z⟩
      · rcases fr1.keep x o z with y | ⟨l, y | y⟩
        · exact .inl y
        · obtain ⟨r, er, nr⟩ := fr.ext
          rw [er] at y
          rcases List.mem_append.mp y with y | y
          · exact .inr ⟨l, .inl y⟩
          · rw [nr x y] at q; cases q
        · by_cases w : x = p
          · subst w; exact .inr ⟨l, .inr hAp⟩
          · rw [cp_ne w] at y; omega
      · exact .inr ⟨l, .inl z⟩
      · exact no0 z
    · have env1 := (e2.frame fr fun _ hx => no0 hx).frame fr1 fun x hx => (out x hx).2
      have new : Rep K mg (upd H1 p (.lst vs')) ρ1 (.lst true xs') (.ref p) (fun x => cp p x + a' x) f' := .own upd_same hn1 (r'.frame fr1 fun x hx => (out x hx).1) (fun _ => rfl)
      have e3 := env1.put (i := i) (by simp [hil]) e1 new
      rw [List.set_set] at e3
      refine ⟨e3, ⟨wd.len, wd.nd, fun n b ys z1 z2 => ?_⟩, hs⟩
      obtain ⟨w1, ws, a, f, w2, w3⟩ := wd.at_ n b ys z1 z2
      have nb : b ≠ p := fun z => hn1 (z ▸ List.mem_of_getElem? z1)
      have zz := w3.plain w1
      exact ⟨w1, ws, a, f, by rw [upd_ne nb]; exact w2, w3.frame fr1 fun x _ => zz x⟩
end
end Zm
set_option Elab.async false
set_option linter.all false
set_option maxRecDepth 100000
set_option autoImplicit false
/-! Z4: the rules of the plain statements. -/
namespace Zm
open PySem PySem.Spec PyProof.Rows L2
section
variable {K : PySem.W.Frag} {mg : Str → Option Value} {W : WX} {H H' H1 : Hp} {ρ ρ' ρ1 : List Addr} {σm : Env} {σ : L2.St} {s s' s1 : Sto} {d e : D} {v : V} {A F A' F' A1 F1 a f Mc : Cnt} {Ds : Ends}
theorem rE_of_to {R : VK} {m : M} {k : D → Sto → RS} (rel : Rel K mg σm s σ H ρ A F) (h : oS K mg W A F H ρ Ds ((m σm s).to σm k))
    (hk : ∀ d s1 v H1 ρ1 a f, Fr c0 H H1 ρ ρ1 → Wd K mg ρ1 s1 H1 → Rep K mg H1 ρ1 d v a f → Gd A F H a f → oS K mg W A F H ρ Ds (k d s1) → R v H1) : rE K mg W m σ H R := by
  refine ⟨σm, s, ρ, A, F, rel, ?_⟩
  cases e : m σm s with
  | bad => rw [e] at h; exact h
  | ex x s1 =>
    rw [e] at h
    exact fun cls dd H' ρ' fr wd rx => h cls dd σ H' ρ' A F fr.up (rel.next fr wd) .refl rx
  | ok d s1 =>
    rw [e] at h
    exact fun v H1 ρ1 a f fr wd rp g => hk d s1 v H1 ρ1 a f fr wd rp g h
theorem rEF_of_to {R : VK} {m : M} {k : D → Sto → RS} {msk : List Bool} (rel : Rel K mg σm s σ H ρ A F) (h : oS K mg W A F H ρ Ds ((m (restr msk σm) s).to σm k))
    (hk : ∀ d s1 v H1 ρ1 a f Am Fm Ar F2, Fr c0 H H1 ρ ρ1 → Wd K mg ρ1 s1 H1 → Rep K mg H1 ρ1 d v a f → Gd Am Fm H a f → EnvR K mg H ρ (frzE msk σm) σ Ar F2 → (∀ x, A x = Am x + Ar x ∧ Fm x ≤ F x ∧ (1 ≤ F2 x → 1 ≤ F x ∨ 1 ≤ Am x)) → oS K mg W A F H ρ Ds (k d s1) → R v H1) : rE K mg W m σ H R := by
  obtain ⟨Am, Fm, Ar, F2, r1, r2, q⟩ := rel.mask (msk := msk)
  refine ⟨_, s, ρ, Am, Fm, r1, ?_⟩
  cases e : m (restr msk σm) s with
  | bad => rw [e] at h; exact h
  | ex x s1 =>
    rw [e] at h
    exact fun cls dd H' ρ' fr wd rx => h cls dd σ H' ρ' A F fr.up (rel.next fr wd) .refl rx
  | ok d s1 =>
    rw [e] at h
    exact fun v H1 ρ1 a f fr wd rp g => hk d s1 v H1 ρ1 a f Am Fm Ar F2 fr wd rp g r2 q h
theorem rT_of_to {R : Bool → Hp → Prop} {t : T} {k : Bool → Sto → RS} (rel : Rel K mg σm s σ H ρ A F) (h : oS K mg W A F H ρ Ds ((t σm s).to σm k))
    (hk : ∀ b s1 H1 ρ1, Fr c0 H H1 ρ ρ1 → Wd K mg ρ1 s1 H1 → oS K mg W A F H ρ Ds (k b s1) → R b H1) : rT K mg W t σ H R := by
  refine ⟨σm, s, ρ, A, F, rel, ?_⟩
  cases e : t σm s with
  | bad => rw [e] at h; exact h
  | ex x s1 =>
    rw [e] at h
    exact fun cls dd H' ρ' fr wd rx => h cls dd σ H' ρ' A F fr.up (rel.next fr wd) .refl rx
  | ok d s1 =>
    rw [e] at h
    exact fun H1 ρ1 fr wd => hk d s1 H1 ρ1 fr wd h
theorem rS_seq {a b : MS} (h : rS K mg W (mSeq a b) Ds σ H) : rS K mg W a { Ds with nx := rS K mg W b Ds } σ H := by
  obtain ⟨σm, s, ρ, A, F, rel, h⟩ := h
  refine ⟨σm, s, ρ, A, F, rel, ?_⟩
  unfold mSeq at h
  cases e : a σm s with
  | nx σ1 s1 =>
    rw [e] at h
    exact fun σ' H' ρ' A' F' fr rel' n => ⟨σ1, s1, ρ', A', F', rel', oS.step fr n h⟩
  | rt d s => rw [e] at h; exact h
  | bk σ s => rw [e] at h; exact h
  | ct σ s => rw [e] at h; exact h
  | ex x σ s => rw [e] at h; exact h
  | bad => rw [e] at h; exact h
end
section
variable {X : Cx} {W : WX} {st : Stmt} {sts : List Stmt} {e c : Expr} {m ma : M} {t : T} {a b : MS} {pos pos' : Pos} {i : Nat} {x : Str}
theorem ss_nil : SSs X W [] mNil := PSs.imp pss_nil fun D σ H ⟨σm, s, ρ, A, F, rel, h⟩ => h σ H ρ A F .refl rel .refl
theorem ss_cons (h1 : SS X W st a) (h2 : SSs X W sts b) : SSs X W (st :: sts) (mSeq a b) := PSs.imp (pss_cons h1 h2) fun D σ H h => rS_seq h
theorem ss_one (h1 : SS X W st a) : SSs X W [st] a := pss_one h1
theorem ss_ret (he : SE X W e m) : SS X W (.Return (some e) pos) (mRet m) :=
  PS.imp (ps_ret he) fun D σ H ⟨σm, s, ρ, A, F, rel, h⟩ => rE_of_to rel h fun d s1 v H1 ρ1 a f fr wd rp g h => h v H1 ρ1 a f fr.up wd rp fun x => by
    obtain ⟨p, q, r⟩ := g x
    exact ⟨p, fun z => ⟨(q z).1, .inl (q z).2⟩, r⟩
theorem ss_retV (i : Nat) {x : Str} {pos' : Pos} (hN : X.N[i]? = some x := by rfl) (hv : Vis X.env.scope x := by first | exact Or.inl rfl | exact Or.inr (Or.inl rfl) | exact Or.inr (Or.inr rfl)) (hd : (x == ("__debug__" : Str)) = false := by decide)
    (hcd : (x == ("__classdict__" : Str)) = false := by decide) : SS X W (.Return (some (.Name x pos')) pos) (mRetV i) :=
  PS.imp (ps_ret (pe_var hN hv hd hcd)) fun D σ H ⟨σm, s, ρ, A, F, rel, h⟩ => by
    unfold mRetV at h
    cases e : σm[i]? with
    | none => rw [e] at h; exact h.elim
    | some o =>
      cases o with
      | none => rw [e] at h; exact h.elim
      | some d =>
        rw [e] at h
        obtain ⟨v, a, f, e2, rp, le⟩ := rel.env.get e
        exact ⟨v, e2, h v H ρ a f .refl rel.wd rp fun x => by
          have := le x
          have s0 := rel.sep x
          exact ⟨by omega, fun z => ⟨by have := s0.2 (by omega); omega, .inr (by omega)⟩, fun z => .inr (.inl (by omega))⟩⟩
theorem ss_if {ss ss' : List Stmt} (hc : ST X W c t) (ha : SSs X W ss a) (hb : SSs X W ss' b) : SS X W (.If c ss ss' pos) (mIf t a b) :=
  PS.imp (ps_if hc ha hb) fun D σ H ⟨σm, s, ρ, A, F, rel, h⟩ => rT_of_to rel h fun c s1 H1 ρ1 fr wd h => by
    cases c with
    | true => exact iteT ⟨σm, s1, ρ1, A, F, rel.next fr wd, oS.step fr.up .refl (by simpa using h)⟩
    | false => exact iteF ⟨σm, s1, ρ1, A, F, rel.next fr wd, oS.step fr.up .refl (by simpa using h)⟩
theorem set_end {K : PySem.W.Frag} {mg : Str → Option Value} {W : WX} {σ : L2.St} {H : Hp} {D : Ends} (h : rS K mg W (mSet i m) D σ H) : rE K mg W m σ H fun x H1 => gName i x σ H1 D.nx := by
  obtain ⟨σm, s, ρ, A, F, rel, h⟩ := h
  refine rE_of_to rel h fun d s1 v H1 ρ1 a f fr wd rp g h => ?_
  split at h
  · rename_i z
    obtain ⟨A', F', rel', n⟩ := rel.set fr wd rp g (rp.noF z.1) i z.2
    exact h _ _ _ _ _ fr.up rel' n
  · exact h.elim
theorem setF_end {K : PySem.W.Frag} {mg : Str → Option Value} {W : WX} {σ : L2.St} {H : Hp} {D : Ends} {msk : List Bool} (h : rS K mg W (mSetF msk i m) D σ H) : rE K mg W m σ H fun x H1 => gName i x σ H1 D.nx := by
  obtain ⟨σm, s, ρ, A, F, rel, h⟩ := h
  refine rEF_of_to rel h fun d s1 v H1 ρ1 a f Am Fm Ar F2 fr wd rp g r2 q h => ?_
  split at h
  · rename_i z
    obtain ⟨A', F', rel', n⟩ := rel.setF r2 q fr wd rp g i z
    exact h _ _ _ _ _ fr.up rel' n
  · exact h.elim
/-! ### x.append(e) -/
theorem Rel.app {K : PySem.W.Frag} {mg : Str → Option Value} {H H1 : Hp} {ρ ρ1 : List Addr} {σm : Env} {σ : L2.St} {s s1 : Sto} {d : D} {v : V} {A F a f : Cnt} {xs : List D} (rel : Rel K mg σm s σ H ρ A F) (hi : σm[i]? = some (some (.lst true xs))) :
    ∃ (p : Addr) (vs : List V), σ[i]? = some (some (.ref p)) ∧ H p = some (.lst vs) ∧ vs.length = xs.length ∧ ∀ {H1 : Hp} {ρ1 : List Addr} {s1 : Sto} {d : D} {v : V} {a f : Cnt}, Fr c0 H H1 ρ ρ1 → Wd K mg ρ1 s1 H1 → Rep K mg H1 ρ1 d v a f →
      (∀ x, A x + a x ≤ 1 ∧ (1 ≤ A x + a x → F x + f x = 0)) → H1 p = some (.lst vs) ∧ ∃ A' F', Rel K mg (σm.set i (some (.lst true (xs ++ [d])))) s1 σ (upd H1 p (.lst (vs ++ [v]))) ρ1 A' F' ∧ Fr A H (upd H1 p (.lst (vs ++ [v]))) ρ ρ1 ∧ ∀ x, A' x = A x + a x ∧ F' x = F x + f x := by
  obtain ⟨p, vs, a1, f1, A2, F2, e1, hp, r0, q, wr⟩ := rel.wr hi
  refine ⟨p, vs, e1, hp, r0.length.symm, fun {H1 ρ1 s1 d v a f} fr wd rp hs => ?_⟩
  obtain ⟨h1, h2, h3⟩ := wr H1 ρ1 s1 (xs ++ [d]) (vs ++ [v]) _ _ fr wd ((r0.on fr).append (Reps.one rp)) fun x => by
    have := hs x
    have := q x
    constructor
    · omega
    · intro z
      have := (hs x).2 (by omega)
      omega
  refine ⟨h1, _, _, h3, h2, fun x => ?_⟩
  have := q x
  omega
end
end Zm
set_option Elab.async false
set_option linter.all false
set_option maxRecDepth 100000
set_option autoImplicit false
/-! Z5: functions: what a def promises by its machine, calls, the law's own call. -/
namespace Zm
open PySem PySem.Spec PyProof.Rows L2
theorem takes0N {X : Cx} : L2N.Takes X (fun _ _ _ _ => False) := fun _ _ x => by
  obtain ⟨_, _, _, _, _, _, _, _, _, _, _, _, _, _, _, _, w⟩ := x
  exact w.elim
/-- a def's promise where no repr is under way -/
structure FnG (P : Program) (w : World) (K : PySem.W.Frag) (mg : Str → Option Value) (base : Heap) (k : Nat) (f : Addr) (fd : FuncData) (ps : List Str) (sp : Sp) : Prop where
  len : ∀ vs H Q E, sp vs H Q E → vs.length = ps.length
  run : ∀ (A : Around) (out : List PySem.Env) (s : Shared) (H : Hp) (args : Args) (us : List Value) (vs : List V) (Q : VK) (E : XK),
    Room k A → A.guards = some [] → Env0 P w K mg base A out s H → BindsTo s fd args (ps.zip us) → Vals vs us →
    sp vs H Q E → codeAny (model P w) A (.call (.ref f) args) (CR (L2N.CX P w) out P w H s Q E) s
section
variable {P : Program} {w : World} {K : PySem.W.Frag} {mg : Str → Option Value} {base : Heap}
theorem FnG.mono {j k : Nat} {f : Addr} {fd : FuncData} {ps : List Str} {sp : Sp} (F : FnG P w K mg base j f fd ps sp) (h : j ≤ k) : FnG P w K mg base k f fd ps sp :=
  ⟨F.len, fun A out s H args us vs Q E hr => F.run A out s H args us vs Q E (hr.mono h)⟩
/-- the context of a def's body -/
abbrev cxG (P : Program) (w : World) (K : PySem.W.Frag) (mg : Str → Option Value) (base : Heap) (N : List Str) (qual : Str) (scope : Scope) (f : Addr) (cd : Value) (A : Around) (out : List PySem.Env) (s : Shared) (H : Hp) (E : XK) : Cx :=
  cxOf (L2N.CX P w) P w K mg base N qual scope f cd A out s H E
theorem fnG_of {k : Nat} {f : Addr} {name qual : Str} {params : Arguments} {body : List Stmt} {scope : Scope} {dV kV doc pm cdv ct oc : Value} {an od : Option Addr} {osl : Array (Option Value)} {N ps : List Str} {sp : Sp}
    (lk : K.lookup f = some ⟨oc, od, .func (PySem.W.fnOf name qual params body scope dV kV doc pm an cdv ct), osl⟩)
    (hcd : PySem.W.codeIn K cdv qual = true) (S : FnScope N ps scope)
    (len : ∀ vs H Q E, sp vs H Q E → vs.length = ps.length)
    (hb : ∀ (A : Around) (out : List PySem.Env) (s : Shared) (H : Hp) (vs : List V) (Q : VK) (E : XK),
      Room k (A.deeper (envOfC qual scope s.heap.objs.size f cdv)) → A.guards = some [] → sp vs H Q E →
      ∃ t, PSs (cxG P w K mg base N qual scope f cdv A out s H E) body t ∧ t { nx := fun _ H' => Q .non H', rt := Q } (start N vs) H) :
    FnG P w K mg base (k + 1) f (PySem.W.fnOf name qual params body scope dV kV doc pm an cdv ct) ps sp := by
  refine ⟨len, ?_⟩
  intro A out s H args us vs Q E room gd ent binds vals want
  have nvs := len _ _ _ _ want
  have kin : K.In s.heap :=
    ent.mod.kin.keeps fun b o e => (ent.bs b o e).1
  have nol : s.heap.NoLimit :=
    ent.mod.nolimit.keeps fun b o e => (ent.bs b o e).1
  have kinds : ∀ y ∈ ps.zip us, scope.names.lookup y.1 = some .local ∨
      (scope.names.lookup y.1 = some .cell ∧ ((cellsFrom (s.heap.objs.size + 1) scope.names []).lookup y.1).isSome = true) := by
    rintro ⟨n, v⟩ hy
    have hn := (List.of_mem_zip hy).1
    cases S.par n hn with
    | inl q => exact .inl q
    | inr q => exact .inr ⟨q, PySem.W.cellsFrom_some _ _ _ (.inl q)⟩
  refine codeAny_call_function room.depth (kin _ _ lk) rfl S.co S.gen rfl
    (PySem.W.codeRec_of kin hcd) (binds _ _ _ _ ?_)
  refine wpAny_newFunctionEnv_cells S.kind kinds ?_
  intro env he s1 x
  subst he
  obtain ⟨t, ht, hq⟩ := hb A out s H vs Q E (room.deeper _) gd want
  have inv0 : Inv (cxG P w K mg base N qual scope f cdv A out s H E) [] (start N vs) H s1 :=
    inv_start S room.hd ent nvs vals x
  refine ⟨nol.keeps x.toInCall.keep, codeAny_func (wpAny_mono (ht.run [] s1 (start N vs) H _ inv0 hq) ?_ (fun _ _ z => z))⟩
  intro fl s' hs
  cases fl with
  | brk => obtain ⟨_, _, _, z⟩ := hs; exact z.elim
  | cont => obtain ⟨_, _, _, z⟩ := hs; exact z.elim
  | next =>
    obtain ⟨σ', H', J, z⟩ := hs
    exact ⟨.non, H', J.os, J.bare, J.base, J.hok, rfl, z⟩
  | ret u =>
    obtain ⟨v, σ', H', J, rv, z⟩ := hs
    exact ⟨v, H', J.os, J.bare, J.base, J.hok, rv, z⟩
end
section
variable {X : Cx} {k : Nat} {f : Addr} {fd : FuncData} {ps : List Str} {sp : Sp} {E : L2.St → XK} {x : Str} {p pos : Pos} {e : Expr} {es : List Expr} {t : TA}
theorem run_fnG {pins : List (Addr × Obj)} {σ : L2.St} {H : Hp} {s : Shared} {Q : VK} {us : List Value} {vs : List V} (F : FnG X.prog X.w X.K X.mg X.base k f fd ps sp) (hr : Room k X.A) (hg : X.A.guards = some [])
    (hb : Binds X.K fd ps []) (hx : PassesAt (L2N.CX X.prog X.w) X σ (E σ)) (I : Inv X pins σ H s) (r : Vals vs us) (h : sp vs H Q (E σ)) :
    wpAny (model X.prog X.w) X.A (call (.ref f) us) (EP X pins σ Q) X.xe s := by
  have nus : us.length = ps.length := r.length ▸ F.len _ _ _ _ h
  have bnd := hb s us I.kIn (by simpa using nus)
  simp only [List.append_nil] at bnd
  refine wpAny_call (codeAny_mono (F.run X.A X.stack s H ⟨us, []⟩ us vs Q (E σ) hr hg I.env0 bnd r h) ?_)
  intro res s' hq
  match res, hq with
  | .error e, hq => exact hx pins H s e s' I hq
  | .ok (.ret u), hq => exact I.after hq
  | .ok .next, hq => exact hq.elim
  | .ok .brk, hq => exact hq.elim
  | .ok .cont, hq => exact hq.elim
theorem pe_callG (F : FnG X.prog X.w X.K X.mg X.base k f fd ps sp) (hr : Room k X.A) (hgd : X.A.guards = some []) (hg : Gl X x) (hm : X.mg x = some (.ref f)) (hk : PySem.W.keepIn X.K (.ref f) = true) (hb : Binds X.K fd ps [])
    (hx : ∀ σ, PassesAt (L2N.CX X.prog X.w) X σ (E σ)) (ha : PA X (e :: es) t) (hdb : (x == ("__debug__" : Str)) = false := by decide)
    (he : starEach (e :: es) X.env = (false, eval e X.env) :: starEach es X.env := by rfl) (hpl : (backTo pos (starEach es X.env)).any (·.1) = false := by rfl) :
    PE X (.Call (.Name x p) (e :: es) [] pos) (tCallS sp E t) := by
  constructor
  intro pins s σ H Q I h
  refine wpAny_Call_Name_kw (ld_glob I hg hm ?_ hdb)
  refine PySem.W.callWith_K (h₀ := X.base) I.ok.mod.kin hk (thn (ha.run pos pins s σ H _ I h) ?_) he hpl
  rintro us s1 ⟨vs, H1, I1, r, q⟩
  exact ⟨I1.kIn, run_fnG F hr hgd hb (hx σ) I1 r q⟩
end
/-! ### the machine's promise -/
section
variable (K : PySem.W.Frag) (mg : Str → Option Value)
def oF (a f : Cnt) (H : Hp) (ρ : List Addr) (Q : VK) (E : XK) : R D → Prop
  | .ok d s' => ∀ v H' ρ' a' f', Fr a H H' ρ ρ' → Wd K mg ρ' s' H' → Rep K mg H' ρ' d v a' f' → Out a f H a' f' → Q v H'
  | .ex x s' => ∀ cls dd H' ρ', Fr a H H' ρ ρ' → Wd K mg ρ' s' H' → RepX mg H' x cls dd → E cls dd H'
  | .bad => False
def spF (m : Fn) : Sp := fun vs H Q E => ∃ ds s ρ a f, Wd K mg ρ s H ∧ Reps K mg H ρ ds vs a f ∧ Sp1 a f ∧ oF K mg a f H ρ Q E (m ds s)
end
/-- np parameters, ns slots -/
def mkFn (np ns : Nat) (body : MS) : Fn := fun ds s => if ds.length = np then match body (ds.map some ++ List.replicate (ns - np) none) s with
    | .rt d s' => .ok d s'
    | .nx _ s' => .ok .non s'
    | .ex x _ s' => .ex x s'
    | _ => .bad
  else .bad
@[simp] def mCall (f : Fn) (ms : List M) : M := fun σ s => (mArgs ms σ s).bind f
section
variable {K : PySem.W.Frag} {mg : Str → Option Value} {H : Hp} {ρ : List Addr}
theorem EnvR.start : ∀ {ds : List D} {vs : List V} {a f : Cnt} (n : Nat), Reps K mg H ρ ds vs a f → EnvR K mg H ρ (ds.map some ++ List.replicate n none) (vs.map some ++ List.replicate n none) a f
  | _, _, a, f, 0, .nil h1 h2 => .nil h1 h2
  | _, _, a, f, n + 1, .nil h1 h2 => by
    show EnvR K mg H ρ (none :: List.replicate n none) (none :: List.replicate n none) a f
    exact .no (EnvR.start n (.nil h1 h2))
  | _, _, _, _, n, .cons h t e1 e2 => .yes h (EnvR.start n t) e1 e2
theorem spF_len {m : Fn} {np : Nat} (har : ∀ ds s, ds.length ≠ np → m ds s = .bad) {vs : List V} {Q : VK} {E : XK} (h : spF K mg m vs H Q E) : vs.length = np := by
  obtain ⟨ds, s, ρ, a, f, wd, rp, sp, h⟩ := h
  rw [← rp.length]
  by_cases q : ds.length = np
  · exact q
  · rw [har ds s q] at h; exact h.elim
theorem mkFn_ar {np ns : Nat} {body : MS} : ∀ ds s, ds.length ≠ np → mkFn np ns body ds s = .bad := fun ds s h => by unfold mkFn; rw [if_neg h]
theorem body_of {N : List Str} {np ns : Nat} {body : MS} {vs : List V} {Q : VK} {E : XK} (hN : N.length = ns) (hnp : np ≤ ns) (h : spF K mg (mkFn np ns body) vs H Q E) :
    rS K mg (fun cls dd _ H => E cls dd H) body { nx := fun _ H' => Q .non H', rt := Q } (L2.start N vs) H := by
  have hl := spF_len mkFn_ar h
  obtain ⟨ds, s, ρ, a, f, wd, rp, sp, h⟩ := h
  have hd : ds.length = np := by rw [rp.length, hl]
  unfold mkFn at h
  rw [if_pos hd] at h
  have es : EnvR K mg H ρ (ds.map some ++ List.replicate (ns - np) none) (L2.start N vs) a f := by
    unfold L2.start
    rw [hN, hl]
    exact EnvR.start _ rp
  refine ⟨ds.map some ++ List.replicate (ns - np) none, s, ρ, a, f, ⟨es, wd, sp⟩, ?_⟩
  · cases e : body (ds.map some ++ List.replicate (ns - np) none) s with
    | nx σ' s' =>
      rw [e] at h
      exact fun σ' H' ρ' A' F' fr rel n => h .non H' ρ' c0 c0 fr rel.wd (.non (fun _ => rfl) (fun _ => rfl)) (.zero (fun _ => rfl) (fun _ => rfl))
    | rt d s' => rw [e] at h; exact h
    | bk σ s => rw [e] at h; exact h.elim
    | ct σ s => rw [e] at h; exact h.elim
    | bad => rw [e] at h; exact h.elim
    | ex x σ s' =>
      rw [e] at h
      exact fun cls dd σ' H' ρ' A' F' fr rel n rx => h cls dd H' ρ' fr rel.wd rx
theorem rE_call {W : WX} {σ : L2.St} {H : Hp} {Q : VK} {fn : Fn} {ms : List M} (h : rE K mg W (mCall fn ms) σ H Q) : rA K mg W (mArgs ms) σ H fun vs H1 => spF K mg fn vs H1 Q (WE W σ) := by
  obtain ⟨σm, s, ρ, A, F, rel, h⟩ := h
  refine ⟨σm, s, ρ, A, F, rel, ?_⟩
  unfold mCall at h
  cases e : mArgs ms σm s with
  | bad => rw [e] at h; exact h
  | ex x s1 => rw [e] at h; exact h
  | ok ds s1 =>
    rw [e, Zm.R.bind_ok] at h
    intro vs H1 ρ1 a f fr wd rp g
    refine ⟨ds, s1, ρ1, a, f, wd, rp, g.sp, ?_⟩
    cases e2 : fn ds s1 with
    | bad => rw [e2] at h; exact h
    | ex x s2 =>
      rw [e2] at h
      exact fun cls dd H2 ρ2 fr2 wd2 rx => h cls dd H2 ρ2 (fr.trans fr2 fun x z => .inr ((g x).2.1 z).2) wd2 rx
    | ok d s2 =>
      rw [e2] at h
      exact fun v H2 ρ2 a' f' fr2 wd2 rp2 o => h v H2 ρ2 a' f' (fr.trans fr2 fun x z => .inr ((g x).2.1 z).2) wd2 rp2 (g.out fr o)
end
/-- a def of the text keeps its machine's promise -/
structure FnM (P : Program) (w : World) (K : PySem.W.Frag) (mg : Str → Option Value) (base : Heap) (k : Nat) (x : Str) (ps : List Str) (m : Fn) : Prop where
  ex : ∃ f fd, mg x = some (.ref f) ∧ PySem.W.keepIn K (.ref f) = true ∧ Binds K fd ps [] ∧ FnG P w K mg base k f fd ps (spF K mg m) ∧ ∃ oc od osl, K.lookup f = some ⟨oc, od, .func fd, osl⟩
section
variable {P : Program} {w : World} {K : PySem.W.Frag} {mg : Str → Option Value} {base : Heap}
theorem FnM.mono {j k : Nat} {x : Str} {ps : List Str} {m : Fn} (F : FnM P w K mg base j x ps m) (h : j ≤ k) : FnM P w K mg base k x ps m := by
  obtain ⟨f, fd, a, b, c, d, e⟩ := F.ex
  exact ⟨f, fd, a, b, c, d.mono h, e⟩
theorem fnM_mk {x qual : Str} {st : Stmt} {f : Addr} {fd : FuncData} {N ps : List Str} {k np ns : Nat} {body : MS} (F : Fun K x qual st f fd) (S : FnScope N ps (defScope st)) (hm : mg x = some (.ref f)) (hb : Binds K fd ps [])
    (h : ∀ (cdv : Value) (A : Around) (out : List PySem.Env) (s : Shared) (H : Hp) (E : XK), Room k (A.deeper (envOfC qual (defScope st) s.heap.objs.size f cdv)) → A.guards = some [] →
      SSs (cxG P w K mg base N qual (defScope st) f cdv A out s H E) (fun cls dd _ H => E cls dd H) (defBody st) body)
    (hN : N.length = ns := by rfl) (hps : ps.length = np := by rfl) (hnp : np ≤ ns := by decide) : FnM P w K mg base (k + 1) x ps (mkFn np ns body) := by
  refine ⟨f, fd, hm, F.kp, hb, ?_⟩
  obtain ⟨oc, od, kV, doc, pm, an, cdv, ct, osl, rfl, lk, hcd⟩ := F.ex
  refine ⟨?_, oc, od, osl, lk⟩
  refine fnG_of lk hcd S (fun vs H Q E q => by rw [spF_len mkFn_ar q, hps]) fun A out s H vs Q E hr hg q => ?_
  exact ⟨_, h cdv A out s H E hr hg, body_of hN hnp q⟩
end
section
variable {X : Cx} {W : WX} {e : Expr} {es : List Expr} {ms : List M} {k : Nat} {x : Str} {ps : List Str} {m : Fn} {p pos : Pos}
theorem s_call (F : FnM X.prog X.w X.K X.mg X.base k x ps m) (hr : Room k X.A) (hgd : X.A.guards = some []) (tk : L2N.Takes X W) (ha : SA X W (e :: es) ms) (hg : Gl X x := by rfl) (hdb : (x == ("__debug__" : Str)) = false := by decide)
    (he : starEach (e :: es) X.env = (false, eval e X.env) :: starEach es X.env := by rfl) (hpl : (backTo pos (starEach es X.env)).any (·.1) = false := by rfl) : SE X W (.Call (.Name x p) (e :: es) [] pos) (mCall m ms) := by
  obtain ⟨f, fd, a, b, c, d, _⟩ := F.ex
  exact PE.imp (pe_callG d hr hgd hg a b c (E := WE W) (fun σ => L2N.passAt tk σ) ha hdb he hpl) fun σ H Q h => rE_call h
end
end Zm
set_option Elab.async false
set_option linter.all false
set_option maxRecDepth 100000
set_option autoImplicit false
/-! Z6: targets, what is walked, loops, comprehensions. -/
namespace Zm
open PySem PySem.Spec PyProof.Rows L2
inductive Tg where
  | nm (i : Nat) | t2 (a b : Tg) | t3 (a b c : Tg) | l (is : List Nat)
/-- names, one by one -/
def bindN : List Nat → List D → Env → Option Env
  | [], [], σ => some σ
  | i :: is, x :: xs, σ => if i < σ.length then bindN is xs (σ.set i (some x)) else none
  | _, _, _ => none
def Tg.bind : Tg → D → Env → Option Env
  | .nm i, d, σ => if i < σ.length then some (σ.set i (some d)) else none
  | .t2 a b, .tup [x, y], σ => (a.bind x σ).bind fun σ1 => b.bind y σ1
  | .t3 a b c, .tup [x, y, z], σ => (a.bind x σ).bind fun σ1 => (b.bind y σ1).bind fun σ2 => c.bind z σ2
  | .l is, .lst _ xs, σ => bindN is xs σ
  | .l is, .tup xs, σ => bindN is xs σ
  | _, _, _ => none
def Tg.slots : Tg → List Nat
  | .nm i => [i]
  | .t2 a b => a.slots ++ b.slots
  | .t3 a b c => a.slots ++ (b.slots ++ c.slots)
  | .l is => is
def Chg (ss : List Nat) (σ σ' : L2.St) : Prop := σ'.length = σ.length ∧ ∀ j, j ∉ ss → σ'[j]? = σ[j]?
theorem Chg.trans {ss ss' : List Nat} {σ σ1 σ2 : L2.St} (a : Chg ss σ σ1) (b : Chg ss' σ1 σ2) : Chg (ss ++ ss') σ σ2 := ⟨b.1.trans a.1, fun j hj => by
  rw [List.mem_append] at hj
  exact (b.2 j fun z => hj (.inr z)).trans (a.2 j fun z => hj (.inl z))⟩
/-- what a target's store promises -/
def rG (K : PySem.W.Frag) (mg : Str → Option Value) (tg : Tg) : TG := fun v σ H Q => ∃ σm s ρ A F d f, Rel K mg σm s σ H ρ A F ∧ Rep K mg H ρ d v c0 f ∧ (∀ x, 1 ≤ f x → A x = 0) ∧ ∃ σ1, tg.bind d σm = some σ1 ∧
  ∀ σ' A' F', Rel K mg σ1 s σ' H ρ A' F' → (∀ x, A' x ≤ A x ∧ (1 ≤ F' x → 1 ≤ F x ∨ 1 ≤ f x)) → Chg tg.slots σ σ' → Q σ' H
def SG (X : Cx) (e : Expr) (tg : Tg) : Prop := PG X e (rG X.K X.mg tg)
theorem PG.imp {X : Cx} {e : Expr} {t t' : TG} (h : PG X e t) (q : ∀ v σ H Q, t' v σ H Q → t v σ H Q) : PG X e t' := ⟨fun pins s σ H v u Q I r w => h.run pins s σ H v u Q I r (q v σ H Q w)⟩
section
variable {X : Cx} {pos : Pos}
theorem sg_nm (i : Nat) {x : Str} (nd : X.N.Nodup) (hi : X.N[i]? = some x := by rfl) (hx : Loc X.env.scope x := by first | exact .inl rfl | exact .inr rfl) (hf : X.fn x = true ∨ X.env.scope.names.lookup x = some .local := by first | exact .inl rfl | exact .inr rfl) : SG X (.Name x pos) (.nm i) :=
  PG.imp (pg_name nd hi hx hf) fun v σ H Q ⟨σm, s, ρ, A, F, d, f, rel, rp, dj, σ1, e, h⟩ => by
    unfold Tg.bind at e
    split at e
    · rename_i hi
      cases e
      obtain ⟨A', F', e', le, _⟩ := rel.env.set i rp hi
      refine h _ A' F' ⟨e', rel.wd, fun x => ?_⟩ (fun x => ?_) ?_
      · have := le x
        have s0 := rel.sep x
        have z0 : c0 x = 0 := rfl
        refine ⟨by omega, fun y => ?_⟩
        have := s0.2 (by omega)
        by_cases w : 1 ≤ f x
        · have := dj x w; omega
        · omega
      · have := le x
        have z0 : c0 x = 0 := rfl
        exact ⟨by omega, fun y => by omega⟩
      · exact ⟨by simp, fun j hj => List.getElem?_set_ne (fun z => hj (by simp [Tg.slots, z]))⟩
    · cases e
end
/-! ### what is walked -/
/-- the iterator J gives the trees ds, one a turn, as long as what they stand on is left alone -/
def ItOK (K : PySem.W.Frag) (mg : Str → Option Value) (J : It) (ds : List D) (H : Hp) (ρ : List Addr) (f : Cnt) : Prop :=
  (∀ x, 1 ≤ f x → ∃ o, H x = some o) ∧ ∃ (G : Hp → Prop) (Y : Nat → Hp → V → Hp → Prop), Walk J ds.length G Y ∧
    ∀ (Mc : Cnt) (H1 : Hp) (ρ1 : List Addr), Fr Mc H H1 ρ ρ1 → (∀ x, 1 ≤ Mc x → f x = 0) → G H1 ∧
      ∀ (i : Nat) (d : D) (x : V) (H2 : Hp), ds[i]? = some d → Y i H1 x H2 → Same H1 H2 ∧ ∃ f', Rep K mg H2 ρ1 d x c0 f' ∧ ∀ p, f' p ≤ f p
abbrev Src := Env → Sto → R (List D)
section
variable (K : PySem.W.Frag) (mg : Str → Option Value) (W : WX)
def oI (σ : L2.St) (A F : Cnt) (H : Hp) (ρ : List Addr) (z : Bool) (Q : It → Hp → Prop) : R (List D) → Prop
  | .ok ds s' => ∀ J H' ρ' f, Fr c0 H H' ρ ρ' → Wd K mg ρ' s' H' → ItOK K mg J ds H' ρ' f → (∀ x, 1 ≤ f x → z = false ∧ (1 ≤ A x ∨ 1 ≤ F x ∨ H x = none)) → Q J H'
  | .ex x s' => ∀ cls dd H' ρ', Fr c0 H H' ρ ρ' → Wd K mg ρ' s' H' → RepX mg H' x cls dd → W cls dd σ H'
  | .bad => False
def rI (z : Bool) (m : Src) : TI := fun σ H Q => ∃ σm s ρ A F, Rel K mg σm s σ H ρ A F ∧ oI K mg W σ A F H ρ z Q (m σm s)
end
/-- z: nothing that may be changed is walked -/
def SI (X : Cx) (W : WX) (z : Bool) (tg iter : Expr) (m : Src) : Prop := PI X tg iter (rI X.K X.mg W z m)
theorem PI.imp {X : Cx} {tg e : Expr} {t t' : TI} (h : PI X tg e t) (q : ∀ σ H Q, t' σ H Q → t σ H Q) : PI X tg e t' := ⟨fun pins s σ H Q I w => h.run pins s σ H Q I (q σ H Q w)⟩
def rng (lo hi step : Int) (n : Nat) : List D := (List.range n).map fun i => .int (lo + (i : Nat) * step)
def big (i : Int) : Bool := decide (-(2 ^ 62) ≤ i ∧ i < 2 ^ 62)
def iR1 (ms : List M) : Src := fun σ s => (mArgs ms σ s).bind fun ds s' => match ds with
  | [.int j] => if big j = true then .ok (rng 0 j 1 j.toNat) s' else .bad
  | _ => .bad
section
variable {K : PySem.W.Frag} {mg : Str → Option Value} {H : Hp} {ρ : List Addr}
theorem it_range {lo : Int} {n : Nat} {hi : Int} : ItOK K mg (Itr lo n) (rng lo hi 1 n) H ρ c0 := by
  refine ⟨fun _ hx => no0 hx, fun _ => True, YFn fun i => .int (lo + i), by unfold rng; rw [List.length_map, List.length_range]; exact walk_range, fun Mc H1 ρ1 fr hm => ⟨trivial, fun i d x H2 e y => ?_⟩⟩
  obtain ⟨rfl, rfl⟩ := y
  unfold rng at e
  rw [List.getElem?_map] at e
  have hi : i < n := by
    by_cases z : i < n
    · exact z
    · rw [List.getElem?_eq_none (by simpa using z)] at e; cases e
  rw [List.getElem?_range hi] at e
  simp at e; subst e
  exact ⟨fun _ _ h => h, c0, .int (fun _ => rfl) (fun _ => rfl), fun _ => Nat.le_refl _⟩
end
end Zm
set_option Elab.async false
set_option linter.all false
set_option maxRecDepth 100000
set_option autoImplicit false
/-! Z7: loops and comprehensions by machine. -/
namespace Zm
open PySem PySem.Spec PyProof.Rows L2
def forR (tg : Tg) (body : MS) : List D → Env → Sto → RS
  | [], σ, s => .nx σ s
  | d :: ds, σ, s => match tg.bind d σ with
    | none => .bad
    | some σ1 => match body σ1 s with
      | .nx σ2 s2 => forR tg body ds σ2 s2
      | .ct σ2 s2 => forR tg body ds σ2 s2
      | .bk σ2 s2 => .nx σ2 s2
      | r => r
def mFor (msk : List Bool) (src : Src) (tg : Tg) (body : MS) : MS := fun σ s => (src (restr msk σ) s).to σ fun ds s' => forR tg body ds (frzE msk σ) s'
def mForP (src : Src) (tg : Tg) (body : MS) : MS := fun σ s => (src σ s).to σ fun ds s' => forR tg body ds σ s'
@[simp] def wipeE (σ : Env) : List Nat → Env
  | [] => σ
  | v :: vs => (wipeE σ vs).set v none
def lcR (tg : Tg) (t : T) (m : M) (σ : Env) : List D → List D → Sto → R D
  | [], acc, s => .ok (.lst true acc) s
  | d :: ds, acc, s => match tg.bind d σ with
    | none => .bad
    | some σ1 => match t σ1 s with
      | .ok b s1 => if b = true then match m σ1 s1 with
          | .ok x s2 => if acc.length < sizeLine then lcR tg t m σ ds (acc ++ [x]) s2 else .bad
          | _ => .bad
        else lcR tg t m σ ds acc s1
      | _ => .bad
@[simp] def tTrue : T := fun _ s => .ok true s
def Tg.within (tg : Tg) (vs : List Nat) : Bool := tg.slots.all fun i => vs.contains i
@[simp] def fzE (σ : Env) : Env := σ.map fun o => o.map fz
def mLc (src : Src) (tg : Tg) (vs : List Nat) (t : T) (m : M) : M := fun σ s => (src σ s).bind fun ds s' => if tg.within vs = true then lcR tg t m (wipeE (fzE σ) vs) ds [] s' else .bad
section
variable {K : PySem.W.Frag} {mg : Str → Option Value} {W : WX} {H H1 : Hp} {ρ ρ1 : List Addr} {σm σ0 : Env} {σ : L2.St} {s s1 : Sto} {A F A0 F0 f : Cnt} {Ds : Ends} {tg : Tg} {body : MS}
theorem for_core {J : It} {items : List D} (it : ItOK K mg J items H1 ρ1 f) (rel0 : Rel K mg σ0 s1 σ H1 ρ1 A0 F0) (fr0 : Fr A H H1 ρ ρ1) (n0 : Nx A F H A0 F0) (hf0 : ∀ x, 1 ≤ f x → A0 x = 0) (hfp : ∀ x, 1 ≤ f x → 1 ≤ A x ∨ 1 ≤ F x ∨ H x = none)
    (h : oS K mg W A F H ρ Ds (forR tg body items σ0 s1)) :
    ∃ W' : Nat → Nat → L2.St → Hp → Prop, (∃ m, W' 0 m σ H1) ∧ ∀ i m σ H, W' i m σ H →
      (J.stop i H ∧ Ds.nx σ H) ∨ (J.go i H ∧ ∃ N : L2.St → Hp → Prop, (∀ σ' H', N σ' H' → ∃ m', m' < m ∧ W' (i + 1) m' σ' H') ∧ ∀ x H', J.yld i H x H' → rG K mg tg x σ H' fun σ2 H2 => rS K mg W body { Ds with nx := N, ct := N, bk := Ds.nx } σ2 H2) := by
  obtain ⟨hft, G, Y, wk, st⟩ := it
  refine for_it wk (fun i σ' H' => ∃ σm' s' ρ' A' F', Rel K mg σm' s' σ' H' ρ' A' F' ∧ Fr A0 H1 H' ρ1 ρ' ∧ (∀ x, 1 ≤ A' x → 1 ≤ A0 x ∨ H1 x = none) ∧ Nx A F H A' F' ∧ oS K mg W A F H ρ Ds (forR tg body (items.drop i) σm' s'))
    ⟨σ0, s1, ρ1, A0, F0, rel0, .refl, fun x z => .inl z, n0, by simpa using h⟩ ?_ ?_ ?_
  · rintro i σ' H' _ ⟨σm', s', ρ', A', F', rel', fr', o', n', h'⟩
    exact (st A0 H' ρ' fr' fun x z => Nat.eq_zero_of_not_pos fun w => by have := hf0 x w; omega).1
  · rintro i x σ' H' H2 hi ⟨σm', s', ρ', A', F', rel', fr', o', n', h'⟩ hy
    have hit : items[i]? = some items[i] := List.getElem?_eq_getElem hi
    obtain ⟨sm, f', rp, le⟩ := (st A0 H' ρ' fr' fun x z => Nat.eq_zero_of_not_pos fun w => by have := hf0 x w; omega).2 i _ x H2 hit hy
    rw [List.drop_eq_getElem_cons hi] at h'
    unfold forR at h'
    have dj : ∀ x, 1 ≤ f' x → A' x = 0 := fun x z => by
      have := le x
      by_cases w : 1 ≤ A' x
      · rcases o' x w with u | u
        · have := hf0 x (by omega); omega
        · obtain ⟨o, ho⟩ := hft x (by omega)
          rw [u] at ho; cases ho
      · omega
    cases eb : tg.bind items[i] σm' with
    | none => simp only [eb] at h'; exact h'.elim
    | some σ1 =>
      simp only [eb] at h'
      refine ⟨σm', s', ρ', A', F', _, f', rel'.next (Fr.of_same sm) (rel'.wd.same sm), rp, dj, σ1, eb, fun σ2 A2 F2 rel2 le2 _ => ⟨σ1, s', ρ', A2, F2, rel2, ?_⟩⟩
      -- what the body's end gives
      have fin : ∀ {σ3 : Env} {s3 : Sto} {σ'' : L2.St} {H'' : Hp} {ρ'' : List Addr} {A3 F3 : Cnt}, Fr A2 H2 H'' ρ' ρ'' → Rel K mg σ3 s3 σ'' H'' ρ'' A3 F3 → Nx A2 F2 H2 A3 F3 →
          Fr A0 H1 H'' ρ1 ρ'' ∧ (∀ x, 1 ≤ A3 x → 1 ≤ A0 x ∨ H1 x = none) ∧ Nx A F H A3 F3 ∧ Fr A H H'' ρ ρ'' := fun {σ3 s3 σ'' H'' ρ'' A3 F3} fr3 rel3 n3 => by
        have e1 : Fr A0 H1 H2 ρ1 ρ' := fr'.trans (Fr.of_same (Mc := c0) sm) fun _ z => no0 z
        have e2 : Fr A0 H1 H'' ρ1 ρ'' := e1.trans fr3 fun x z => o' x (by have := le2 x; omega)
        have e3 : ∀ x, 1 ≤ A3 x → 1 ≤ A0 x ∨ H1 x = none := fun x z => by
          rcases (n3 x).1 z with w | w
          · exact o' x (by have := le2 x; omega)
          · exact .inr (e1.there x w)
        have e4 : Fr A H H2 ρ ρ' := fr0.trans e1 fun x z => (n0 x).1 z
        have e5 : Nx A F H A2 F2 := fun x => by
          have l2 := le2 x
          obtain ⟨p, q⟩ := n' x
          refine ⟨fun z => p (by omega), fun z => ?_⟩
          rcases l2.2 z with w | w
          · exact q w
          · exact hfp x (by have := le x; omega)
        exact ⟨e2, e3, e5.trans e4 n3, e4.trans fr3 fun x z => (e5 x).1 z⟩
      cases ebd : body σ1 s' with
      | bad => simp only [ebd] at h'; exact h'.elim
      | nx σ3 s3 =>
        simp only [ebd] at h'
        exact fun σ'' H'' ρ'' A3 F3 fr3 rel3 n3 => let ⟨e2, e3, e5, _⟩ := fin fr3 rel3 n3; ⟨σ3, s3, ρ'', A3, F3, rel3, e2, e3, e5, h'⟩
      | ct σ3 s3 =>
        simp only [ebd] at h'
        exact fun σ'' H'' ρ'' A3 F3 fr3 rel3 n3 => let ⟨e2, e3, e5, _⟩ := fin fr3 rel3 n3; ⟨σ3, s3, ρ'', A3, F3, rel3, e2, e3, e5, h'⟩
      | bk σ3 s3 =>
        simp only [ebd] at h'
        exact fun σ'' H'' ρ'' A3 F3 fr3 rel3 n3 => let ⟨_, _, e5, e6⟩ := fin fr3 rel3 n3; h' σ'' H'' ρ'' A3 F3 e6 rel3 e5
      | rt d s3 =>
        simp only [ebd] at h'
        intro v H'' ρ'' a3 f3 fr3 wd3 rp3 o3
        have e1 : Fr A0 H1 H2 ρ1 ρ' := fr'.trans (Fr.of_same (Mc := c0) sm) fun _ z => no0 z
        have e4 : Fr A H H2 ρ ρ' := fr0.trans e1 fun x z => (n0 x).1 z
        have e5 : Nx A F H A2 F2 := fun x => by
          have l2 := le2 x
          obtain ⟨p, q⟩ := n' x
          refine ⟨fun z => p (by omega), fun z => ?_⟩
          rcases l2.2 z with w | w
          · exact q w
          · exact hfp x (by have := le x; omega)
        exact h' v H'' ρ'' a3 f3 (e4.thenN e5 fr3) wd3 rp3 (o3.stepN e4 e5)
      | ex x σ3 s3 =>
        simp only [ebd] at h'
        exact fun cls dd σ'' H'' ρ'' A3 F3 fr3 rel3 n3 rx => let ⟨_, _, e5, e6⟩ := fin fr3 rel3 n3; h' cls dd σ'' H'' ρ'' A3 F3 e6 rel3 e5 rx
  · rintro σ' H' ⟨σm', s', ρ', A', F', rel', fr', o', n', h'⟩
    rw [List.drop_length] at h'
    exact h' σ' H' ρ' A' F' (fr0.trans fr' fun x z => (n0 x).1 z) rel' n'
theorem Rel.frzd {msk : List Bool} {Am Fm Ar F2 : Cnt} (rel : Rel K mg σm s σ H ρ A F) (r2 : EnvR K mg H ρ (frzE msk σm) σ Ar F2) (q : ∀ x, A x = Am x + Ar x ∧ Fm x ≤ F x ∧ (1 ≤ F2 x → 1 ≤ F x ∨ 1 ≤ Am x)) : Rel K mg (frzE msk σm) s σ H ρ Ar F2 ∧ Nx A F H Ar F2 :=
  ⟨⟨r2, rel.wd, fun x => by
    have s0 := rel.sep x
    have q0 := q x
    refine ⟨by omega, fun z => ?_⟩
    have := s0.2 (by omega)
    by_cases w : 1 ≤ F2 x
    · have := q0.2.2 w; omega
    · omega⟩, fun x => by
    have q0 := q x
    refine ⟨fun z => .inl (by omega), fun z => ?_⟩
    rcases q0.2.2 z with w | w
    · exact .inr (.inl w)
    · exact .inl (by omega)⟩
end
section
variable {X : Cx} {W : WX} {tge iter c : Expr} {src : Src} {tg : Tg} {body : MS} {t : T} {m : M} {ss : List Stmt} {pos : Pos}
theorem ss_for (msk : List Bool) (hp : PassesOwn (model X.prog X.w) X.A X.env X.xe) (hc : X.calm = true) (hi : SI X W false tge iter src) (hg : SG X tge tg) (hb : SSs X W ss body) (hs : ∀ x, foldedSetIterable iter X.env x = pure x := by intro _; rfl) :
    SS X W (.For tge iter ss [] pos) (mFor msk src tg body) :=
  PS.imp (ps_for hp hc hi hg hb hs) fun D σ H ⟨σm, s, ρ, A, F, rel, h⟩ => by
    obtain ⟨Am, Fm, Ar, F2, r1, r2, q⟩ := rel.mask (msk := msk)
    refine ⟨_, s, ρ, Am, Fm, r1, ?_⟩
    unfold mFor at h
    cases e : src (restr msk σm) s with
    | bad => rw [e] at h; exact h
    | ex x s1 =>
      rw [e] at h
      exact fun cls dd H' ρ' fr wd rx => h cls dd σ H' ρ' A F fr.up (rel.next fr wd) .refl rx
    | ok items s1 =>
      rw [e] at h
      intro J H1 ρ1 f fr wd it hf
      obtain ⟨rel2, n2⟩ := rel.frzd r2 q
      have ev := rel.env.there
      refine for_core it (rel2.next fr wd) fr.up n2 (fun x z => ?_) (fun x z => ?_) h
      · have q0 := q x
        have s0 := rel.sep x
        by_cases w : 1 ≤ Ar x
        · rcases (hf x z).2 with u | u | u
          · omega
          · have := s0.2 (by omega); omega
          · obtain ⟨⟨o, ho⟩, _⟩ := ev x (by omega)
            rw [u] at ho; cases ho
        · omega
      · have q0 := q x
        rcases (hf x z).2 with u | u | u
        · exact .inl (by omega)
        · exact .inr (.inl (by omega))
        · exact .inr (.inr u)
theorem ss_forP (hp : PassesOwn (model X.prog X.w) X.A X.env X.xe) (hc : X.calm = true) (hi : SI X W true tge iter src) (hg : SG X tge tg) (hb : SSs X W ss body) (hs : ∀ x, foldedSetIterable iter X.env x = pure x := by intro _; rfl) :
    SS X W (.For tge iter ss [] pos) (mForP src tg body) :=
  PS.imp (ps_for hp hc hi hg hb hs) fun D σ H ⟨σm, s, ρ, A, F, rel, h⟩ => by
    refine ⟨_, s, ρ, A, F, rel, ?_⟩
    unfold mForP at h
    cases e : src σm s with
    | bad => rw [e] at h; exact h
    | ex x s1 =>
      rw [e] at h
      exact fun cls dd H' ρ' fr wd rx => h cls dd σ H' ρ' A F fr.up (rel.next fr wd) .refl rx
    | ok items s1 =>
      rw [e] at h
      intro J H1 ρ1 f fr wd it hf
      exact for_core it (rel.next fr wd) fr.up .refl (fun x z => Bool.noConfusion (hf x z).1) (fun x z => Bool.noConfusion (hf x z).1) h
end
end Zm
set_option Elab.async false
set_option linter.all false
set_option maxRecDepth 100000
set_option autoImplicit false
/-! Z8: list comprehensions. -/
namespace Zm
open PySem PySem.Spec PyProof.Rows L2
abbrev W0 : WX := fun _ _ _ _ => False
section
variable {K : PySem.W.Frag} {mg : Str → Option Value} {W : WX} {H H1 H4 : Hp} {ρ ρ1 : List Addr} {σm σ0 : Env} {σ : L2.St} {s s1 : Sto} {A F A0 F0 a f a2 f2 : Cnt}
theorem Gd.add (g : Gd A F H a f) (th : ∀ x, 1 ≤ a x + f x → ∃ o, H4 x = some o) (g2 : Gd A F H4 a2 f2) (n1 : ∀ x, H4 x = none → H x = none) (ev : ∀ x, 1 ≤ A x + F x → ∃ o, H x = some o) : Gd A F H (fun x => a x + a2 x) (fun x => f x + f2 x) := fun x => by
  obtain ⟨p1, p2, p3⟩ := g x
  obtain ⟨q1, q2, q3⟩ := g2 x
  have th := th x
  have ev := ev x
  have n1 := n1 x
  dsimp only
  by_cases ha : 1 ≤ a x
  · obtain ⟨o, ho⟩ := th (by omega)
    have z2 : a2 x = 0 := Nat.eq_zero_of_not_pos fun w => by have := (q2 w).2; rw [ho] at this; cases this
    have z3 : f2 x = 0 := Nat.eq_zero_of_not_pos fun w => by
      have hn := (p2 ha).2
      rcases q3 w with z | z | z
      · obtain ⟨o', ho'⟩ := ev (by omega); rw [hn] at ho'; cases ho'
      · obtain ⟨o', ho'⟩ := ev (by omega); rw [hn] at ho'; cases ho'
      · rw [ho] at z; cases z
    have := p2 ha
    exact ⟨by omega, fun _ => ⟨by omega, this.2⟩, fun h => by omega⟩
  · refine ⟨by omega, fun h => ?_, fun h => ?_⟩
    · have z := q2 (by omega)
      have zf : f x = 0 := Nat.eq_zero_of_not_pos fun w => by obtain ⟨o, ho⟩ := th (by omega); rw [z.2] at ho; cases ho
      exact ⟨by omega, n1 z.2⟩
    · by_cases z : 1 ≤ f x
      · exact p3 z
      · rcases q3 (by omega) with y | y | y
        · exact .inl y
        · exact .inr (.inl y)
        · exact .inr (.inr (n1 y))
theorem EnvR.fz : ∀ {σm : Env} {σ : L2.St} {A F : Cnt}, EnvR K mg H ρ σm σ A F → ∃ F', EnvR K mg H ρ (fzE σm) σ c0 F' ∧ ∀ x, 1 ≤ F' x → 1 ≤ A x + F x
  | _, _, _, _, .nil a f => ⟨c0, .nil (fun _ => rfl) (fun _ => rfl), fun _ z => no0 z⟩
  | _, _, _, _, .no t => let ⟨F', r, q⟩ := EnvR.fz t; ⟨F', .no r, q⟩
  | _, _, _, _, .yes h t e1 e2 => by
    obtain ⟨F1, r1, q1⟩ := h.fz
    obtain ⟨F2, r2, q2⟩ := EnvR.fz t
    refine ⟨fun x => F1 x + F2 x, .yes r1 r2 (fun _ => rfl) (fun _ => rfl), fun x hx => ?_⟩
    have hx : 1 ≤ F1 x + F2 x := hx
    rw [e1, e2]
    by_cases z : 1 ≤ F1 x
    · have := q1 x z; omega
    · have := q2 x (by omega); omega
theorem EnvR.unset : ∀ {σm : Env} {σ : L2.St} {A F : Cnt} (i : Nat), EnvR K mg H ρ σm σ A F → ∃ A' F', EnvR K mg H ρ (σm.set i none) (σ.set i none) A' F' ∧ ∀ x, A' x ≤ A x ∧ F' x ≤ F x
  | _, _, A, F, i, .nil a f => ⟨A, F, .nil a f, fun _ => ⟨Nat.le_refl _, Nat.le_refl _⟩⟩
  | _, _, A, F, 0, .no t => ⟨A, F, .no t, fun _ => ⟨Nat.le_refl _, Nat.le_refl _⟩⟩
  | _, _, A, F, i + 1, .no t => let ⟨A', F', r, q⟩ := EnvR.unset i t; ⟨A', F', .no r, q⟩
  | _, _, A, F, 0, .yes h t e1 e2 => ⟨_, _, .no t, fun x => by rw [e1, e2]; omega⟩
  | _, _, A, F, i + 1, .yes h t e1 e2 => by
    obtain ⟨A', F', r, q⟩ := EnvR.unset i t
    exact ⟨_, _, .yes h r (fun _ => rfl) (fun _ => rfl), fun x => by have := q x; rw [e1, e2]; omega⟩
theorem EnvR.wipe : ∀ {vs : List Nat}, EnvR K mg H ρ σm σ A F → ∃ A' F', EnvR K mg H ρ (wipeE σm vs) (L2.wipe σ vs) A' F' ∧ ∀ x, A' x ≤ A x ∧ F' x ≤ F x
  | [], h => ⟨A, F, h, fun _ => ⟨Nat.le_refl _, Nat.le_refl _⟩⟩
  | v :: vs, h => by
    obtain ⟨A', F', r, q⟩ := EnvR.wipe (vs := vs) h
    obtain ⟨A2, F2, r2, q2⟩ := r.unset v
    exact ⟨A2, F2, r2, fun x => by have := q x; have := q2 x; omega⟩
theorem wipe_get {σ : L2.St} {j : Nat} : ∀ {vs : List Nat}, (L2.wipe σ vs)[j]? = if j < σ.length then (if j ∈ vs then some none else σ[j]?) else none
  | [] => by
    unfold L2.wipe
    by_cases h : j < σ.length
    · rw [if_pos h, if_neg (by simp)]
    · rw [if_neg h]; simp; omega
  | v :: vs => by
    unfold L2.wipe
    rw [List.getElem?_set]
    by_cases h : j < σ.length
    · rw [if_pos h]
      by_cases e : v = j
      · subst e
        rw [if_pos rfl, if_pos (by rw [wipe_length]; exact h), if_pos (by simp)]
      · rw [if_neg e, wipe_get (vs := vs), if_pos h]
        by_cases m : j ∈ vs
        · rw [if_pos m, if_pos (by simp [m])]
        · rw [if_neg m, if_neg (by simp [m]; exact fun z => e z.symm)]
    · rw [if_neg h]
      split
      · rename_i e; subst e
        rw [if_neg (by rw [wipe_length]; exact h)]
      · rw [wipe_get (vs := vs), if_neg h]
theorem wipe_chg {σ σ' : L2.St} {ss vs : List Nat} (h : Chg ss (L2.wipe σ vs) σ') (hs : ∀ j ∈ ss, j ∈ vs) : L2.wipe σ' vs = L2.wipe σ vs := by
  apply List.ext_getElem?
  intro j
  have hl : σ'.length = σ.length := by rw [h.1, wipe_length]
  rw [wipe_get, wipe_get, hl]
  by_cases hj : j < σ.length
  · rw [if_pos hj, if_pos hj]
    by_cases m : j ∈ vs
    · rw [if_pos m, if_pos m]
    · rw [if_neg m, if_neg m, h.2 j fun z => m (hs j z), wipe_get, if_pos hj, if_neg m]
  · rw [if_neg hj, if_neg hj]
/-- a list of our own, kept apart, is written -/
theorem wd_upd {p : Addr} {l l' : List V} (wd : Wd K mg ρ s H) (hp : H p = some (.lst l)) (hn : p ∉ ρ) : Wd K mg ρ s (upd H p (.lst l')) ∧ Fr (cp p) H (upd H p (.lst l')) ρ ρ := by
  have fr : Fr (cp p) H (upd H p (.lst l')) ρ ρ := by
    refine ⟨fun x o q => ?_, fun x q => ?_, [], by simp, by simp⟩
    · by_cases z : x = p
      · subst z
        rw [hp] at q; cases q
        exact .inr ⟨trivial, .inr (by rw [cp_same]; omega)⟩
      · rw [upd_ne z]; exact .inl q
    · by_cases z : x = p
      · subst z; rw [upd_same] at q; cases q
      · rw [upd_ne z] at q; exact q
  refine ⟨⟨wd.len, wd.nd, fun n b ys z1 z2 => ?_⟩, fr⟩
  obtain ⟨w1, ws, a, f, w2, w3⟩ := wd.at_ n b ys z1 z2
  have nb : b ≠ p := fun z => hn (z ▸ List.mem_of_getElem? z1)
  have zz := w3.plain w1
  exact ⟨w1, ws, a, f, by rw [upd_ne nb]; exact w2, w3.frame fr fun x _ => zz x⟩
end
section
variable {K : PySem.W.Frag} {mg : Str → Option Value} {W : WX} {H : Hp} {σ : L2.St} {src : Src} {tg : Tg} {vs : List Nat} {t : T} {m : M} {z : Bool}
theorem rE_lc {Q : VK} (h : rE K mg W (mLc src tg vs t m) σ H Q) : tLc (rI K mg W false src) (rG K mg tg) (rT K mg W0 t) (rE K mg W0 m) vs σ H Q := by
  obtain ⟨σm, s, ρ, A, F, rel, h⟩ := h
  refine ⟨σm, s, ρ, A, F, rel, ?_⟩
  unfold mLc at h
  cases e : src σm s with
  | bad => rw [e] at h; exact h
  | ex x s1 => rw [e] at h; exact h
  | ok items s1 =>
    rw [e, Zm.R.bind_ok] at h
    intro J H1 ρ1 f fr wd it hf Da hDa
    by_cases hw : tg.within vs = true
    rotate_left
    · rw [if_neg hw] at h; exact h.elim
    rw [if_pos hw] at h
    have hss : ∀ j ∈ tg.slots, j ∈ vs := fun j hj => by
      unfold Tg.within at hw
      have := List.all_eq_true.mp hw j hj
      simpa using this
    obtain ⟨hft, G, Y, wk, st⟩ := it
    have rel1 := rel.next fr wd
    have sm0 : Same H1 (upd H1 Da (.lst [])) := same_upd hDa
    have nD : Da ∉ ρ1 := fun z => by obtain ⟨l, q⟩ := wd.lst z; rw [hDa] at q; cases q
    have fD : f Da = 0 := Nat.eq_zero_of_not_pos fun w => by obtain ⟨o, ho⟩ := hft Da w; rw [hDa] at ho; cases ho
    obtain ⟨Fz, envz, hFz⟩ := rel1.env.fz
    obtain ⟨Aw, Fw, envw, hw2⟩ := envz.wipe (vs := vs)
    have zAw : ∀ x, Aw x = 0 := fun x => by have := (hw2 x).1; have z0 : c0 x = 0 := rfl; omega
    have FwD : Fw Da = 0 := Nat.eq_zero_of_not_pos fun w => by
      have := hFz Da (by have := (hw2 Da).2; omega)
      obtain ⟨⟨o, ho⟩, _⟩ := rel1.env.there Da this
      rw [hDa] at ho; cases ho
    let F1 : Cnt := fun x => F x + f x
    have ev1 : ∀ x, 1 ≤ A x + F1 x → ∃ o, H1 x = some o := fun x z => by
      have z : 1 ≤ A x + (F x + f x) := z
      by_cases w : 1 ≤ f x
      · exact hft x w
      · exact (rel1.env.there x (by omega)).1
    refine lc_it wk (fun i H' => ∃ s' ρ' acc vs' a f', Fr (cp Da) (upd H1 Da (.lst [])) H' ρ1 ρ' ∧ Wd K mg ρ' s' H' ∧ H' Da = some (.lst vs') ∧ Da ∉ ρ' ∧ Reps K mg H' ρ' acc vs' a f' ∧ Gd A F1 H1 a f' ∧ a Da = 0 ∧ f' Da = 0 ∧ oE K mg W σ A F H ρ Q (lcR tg t m (wipeE (fzE σm) vs) (items.drop i) acc s'))
      ⟨s1, ρ1, [], [], c0, c0, .refl, wd.same sm0, upd_same, nD, .nil (fun _ => rfl) (fun _ => rfl), .zero (fun _ => rfl) (fun _ => rfl), rfl, rfl, by simpa using h⟩ ?_ ?_ ?_
    · rintro i H' _ ⟨s', ρ', acc, vs', a, f', fr', _⟩
      have fr2 : Fr (cp Da) H1 H' ρ1 ρ' := Fr.trans (Fr.of_same (Mc := cp Da) sm0) fr' fun x z => .inl z
      exact (st (cp Da) H' ρ' fr2 fun x z => by
        by_cases w : x = Da
        · rw [w]; exact fD
        · rw [cp_ne w] at z; omega).1
    · rintro i x H' H2 hi ⟨s', ρ', acc, vs', a, f', fr', wd', hD', nD', rps, gd, aD, fD', h'⟩ hy
      have fr2 : Fr (cp Da) H1 H' ρ1 ρ' := Fr.trans (Fr.of_same (Mc := cp Da) sm0) fr' fun x z => .inl z
      have hit : items[i]? = some items[i] := List.getElem?_eq_getElem hi
      obtain ⟨sm, f2, rp, le⟩ := (st (cp Da) H' ρ' fr2 fun x z => by
        by_cases w : x = Da
        · rw [w]; exact fD
        · rw [cp_ne w] at z; omega).2 i _ x H2 hit hy
      rw [List.drop_eq_getElem_cons hi] at h'
      unfold lcR at h'
      cases eb : tg.bind items[i] (wipeE (fzE σm) vs) with
      | none => simp only [eb] at h'; exact h'.elim
      | some σ1 =>
        simp only [eb] at h'
        have env2 : EnvR K mg H2 ρ' (wipeE (fzE σm) vs) (L2.wipe σ vs) Aw Fw := ((envw.frame fr2 fun x z => ⟨zAw x, by
          by_cases w : x = Da
          · rw [w]; exact FwD
          · rw [cp_ne w] at z; omega⟩)).frame (Fr.of_same (Mc := c0) sm) fun _ z => no0 z
        have relw : Rel K mg (wipeE (fzE σm) vs) s' (L2.wipe σ vs) H2 ρ' Aw Fw := ⟨env2, wd'.same sm, fun x => ⟨by have := zAw x; omega, fun z => by have := zAw x; omega⟩⟩
        refine ⟨_, s', ρ', Aw, Fw, _, f2, relw, rp, fun x _ => zAw x, σ1, eb, fun σ2 A2 F2 rel2 le2 ch => ⟨wipe_chg ch hss, ?_⟩⟩
        have zA2 : ∀ x, A2 x = 0 := fun x => by have := (le2 x).1; have := zAw x; omega
        have F2s : ∀ x, 1 ≤ F2 x → 1 ≤ A x ∨ 1 ≤ F1 x := fun x z => by
          rcases (le2 x).2 z with w | w
          · have := hFz x (by have := (hw2 x).2; omega)
            by_cases u : 1 ≤ A x
            · exact .inl u
            · exact .inr (show 1 ≤ F x + f x by omega)
          · exact .inr (show 1 ≤ F x + f x by have := le x; omega)
        have F2D : F2 Da = 0 := Nat.eq_zero_of_not_pos fun w => by
          rcases (le2 Da).2 w with u | u
          · omega
          · have := le Da; omega
        refine ⟨σ1, s', ρ', A2, F2, rel2, ?_⟩
        have hD2 : H2 Da = some (.lst vs') := sm _ _ hD'
        cases et : t σ1 s' with
        | bad => simp only [et] at h'; exact h'.elim
        | ex y s3 => simp only [et] at h'; exact h'.elim
        | ok b s3 =>
          simp only [et] at h'
          intro H4 ρ4 fr4 wd4
          have hD4 : H4 Da = some (.lst vs') := by
            rcases fr4.keep _ _ hD2 with y | ⟨_, y | y⟩
            · exact y
            · exact (nD' y).elim
            · exact no0 y
          have frA : Fr (cp Da) (upd H1 Da (.lst [])) H4 ρ1 ρ4 := (fr'.trans (Fr.of_same (Mc := c0) sm) fun _ z => no0 z).trans fr4 fun _ z => no0 z
          have rps4 : Reps K mg H4 ρ4 acc vs' a f' := (rps.sm sm).on fr4
          cases b with
          | false => exact iteF ⟨s3, ρ4, acc, vs', a, f', frA, wd4, hD4, fr4.nmem hD2 nD', rps4, gd, aD, fD', by simpa using h'⟩
          | true =>
            refine iteT ⟨σ1, s3, ρ4, A2, F2, rel2.next fr4 wd4, ?_⟩
            rw [if_pos rfl] at h'
            cases em : m σ1 s3 with
            | bad => simp only [em] at h'; exact h'.elim
            | ex y s5 => simp only [em] at h'; exact h'.elim
            | ok xd s5 =>
              simp only [em] at h'
              intro v H5 ρ5 a5 f5 fr5 wd5 rp5 g5
              split at h'
              · rename_i hz
                have hD5 : H5 Da = some (.lst vs') := by
                  rcases fr5.keep _ _ hD4 with y | ⟨_, y | y⟩
                  · exact y
                  · exact (fr4.nmem hD2 nD' y).elim
                  · exact no0 y
                have nD5 : Da ∉ ρ5 := fr5.nmem hD4 (fr4.nmem hD2 nD')
                obtain ⟨wd6, fr6⟩ := wd_upd (l' := vs' ++ [v]) wd5 hD5 nD5
                have a5D : a5 Da = 0 := Nat.eq_zero_of_not_pos fun w => by have := ((g5 Da).2.1 w).2; rw [hD4] at this; cases this
                have f5D : f5 Da = 0 := Nat.eq_zero_of_not_pos fun w => by
                  rcases (g5 Da).2.2 w with u | u | u
                  · have := zA2 Da; omega
                  · omega
                  · rw [hD4] at u; cases u
                have off : ∀ {a f : Cnt}, a Da = 0 → f Da = 0 → ∀ x, 1 ≤ cp Da x → a x = 0 ∧ f x = 0 := fun h1 h2 x z => by
                  by_cases w : x = Da
                  · rw [w]; exact ⟨h1, h2⟩
                  · rw [cp_ne w] at z; omega
                have g5' : Gd A F1 H4 a5 f5 := fun x => ⟨(g5 x).1, (g5 x).2.1, fun w => by
                  rcases (g5 x).2.2 w with u | u | u
                  · have := zA2 x; omega
                  · exact (F2s x u).elim .inl fun u => .inr (.inl u)
                  · exact .inr (.inr u)⟩
                refine ⟨vs', hD5, by rw [← rps.length]; exact hz, s5, ρ5, acc ++ [xd], vs' ++ [v], _, _, ?_, wd6, upd_same, nD5, ((rps4.on fr5).frame fr6 (off aD fD')).append (Reps.one (rp5.frame fr6 (off a5D f5D))), ?_, ?_, ?_, h'⟩
                · exact (frA.trans fr5 fun _ z => no0 z).trans fr6 fun x z => .inl z
                · exact gd.add (fun x z => (rps4.there x z).1) g5' (fun x z => by have := frA.there x z; by_cases w : x = Da; (rw [w]; exact hDa); (rw [upd_ne w] at this; exact this)) ev1
                · show a Da + a5 Da = 0; omega
                · show f' Da + f5 Da = 0; omega
              · exact h'.elim
    · rintro H' ⟨s', ρ', acc, vs', a, f', fr', wd', hD', nD', rps, gd, aD, fD', h'⟩
      rw [List.drop_length] at h'
      have fr2 : Fr c0 H1 H' ρ1 ρ' := by
        refine ⟨fun x o q => ?_, fun x q => ?_, fr'.ext.imp fun r ⟨e, n⟩ => ⟨e, fun p hp => ?_⟩⟩
        · rcases fr'.keep x o (sm0 x o q) with y | ⟨l, y | y⟩
          · exact .inl y
          · exact .inr ⟨l, .inl y⟩
          · by_cases w : x = Da
            · rw [w, hDa] at q; cases q
            · rw [cp_ne w] at y; omega
        · have := fr'.there x q
          exact sm0.free this
        · exact sm0.free (n p hp)
      refine h' (.ref Da) H' ρ' (fun x => cp Da x + a x) f' (fr.tr fr2) wd' (.own hD' nD' rps (fun _ => rfl)) fun x => ?_
      obtain ⟨g1, g2, g3⟩ := gd x
      have g3' : 1 ≤ f' x → 1 ≤ A x ∨ 1 ≤ F x ∨ H x = none := fun z => by
        rcases g3 z with w | w | w
        · exact .inl w
        · have w : 1 ≤ F x + f x := w
          by_cases u : 1 ≤ F x
          · exact .inr (.inl u)
          · exact (hf x (by omega)).2
        · exact .inr (.inr (fr.there x w))
      dsimp only
      by_cases w : x = Da
      · subst w
        rw [cp_same]
        exact ⟨by omega, fun _ => ⟨fD', fr.there _ hDa⟩, g3'⟩
      · rw [cp_ne w]
        exact ⟨by omega, fun z => ⟨(g2 (by omega)).1, fr.there x (g2 (by omega)).2⟩, g3'⟩
end
section
variable {X : Cx} {W : WX} {tge iter elt c : Expr} {ifs : List Expr} {src : Src} {tg : Tg} {t : T} {m : M} {pos : Pos} {scope : Scope} {own : List (Str × Nat)}
def STs (X : Cx) (W : WX) (es : List Expr) (t : T) : Prop := PTs X es (rT X.K X.mg W t)
theorem sts_nil : STs X W [] tTrue := ⟨fun pins s σ H Q I ⟨σm, s', ρ, A, F, rel, h⟩ => pts_nil.run pins s σ H Q I (h H ρ .refl rel.wd)⟩
theorem sts_one (h : ST X W c t) : STs X W [c] t := pts_one h
theorem s_lc (hc : X.calm = true) (nd : X.N.Nodup) (hi : SI X W false tge iter src) (ok : BlkOk X.N X.env.scope scope own)
    (hg : ∀ (s : Shared) (H : Hp) (C : Addr) (cl : List (Str × Addr)) (fp : List Addr), SG (X.blk s H scope (compEnvC scope cl C X.env) fp) tge tg)
    (ht : ∀ (s : Shared) (H : Hp) (C : Addr) (cl : List (Str × Addr)) (fp : List Addr), STs (X.blk s H scope (compEnvC scope cl C X.env) fp) W0 ifs t)
    (he : ∀ (s : Shared) (H : Hp) (C : Addr) (cl : List (Str × Addr)) (fp : List Addr), SE (X.blk s H scope (compEnvC scope cl C X.env) fp) W0 elt m) (hs : ∀ x, foldedSetIterable iter X.env x = pure x := by intro _; rfl) :
    SE X W (.ListComp elt [⟨tge, iter, ifs, 0⟩] scope pos) (mLc src tg (own.map (·.2)) t m) :=
  PE.imp (pe_lc (g := rG X.K X.mg tg) (tt := rT X.K X.mg W0 t) (te := rE X.K X.mg W0 m) hc nd hi ok hg ht he hs) fun σ H Q h => rE_lc h
end
end Zm
set_option Elab.async false
set_option linter.all false
set_option maxRecDepth 100000
set_option autoImplicit false
/-! Z9: what is walked: lists, tuples, ranges, zip, enumerate, reversed. -/
namespace Zm
open PySem PySem.Spec PyProof.Rows L2
def itemsOf : D → Option (List D)
  | .lst _ xs => some (fzs xs)
  | .tup xs => some (fzs xs)
  | .ro ns => some (ns.map .int)
  | _ => none
/-- the signs of a text -/
def signs (z : Str) : List D := z.cps.toList.map fun c => .str ⟨#[c]⟩
def iSeq (m : M) : Src := fun σ s => (m σ s).bind fun d s' => match d with
  | .str z => .ok (signs z) s'
  | d => R.of (itemsOf d) s'
section
variable {K : PySem.W.Frag} {mg : Str → Option Value} {H : Hp} {ρ : List Addr}
theorem reps_ints : ∀ ns : List Int, Reps K mg H ρ (ns.map D.int) (ns.map V.int) c0 c0
  | [] => .nil (fun _ => rfl) (fun _ => rfl)
  | n :: ns => .cons (.int (fun _ => rfl) (fun _ => rfl)) (reps_ints ns) (A := c0) (F := c0) (a := c0) (f := c0) (fun _ => rfl) (fun _ => rfl)
/-- a row that is walked -/
theorem sq_of {d : D} {xs : List D} {v : V} {a f : Cnt} (e : itemsOf d = some xs) (r : Rep K mg H ρ d v a f) : ∃ (b : Bool) (p : Addr) (vs : List V) (f' : Cnt), v = .ref p ∧ Zi.Sq K b H p vs ∧ Reps K mg H ρ xs vs c0 f' ∧ (∀ x, 1 ≤ f' x → ∃ o, H x = some o) ∧
    (b = true → ∃ ds, d = .tup ds) ∧ (b = false → (∃ o ds, d = .lst o ds) ∨ ∃ ns, d = .ro ns) ∧ ∃ g : Cnt, (∀ x, f' x ≤ g x) ∧ (∀ x, 1 ≤ g x → 1 ≤ a x + f x) ∧ ∀ (Mc : Cnt) (H1 : Hp) (ρ1 : List Addr), Fr Mc H H1 ρ ρ1 → (∀ x, 1 ≤ Mc x → g x = 0) → Zi.Sq K b H1 p vs := by
  obtain ⟨f2, r2, q⟩ := r.fz
  cases d <;> simp only [itemsOf, Option.some.injEq, reduceCtorEq] at e
  · subst e
    cases r2 with
    | tup h t => exact ⟨true, _, _, _, rfl, SqT.of h, t, fun x z => (t.there x (by omega)).1, fun _ => ⟨_, rfl⟩, fun z => Bool.noConfusion z, f2, fun _ => Nat.le_refl _, q, fun Mc H1 ρ1 fr _ => SqT.of (fr.rdT h)⟩
  · subst e
    cases r2 with
    | frz h hp t e =>
      refine ⟨false, _, _, _, rfl, SqL.of h, t, fun x z => (t.there x (by omega)).1, fun z => Bool.noConfusion z, fun _ => .inl ⟨_, _, rfl⟩, f2, fun x => by rw [e]; omega, q, fun Mc H1 ρ1 fr hm => ?_⟩
      rcases fr.keep _ _ h with z | ⟨_, z | z⟩
      · exact SqL.of z
      · exact (hp z).elim
      · have := hm _ z; rw [e, cp_same] at this; omega
  · subst e
    cases r2 with
    | ro h z1 z2 =>
      refine ⟨false, _, _, c0, rfl, h.L, ?_, fun x z => no0 z, fun z => Bool.noConfusion z, fun _ => .inr ⟨_, rfl⟩, c0, fun _ => Nat.le_refl _, fun _ z => no0 z, fun Mc H1 ρ1 fr _ => (fr.rdR h).L⟩
      exact reps_ints _
/-- ItOK for one row -/
theorem it_row {J : It} {ds : List D} {vs : List V} {f g : Cnt} {S : Hp → Prop} (t : Reps K mg H ρ ds vs c0 f) (le : ∀ x, f x ≤ g x) (th : ∀ x, 1 ≤ g x → ∃ o, H x = some o) (stay : ∀ (Mc : Cnt) (H1 : Hp) (ρ1 : List Addr), Fr Mc H H1 ρ ρ1 → (∀ x, 1 ≤ Mc x → g x = 0) → S H1)
    (wk : Walk J vs.length S (YAt vs)) : ItOK K mg J ds H ρ g := by
  refine ⟨th, S, YAt vs, by rw [t.length]; exact wk, fun Mc H1 ρ1 fr hm => ⟨stay Mc H1 ρ1 fr hm, fun i d x H2 e y => ?_⟩⟩
  obtain ⟨rfl, hx⟩ := y
  have t1 := t.frame fr fun x hx => ⟨rfl, by have := hm x hx; have := le x; omega⟩
  obtain ⟨v, a', f2, e2, rp, le2⟩ := t1.at e
  rw [e2] at hx; cases hx
  have za : a' = c0 := funext fun x => by have := (le2 x).1; have z0 : c0 x = 0 := rfl; omega
  subst za
  exact ⟨fun _ _ h => h, f2, rp, fun x => by have := (le2 x).2; have := le x; omega⟩
theorem g_there {d : D} {v : V} {a f g : Cnt} (r : Rep K mg H ρ d v a f) (q : ∀ x, 1 ≤ g x → 1 ≤ a x + f x) : ∀ x, 1 ≤ g x → ∃ o, H x = some o := fun x z => (r.there x (q x z)).1
theorem gd_src {A F a f g : Cnt} {H0 : Hp} (gd : Gd A F H0 a f) (q : ∀ x, 1 ≤ g x → 1 ≤ a x + f x) : ∀ x, 1 ≤ g x → false = false ∧ (1 ≤ A x ∨ 1 ≤ F x ∨ H0 x = none) := fun x z => ⟨rfl, by
  obtain ⟨p1, p2, p3⟩ := gd x
  have := q x z
  by_cases w : 1 ≤ a x
  · exact .inr (.inr (p2 w).2)
  · exact p3 (by omega)⟩
end
section
variable {X : Cx} {W : WX} {tge e e2 e3 : Expr} {m ma mb mc : M} {ms : List M} {es : List Expr} {p pos tpos : Pos} {elts : List Expr} {kk : Nat}
theorem si_seq (he : SE X W e m) : SI X W false tge e (iSeq m) := by
  constructor
  intro pins s0 σ H R I ⟨σm, s, ρ, A, F, rel, h⟩
  unfold iSeq at h
  have key : ∀ (Q : VK), oE X.K X.mg W σ A F H ρ Q (m σm s) → rE X.K X.mg W m σ H Q := fun Q q => ⟨σm, s, ρ, A, F, rel, q⟩
  cases em : m σm s with
  | bad => rw [em] at h; exact h.elim
  | ex x s1 =>
    rw [em] at h
    exact (pi_list he).run pins s0 σ H R I (key _ (by rw [em]; exact h))
  | ok d s1 =>
    rw [em, Zm.R.bind_ok] at h
    cases d with
    | str z =>
      refine (pi_str he).run pins s0 σ H R I (key _ ?_)
      rw [em]
      intro v H1 ρ1 a f fr wd rp gd
      cases rp
      refine ⟨z, rfl, h _ H1 ρ1 c0 fr wd ?_ fun x w => no0 w⟩
      refine ⟨fun _ hx => no0 hx, _, _, by unfold signs; rw [List.length_map, Array.length_toList]; exact walk_str, fun Mc H2 ρ2 fr2 hm => ⟨trivial, fun i d x H3 e y => ?_⟩⟩
      obtain ⟨rfl, c, ec, rfl⟩ := y
      unfold signs at e
      simp [ec] at e
      subst e
      exact ⟨fun _ _ h => h, c0, .str (fun _ => rfl) (fun _ => rfl), fun _ => Nat.le_refl _⟩
    | lst o ds =>
      refine (pi_list he).run pins s0 σ H R I (key _ ?_)
      rw [em]
      intro v H1 ρ1 a f fr wd rp gd
      obtain ⟨b, p, vs, f', ev, sq, t, th, b1, b2, g, le, q, stay⟩ := sq_of (xs := fzs ds) rfl rp
      have hb : b = false := by cases b with
        | false => rfl
        | true => obtain ⟨_, z⟩ := b1 rfl; cases z
      subst hb
      exact ⟨p, ev, ⟨vs, sq⟩, h _ H1 ρ1 g fr wd (it_row t le (g_there rp q) stay walk_list) (gd_src gd q)⟩
    | ro ns =>
      refine (pi_list he).run pins s0 σ H R I (key _ ?_)
      rw [em]
      intro v H1 ρ1 a f fr wd rp gd
      obtain ⟨b, p, vs, f', ev, sq, t, th, b1, b2, g, le, q, stay⟩ := sq_of (xs := ns.map D.int) rfl rp
      have hb : b = false := by cases b with
        | false => rfl
        | true => obtain ⟨_, z⟩ := b1 rfl; cases z
      subst hb
      exact ⟨p, ev, ⟨vs, sq⟩, h _ H1 ρ1 g fr wd (it_row t le (g_there rp q) stay walk_list) (gd_src gd q)⟩
    | tup ds =>
      refine (pi_tup he).run pins s0 σ H R I (key _ ?_)
      rw [em]
      intro v H1 ρ1 a f fr wd rp gd
      obtain ⟨b, p, vs, f', ev, sq, t, th, b1, b2, g, le, q, stay⟩ := sq_of (xs := fzs ds) rfl rp
      have hb : b = true := by cases b with
        | true => rfl
        | false => rcases b2 rfl with ⟨_, _, z⟩ | ⟨_, z⟩ <;> cases z
      subst hb
      exact ⟨p, ev, ⟨vs, sq⟩, h _ H1 ρ1 g fr wd (it_row t le (g_there rp q) stay walk_tup) (gd_src gd q)⟩
    | _ => exact h.elim
theorem inv_int {K : PySem.W.Frag} {mg : Str → Option Value} {H : Hp} {ρ : List Addr} {i : Int} {v : V} {A F : Cnt} (h : Rep K mg H ρ (.int i) v A F) : v = .int i := by cases h; rfl
theorem si_range1 (hm : X.mg "range" = none) (ha : SA X W [e] ms) (hg : Gl X "range" := by rfl) (hs : starEach [e] X.env = [(false, eval e X.env)] := by rfl) : SI X W true tge (.Call (.Name "range" p) [e] [] pos) (iR1 ms) :=
  PI.imp (pi_range1 hg hm ha hs) fun σ H R ⟨σm, s, ρ, A, F, rel, h⟩ => by
    refine ⟨σm, s, ρ, A, F, rel, ?_⟩
    unfold iR1 at h
    cases em : mArgs ms σm s with
    | bad => rw [em] at h; exact h
    | ex x s1 => rw [em] at h; exact h
    | ok ds s1 =>
      rw [em, Zm.R.bind_ok] at h
      intro vs H1 ρ1 a f fr wd rp gd
      split at h
      · split at h
        · rename_i hb
          simp only [big, decide_eq_true_eq] at hb
          obtain ⟨v, rfl, r⟩ := rp.inv1
          exact ⟨_, by rw [inv_int r], hb.1, hb.2, h _ H1 ρ1 c0 fr wd it_range fun x w => no0 w⟩
        · exact h.elim
      · exact h.elim
end
end Zm
set_option Elab.async false
set_option linter.all false
set_option maxRecDepth 100000
set_option autoImplicit false
/-! Z10: operators, subscripts, comparisons by machine. -/
namespace Zm
open PySem PySem.Spec PyProof.Rows L2
section
variable {K : PySem.W.Frag} {mg : Str → Option Value} {H H' : Hp} {ρ : List Addr} {d e : D} {ds xs ys : List D} {v : V} {vs : List V} {a f a' f' a1 f1 : Cnt} {o : Bool}
theorem Sp1.le (h : Sp1 a f) (q : ∀ x, a1 x ≤ a x ∧ f1 x ≤ f x) : Sp1 a1 f1 := fun x => by
  have := h x; have := q x
  exact ⟨by omega, fun z => by have := (h x).2 (by omega); omega⟩
theorem Out.le (h : Out a1 f1 H a' f') (q : ∀ x, a1 x ≤ a x ∧ f1 x ≤ f x) : Out a f H a' f' := fun x => by
  obtain ⟨p1, p2, p3⟩ := h x
  have := q x
  refine ⟨p1, fun z => ⟨(p2 z).1, ?_⟩, fun z => ?_⟩
  · rcases (p2 z).2 with w | w
    · exact .inl w
    · exact .inr (by omega)
  · rcases p3 z with w | w | w
    · exact .inl (by omega)
    · exact .inr (.inl (by omega))
    · exact .inr (.inr w)
theorem inv_lst (h : Rep K mg H ρ (.lst o xs) v a f) : ∃ p vs a1 f1, v = .ref p ∧ H p = some (.lst vs) ∧ Reps K mg H ρ xs vs a1 f1 ∧ ∀ x, a1 x ≤ a x ∧ f1 x ≤ f x := by
  cases h with
  | own h _ t e => exact ⟨_, _, _, _, rfl, h, t, fun x => by rw [e]; omega⟩
  | frz h _ t e => exact ⟨_, _, _, _, rfl, h, t, fun x => by rw [e]; omega⟩
theorem inv_tup (h : Rep K mg H ρ (.tup xs) v a f) : ∃ p vs, v = .ref p ∧ H p = some (.tup vs) ∧ Reps K mg H ρ xs vs a f := by
  cases h with
  | tup h t => exact ⟨_, _, rfl, h, t⟩
theorem inv_str {z : Str} (h : Rep K mg H ρ (.str z) v a f) : v = .str z := by cases h; rfl
theorem inv_bl {b : Bool} (h : Rep K mg H ρ (.bl b) v a f) : v = .bl b := by cases h; rfl
mutual
theorem Rep.dp : ∀ {d : D} {v : V} {a f : Cnt} {x : PyData}, pd d = some x → Rep K mg H ρ d v a f → Dp K H v x
  | .non, _, _, _, _, e, h => by cases h; cases e; exact .non
  | .bl _, _, _, _, _, e, h => by cases h; cases e; exact .bl _
  | .int _, _, _, _, _, e, h => by cases h; cases e; exact .int _
  | .str _, _, _, _, _, e, h => by cases h; cases e; exact .str _
  | .tup xs, _, _, _, _, e, h => by
    cases h with
    | tup q t =>
      rw [pd, Option.map_eq_some_iff] at e
      obtain ⟨ys, e1, rfl⟩ := e
      exact .tup (SqT.of q) (Reps.dp e1 t)
  | .lst _ xs, _, _, _, _, e, h => by
    rw [pd, Option.map_eq_some_iff] at e
    obtain ⟨ys, e1, rfl⟩ := e
    obtain ⟨p, vs, a1, f1, rfl, hp, t, _⟩ := inv_lst h
    exact .lst (SqL.of hp) (Reps.dp e1 t)
  | .ro ns, _, _, _, _, e, h => by
    cases h with
    | ro q _ _ =>
      cases e
      exact .lst q.L (ints_dp ns)
  | .dic _ _ _ _, _, _, _, _, e, _ => by cases e
  | .dil _ _ _, _, _, _, _, e, _ => by cases e
  | .box _, _, _, _, _, e, _ => by cases e
  | .fn _, _, _, _, _, e, _ => by cases e
  | .ty _, _, _, _, _, e, _ => by cases e
  | .exc _ _, _, _, _, _, e, _ => by cases e
theorem Reps.dp : ∀ {ds : List D} {vs : List V} {a f : Cnt} {xs : List PyData}, pds ds = some xs → Reps K mg H ρ ds vs a f → DpAll K H vs xs
  | [], _, _, _, _, e, h => by cases h; cases e; exact .nil
  | d :: ds, _, _, _, _, e, h => by
    cases h with
    | cons h t _ _ =>
      rw [pds] at e
      cases e1 : pd d with
      | none => rw [e1] at e; cases e
      | some y =>
        cases e2 : pds ds with
        | none => rw [e1, e2] at e; cases e
        | some ys =>
          rw [e1, e2] at e
          cases e
          exact .cons (Rep.dp e1 h) (Reps.dp e2 t)
theorem ints_dp : ∀ ns : List Int, DpAll K H (ns.map V.int) (ns.map PyData.int)
  | [] => .nil
  | n :: ns => .cons (.int n) (ints_dp ns)
end
theorem Reps.ints : ∀ {ns : List Int} {vs : List V} {a f : Cnt}, Reps K mg H ρ (ns.map D.int) vs a f → vs = ns.map V.int
  | [], _, _, _, h => by cases h; rfl
  | n :: ns, _, _, _, h => by
    cases h with
    | cons h t _ _ => rw [inv_int h, Reps.ints t]; rfl
end
/-- ints of a list of trees -/
def toInts : List D → Option (List Int)
  | [] => some []
  | .int i :: ds => (toInts ds).map (i :: ·)
  | _ => none
@[simp] theorem toInts_map (ns : List Int) : toInts (ns.map D.int) = some ns := by
  induction ns with
  | nil => rfl
  | cons n ns ih => simp [toInts, ih]
section
variable {K : PySem.W.Frag} {mg : Str → Option Value} {H : Hp} {ρ : List Addr} {s : Sto}
end
/-! ### numbers -/
def sm (i : Int) : Bool := decide (i.natAbs < 2 ^ 1900)
theorem sm_log {i : Int} (h : sm i = true) : i.natAbs.log2 < 1900 := PySem.Flt.log2_lt_of (by omega) (of_decide_eq_true h)
@[simp] def gAdd : Sto → List D → Option D := fun _ ds => match ds with
  | [.int i, .int j] => some (.int (i + j))
  | [.str x, .str y] => if x.length + y.length ≤ sizeLine then some (.str (x ++ y)) else none
  | [.lst _ xs, .lst _ ys] => if xs.length + ys.length ≤ sizeLine then some (.lst true (xs ++ ys)) else none
  | [.tup xs, .tup ys] => if xs.length + ys.length ≤ sizeLine then some (.tup (xs ++ ys)) else none
  | _ => none
@[simp] def gSub : Sto → List D → Option D := fun _ ds => match ds with
  | [.int i, .int j] => some (.int (i - j))
  | _ => none
def gMul : Sto → List D → Option D := fun _ ds => match ds with
  | [.int i, .int j] => if sm i = true ∧ sm j = true then some (.int (i * j)) else none
  | [.lst _ [x], .int k] => if plain x = true ∧ 0 ≤ k ∧ k ≤ 1000 then some (.lst true (List.replicate k.toNat x)) else none
  | [.tup xs, .int k] => if plains xs = true ∧ xs ≠ [] ∧ 2 ≤ k ∧ k ≤ 1000 ∧ xs.length ≤ 1000 then some (.tup (List.replicate k.toNat xs).flatten) else none
  | _ => none
def gDiv : Sto → List D → Option D := fun _ ds => match ds with
  | [.int i, .int j] => if 0 < j ∧ sm j = true then some (.int (i / j)) else none
  | _ => none
@[simp] def gMod : Sto → List D → Option D := fun _ ds => match ds with
  | [.int i, .int j] => if 0 < j then some (.int (i % j)) else none
  | _ => none
def gPow : Sto → List D → Option D := fun _ ds => match ds with
  | [.int i, .int j] => if 0 ≤ j ∧ j ≤ 1000 ∧ sm i = true then some (.int (i ^ j.toNat)) else none
  | _ => none
@[simp] def gNeg : Sto → List D → Option D := fun _ ds => match ds with
  | [.int i] => some (.int (-i))
  | _ => none
section
variable {K : PySem.W.Frag} {mg : Str → Option Value} {X : Cx}
theorem fin_int {H : Hp} {ρ : List Addr} {Q : VK} {a f : Cnt} {k : Int} (q : ∀ v H' a' f', Same H H' → Rep K mg H' ρ (.int k) v a' f' → Out a f H a' f' → Q v H') : Q (.int k) H := q _ H c0 c0 (fun _ _ h => h) (.int (fun _ => rfl) (fun _ => rfl)) (.zero (fun _ => rfl) (fun _ => rfl))
theorem fin_bl {H : Hp} {ρ : List Addr} {Q : VK} {a f : Cnt} {k : Bool} (q : ∀ v H' a' f', Same H H' → Rep K mg H' ρ (.bl k) v a' f' → Out a f H a' f' → Q v H') : Q (.bl k) H := q _ H c0 c0 (fun _ _ h => h) (.bl (fun _ => rfl) (fun _ => rfl)) (.zero (fun _ => rfl) (fun _ => rfl))
theorem fin_str {H : Hp} {ρ : List Addr} {Q : VK} {a f : Cnt} {k : Str} (q : ∀ v H' a' f', Same H H' → Rep K mg H' ρ (.str k) v a' f' → Out a f H a' f' → Q v H') : Q (.str k) H := q _ H c0 c0 (fun _ _ h => h) (.str (fun _ => rfl) (fun _ => rfl)) (.zero (fun _ => rfl) (fun _ => rfl))
def rAddZ (K : PySem.W.Frag) : R2 := fun x y H Q => ((rI0 fun i j => .int (i + j)) x y H Q ∨ (∃ i j, x = .str i ∧ y = .str j ∧ i.length + j.length ≤ sizeLine ∧ Q (.str (i ++ j)) H)) ∨ (rCat x y H Q ∨ rCatA K x y H Q)
theorem o_add : OpR X (binaryOp .Add) (rAddZ X.K) := (op_add.or op_add_str).or (op_cat.or op_catA)
theorem v_add : OpV K mg (r2 (rAddZ K)) gAdd := by
  intro ρ s H ds vs a f d w r h e Q q
  unfold Zm.gAdd at e
  split at e
  · cases e
    obtain ⟨v1, v2, _, _, _, _, rfl, r1, r2, _⟩ := r.inv2
    cases inv_int r1; cases inv_int r2
    exact ⟨_, _, rfl, .inl (.inl ⟨_, _, rfl, rfl, fin_int q⟩)⟩
  · split at e
    · rename_i z
      cases e
      obtain ⟨v1, v2, _, _, _, _, rfl, r1, r2, _⟩ := r.inv2
      cases inv_str r1; cases inv_str r2
      exact ⟨_, _, rfl, .inl (.inr ⟨_, _, rfl, rfl, z, fin_str q⟩)⟩
    · cases e
  · split at e
    · rename_i z
      cases e
      obtain ⟨v1, v2, a1, f1, a2, f2, rfl, r1, r2, eq⟩ := r.inv2
      obtain ⟨p1, vs1, b1, g1, rfl, h1, t1, l1⟩ := inv_lst r1
      obtain ⟨p2, vs2, b2, g2, rfl, h2, t2, l2⟩ := inv_lst r2
      refine ⟨_, _, rfl, .inr (.inl ⟨p1, p2, vs1, vs2, rfl, rfl, h1, h2, by rw [← t1.length, ← t2.length]; exact z, fun p hp => ?_⟩)⟩
      have le : ∀ x, (fun x => b1 x + b2 x) x ≤ a x ∧ (fun x => g1 x + g2 x) x ≤ f x := fun x => by have := eq x; have := l1 x; have := l2 x; dsimp only; omega
      obtain ⟨n1, n2⟩ := new_lst w hp (t1.append t2) (h.le le)
      exact q _ _ _ _ (same_upd hp) n1 (n2.le le)
    · cases e
  · split at e
    · rename_i z
      cases e
      obtain ⟨v1, v2, a1, f1, a2, f2, rfl, r1, r2, eq⟩ := r.inv2
      obtain ⟨p1, vs1, rfl, h1, t1⟩ := inv_tup r1
      obtain ⟨p2, vs2, rfl, h2, t2⟩ := inv_tup r2
      have le : ∀ x, (fun x => a1 x + a2 x) x ≤ a x ∧ (fun x => f1 x + f2 x) x ≤ f x := fun x => by have := eq x; dsimp only; omega
      have t12 := t1.append t2
      refine ⟨_, _, rfl, .inr (.inr ⟨p1, p2, vs1, vs2, rfl, rfl, SqT.of h1, SqT.of h2, by rw [← t1.length, ← t2.length]; exact z, fun e1 => ?_, fun e1 e2 => ?_, fun e1 e2 p hp => ?_⟩)⟩
      · subst e1
        rw [List.nil_append] at t12
        exact q _ H _ _ (fun _ _ h => h) (.tup h2 t12) ((Out.refl (h.le le)).le le)
      · subst e2
        rw [List.append_nil] at t12
        exact q _ H _ _ (fun _ _ h => h) (.tup h1 t12) ((Out.refl (h.le le)).le le)
      · exact q _ _ _ _ (same_upd hp) (new_tup hp t12) ((Out.refl (h.le le)).le le)
    · cases e
  · cases e
theorem v_sub : OpV K mg (r2 (rI0 fun i j => .int (i - j))) gSub := by
  intro ρ s H ds vs a f d w r h e Q q
  unfold Zm.gSub at e
  split at e
  · cases e
    obtain ⟨v1, v2, _, _, _, _, rfl, r1, r2, _⟩ := r.inv2
    cases inv_int r1; cases inv_int r2
    exact ⟨_, _, rfl, _, _, rfl, rfl, fin_int q⟩
  · cases e
def rMulZ (K : PySem.W.Frag) : R2 := fun x y H Q => ((L2.rI CMulW fun i j => .int (i * j)) x y H Q ∨ rRep x y H Q) ∨ rRepT K x y H Q
theorem o_mul : OpR X (binaryOp .Mult) (rMulZ X.K) := (op_mulW.or op_rep).or op_repT
theorem reps_rep {H : Hp} {ρ : List Addr} {xs : List D} {vs : List V} (t : Reps K mg H ρ xs vs c0 c0) : ∀ n : Nat, Reps K mg H ρ (List.replicate n xs).flatten (List.replicate n vs).flatten c0 c0
  | 0 => .nil (fun _ => rfl) (fun _ => rfl)
  | n + 1 => by
    rw [List.replicate_succ, List.flatten_cons, List.replicate_succ, List.flatten_cons]
    exact (t.append (reps_rep t n)).cong (fun _ => rfl) (fun _ => rfl)
theorem flat_one {α : Type} (x : α) : ∀ n : Nat, (List.replicate n [x]).flatten = List.replicate n x
  | 0 => rfl
  | n + 1 => by rw [List.replicate_succ, List.flatten_cons, flat_one x n]; rfl
theorem v_mul : OpV K mg (r2 (rMulZ K)) gMul := by
  intro ρ s H ds vs a f d w r h e Q q
  unfold Zm.gMul at e
  split at e
  · split at e
    · rename_i z
      cases e
      obtain ⟨v1, v2, _, _, _, _, rfl, r1, r2, _⟩ := r.inv2
      cases inv_int r1; cases inv_int r2
      exact ⟨_, _, rfl, .inl (.inl ⟨_, _, rfl, rfl, by have := sm_log z.1; have := sm_log z.2; unfold CMulW; omega, fin_int q⟩)⟩
    · cases e
  · split at e
    · rename_i o x k z
      cases e
      obtain ⟨v1, v2, a1, f1, a2, f2, rfl, r1, r2, eq⟩ := r.inv2
      cases inv_int r2
      obtain ⟨p1, vs1, b1, g1, rfl, h1, t1, l1⟩ := inv_lst r1
      obtain ⟨vx, rfl, rx⟩ := t1.inv1
      have zz := rx.plain z.1
      have t0 : Reps K mg H ρ [x] [vx] c0 c0 := t1.cong (fun p => (zz p).1.symm) (fun p => (zz p).2.symm)
      have tn := reps_rep t0 k.toNat
      rw [flat_one, flat_one] at tn
      refine ⟨_, _, rfl, .inl (.inr ⟨p1, k, [vx], rfl, rfl, h1, by omega, by omega, ?_, fun p hp => ?_⟩)⟩
      · show 1 * k.toNat ≤ sizeLine
        have : (1000 : Nat) ≤ sizeLine := by decide
        omega
      · rw [flat_one]
        obtain ⟨n1, n2⟩ := new_lst w hp tn (fun x => ⟨Nat.zero_le _, fun z => no0 z⟩)
        exact q _ _ _ _ (same_upd hp) n1 (n2.le fun x => ⟨Nat.zero_le _, Nat.zero_le _⟩)
    · cases e
  · split at e
    · rename_i xs k z
      cases e
      obtain ⟨v1, v2, a1, f1, a2, f2, rfl, r1, r2, eq⟩ := r.inv2
      cases inv_int r2
      obtain ⟨p1, vs1, rfl, h1, t1⟩ := inv_tup r1
      have zz := t1.plain z.1
      have t0 : Reps K mg H ρ xs vs1 c0 c0 := t1.cong (fun p => (zz p).1.symm) (fun p => (zz p).2.symm)
      refine ⟨_, _, rfl, .inr ⟨p1, k, vs1, rfl, rfl, SqT.of h1, ?_, z.2.2.1, z.2.2.2.1, by rw [← t1.length]; exact z.2.2.2.2, fun p hp => ?_⟩⟩
      · intro e
        subst e
        have := t1.length
        exact z.2.1 (List.eq_nil_of_length_eq_zero this)
      · exact q _ _ _ _ (same_upd hp) (new_tup hp (reps_rep t0 k.toNat)) (.zero (fun _ => rfl) (fun _ => rfl))
    · cases e
  · cases e
theorem v_div : OpV K mg (r2 (L2.rI CDivW fun i j => .int (i / j))) gDiv := by
  intro ρ s H ds vs a f d w r h e Q q
  unfold Zm.gDiv at e
  split at e
  · split at e
    · rename_i z
      cases e
      obtain ⟨v1, v2, _, _, _, _, rfl, r1, r2, _⟩ := r.inv2
      cases inv_int r1; cases inv_int r2
      exact ⟨_, _, rfl, _, _, rfl, rfl, ⟨z.1, by have := sm_log z.2; omega⟩, fin_int q⟩
    · cases e
  · cases e
theorem v_mod : OpV K mg (r2 (L2.rI (fun _ j => 0 < j) fun i j => .int (i % j))) gMod := by
  intro ρ s H ds vs a f d w r h e Q q
  unfold Zm.gMod at e
  split at e
  · split at e
    · rename_i z
      cases e
      obtain ⟨v1, v2, _, _, _, _, rfl, r1, r2, _⟩ := r.inv2
      cases inv_int r1; cases inv_int r2
      exact ⟨_, _, rfl, _, _, rfl, rfl, z, fin_int q⟩
    · cases e
  · cases e
def CPowZ (i j : Int) : Prop := 0 ≤ j ∧ j ≤ 1000 ∧ sm i = true
theorem o_pow : OpR X (binaryOp .Pow) (L2.rI CPowZ fun i j => .int (i ^ j.toNat)) := opI fun i j _ _ _ _ _ hc q => by
  obtain ⟨h1, h2, h3⟩ := hc
  refine pow_int h1 ?_ q
  have b : Builtin.Int.intBits i ≤ 1900 := by
    have := sm_log h3
    unfold Builtin.Int.intBits
    split <;> omega
  have h4 : (Builtin.Int.intBits i : Int) ≤ 1900 := by omega
  have h5 : (Builtin.Int.intBits i : Int) * j ≤ 1900 * 1000 := Int.le_trans (Int.mul_le_mul_of_nonneg_right h4 h1) (Int.mul_le_mul_of_nonneg_left h2 (by omega))
  omega
theorem v_pow : OpV K mg (r2 (L2.rI CPowZ fun i j => .int (i ^ j.toNat))) gPow := by
  intro ρ s H ds vs a f d w r h e Q q
  unfold Zm.gPow at e
  split at e
  · split at e
    · rename_i z
      cases e
      obtain ⟨v1, v2, _, _, _, _, rfl, r1, r2, _⟩ := r.inv2
      cases inv_int r1; cases inv_int r2
      exact ⟨_, _, rfl, _, _, rfl, rfl, z, fin_int q⟩
    · cases e
  · cases e
theorem v_neg : OpV K mg (r1 (rU fun i => .int (-i))) gNeg := by
  intro ρ s H ds vs a f d w r h e Q q
  unfold Zm.gNeg at e
  split at e
  · cases e
    obtain ⟨v1, rfl, r1⟩ := r.inv1
    cases inv_int r1
    exact ⟨_, rfl, _, rfl, fin_int q⟩
  · cases e
/-! ### comparisons -/
@[simp] def gCmpI (p : Int → Int → Bool) : Sto → List D → Option D := fun _ ds => match ds with
  | [.int i, .int j] => some (.bl (p i j))
  | _ => none
@[simp] def gLt := gCmpI fun i j => decide (i < j)
@[simp] def gLe := gCmpI fun i j => decide (i ≤ j)
@[simp] def gGt := gCmpI fun i j => decide (j < i)
@[simp] def gGe := gCmpI fun i j => decide (j ≤ i)
theorem v_cmpI {p : Int → Int → Bool} : OpV K mg (r2 (rI0 fun i j => .bl (p i j))) (gCmpI p) := by
  intro ρ s H ds vs a f d w r h e Q q
  unfold Zm.gCmpI at e
  split at e
  · cases e
    obtain ⟨v1, v2, _, _, _, _, rfl, r1, r2, _⟩ := r.inv2
    cases inv_int r1; cases inv_int r2
    exact ⟨_, _, rfl, _, _, rfl, rfl, fin_bl q⟩
  · cases e
def shapedD (d : D) : Option PyData := match pd d with
  | some x => if SeqAt.shaped x = true then some x else none
  | none => none
theorem shapedD_eq {d : D} {x : PyData} (h : shapedD d = some x) : pd d = some x ∧ SeqAt.shaped x = true := by
  unfold shapedD at h
  split at h
  · rename_i y e
    split at h
    · rename_i z; cases h; exact ⟨e, z⟩
    · cases h
  · cases h
def gEq : Sto → List D → Option D := fun _ ds => match ds with
  | [x, y] => (match shapedD x, shapedD y with
    | some a, some b => some (.bl (PyData.eqv a b))
    | _, _ => none)
  | _ => none
def gNe : Sto → List D → Option D := fun _ ds => match ds with
  | [x, y] => (match shapedD x, shapedD y with
    | some a, some b => some (.bl (!PyData.eqv a b))
    | _, _ => none)
  | _ => none
theorem v_eq : OpV K mg (r2 (rEqD K)) gEq := by
  intro ρ s H ds vs a f d w r h e Q q
  unfold Zm.gEq at e
  split at e
  · split at e
    · rename_i x y e1 e2
      cases e
      obtain ⟨v1, v2, _, _, _, _, rfl, r1, r2, _⟩ := r.inv2
      obtain ⟨p1, s1⟩ := shapedD_eq e1
      obtain ⟨p2, s2⟩ := shapedD_eq e2
      exact ⟨_, _, rfl, _, _, r1.dp p1, r2.dp p2, s1, s2, fin_bl q⟩
    · cases e
  · cases e
theorem v_ne : OpV K mg (r2 (rNeD K)) gNe := by
  intro ρ s H ds vs a f d w r h e Q q
  unfold Zm.gNe at e
  split at e
  · split at e
    · rename_i x y e1 e2
      cases e
      obtain ⟨v1, v2, _, _, _, _, rfl, r1, r2, _⟩ := r.inv2
      obtain ⟨p1, s1⟩ := shapedD_eq e1
      obtain ⟨p2, s2⟩ := shapedD_eq e2
      exact ⟨_, _, rfl, _, _, r1.dp p1, r2.dp p2, s1, s2, fin_bl q⟩
    · cases e
  · cases e
@[simp] def isNon : D → Bool
  | .non => true
  | _ => false
@[simp] def gIsN : Sto → List D → Option D := fun _ ds => match ds with
  | [x, .non] => some (.bl (isNon x))
  | _ => none
@[simp] def gNotN : Sto → List D → Option D := fun _ ds => match ds with
  | [x, .non] => some (.bl (!isNon x))
  | _ => none
end
end Zm
set_option Elab.async false
set_option linter.all false
set_option maxRecDepth 100000
set_option autoImplicit false
/-! Z11: subscripts, slices, built-ins by machine. -/
namespace Zm
open PySem PySem.Spec PyProof.Rows L2
theorem Reps.drop {K : PySem.W.Frag} {mg : Str → Option Value} {H : Hp} {ρ : List Addr} : ∀ {ds : List D} {vs : List V} {a f : Cnt} (n : Nat), Reps K mg H ρ ds vs a f → ∃ a' f', Reps K mg H ρ (ds.drop n) (vs.drop n) a' f' ∧ ∀ x, a' x ≤ a x ∧ f' x ≤ f x
  | _, _, a, f, 0, h => ⟨a, f, by simpa using h, fun _ => ⟨Nat.le_refl _, Nat.le_refl _⟩⟩
  | _, _, a, f, n + 1, .nil h1 h2 => ⟨a, f, by simpa using Reps.nil h1 h2, fun _ => ⟨Nat.le_refl _, Nat.le_refl _⟩⟩
  | _, _, a, f, n + 1, .cons h t e1 e2 => by
    obtain ⟨a', f', r, q⟩ := Reps.drop n t
    exact ⟨a', f', by simpa using r, fun x => by have := q x; rw [e1, e2]; omega⟩
theorem Reps.take {K : PySem.W.Frag} {mg : Str → Option Value} {H : Hp} {ρ : List Addr} : ∀ {ds : List D} {vs : List V} {a f : Cnt} (n : Nat), Reps K mg H ρ ds vs a f → ∃ a' f', Reps K mg H ρ (ds.take n) (vs.take n) a' f' ∧ ∀ x, a' x ≤ a x ∧ f' x ≤ f x
  | _, _, a, f, 0, h => ⟨c0, c0, by rw [List.take_zero, List.take_zero]; exact Reps.nil (fun _ => rfl) (fun _ => rfl), fun _ => ⟨Nat.zero_le _, Nat.zero_le _⟩⟩
  | _, _, a, f, n + 1, .nil h1 h2 => ⟨a, f, by simpa using Reps.nil h1 h2, fun _ => ⟨Nat.le_refl _, Nat.le_refl _⟩⟩
  | _, _, a, f, n + 1, .cons h t e1 e2 => by
    obtain ⟨a', f', r, q⟩ := Reps.take n t
    refine ⟨_, _, by simpa using Reps.cons h r (fun _ => rfl) (fun _ => rfl), fun x => ?_⟩
    have := q x
    rw [e1, e2]
    omega
theorem Reps.atI {K : PySem.W.Frag} {mg : Str → Option Value} {H : Hp} {ρ : List Addr} {ds : List D} {vs : List V} {a f : Cnt} {i : Int} {d : D} (h : Reps K mg H ρ ds vs a f) (e : L2.atI ds i = some d) : ∃ v a' f', L2.atI vs i = some v ∧ Rep K mg H ρ d v a' f' ∧ ∀ x, a' x ≤ a x ∧ f' x ≤ f x := by
  unfold L2.atI at e ⊢
  rw [Option.bind_eq_some_iff] at e
  obtain ⟨j, e1, e2⟩ := e
  obtain ⟨v, a', f', q1, q2, q3⟩ := h.at e2
  exact ⟨v, a', f', by rw [← h.length, e1]; exact q1, q2, q3⟩
def gIx : Sto → List D → Option D := fun s ds => match ds with
  | [.lst _ xs, .int i] => L2.atI xs i
  | [.tup xs, .int i] => L2.atI xs i
  | [.ro ns, .int i] => (L2.atI ns i).map .int
  | [.box n, .int i] => (s[n]?).bind fun xs => L2.atI xs i
  | [.str z, .int i] => if z.length ≤ sizeLine then (L2.atI z.cps.toList i).map fun c => .str ⟨#[c]⟩ else none
  | _ => none
theorem atI_map {α β : Type} (g : α → β) (xs : List α) (i : Int) : L2.atI (xs.map g) i = (L2.atI xs i).map g := by
  unfold L2.atI
  rw [List.length_map]
  cases L2.ixN xs.length i with
  | none => rfl
  | some j => simp
def cutD {α : Type} (xs : List α) (lo hi : Option Int) : List α := (xs.drop (HT.sIx xs.length 0 lo)).take (HT.sIx xs.length xs.length hi - HT.sIx xs.length 0 lo)
def gSlW (d : D) (lo hi : Option Int) : Option D := match d with
  | .lst _ xs => some (.lst true (cutD xs lo hi))
  | .tup xs => some (.tup (cutD xs lo hi))
  | .ro ns => some (.lst true ((cutD ns lo hi).map .int))
  | .str z => if z.length ≤ sizeLine then some (.str (cutS z lo hi)) else none
  | _ => none
def gSl10 : Sto → List D → Option D := fun _ ds => match ds with
  | [d, .int i] => gSlW d (some i) none
  | _ => none
def gSl01 : Sto → List D → Option D := fun _ ds => match ds with
  | [d, .int j] => gSlW d none (some j)
  | _ => none
def rSlZ (K : PySem.W.Frag) : V → Option Int → Option Int → Hp → VK → Prop := fun x lo hi H Q => rSlL K x lo hi H Q ∨ rSlA K x lo hi H Q ∨ rSlS x lo hi H Q
theorem sl_any {X : Cx} : SlR X (rSlZ X.K) := by
  intro pins s σ H x v vl vu lo hi sl Q I rx hs pl pu h
  rcases h with h | h | h
  · exact sl_list pins s σ H x v vl vu lo hi sl Q I rx hs pl pu h
  · exact sl_tupA pins s σ H x v vl vu lo hi sl Q I rx hs pl pu h
  · exact sl_str pins s σ H x v vl vu lo hi sl Q I rx hs pl pu h
section
variable {K : PySem.W.Frag} {mg : Str → Option Value}
theorem v_ix : OpV K mg (r2 (rIx K)) gIx := by
  intro ρ s H ds vs a f d w r h e Q q
  unfold Zm.gIx at e
  split at e
  · obtain ⟨v1, v2, a1, f1, a2, f2, rfl, r1, r2, eq⟩ := r.inv2
    cases inv_int r2
    obtain ⟨p1, vs1, b1, g1, rfl, h1, t1, l1⟩ := inv_lst r1
    obtain ⟨v, a', f', e1, rp, le⟩ := t1.atI e
    have le' : ∀ x, a' x ≤ a x ∧ f' x ≤ f x := fun x => by have := eq x; have := l1 x; have := le x; omega
    exact ⟨_, _, rfl, .inl ⟨p1, _, _, v, rfl, rfl, SqL.of h1, e1, q _ H _ _ (fun _ _ h => h) rp ((Out.refl (h.le le')).le le')⟩⟩
  · obtain ⟨v1, v2, a1, f1, a2, f2, rfl, r1, r2, eq⟩ := r.inv2
    cases inv_int r2
    obtain ⟨p1, vs1, rfl, h1, t1⟩ := inv_tup r1
    obtain ⟨v, a', f', e1, rp, le⟩ := t1.atI e
    have le' : ∀ x, a' x ≤ a x ∧ f' x ≤ f x := fun x => by have := eq x; have := le x; omega
    exact ⟨_, _, rfl, .inr (.inl ⟨p1, _, _, v, rfl, rfl, SqT.of h1, e1, q _ H _ _ (fun _ _ h => h) rp ((Out.refl (h.le le')).le le')⟩)⟩
  · obtain ⟨v1, v2, a1, f1, a2, f2, rfl, r1, r2, eq⟩ := r.inv2
    cases inv_int r2
    cases r1 with
    | ro hq _ _ =>
      rw [Option.map_eq_some_iff] at e
      obtain ⟨n, e1, rfl⟩ := e
      exact ⟨_, _, rfl, .inl ⟨_, _, _, _, rfl, rfl, hq.L, by rw [atI_map, e1]; rfl, fin_int q⟩⟩
  · obtain ⟨v1, v2, a1, f1, a2, f2, rfl, r1, r2, eq⟩ := r.inv2
    cases inv_int r2
    cases r1 with
    | box hn _ _ =>
      rw [Option.bind_eq_some_iff] at e
      obtain ⟨xs, e1, e2⟩ := e
      obtain ⟨pl, vs1, b1, g1, hp, t1⟩ := w.at_ _ _ _ hn e1
      obtain ⟨v, a', f', e3, rp, le⟩ := t1.atI e2
      have z := t1.plain pl
      exact ⟨_, _, rfl, .inl ⟨_, _, _, v, rfl, rfl, SqL.of hp, e3, q _ H _ _ (fun _ _ h => h) rp (.zero (fun x => by have := z x; have := le x; omega) (fun x => by have := z x; have := le x; omega))⟩⟩
  · split at e
    · rename_i z
      obtain ⟨v1, v2, a1, f1, a2, f2, rfl, r1, r2, eq⟩ := r.inv2
      cases inv_int r2; cases inv_str r1
      rw [Option.map_eq_some_iff] at e
      obtain ⟨c, e1, rfl⟩ := e
      exact ⟨_, _, rfl, .inr (.inr ⟨_, _, c, rfl, rfl, z, e1, fin_str q⟩)⟩
    · cases e
  · cases e
theorem sl_core {ρ : List Addr} {s : Sto} {H : Hp} {d0 d : D} {v : V} {a f : Cnt} {lo hi : Option Int} (w : Wd K mg ρ s H) (r : Rep K mg H ρ d0 v a f) (h : Sp1 a f) (e : gSlW d0 lo hi = some d) (Q : VK) (q : ∀ v H' a' f', Same H H' → Rep K mg H' ρ d v a' f' → Out a f H a' f' → Q v H') : rSlZ K v lo hi H Q := by
  cases d0 <;> simp only [gSlW, reduceCtorEq, Option.some.injEq] at e
  · split at e
    · rename_i z
      cases e
      cases inv_str r
      exact .inr (.inr ⟨_, rfl, z, fin_str q⟩)
    · cases e
  · subst e
    obtain ⟨p1, vs1, rfl, h1, t1⟩ := inv_tup r
    refine .inr (.inl ⟨p1, vs1, rfl, SqT.of h1, fun c => ?_, fun c p hp => ?_⟩)
    · have hx : ∀ {α : Type} (xs : List α), xs.length = vs1.length → cutD xs lo hi = xs := fun xs hl => by
        unfold cutD
        rw [hl, c.1, c.2]
        simp [← hl]
      rw [hx _ t1.length] at q
      exact q _ H _ _ (fun _ _ h => h) (.tup h1 t1) (.refl h)
    · unfold cutD at q
      obtain ⟨a1, f1, t2, le1⟩ := t1.drop (HT.sIx vs1.length 0 lo)
      obtain ⟨a2, f2, t3, le2⟩ := t2.take (HT.sIx vs1.length vs1.length hi - HT.sIx vs1.length 0 lo)
      rw [t1.length] at q
      have le : ∀ x, a2 x ≤ a x ∧ f2 x ≤ f x := fun x => by have := le1 x; have := le2 x; omega
      exact q _ _ _ _ (same_upd hp) (new_tup hp t3) ((Out.refl (h.le le)).le le)
  · subst e
    obtain ⟨p1, vs1, b1, g1, rfl, h1, t1, l1⟩ := inv_lst r
    refine .inl ⟨p1, vs1, rfl, SqL.of h1, fun p hp => ?_⟩
    unfold cutD at q
    obtain ⟨a1, f1, t2, le1⟩ := t1.drop (HT.sIx vs1.length 0 lo)
    obtain ⟨a2, f2, t3, le2⟩ := t2.take (HT.sIx vs1.length vs1.length hi - HT.sIx vs1.length 0 lo)
    rw [t1.length] at q
    have le : ∀ x, a2 x ≤ a x ∧ f2 x ≤ f x := fun x => by have := le1 x; have := le2 x; have := l1 x; omega
    obtain ⟨n1, n2⟩ := new_lst w hp t3 (h.le le)
    exact q _ _ _ _ (same_upd hp) n1 (n2.le le)
  · subst e
    cases r with
    | ro hq _ _ =>
      refine .inl ⟨_, _, rfl, hq.L, fun p hp => ?_⟩
      have e2 : ∀ ns : List Int, cutV (ns.map V.int) lo hi = (cutD ns lo hi).map V.int := fun ns => by
        unfold cutV cutD
        rw [List.length_map, List.map_take, List.map_drop]
      rw [e2]
      obtain ⟨n1, n2⟩ := new_lst w hp (reps_ints _) (fun x => ⟨Nat.zero_le _, fun z => no0 z⟩)
      exact q _ _ _ _ (same_upd hp) n1 (n2.le fun x => ⟨Nat.zero_le _, Nat.zero_le _⟩)
end
section
variable {X : Cx} {W : WX} {e : Expr} {m ma mb mc : M} {ms : List M} {pos p2 : Pos} {a b c : Expr}
theorem s_ix (ha : SE X W a ma) (hb : SE X W b mb) (hs : PlainIx b := by intro _ _; rfl) : SE X W (.Subscript a b pos) (mOp gIx [ma, mb]) :=
  PE.imp (pe_ix ix_seq ha hb hs) fun σ H Q h => rE_mono (rA_2 (rA_op v_ix h)) fun v H1 q => rE_mono q fun u H2 ⟨x, y, e, z⟩ => by cases e; exact z
theorem v_sl10 {K : PySem.W.Frag} {mg : Str → Option Value} : OpV K mg (fun vs H Q => ∃ x i, vs = [x, .int i] ∧ rSlZ K x (some i) none H Q) gSl10 := by
  intro ρ s H ds vs a f d w r h e Q q
  unfold Zm.gSl10 at e
  split at e
  · obtain ⟨v1, v2, a1, f1, a2, f2, rfl, r1, r2, eq⟩ := r.inv2
    cases inv_int r2
    have le : ∀ x, a1 x ≤ a x ∧ f1 x ≤ f x := fun x => by have := eq x; omega
    exact ⟨_, _, rfl, sl_core w r1 (h.le le) e Q fun v H' a' f' s1 r1 o => q v H' a' f' s1 r1 (o.le le)⟩
  · cases e
theorem v_sl01 {K : PySem.W.Frag} {mg : Str → Option Value} : OpV K mg (fun vs H Q => ∃ x i, vs = [x, .int i] ∧ rSlZ K x none (some i) H Q) gSl01 := by
  intro ρ s H ds vs a f d w r h e Q q
  unfold Zm.gSl01 at e
  split at e
  · obtain ⟨v1, v2, a1, f1, a2, f2, rfl, r1, r2, eq⟩ := r.inv2
    cases inv_int r2
    have le : ∀ x, a1 x ≤ a x ∧ f1 x ≤ f x := fun x => by have := eq x; omega
    exact ⟨_, _, rfl, sl_core w r1 (h.le le) e Q fun v H' a' f' s1 r1 o => q v H' a' f' s1 r1 (o.le le)⟩
  · cases e
theorem s_sl10 (ha : SE X W a ma) (hb : SE X W b mb) : SE X W (.Subscript a (.Slice (some b) none none p2) pos) (mOp gSl10 [ma, mb]) :=
  PE.imp (pe_slice sl_any ha (po_some hb) po_none) fun σ H Q h => rE_mono (rA_2 (rA_op v_sl10 h)) fun v H1 q => rE_mono q fun u H2 ⟨x, i, e, z⟩ => by cases e; exact ⟨_, rfl, z⟩
theorem s_sl01 (ha : SE X W a ma) (hb : SE X W b mb) : SE X W (.Subscript a (.Slice none (some b) none p2) pos) (mOp gSl01 [ma, mb]) :=
  PE.imp (pe_slice sl_any ha po_none (po_some hb)) fun σ H Q h => rE_mono (rA_2 (rA_op v_sl01 h)) fun v H1 q => rE_mono q fun u H2 ⟨x, i, e, z⟩ => by cases e; exact ⟨_, rfl, z⟩
@[simp] def mI (m : M) : M := fun σ s => (m σ s).bind fun d s' => match d with
  | .int i => .ok (.int i) s'
  | _ => .bad
end
/-! ### built-ins -/
@[simp] def gLen : Sto → List D → Option D := fun s ds => match ds with
  | [.lst _ xs] => some (.int (xs.length : Nat))
  | [.tup xs] => some (.int (xs.length : Nat))
  | [.ro ns] => some (.int (ns.length : Nat))
  | [.box n] => (s[n]?).map fun xs => .int (xs.length : Nat)
  | [.str z] => if z.length ≤ sizeLine then some (.int (z.length : Nat)) else none
  | _ => none
@[simp] def gAbs : Sto → List D → Option D := fun _ ds => match ds with
  | [.int i] => some (.int (if i < 0 then -i else i))
  | _ => none
@[simp] def gMax2 : Sto → List D → Option D := fun _ ds => match ds with
  | [.int i, .int j] => some (.int (if j > i then j else i))
  | _ => none
@[simp] def gMin2 : Sto → List D → Option D := fun _ ds => match ds with
  | [.int i, .int j] => some (.int (if j < i then j else i))
  | _ => none
def toBls : List D → Option (List Bool)
  | [] => some []
  | .bl i :: ds => (toBls ds).map (i :: ·)
  | _ => none
@[simp] theorem toBls_map (ns : List Bool) : toBls (ns.map D.bl) = some ns := by
  induction ns with
  | nil => rfl
  | cons n ns ih => simp [toBls, ih]
def gAll : Sto → List D → Option D := fun _ ds => match ds with
  | [.lst _ xs] => (toBls xs).map fun bs => .bl (bs.all id)
  | _ => none
def gList : Sto → List D → Option D := fun s ds => match ds with
  | [.lst _ xs] => some (.lst true xs)
  | [.tup xs] => some (.lst true xs)
  | [.ro ns] => some (.lst true (ns.map .int))
  | [.box n] => (s[n]?).map fun xs => .lst true xs
  | _ => none
def gTuple : Sto → List D → Option D := fun s ds => match ds with
  | [.lst _ xs] => some (.tup xs)
  | [.tup xs] => some (.tup xs)
  | [.ro ns] => some (.tup (ns.map .int))
  | _ => none
@[simp] def tyOf : D → Option String
  | .non => some "NoneType" | .bl _ => some "bool" | .int _ => some "int" | .str _ => some "str" | .tup _ => some "tuple" | .lst _ _ => some "list" | .ro _ => some "list" | .box _ => some "list" | .dic _ false _ _ => some "dict"
  | _ => none
@[simp] def isiB (a b : String) : Bool := a == b || (a == "bool" && b == "int")
@[simp] def knownT (b : String) : Bool := ["int", "bool", "tuple", "list", "str", "dict"].contains b
theorem kit_known {a b : String} {d : D} (h : tyOf d = some a) (hb : knownT b = true) : kitB a b = some (isiB a b) := by
  have hb : b = "int" ∨ b = "bool" ∨ b = "tuple" ∨ b = "list" ∨ b = "str" ∨ b = "dict" := by simpa [knownT] using hb
  have ha : a = "NoneType" ∨ a = "bool" ∨ a = "int" ∨ a = "str" ∨ a = "tuple" ∨ a = "list" ∨ a = "dict" := by
    unfold tyOf at h
    split at h <;> first | cases h; simp | cases h
  rcases ha with rfl | rfl | rfl | rfl | rfl | rfl | rfl <;> rcases hb with rfl | rfl | rfl | rfl | rfl | rfl <;> decide +kernel
@[simp] def gIsi : Sto → List D → Option D := fun _ ds => match ds with
  | [x, .ty b] => (tyOf x).bind fun a => if knownT b = true then some (.bl (isiB a b)) else none
  | _ => none
@[simp] def gIsi2 : Sto → List D → Option D := fun _ ds => match ds with
  | [x, .tup [.ty b, .ty c]] => (tyOf x).bind fun a => if knownT b = true ∧ knownT c = true then some (.bl (isiB a b || isiB a c)) else none
  | _ => none
def gRepr : Sto → List D → Option D := fun _ ds => match ds with
  | [d] => (pd d).bind fun x => if x.showable = true ∧ x.hasDict = false ∧ x.depth ≤ 60 ∧ x.shown.length ≤ sizeLine then some (.str x.shown) else none
  | _ => none
def gStr : Sto → List D → Option D := fun _ ds => match ds with
  | [.int i] => if sm i = true then some (.str (toString i)) else none
  | _ => none
section
variable {K : PySem.W.Frag} {mg : Str → Option Value} {X : Cx}
theorem v_len : OpV K mg (fun xs H Q => ∃ x n, xs = [x] ∧ LenV K x H n ∧ Q (.int n) H) gLen := by
  intro ρ s H ds vs a f d w r h e Q q
  unfold Zm.gLen at e
  split at e
  · cases e
    obtain ⟨v1, rfl, r1⟩ := r.inv1
    obtain ⟨p1, vs1, b1, g1, rfl, h1, t1, l1⟩ := inv_lst r1
    exact ⟨_, _, rfl, .inl ⟨_, SqL.of h1, t1.length⟩, fin_int q⟩
  · cases e
    obtain ⟨v1, rfl, r1⟩ := r.inv1
    obtain ⟨p1, vs1, rfl, h1, t1⟩ := inv_tup r1
    exact ⟨_, _, rfl, .inr ⟨_, SqT.of h1, t1.length⟩, fin_int q⟩
  · cases e
    obtain ⟨v1, rfl, r1⟩ := r.inv1
    cases r1 with
    | ro hq _ _ => exact ⟨_, _, rfl, .inl ⟨_, hq.L, by rw [List.length_map]⟩, fin_int q⟩
  · rw [Option.map_eq_some_iff] at e
    obtain ⟨xs, e1, rfl⟩ := e
    obtain ⟨v1, rfl, r1⟩ := r.inv1
    cases r1 with
    | box hn _ _ =>
      obtain ⟨pl, vs1, b1, g1, hp, t1⟩ := w.at_ _ _ _ hn e1
      exact ⟨_, _, rfl, .inl ⟨_, SqL.of hp, t1.length⟩, fin_int q⟩
  · split at e
    · rename_i z
      cases e
      obtain ⟨v1, rfl, r1⟩ := r.inv1
      cases inv_str r1
      exact ⟨_, _, rfl, ⟨z, rfl⟩, fin_int q⟩
    · cases e
  · cases e
theorem v_abs : OpV K mg (fun xs H Q => ∃ i, xs = [.int i] ∧ Q (.int (if i < 0 then -i else i)) H) gAbs := by
  intro ρ s H ds vs a f d w r h e Q q
  unfold Zm.gAbs at e
  split at e
  · cases e
    obtain ⟨v1, rfl, r1⟩ := r.inv1
    cases inv_int r1
    exact ⟨_, rfl, fin_int q⟩
  · cases e
theorem v_max2 : OpV K mg (fun xs H Q => ∃ i j, xs = [.int i, .int j] ∧ Q (.int (if j > i then j else i)) H) gMax2 := by
  intro ρ s H ds vs a f d w r h e Q q
  unfold Zm.gMax2 at e
  split at e
  · cases e
    obtain ⟨v1, v2, _, _, _, _, rfl, r1, r2, _⟩ := r.inv2
    cases inv_int r1; cases inv_int r2
    exact ⟨_, _, rfl, fin_int q⟩
  · cases e
theorem v_min2 : OpV K mg (fun xs H Q => ∃ i j, xs = [.int i, .int j] ∧ Q (.int (if j < i then j else i)) H) gMin2 := by
  intro ρ s H ds vs a f d w r h e Q q
  unfold Zm.gMin2 at e
  split at e
  · cases e
    obtain ⟨v1, v2, _, _, _, _, rfl, r1, r2, _⟩ := r.inv2
    cases inv_int r1; cases inv_int r2
    exact ⟨_, _, rfl, fin_int q⟩
  · cases e
theorem toBls_eq {K : PySem.W.Frag} {mg : Str → Option Value} {H : Hp} {ρ : List Addr} : ∀ {ds : List D} {bs : List Bool} {vs : List V} {a f : Cnt}, toBls ds = some bs → Reps K mg H ρ ds vs a f → vs = bs.map V.bl
  | [], _, _, _, _, h, r => by cases h; cases r; rfl
  | .bl b :: ds, _, _, _, _, h, .cons r t _ _ => by
    rw [toBls, Option.map_eq_some_iff] at h
    obtain ⟨r', e, rfl⟩ := h
    rw [inv_bl r, toBls_eq e t]; rfl
  | .non :: _, _, _, _, _, h, _ => by simp [toBls] at h
  | .int _ :: _, _, _, _, _, h, _ => by simp [toBls] at h
  | .str _ :: _, _, _, _, _, h, _ => by simp [toBls] at h
  | .tup _ :: _, _, _, _, _, h, _ => by simp [toBls] at h
  | .lst _ _ :: _, _, _, _, _, h, _ => by simp [toBls] at h
  | .dic _ _ _ _ :: _, _, _, _, _, h, _ => by simp [toBls] at h
  | .dil _ _ _ :: _, _, _, _, _, h, _ => by simp [toBls] at h
  | .box _ :: _, _, _, _, _, h, _ => by simp [toBls] at h
  | .fn _ :: _, _, _, _, _, h, _ => by simp [toBls] at h
  | .ty _ :: _, _, _, _, _, h, _ => by simp [toBls] at h
  | .exc _ _ :: _, _, _, _, _, h, _ => by simp [toBls] at h
  | .ro _ :: _, _, _, _, _, h, _ => by simp [toBls] at h
theorem v_all : OpV K mg (rAll K) gAll := by
  intro ρ s H ds vs a f d w r h e Q q
  unfold Zm.gAll at e
  split at e
  · rw [Option.map_eq_some_iff] at e
    obtain ⟨ns, e1, rfl⟩ := e
    obtain ⟨v1, rfl, r1⟩ := r.inv1
    obtain ⟨p1, vs1, b1, g1, rfl, h1, t1, l1⟩ := inv_lst r1
    rw [toBls_eq e1 t1] at h1
    exact ⟨p1, ns, rfl, SqL.of h1, fin_bl q⟩
  · cases e
theorem v_list : OpV K mg (fun xs H Q => ∃ p ys, xs = [.ref p] ∧ (SqL K H p ys ∨ SqT K H p ys) ∧ ∀ l, H l = none → Q (.ref l) (upd H l (.lst ys))) gList := by
  intro ρ s H ds vs a f d w r h e Q q
  unfold Zm.gList at e
  split at e
  · cases e
    obtain ⟨v1, rfl, r1⟩ := r.inv1
    obtain ⟨p1, vs1, b1, g1, rfl, h1, t1, l1⟩ := inv_lst r1
    refine ⟨p1, vs1, rfl, .inl (SqL.of h1), fun p hp => ?_⟩
    obtain ⟨n1, n2⟩ := new_lst w hp t1 (h.le l1)
    exact q _ _ _ _ (same_upd hp) n1 (n2.le l1)
  · cases e
    obtain ⟨v1, rfl, r1⟩ := r.inv1
    obtain ⟨p1, vs1, rfl, h1, t1⟩ := inv_tup r1
    refine ⟨p1, vs1, rfl, .inr (SqT.of h1), fun p hp => ?_⟩
    obtain ⟨n1, n2⟩ := new_lst w hp t1 h
    exact q _ _ _ _ (same_upd hp) n1 n2
  · cases e
    obtain ⟨v1, rfl, r1⟩ := r.inv1
    cases r1 with
    | ro hq _ _ =>
      refine ⟨_, _, rfl, .inl hq.L, fun p hp => ?_⟩
      obtain ⟨n1, n2⟩ := new_lst w hp (reps_ints _) (fun x => ⟨Nat.zero_le _, fun z => no0 z⟩)
      exact q _ _ _ _ (same_upd hp) n1 (n2.le fun x => ⟨Nat.zero_le _, Nat.zero_le _⟩)
  · rw [Option.map_eq_some_iff] at e
    obtain ⟨xs, e1, rfl⟩ := e
    obtain ⟨v1, rfl, r1⟩ := r.inv1
    cases r1 with
    | box hn _ _ =>
      obtain ⟨pl, vs1, b1, g1, hp1, t1⟩ := w.at_ _ _ _ hn e1
      have z := t1.plain pl
      have t0 := t1.cong (A' := c0) (F' := c0) (fun p => (z p).1.symm) (fun p => (z p).2.symm)
      refine ⟨_, _, rfl, .inl (SqL.of hp1), fun p hp => ?_⟩
      obtain ⟨n1, n2⟩ := new_lst w hp t0 (fun x => ⟨Nat.zero_le _, fun z => no0 z⟩)
      exact q _ _ _ _ (same_upd hp) n1 (n2.le fun x => ⟨Nat.zero_le _, Nat.zero_le _⟩)
  · cases e
theorem v_tuple : OpV K mg (fun xs H Q => ∃ p ys, xs = [.ref p] ∧ ((SqL K H p ys ∧ ∀ l, H l = none → Q (.ref l) (upd H l (.tup ys))) ∨ (SqT K H p ys ∧ Q (.ref p) H))) gTuple := by
  intro ρ s H ds vs a f d w r h e Q q
  unfold Zm.gTuple at e
  split at e
  · cases e
    obtain ⟨v1, rfl, r1⟩ := r.inv1
    obtain ⟨p1, vs1, b1, g1, rfl, h1, t1, l1⟩ := inv_lst r1
    exact ⟨p1, vs1, rfl, .inl ⟨SqL.of h1, fun p hp => q _ _ _ _ (same_upd hp) (new_tup hp t1) ((Out.refl (h.le l1)).le l1)⟩⟩
  · cases e
    obtain ⟨v1, rfl, r1⟩ := r.inv1
    obtain ⟨p1, vs1, rfl, h1, t1⟩ := inv_tup r1
    exact ⟨p1, vs1, rfl, .inr ⟨SqT.of h1, q _ H _ _ (fun _ _ h => h) (.tup h1 t1) (.refl h)⟩⟩
  · cases e
    obtain ⟨v1, rfl, r1⟩ := r.inv1
    cases r1 with
    | ro hq _ _ => exact ⟨_, _, rfl, .inl ⟨hq.L, fun p hp => q _ _ _ _ (same_upd hp) (new_tup hp (reps_ints _)) (.zero (fun _ => rfl) (fun _ => rfl))⟩⟩
  · cases e
theorem isi_ty {H : Hp} {ρ : List Addr} {s : Sto} {d : D} {v : V} {a f : Cnt} {n : String} (w : Wd K mg ρ s H) (e : tyOf d = some n) (r : Rep K mg H ρ d v a f) : TyX K H v (.type n) := by
  have dk : ∀ {o : Bool} {ks vs : List D} {v : V}, Rep K mg H ρ (.dic o false ks vs) v a f → TyX K H v (.type "dict") := fun h => by
    cases h with
    | dicO h _ _ _ _ _ =>
      obtain ⟨u, e, kvs, rfl, _⟩ := h
      exact .base (.dK e)
    | dicF h _ _ _ _ _ =>
      obtain ⟨u, e | ⟨o, e⟩, kvs, rfl, _⟩ := h
      · exact .base (.dK e)
      · exact .fDict e
  cases d
  case dic o t ks vs =>
    cases t with
    | true => simp [tyOf] at e
    | false => simp only [tyOf, Option.some.injEq] at e; subst e; exact dk r
  all_goals simp only [tyOf, Option.some.injEq, reduceCtorEq] at e
  all_goals subst e
  · cases r; exact .base .non
  · cases r; exact .base (.bl _)
  · cases r; exact .base (.int _)
  · cases r; exact .base (.str _)
  · obtain ⟨p1, vs1, rfl, h1, t1⟩ := inv_tup r; exact .base (.tup h1)
  · obtain ⟨p1, vs1, b1, g1, rfl, h1, t1, l1⟩ := inv_lst r; exact .base (.lst h1)
  · cases r with
    | box hn _ _ =>
      obtain ⟨l, hl⟩ := w.lst (List.mem_of_getElem? hn)
      exact .base (.lst hl)
  · cases r with
    | ro hq _ _ =>
      rcases hq with ⟨o, hq⟩ | ⟨o, its, n, h1, h2, _⟩
      · exact .base (.frz hq)
      · exact .kList h1 h2
theorem v_isi : OpV K mg (rIsi K) gIsi := by
  intro ρ s H ds vs a f d w r h e Q q
  unfold Zm.gIsi at e
  split at e
  · rw [Option.bind_eq_some_iff] at e
    obtain ⟨n, e1, e2⟩ := e
    split at e2
    · rename_i z
      cases e2
      obtain ⟨v1, v2, _, _, _, _, rfl, r1, r2, _⟩ := r.inv2
      cases r2 with
      | ty _ _ => exact ⟨_, _, _, _, _, rfl, .ty _, isi_ty w e1 r1, kit_ty (kit_known e1 z), fin_bl q⟩
    · cases e2
  · cases e
theorem v_isi2 : OpV K mg (rIsiT K) gIsi2 := by
  intro ρ s H ds vs a f d w r h e Q q
  unfold Zm.gIsi2 at e
  split at e
  · rw [Option.bind_eq_some_iff] at e
    obtain ⟨n, e1, e2⟩ := e
    split at e2
    · rename_i z
      cases e2
      obtain ⟨v1, v2, _, _, _, _, rfl, r1, r2, _⟩ := r.inv2
      obtain ⟨p1, vs1, rfl, h1, t1⟩ := inv_tup r2
      obtain ⟨u1, u2, _, _, _, _, rfl, q1, q2, _⟩ := t1.inv2
      cases q1; cases q2
      refine ⟨_, _, _, _, _, _, rfl, h1, .cons (.ty _) (.cons (.ty _) .nil), isi_ty w e1 r1, ?_, fin_bl q⟩
      refine kitAny_cons (kit_ty (kit_known e1 z.1)) (fun hb => ?_) (fun hb => by rw [hb]; rfl)
      rw [hb, Bool.false_or]
      exact kitAny_cons (kit_ty (kit_known e1 z.2)) (fun hb => by rw [hb]; exact kitAny_nil) (fun hb => hb)
    · cases e2
  · cases e
theorem v_str : OpV K mg (fun xs H Q => ∃ i, xs = [.int i] ∧ i.natAbs.log2 < 1920 ∧ Q (.str (toString i)) H) gStr := by
  intro ρ s H ds vs a f d w r h e Q q
  unfold Zm.gStr at e
  split at e
  · split at e
    · rename_i z
      cases e
      obtain ⟨v1, rfl, r1⟩ := r.inv1
      cases inv_int r1
      exact ⟨_, rfl, by have := sm_log z; omega, fin_str q⟩
    · cases e
  · cases e
end
end Zm
set_option Elab.async false
set_option linter.all false
set_option maxRecDepth 100000
set_option autoImplicit false
/-! Z12: the law's own call. -/
namespace Zm
open PySem PySem.Spec PyProof.Rows L2
section
variable {P : Program} {w : World} {K : PySem.W.Frag} {mg mb : Str → Option Value}
/-- from a heap in which at most the script is tracked -/
theorem call_from {k : Nat} {fa a : Addr} {fd : FuncData} {x : Str} {sp : Sp} {s₁ : Shared} {vs : List Value} {ns : List Int} {H : Hp}
    (kx : K.In s₁.heap) (nsm : s₁.heap.Ns mainGlobals mg) (nsb : s₁.heap.Ns builtinsNs mb)
    (bb : ∀ x : Str, x ≠ "__name__" → mb x = bootBuiltins x) (lim : s₁.heap.NoLimit) (gg : s₁.gens = #[])
    (at_a : s₁.heap.get? a = some { cls := .type "list", data := .seq vs.toArray })
    (hr : Room k callerA)
    (F : ∀ base : Heap, K.In base → base.Ns mainGlobals mg → FnG P w K mg base k fa fd [x] sp)
    (bnd : ∀ (s : Shared) (u : Value), BindsTo s fd ⟨[u], []⟩ [(x, u)])
    (fz : ∀ b o, H b = some o → b = a ∧ K.lookup a = none ∧ ∃ ob xs, o = .frz ob (.lst xs)) (hok : HOk P w H s₁.heap)
    (want : sp [.ref a] H (fun v _ => v = .bl true) fun _ _ _ => False) :
    codeAny (model P w) callerA (.call (.ref fa) ⟨[.ref a], []⟩)
      (fun r s' => r = .ok (.ret (.bool true)) ∧ OldK s₁.heap s'.heap ∧ s'.os = s₁.os ∧ AllBare s'.gens) s₁ := by
  have untracked : ∀ {b : Addr} {o : Obj} {es : Array DictEntry} {ep : Nat}, s₁.heap.get? b = some o → o.data = .dict es ep → H b = none := by
    intro b o es ep e d
    match q : H b with
    | none => rfl
    | some u =>
      obtain ⟨rfl, _⟩ := fz b u q
      rw [at_a] at e
      cases e
      exact nomatch d
  have up : ∀ {b : Addr} {m : Str → Option Value}, s₁.heap.Ns b m → (hidT s₁.heap H).Ns b m := by
    rintro b m ⟨o, es, ep, e, d, r⟩
    exact ⟨o, es, ep, hidT_get e (untracked e d), d, r⟩
  have kb : K.In (hidT s₁.heap H) := by
    intro b o e
    refine hidT_get (kx b o e) ?_
    match q : H b with
    | none => rfl
    | some u =>
      obtain ⟨rfl, hk, _⟩ := fz b u q
      rw [hk] at e; cases e
  obtain ⟨mc, l1, l2⟩ := lim
  have md : Mod K mg (hidT s₁.heap H) := ⟨kb, up nsm, ⟨mb, up nsb, bb⟩, mc, up l1, l2⟩
  have none_in : ∀ b : Addr, b ∉ frs ([] : List PySem.Env) := fun b z => by simp [frs] at z
  have ent : Env0 P w K mg (hidT s₁.heap H) callerA [] s₁ H :=
    ⟨rfl, md, fun b o e => of_hidT e, Nat.le_of_eq (hidT_size _ _), trivial, fun b hb => (none_in b hb).elim, hok, .of_eq gg⟩
  have run := (F _ kb (up nsm)).run callerA [] s₁ H ⟨[.ref a], []⟩ [.ref a] [.ref a] _ _ hr rfl ent (bnd s₁ (.ref a)) (.cons rfl .nil) want
  refine codeAny_mono run ?_
  intro r s' h
  match r, h with
  | .error e, h =>
    obtain ⟨_, _, _, _, _, _, _, _, _, _, _, _, z⟩ := h
    exact z.elim
  | .ok .next, h => exact h.elim
  | .ok .brk, h => exact h.elim
  | .ok .cont, h => exact h.elim
  | .ok (.ret u), h =>
    obtain ⟨v, H', os, bare, un, hok', rel, q⟩ := h
    cases (show v = .bl true from q)
    cases (show u = Value.bool true from rel)
    refine ⟨rfl, OldK.of_keep ?_, os, bare⟩
    intro b o e
    match q : H b with
    | none => exact un.keep b o e q (none_in b) (by simp)
    | some u =>
      obtain ⟨_, _, ob, xs, rfl⟩ := fz b u q
      have after := (hok' b _ (un.frzs b ob _ q)).1
      have ahead := (hok b _ q).1
      rw [e] at ahead
      cases ahead
      exact after
theorem law_callG {k : Nat} {fa a : Addr} {fd : FuncData} {x : Str} {sp : Sp} {s₁ : Shared} {vs : List Value} {ns : List Int}
    (kx : K.In s₁.heap) (nsm : s₁.heap.Ns mainGlobals mg) (nsb : s₁.heap.Ns builtinsNs mb)
    (bb : ∀ x : Str, x ≠ "__name__" → mb x = bootBuiltins x) (lim : s₁.heap.NoLimit) (gg : s₁.gens = #[])
    (at_a : s₁.heap.get? a = some { cls := .type "list", data := .seq vs.toArray }) (ia : IntsAre vs ns) (hl : ns.length ≤ sizeLine)
    (hr : Room k callerA)
    (F : ∀ base : Heap, K.In base → base.Ns mainGlobals mg → FnG P w K mg base k fa fd [x] sp)
    (bnd : ∀ (s : Shared) (u : Value), BindsTo s fd ⟨[u], []⟩ [(x, u)])
    (hsp : ∀ H : Hp, SqR K H a (ns.map V.int) → sp [.ref a] H (fun v _ => v = .bl true) fun _ _ _ => False) :
    codeAny (model P w) callerA (.call (.ref fa) ⟨[.ref a], []⟩)
      (fun r s' => r = .ok (.ret (.bool true)) ∧ OldK s₁.heap s'.heap ∧ s'.os = s₁.os ∧ AllBare s'.gens) s₁ := by
  have rv := vals_ints ia
  have ln := ia.length
  match hk : K.lookup a with
  | some o =>
    have e := kx a o hk
    rw [at_a] at e
    cases e
    refine call_from (ns := ns) (H := fun _ => none) kx nsm nsb bb lim gg at_a hr F bnd (fun b o z => nomatch z) (fun b o z => nomatch z) (hsp _ (.inr ⟨_, vs.toArray, _, hk, rfl, rfl, rfl, ?_, by simpa using rv⟩))
    rw [List.size_toArray, ln]
    exact hl
  | none =>
    let ob : Obj := { cls := .type "list", data := .seq vs.toArray }
    let H : Hp := fun b => if b = a then some (.frz ob (.lst (ns.map V.int))) else none
    have onA : H a = some (.frz ob (.lst (ns.map V.int))) := if_pos rfl
    have cas : ∀ b o, H b = some o → b = a ∧ o = .frz ob (.lst (ns.map V.int)) := by
      intro b o z
      by_cases hb : b = a
      · subst hb
        rw [onA] at z
        exact ⟨rfl, (Option.some.inj z).symm⟩
      · have : H b = none := if_neg hb
        rw [this] at z; cases z
    refine call_from (ns := ns) (H := H) kx nsm nsb bb lim gg at_a hr F bnd (fun b o z => ?_) (fun b o z => ?_) (hsp H (.inl ⟨ob, onA⟩))
    · obtain ⟨rfl, rfl⟩ := cas b o z
      exact ⟨rfl, hk, _, _, rfl⟩
    · obtain ⟨rfl, rfl⟩ := cas b o z
      exact ⟨at_a, by rw [List.length_map]; exact hl, vs, _, rv, at_a⟩
end
/-- the end of a law's row -/
theorem walk_ofG {l : PySem.W.OpenLaw} {n k : Nat} {q : Program} {loose : List Str} {XP : (Str → Option Value) → Heap → Prop} {YP : World → Heap → Prop} {d : DefRec} {K : Params → PySem.W.Frag} {m : Fn} {x : Str}
    (hn : l.most = some n) (hn2 : n ≤ sizeLine) (hdf : d.params.defaults = []) (hr : Room k callerA)
    (hY : ∀ (w : World) (h : Heap), YP w h → (K w.params).In h)
    (F : ∀ (w : World) (mg : Str → Option Value) (fa : Addr) (h : Heap), (K w.params).In h → h.Ns mainGlobals mg → mg d.name = some (.ref fa) →
      ∃ fd : FuncData, (∀ (s : Shared) (u : Value), BindsTo s fd ⟨[u], []⟩ [(x, u)]) ∧
        ∀ base : Heap, (K w.params).In base → base.Ns mainGlobals mg → FnG l.prog w (K w.params) mg base k fa fd [x] (spF (K w.params) mg m))
    (good : ∀ ns : List Int, ns.length ≤ n → ∃ s, m [.ro ns] [] = .ok (.bl true) s) :
    PySem.W.WalkO q loose XP YP l.row.toRowW d [] (fun f vs => PySem.call f vs) := by
  refine Att.attach_call hn hdf ?_
  intro w s₀ s₁ mg mb fa o pm cd doc a vs ns G Y ho hd hcd hmg hobj hints hlen hg
  have kx := hY w _ Y
  obtain ⟨fd, hb, hF⟩ := F w mg fa _ kx G.T.g hmg
  refine law_callG kx G.T.g G.T.b G.T.builtins G.T.nolimit hg hobj hints (Nat.le_trans hlen hn2) hr hF hb ?_
  intro H hS
  obtain ⟨s, hs⟩ := good ns hlen
  refine ⟨[.ro ns], [], [], c0, c0, ⟨rfl, .nil, fun n p xs e => by simp at e⟩, Reps.one (.ro hS (fun _ => rfl) (fun _ => rfl)), fun x => ⟨Nat.zero_le _, fun z => no0 z⟩, ?_⟩
  rw [hs]
  intro v H' ρ' a' f' _ _ rp _
  exact inv_bl rp
end Zm
set_option Elab.async false
set_option linter.all false
set_option maxRecDepth 100000
set_option autoImplicit false
/-! Z13: what is never reached; lists written by methods and by places; targets of many names. -/
namespace Zm
open PySem PySem.Spec PyProof.Rows L2
@[simp] def mBadE : M := fun _ _ => .bad
@[simp] def mBadS : MS := fun _ _ => .bad
section
variable {X : Cx} {W : WX} {st : Stmt} {sts : List Stmt} {e : Expr}
end
/-! ### the value may be frozen: then the mask's slots are, too -/
def mSetD (msk : List Bool) (i : Nat) (m : M) : MS := fun σ s => (m σ s).to σ fun d s' => if noF d = true then (if i < σ.length then .nx (σ.set i (some d)) s' else .bad) else mSetF msk i m σ s
theorem rS_or {K : PySem.W.Frag} {mg : Str → Option Value} {W : WX} {m m' m2 : MS} {D : Ends} {σ : L2.St} {H : Hp} {P : Prop} (h : rS K mg W m D σ H) (hm : ∀ σ s, m σ s = m' σ s ∨ m σ s = m2 σ s)
    (h1 : rS K mg W m' D σ H → P) (h2 : rS K mg W m2 D σ H → P) : P := by
  obtain ⟨σm, s, ρ, A, F, rel, h⟩ := h
  rcases hm σm s with e | e
  · exact h1 ⟨σm, s, ρ, A, F, rel, e ▸ h⟩
  · exact h2 ⟨σm, s, ρ, A, F, rel, e ▸ h⟩
theorem setD_or {msk : List Bool} {i : Nat} {m : M} (σ : Env) (s : Sto) : mSetD msk i m σ s = mSet i m σ s ∨ mSetD msk i m σ s = mSetF msk i m σ s := by
  unfold mSetD mSet
  cases m σ s with
  | bad => exact .inl rfl
  | ex x s1 => exact .inl rfl
  | ok d s1 =>
    simp only [R.to_ok]
    by_cases z : noF d = true
    · left; by_cases y : i < σ.length <;> simp [z, y]
    · right; simp [z]
section
variable {X : Cx} {W : WX} {e : Expr} {m : M} {pos pos' : Pos} {x : Str}
theorem ss_setD (i : Nat) (msk : List Bool) (nd : X.N.Nodup) (he : SE X W e m) (hi : X.N[i]? = some x := by rfl) (hx : Loc X.env.scope x := by first | exact .inl rfl | exact .inr rfl) (hs : swapsWith e (some (.Name x pos')) pos.line X.env = pure false := by rfl)
    (hf : X.fn x = true ∨ X.env.scope.names.lookup x = some .local := by first | exact .inl rfl | exact .inr rfl) : SS X W (.Assign [.Name x pos'] e pos) (mSetD msk i m) :=
  PS.imp (ps_set nd hi hx he hs hf) fun D σ H h => rS_or h setD_or set_end setF_end
end
/-! ### an owned list at a slot, its contents made anew of them and of arguments -/
abbrev UG := List D → List D → Option (List D)
def mUpdO (g : UG) (i : Nat) (ms : List M) : MS := fun σ s => match σ[i]? with
  | some (some (.lst true xs)) => (mArgs ms σ s).to σ fun ds s' => if noFs ds = true then (match g xs ds with
    | some ys => .nx (σ.set i (some (.lst true ys))) s'
    | none => .bad) else .bad
  | _ => .bad
def mUpdF (g : UG) (msk : List Bool) (i : Nat) (ms : List M) : MS := fun σ s => match (frzE msk σ)[i]? with
  | some (some (.lst true xs)) => (mArgs ms (restr msk σ) s).to σ fun ds s' => (match g xs (fzs ds) with
    | some ys => .nx ((frzE msk σ).set i (some (.lst true ys))) s'
    | none => .bad)
  | _ => .bad
def mUpd (g : UG) (msk : List Bool) (i : Nat) (ms : List M) : MS := fun σ s => match σ[i]? with
  | some (some (.lst true xs)) => (mArgs ms σ s).to σ fun ds s' => if noFs ds = true then (match g xs ds with
    | some ys => .nx (σ.set i (some (.lst true ys))) s'
    | none => .bad) else mUpdF g msk i ms σ s
  | _ => .bad
theorem upd_or {g : UG} {msk : List Bool} {i : Nat} {ms : List M} (σ : Env) (s : Sto) : mUpd g msk i ms σ s = mUpdO g i ms σ s ∨ mUpd g msk i ms σ s = mUpdF g msk i ms σ s := by
  unfold mUpd mUpdO
  split
  · rename_i xs hx
    cases mArgs ms σ s with
    | bad => exact .inl rfl
    | ex x s1 => exact .inl rfl
    | ok ds s1 =>
      simp only [R.to_ok]
      by_cases z : noFs ds = true
      · left; simp [z]
      · right; simp [z]
  · exact .inl rfl
/-- the contents' new values: of the old and of the arguments' -/
def UV (K : PySem.W.Frag) (mg : Str → Option Value) (r : Addr → List V → Hp → Hp → Prop) (g : UG) : Prop :=
  ∀ (H : Hp) (ρ : List Addr) (p : Addr) (xs ds ys : List D) (vs ws : List V) (a1 f1 a f : Cnt), H p = some (.lst vs) → Reps K mg H ρ xs vs a1 f1 → Reps K mg H ρ ds ws a f → g xs ds = some ys →
    ∃ vs' a' f', Reps K mg H ρ ys vs' a' f' ∧ (∀ x, a' x ≤ a1 x + a x ∧ f' x ≤ f1 x + f x) ∧ r p ws H (upd H p (.lst vs'))
section
variable {K : PySem.W.Frag} {mg : Str → Option Value} {W : WX} {H H' H1 : Hp} {ρ ρ' ρ1 : List Addr} {σm : Env} {σ : L2.St} {s s' s1 : Sto} {d e : D} {v : V} {A F A' F' A1 F1 a f Mc : Cnt} {D : Ends} {i : Nat} {g : UG} {ms : List M} {msk : List Bool} {r : Addr → List V → Hp → Hp → Prop}
theorem updO_end (hv : UV K mg r g) (h : rS K mg W (mUpdO g i ms) D σ H) :
    ∃ p l, σ[i]? = some (some (.ref p)) ∧ H p = some (.lst l) ∧ rA K mg W (mArgs ms) σ H fun ws H1 => ∃ l' H2, H1 p = some (.lst l') ∧ r p ws H1 H2 ∧ D.nx σ H2 := by
  obtain ⟨σm, s, ρ, A, F, rel, h⟩ := h
  unfold mUpdO at h
  split at h
  · rename_i xs hσ
    obtain ⟨p, vs, a1, f1, A2, F2, e1, hp, r0, q, wr⟩ := rel.wr hσ
    refine ⟨p, vs, e1, hp, σm, s, ρ, A, F, rel, ?_⟩
    cases e : mArgs ms σm s with
    | bad => rw [e] at h; exact h
    | ex x s1 =>
      rw [e] at h
      exact fun cls dd H' ρ' fr wd rx => h cls dd σ H' ρ' A F fr.up (rel.next fr wd) .refl rx
    | ok ds s1 =>
      rw [e] at h
      intro ws H1 ρ1 a f fr wd rp gd
      simp only [R.to_ok] at h
      split at h
      · rename_i z
        have hf := rp.noF z
        have ev := rel.env.there
        split at h
        · rename_i ys hy
          obtain ⟨hp1, _, _⟩ := wr H1 ρ1 s1 xs vs a1 f1 fr wd (r0.on fr) fun x => by
            have := q x; have s0 := rel.sep x
            exact ⟨by omega, fun z => by have := s0.2 (by omega); omega⟩
          obtain ⟨vs', a', f', r', le, rr⟩ := hv H1 ρ1 p xs ds ys vs ws a1 f1 a f hp1 (r0.on fr) rp hy
          have sp : ∀ x, A x + a x ≤ 1 ∧ (1 ≤ A x + a x → F x = 0) ∧ (1 ≤ a x → H x = none) := fun x => by
            have s0 := rel.sep x
            obtain ⟨g1, g2, g3⟩ := gd x
            by_cases y : 1 ≤ a x
            · have hn := (g2 y).2
              have : ¬ 1 ≤ A x + F x := fun z => by obtain ⟨⟨o, ho⟩, _⟩ := ev x z; rw [hn] at ho; cases ho
              exact ⟨by omega, by omega, fun _ => hn⟩
            · exact ⟨by omega, fun z => s0.2 (by omega), fun z => by omega⟩
          obtain ⟨_, h2, h3⟩ := wr H1 ρ1 s1 ys vs' a' f' fr wd r' fun x => by
            have l := le x
            have q0 := q x
            have s0 := sp x
            have h0 := hf x
            refine ⟨by omega, fun z => ?_⟩
            have := s0.2.1 (by omega)
            omega
          refine ⟨vs, _, hp1, rr, h _ _ _ _ _ h2 h3 fun x => ?_⟩
          have l := le x
          have q0 := q x
          have s0 := sp x
          have h0 := hf x
          refine ⟨fun y => ?_, fun y => .inr (.inl (by omega))⟩
          by_cases w : 1 ≤ a x
          · exact .inr (s0.2.2 w)
          · exact .inl (by omega)
        · exact h.elim
      · exact h.elim
  · exact h.elim
theorem updF_end (hv : UV K mg r g) (h : rS K mg W (mUpdF g msk i ms) D σ H) :
    ∃ p l, σ[i]? = some (some (.ref p)) ∧ H p = some (.lst l) ∧ rA K mg W (mArgs ms) σ H fun ws H1 => ∃ l' H2, H1 p = some (.lst l') ∧ r p ws H1 H2 ∧ D.nx σ H2 := by
  obtain ⟨σm, s, ρ, A, F, rel, h⟩ := h
  unfold mUpdF at h
  split at h
  · rename_i xs hσ
    obtain ⟨Am, Fm, Ar, F2', r1, r2, qm⟩ := rel.mask (msk := msk)
    have rel2 : Rel K mg (frzE msk σm) s σ H ρ Ar F2' := ⟨r2, rel.wd, fun x => by
      have s0 := rel.sep x
      have q0 := qm x
      refine ⟨by omega, fun z => ?_⟩
      have := s0.2 (by omega)
      by_cases w : 1 ≤ F2' x
      · have := q0.2.2 w; omega
      · omega⟩
    obtain ⟨p, vs, a1, f1, A2, F2, e1, hp, r0, q, wr⟩ := rel2.wr hσ
    refine ⟨p, vs, e1, hp, _, s, ρ, Am, Fm, r1, ?_⟩
    cases e : mArgs ms (restr msk σm) s with
    | bad => rw [e] at h; exact h
    | ex x s1 =>
      rw [e] at h
      exact fun cls dd H' ρ' fr wd rx => h cls dd σ H' ρ' A F fr.up (rel.next fr wd) .refl rx
    | ok ds s1 =>
      rw [e] at h
      intro ws H1 ρ1 a f fr wd rp gd
      simp only [R.to_ok] at h
      obtain ⟨f0, rp', qf⟩ := rp.fz
      have ev := rel.env.there
      have key : ∀ x, 1 ≤ f0 x → 1 ≤ Am x ∨ 1 ≤ Fm x ∨ H x = none := fun x h => by
        have := qf x h
        obtain ⟨g1, g2, g3⟩ := gd x
        by_cases z : 1 ≤ a x
        · exact .inr (.inr (g2 z).2)
        · exact g3 (by omega)
      split at h
      · rename_i ys hy
        obtain ⟨hp1, _, _⟩ := wr H1 ρ1 s1 xs vs a1 f1 fr wd (r0.on fr) fun x => by
          have := q x; have s0 := rel2.sep x
          exact ⟨by omega, fun z => by have := s0.2 (by omega); omega⟩
        obtain ⟨vs', a', f', r', le, rr⟩ := hv H1 ρ1 p xs (fzs ds) ys vs ws a1 f1 c0 f0 hp1 (r0.on fr) rp' hy
        have sp : ∀ x, Ar x ≤ 1 ∧ (1 ≤ Ar x → F2' x = 0 ∧ f0 x = 0) := fun x => by
          have s0 := rel2.sep x
          have s1 := rel.sep x
          have q0 := qm x
          refine ⟨s0.1, fun y => ⟨s0.2 y, ?_⟩⟩
          cases w : f0 x with
          | zero => rfl
          | succ k =>
            rcases key x (by omega) with w | w | w
            · omega
            · have := s1.2 (by omega); omega
            · obtain ⟨⟨o, ho⟩, _⟩ := ev x (by omega)
              rw [w] at ho; cases ho
        obtain ⟨_, h2, h3⟩ := wr H1 ρ1 s1 ys vs' a' f' fr wd r' fun x => by
          have l := le x
          have q0 := q x
          have s0 := sp x
          have z0 : c0 x = 0 := rfl
          refine ⟨by omega, fun z => ?_⟩
          have := s0.2 (by omega)
          omega
        have frA : Fr A H (upd H1 p (.lst vs')) ρ ρ1 := h2.mono fun x y => .inl (by have := qm x; omega)
        refine ⟨vs, _, hp1, rr, h _ _ _ _ _ frA h3 fun x => ?_⟩
        have l := le x
        have q0 := q x
        have m0 := qm x
        have z0 : c0 x = 0 := rfl
        refine ⟨fun y => .inl (by omega), fun y => ?_⟩
        by_cases w : 1 ≤ f0 x
        · rcases key x w with w | w | w
          · exact .inl (by omega)
          · exact .inr (.inl (by omega))
          · exact .inr (.inr w)
        · have := m0.2.2 (by omega)
          omega
      · exact h.elim
  · exact h.elim
theorem upd_end (hv : UV K mg r g) (h : rS K mg W (mUpd g msk i ms) D σ H) :
    ∃ p l, σ[i]? = some (some (.ref p)) ∧ H p = some (.lst l) ∧ rA K mg W (mArgs ms) σ H fun ws H1 => ∃ l' H2, H1 p = some (.lst l') ∧ r p ws H1 H2 ∧ D.nx σ H2 :=
  rS_or h upd_or (updO_end hv) (updF_end hv)
end
end Zm
set_option Elab.async false
set_option linter.all false
set_option maxRecDepth 100000
set_option autoImplicit false
/-! Z14: the list's methods as statements; stores by place; many names at once. -/
namespace Zm
open PySem PySem.Spec PyProof.Rows L2
section
variable {K : PySem.W.Frag} {mg : Str → Option Value} {W : WX} {σ : L2.St} {H : Hp} {ms : List M}
theorem rA_mono {Q Q' : List V → Hp → Prop} (h : rA K mg W (mArgs ms) σ H Q) (q : ∀ v H', Q v H' → Q' v H') : rA K mg W (mArgs ms) σ H Q' := by
  obtain ⟨σm, s, ρ, A, F, rel, h⟩ := h
  refine ⟨σm, s, ρ, A, F, rel, ?_⟩
  cases e1 : mArgs ms σm s with
  | bad => rw [e1] at h; exact h
  | ex x s1 => rw [e1] at h; exact h
  | ok d s1 =>
    rw [e1] at h
    intro v H1 ρ1 a f fr wd rp g
    exact q _ _ (h v H1 ρ1 a f fr wd rp g)
end
abbrev rrM (rM : V → List V → Hp → VK → Prop) : Addr → List V → Hp → Hp → Prop := fun p ws H H2 => ∀ Q : VK, Q .non H2 → rM (.ref p) ws H Q
section
variable {X : Cx} {W : WX} {e : Expr} {es : List Expr} {m : M} {ms : List M} {pos pos' apos cpos : Pos} {x : Str} {name : Str} {id : String} {rM : V → List V → Hp → VK → Prop} {g : UG}
theorem ss_met (i : Nat) (msk : List Bool) (slot : Slot "list" name id) (hty : typeOf (.builtin id) = pure (.type "method_descriptor")) (hm : MtR X id rM) (hv : UV X.K X.mg (rrM rM) g) (ha : SA X W (e :: es) ms) (hN : X.N[i]? = some x := by rfl)
    (hvis : Vis X.env.scope x := by first | exact Or.inl rfl | exact Or.inr (Or.inl rfl) | exact Or.inr (Or.inr rfl)) (hd : (x == ("__debug__" : Str)) = false := by decide) (hcd : (x == ("__classdict__" : Str)) = false := by decide)
    (hst : starEach (e :: es) X.env = (false, eval e X.env) :: starEach es X.env := by rfl) (hplain : (backTo cpos (starEach es X.env)).any (·.1) = false := by rfl) (hline : (apos.endLine == cpos.line) = true := by rfl)
    (hfew : ((backTo cpos (starEach (e :: es) X.env)).all (fun x => !x.1) && (backToKw cpos (keywordEach [] X.env)).all (fun x => x.1.isSome) && decide ((e :: es).length + ([] : List Keyword).length + (if ([] : List Keyword).isEmpty then 0 else 1) < 30)) = true := by rfl)
    (hs : swapsWith (.Call (.Attribute (.Name x pos') name apos) (e :: es) [] cpos) none pos.line X.env = pure false := by rfl) :
    SS X W (.Expr (.Call (.Attribute (.Name x pos') name apos) (e :: es) [] cpos) pos) (mUpd g msk i ms) :=
  PS.imp (ps_expr (pe_bm PySem.F.plainAttrs_list slot hty hm (pe_var hN hvis hd hcd) ha (hbase := by rfl) (hfew := hfew) (hline := hline) (hs := hst) (hplain := hplain)) hs) fun D σ H h => by
    obtain ⟨p, l, e1, hp, h⟩ := upd_end hv h
    exact ⟨_, e1, .inl ⟨rfl, _, SqL.of hp⟩, rA_mono h fun ws H1 ⟨l', H2, _, rr, q⟩ => rr _ q⟩
end
def uApp : UG := fun xs ds => match ds with
  | [d] => if xs.length < sizeLine then some (xs ++ [d]) else none
  | _ => none
section
variable {K : PySem.W.Frag} {mg : Str → Option Value}
theorem u_app : UV K mg (rrM rAppend) uApp := by
  intro H ρ p xs ds ys vs ws a1 f1 a f hp r1 r2 e
  unfold uApp at e
  split at e
  · split at e
    · rename_i z
      cases e
      obtain ⟨v, rfl, rv⟩ := r2.inv1
      exact ⟨vs ++ [v], _, _, r1.append r2, fun x => ⟨Nat.le_refl _, Nat.le_refl _⟩, fun Q q => ⟨p, vs, v, rfl, rfl, hp, by rw [← r1.length]; exact z, q⟩⟩
    · cases e
  · cases e
theorem Rep.lstI {H : Hp} {ρ : List Addr} {o : Bool} {ys : List D} {v : V} {a f : Cnt} (r : Rep K mg H ρ (.lst o ys) v a f) : ∃ b us a' f', v = .ref b ∧ H b = some (.lst us) ∧ Reps K mg H ρ ys us a' f' ∧ ∀ x, a' x ≤ a x ∧ f' x ≤ f x := by
  cases o with
  | true =>
    cases r with
    | own hp hn t e => exact ⟨_, _, _, _, rfl, hp, t, fun x => by rw [e]; omega⟩
  | false =>
    cases r with
    | frz hp hn t e => exact ⟨_, _, _, _, rfl, hp, t, fun x => by rw [e]; omega⟩
end
section
variable {X : Cx} {W : WX} {e : Expr} {m : M} {pos pos' apos cpos : Pos} {x : Str}
theorem ss_appD (i : Nat) (msk : List Bool) (he : SE X W e m) (hN : X.N[i]? = some x := by rfl) (hvis : Vis X.env.scope x := by first | exact Or.inl rfl | exact Or.inr (Or.inl rfl) | exact Or.inr (Or.inr rfl)) (hd : (x == ("__debug__" : Str)) = false := by decide) (hcd : (x == ("__classdict__" : Str)) = false := by decide)
    (hst : starEach [e] X.env = [(false, eval e X.env)] := by rfl) (hline : (apos.endLine == cpos.line) = true := by rfl) (hs : swapsWith (.Call (.Attribute (.Name x pos') "append" apos) [e] [] cpos) none pos.line X.env = pure false := by rfl) :
    SS X W (.Expr (.Call (.Attribute (.Name x pos') "append" apos) [e] [] cpos) pos) (mUpd uApp msk i [m]) :=
  ss_met i msk PySem.F.slot_list_append PySem.F.type_list_append mt_append u_app (sa_cons he sa_nil hst) hN hvis hd hcd hst rfl hline (by rw [hst]; rfl) hs
end
/-! ### x[k] = e, x an owned list or a box -/
def uSet : UG := fun xs ds => match ds with
  | [d, .int k] => match ixN xs.length k with
    | some j => some (xs.set j d)
    | none => none
  | _ => none
def mStB (i : Nat) (mi m : M) : MS := fun σ s => match σ[i]? with
  | some (some (.box n)) => (mArgs [m, mi] σ s).to σ fun ds s' => match s'[n]? with
    | some xs => match uSet xs ds with
      | some ys => if plains ys = true then .nx σ (s'.set n ys) else .bad
      | none => .bad
    | none => .bad
  | _ => .bad
def mSt (msk : List Bool) (i : Nat) (mi m : M) : MS := fun σ s => match σ[i]? with
  | some (some (.box n)) => (mArgs [m, mi] σ s).to σ fun ds s' => match s'[n]? with
    | some xs => match uSet xs ds with
      | some ys => if plains ys = true then .nx σ (s'.set n ys) else .bad
      | none => .bad
    | none => .bad
  | _ => mUpd uSet msk i [m, mi] σ s
theorem st_or {msk : List Bool} {i : Nat} {m mi : M} (σ : Env) (s : Sto) : mSt msk i mi m σ s = mStB i mi m σ s ∨ mSt msk i mi m σ s = mUpd uSet msk i [m, mi] σ s := by
  unfold mSt mStB
  split
  · rename_i n h; exact .inl rfl
  · exact .inr rfl
abbrev rrS : Addr → List V → Hp → Hp → Prop := fun p ws H H2 => ∃ y k, ws = [y, k] ∧ ∀ Q : Hp → Prop, Q H2 → rSetL (.ref p) k y H Q
section
variable {K : PySem.W.Frag} {mg : Str → Option Value} {W : WX} {H H' H1 : Hp} {ρ ρ' ρ1 : List Addr} {σm : Env} {σ : L2.St} {s s' s1 : Sto}
theorem ixN_lt {n j : Nat} {k : Int} (h : ixN n k = some j) : j < n := (ixN_seq h).2.1
theorem u_set : UV K mg rrS uSet := by
  intro H ρ p xs ds ys vs ws a1 f1 a f hp r1 r2 e
  unfold uSet at e
  split at e
  · rename_i d k
    split at e
    · rename_i j hj
      cases e
      obtain ⟨v, u, ax, fx, ay, fy, rfl, rv, ru, q⟩ := r2.inv2
      cases ru
      have hl := ixN_lt hj
      obtain ⟨w, a0, f0, h1, h2, A', F', h3, h4⟩ := r1.set (i := j) (d := xs[j]) (List.getElem?_eq_getElem hl) rv
      exact ⟨vs.set j v, A', F', h3, fun x => by have := h4 x; have := q x; omega, v, _, rfl, fun Q q => ⟨p, vs, k, j, rfl, rfl, hp, by rw [← r1.length]; exact hj, q⟩⟩
    · cases e
  · cases e
/-- a box written -/
theorem wd_box {n : Nat} {p : Addr} {xs ys : List D} {l l' : List V} {a f : Cnt} (wd : Wd K mg ρ s H) (hn : ρ[n]? = some p) (hs : s[n]? = some xs) (hp : H p = some (.lst l)) (hy : plains ys = true) (r : Reps K mg H ρ ys l' a f) : Wd K mg ρ (s.set n ys) (upd H p (.lst l')) ∧ Fr c0 H (upd H p (.lst l')) ρ ρ := by
  have hm : p ∈ ρ := List.mem_of_getElem? hn
  have fr : Fr c0 H (upd H p (.lst l')) ρ ρ := by
    refine ⟨fun x o q => ?_, fun x q => ?_, [], by simp, by simp⟩
    · by_cases z : x = p
      · subst z
        rw [hp] at q; cases q
        exact .inr ⟨trivial, .inl hm⟩
      · rw [upd_ne z]; exact .inl q
    · by_cases z : x = p
      · subst z; rw [upd_same] at q; cases q
      · rw [upd_ne z] at q; exact q
  have hnl : n < s.length := (List.getElem?_eq_some_iff.mp hs).1
  refine ⟨⟨by rw [List.length_set]; exact wd.len, wd.nd, fun k b zs z1 z2 => ?_⟩, fr⟩
  by_cases e : k = n
  · subst e
    rw [hn] at z1; cases z1
    rw [List.getElem?_set_self hnl] at z2; cases z2
    exact ⟨hy, l', a, f, upd_same, r.on fr⟩
  · rw [List.getElem?_set_ne (fun z => e z.symm)] at z2
    obtain ⟨w1, ws, a', f', w2, w3⟩ := wd.at_ k b zs z1 z2
    have nb : b ≠ p := fun z => by
      subst z
      have h1 := List.getElem?_eq_some_iff.mp z1
      have h2 := List.getElem?_eq_some_iff.mp hn
      obtain ⟨i1, q1⟩ := h1
      obtain ⟨i2, q2⟩ := h2
      have hnd := List.pairwise_iff_getElem.mp wd.nd
      rcases Nat.lt_trichotomy k n with w | w | w
      · exact hnd k n i1 i2 w (q1.trans q2.symm)
      · exact e w
      · exact hnd n k i2 i1 w (q2.trans q1.symm)
    exact ⟨w1, ws, a', f', by rw [upd_ne nb]; exact w2, w3.on fr⟩
theorem stB_end {i : Nat} {m mi : M} {D : Ends} (h : rS K mg W (mStB i mi m) D σ H) :
    ∃ p, σ[i]? = some (some (.ref p)) ∧ rA K mg W (mArgs [m, mi]) σ H fun ws H1 => ∃ H2, rrS p ws H1 H2 ∧ D.nx σ H2 := by
  obtain ⟨σm, s, ρ, A, F, rel, h⟩ := h
  unfold mStB at h
  split at h
  · rename_i n hσ
    obtain ⟨v, a0, f0, e1, rp0, _⟩ := rel.env.get hσ
    cases rp0 with
    | @box _ p _ _ hn _ _ =>
      refine ⟨p, e1, σm, s, ρ, A, F, rel, ?_⟩
      cases e : mArgs [m, mi] σm s with
      | bad => rw [e] at h; exact h
      | ex x s1 =>
        rw [e] at h
        exact fun cls dd H' ρ' fr wd rx => h cls dd σ H' ρ' A F fr.up (rel.next fr wd) .refl rx
      | ok ds s1 =>
        rw [e] at h
        intro ws H1 ρ1 a f fr wd rp gd
        simp only [R.to_ok] at h
        split at h
        · rename_i xs hxs
          split at h
          · rename_i ys hys
            split at h
            · rename_i hpl
              obtain ⟨pl, vs, a1, f1, hp, r1⟩ := wd.at_ n p xs (fr.get hn) hxs
              obtain ⟨vs', a', f', r', le, rr⟩ := u_set H1 ρ1 p xs ds ys vs ws a1 f1 a f hp r1 rp hys
              obtain ⟨wd2, fr2⟩ := wd_box wd (fr.get hn) hxs hp hpl r'
              refine ⟨_, rr, h _ _ _ _ _ ((fr.tr fr2).up) ((rel.next fr wd).next fr2 wd2) .refl⟩
            · exact h.elim
          · exact h.elim
        · exact h.elim
  · exact h.elim
theorem st_end {msk : List Bool} {i : Nat} {m mi : M} {D : Ends} (h : rS K mg W (mSt msk i mi m) D σ H) :
    ∃ p, σ[i]? = some (some (.ref p)) ∧ rA K mg W (mArgs [m, mi]) σ H fun ws H1 => ∃ H2, rrS p ws H1 H2 ∧ D.nx σ H2 :=
  rS_or h st_or stB_end fun h => by
    obtain ⟨p, l, e1, hp, h⟩ := upd_end u_set h
    exact ⟨p, e1, rA_mono h fun ws H1 ⟨l', H2, _, rr, q⟩ => ⟨H2, rr, q⟩⟩
end
section
variable {X : Cx} {W : WX} {e ei : Expr} {m mi : M} {pos pos' spos : Pos} {x : Str}
theorem ss_st (i : Nat) (msk : List Bool) (he : SE X W e m) (hi : SE X W ei mi) (hN : X.N[i]? = some x := by rfl) (hvis : Vis X.env.scope x := by first | exact Or.inl rfl | exact Or.inr (Or.inl rfl) | exact Or.inr (Or.inr rfl)) (hd : (x == ("__debug__" : Str)) = false := by decide) (hcd : (x == ("__classdict__" : Str)) = false := by decide)
    (ha : ∀ v, assign (.Subscript (.Name x pos') ei spos) X.env v = (do
      let ov ← holding [v] (eval (.Name x pos') X.env)
      let iv ← holding [v, ov] (eval ei X.env)
      standAt spos
      holding [v, ov, iv] (setItem ov iv v)
      release [v, ov, iv] []) := by intro _; rfl)
    (hs : swapsWithSole [.Subscript (.Name x pos') ei spos] e pos.line X.env = pure false := by rfl) (hw : swappedStores [.Subscript (.Name x pos') ei spos] e X.env = pure none := by rfl)
    (h1 : (assignEach [.Subscript (.Name x pos') ei spos] X.env).map (·.2) = [assign (.Subscript (.Name x pos') ei spos) X.env] := by rfl) :
    SS X W (.Assign [.Subscript (.Name x pos') ei spos] e pos) (mSt msk i mi m) :=
  PS.imp (ps_asg he (pg_sub (pe_var hN hvis hd hcd) hi set_list ha) hs hw h1) fun D σ H h => by
    obtain ⟨p, e1, h⟩ := st_end h
    exact rE_mono (rA_2 h) fun v H1 q => ⟨_, e1, rE_mono q fun u H2 ⟨H3, ⟨y, k, e, rr⟩, q⟩ => by cases e; exact rr _ q⟩
end
end Zm
set_option Elab.async false
set_option linter.all false
set_option maxRecDepth 100000
set_option autoImplicit false
/-! Z15: sum, max, min of tuples; names stored side by side. -/
namespace Zm
open PySem PySem.Spec PyProof.Rows L2
section
variable {X : Cx}
end
theorem CallR.or {X : Cx} {f : Value} {r r' : List V → Hp → VK → Prop} (h : CallR X f r) (h' : CallR X f r') : CallR X f (fun vs H Q => r vs H Q ∨ r' vs H Q) := fun pins s σ H xs us Q I rv w => w.elim (h pins s σ H xs us Q I rv) (h' pins s σ H xs us Q I rv)
theorem OpV.or {K : PySem.W.Frag} {mg : Str → Option Value} {r r' : List V → Hp → VK → Prop} {g g' : Sto → List D → Option D} (h : OpV K mg r g) (h' : OpV K mg r' g') : OpV K mg (fun vs H Q => r vs H Q ∨ r' vs H Q) (fun s ds => match g s ds with
  | some d => some d
  | none => g' s ds) := fun ρ s H ds vs a f d w rp sp e Q q => by
  dsimp only at e
  cases e1 : g s ds with
  | some d' => rw [e1] at e; cases e; exact .inl (h ρ s H ds vs a f _ w rp sp e1 Q q)
  | none => rw [e1] at e; exact .inr (h' ρ s H ds vs a f d w rp sp e Q q)
section
variable {K : PySem.W.Frag} {mg : Str → Option Value}
end
/-! ### a, b = x, y -/
section
variable {K : PySem.W.Frag} {mg : Str → Option Value} {W : WX} {H H' H1 : Hp} {ρ ρ' ρ1 : List Addr} {σm : Env} {σ : L2.St} {s s' s1 : Sto} {d e : D} {v u : V} {A F A' F' A1 F1 a f Mc : Cnt} {D : Ends} {i j : Nat} {ms : List M} {msk : List Bool}
end
section
variable {X : Cx} {W : WX} {a b : Expr} {ms : List M} {pos px py pt : Pos} {x y : Str} {kt k2 : Nat} {pt2 : Pos}
end
end Zm
set_option Elab.async false
set_option linter.all false
set_option maxRecDepth 100000
set_option autoImplicit false
/-! Z16: many names from one value; types as values. -/
namespace Zm
open PySem PySem.Spec PyProof.Rows L2
section
variable {K : PySem.W.Frag} {mg : Str → Option Value} {W : WX} {H : Hp} {σ : L2.St} {D : Ends} {msk : List Bool} {tg : Tg} {m : M}
end
section
variable {X : Cx} {W : WX} {e tge : Expr} {m : M} {tg : Tg} {pos : Pos}
theorem s_ty {x : Str} {T : String} {pos : Pos} (hm : X.mg x = none) (hb : bootBuiltins x = some (.type T)) (hg : Gl X x := by rfl) (hn : x ≠ "__name__" := by decide) (hd : (x == ("__debug__" : Str)) = false := by decide) : SE X W (.Name x pos) (mC (.ty T)) :=
  PE.imp (pe_bltn (v := .ty T) hg hm hb rfl hn hd) fun σ H Q h => rE_c (fun _ _ => .ty (fun _ => rfl) (fun _ => rfl)) h
end
end Zm
namespace Zm
open PySem PySem.Spec PyProof.Rows L2
section
variable {X : Cx} {W : WX} {tge iter elt : Expr} {ifs : List Expr} {src : Src} {tg : Tg} {t : T} {m : M} {pos py spos : Pos} {scope : Scope} {own : List (Str × Nat)} {y : Str}
end
end Zm
set_option Elab.async false
set_option linter.all false
set_option maxRecDepth 100000
set_option autoImplicit false
/-! Z17: the law's def, as the end wants it. -/
namespace Zm
open PySem PySem.Spec PyProof.Rows L2
section
variable {P : Program} {w : World} {K : PySem.W.Frag} {mg : Str → Option Value} {base : Heap}
theorem fnG_mk {x qual : Str} {st : Stmt} {f : Addr} {fd : FuncData} {N ps : List Str} {k np ns : Nat} {body : MS} (F : Fun K x qual st f fd) (S : FnScope N ps (defScope st))
    (h : ∀ (cdv : Value) (A : Around) (out : List PySem.Env) (s : Shared) (H : Hp) (E : XK), Room k (A.deeper (envOfC qual (defScope st) s.heap.objs.size f cdv)) → A.guards = some [] →
      SSs (cxG P w K mg base N qual (defScope st) f cdv A out s H E) (fun cls dd _ H => E cls dd H) (defBody st) body)
    (hN : N.length = ns := by rfl) (hps : ps.length = np := by rfl) (hnp : np ≤ ns := by decide) : FnG P w K mg base (k + 1) f fd ps (spF K mg (mkFn np ns body)) := by
  obtain ⟨oc, od, kV, doc, pm, an, cdv, ct, osl, rfl, lk, hcd⟩ := F.ex
  exact fnG_of lk hcd S (fun vs H Q E q => by rw [spF_len mkFn_ar q, hps]) fun A out s H vs Q E hr hg q => ⟨_, h cdv A out s H E hr hg, body_of hN hnp q⟩
end
end Zm
set_option Elab.async false
set_option linter.all false
set_option maxRecDepth 100000
set_option autoImplicit false
/-! Z18: xs[::-1] of lists and tuples. -/
namespace Zm
open PySem PySem.Spec PyProof.Rows L2 HT
section
variable {prog : Program} {w : World} {A : Around} {E : Value → Shared → Prop} {s : Shared}
theorem places_rev (n : Nat) : Builtin.Slice.slicePlaces ((n : Int) - 1) (-1) (-1) = n := by
  unfold Builtin.Slice.slicePlaces
  rw [if_neg (by decide)]
  show (if (n : Int) - 1 > -1 then ((n : Int) - 1 - -1 - 1) / (- -1) + 1 else 0).toNat = n
  rw [show (- -1 : Int) = 1 from rfl, Int.ediv_one]
  split <;> omega
theorem applied_rev {sl : Addr} {vl vu vs : Value} {n : Nat} {Q : Int × Int × Nat → Shared → Prop} (hs : s.heap.IsSliceOf sl vl vu vs) (pl : IsPart vl none) (pu : IsPart vu none) (ps : IsPart vs (some (-1))) (h : Q ((n : Int) - 1, -1, n) s) :
    wpAny (model prog w) A (Builtin.Slice.sliceApplied (.ref sl) (pure (n : Int))) Q E s := by
  obtain ⟨o, ho, hc, hd⟩ := id hs
  unfold Builtin.Slice.sliceApplied Builtin.Slice.sliceFields
  refine wpAny_bind (wpAny_bind (wpAny_field ho hd (x := vl) rfl (wpAny_bind (wpAny_field ho hd (x := vu) rfl (wpAny_bind (wpAny_field ho hd (x := vs) rfl (wpAny_pure ?_)))))))
  refine wpAny_bind (slicePart_ ps ?_)
  show wpAny (model prog w) A (if ((-1 : Int) == 0) = true then _ else _) _ _ s
  rw [if_neg (by decide)]
  refine wpAny_bind (slicePart_ pl (wpAny_bind (slicePart_ pu (wpAny_bind (wpAny_pure ?_)))))
  show wpAny (model prog w) A (pure ((n : Int) - 1, (-1 : Int), Builtin.Slice.slicePlaces ((n : Int) - 1) (-1) (-1))) _ _ s
  rw [places_rev]
  exact wpAny_pure h
theorem pick_rev (xs : Array Value) : ((List.range xs.size).filterMap fun (k : Nat) => xs[((xs.size : Int) - 1 + (k : Int) * -1).toNat]?).toArray = xs.toList.reverse.toArray := by
  congr 1
  have e : ∀ k ∈ List.range xs.size, xs[((xs.size : Int) - 1 + (k : Int) * -1).toNat]? = xs.toList.reverse[k]? := fun k hk => by
    have hk : k < xs.size := List.mem_range.mp hk
    rw [show ((xs.size : Int) - 1 + (k : Int) * -1).toNat = xs.size - 1 - k by omega, List.getElem?_reverse (by simpa using hk)]
    simp
  have f : ∀ l : List Nat, (∀ k ∈ l, xs[((xs.size : Int) - 1 + (k : Int) * -1).toNat]? = xs.toList.reverse[k]?) → l.filterMap (fun (k : Nat) => xs[((xs.size : Int) - 1 + (k : Int) * -1).toNat]?) = l.filterMap fun k => xs.toList.reverse[k]? := fun l h => by
    induction l with
    | nil => rfl
    | cons k l ih => rw [List.filterMap_cons, List.filterMap_cons, h k (by simp), ih fun j hj => h j (by simp [hj])]
  rw [f _ e]
  have := PySem.W.krv_all xs.toList.reverse.toArray
  simpa using this
theorem get_tup_rev {t sl : Addr} {items : Array Value} {vl vu vs : Value} {Q : Value → Shared → Prop} (ht : IsTup s.heap t items) (hs : s.heap.IsSliceOf sl vl vu vs) (pl : IsPart vl none) (pu : IsPart vu none) (ps : IsPart vs (some (-1)))
    (h : Q (.ref s.heap.objs.size) { s with heap := s.heap.push { cls := .type "tuple", data := .seq items.toList.reverse.toArray } }) (hsz : items.size ≤ sizeLine) : wpAny (model prog w) A (getItem (.ref t) (.ref sl)) Q E s := by
  have hk : sizeOk (.seq items.toList.reverse.toArray) := by
    show items.toList.reverse.toArray.size ≤ sizeLine
    simpa using hsz
  obtain ⟨os, ho, hc, hd⟩ := id hs
  have ty : s.TypeIs (.ref sl) "slice" := ⟨os, ho, hc⟩
  unfold getItem
  try with_reducible refine wpAny_holding ?_
  first | refine wpAny_bind (wpAny_pure ?_) | skip
  refine wpAny_bind (wpAny_sequenceKey ht.typeIs (by decide) (wpAny_bind (wpAny_callSpecial?_slot (name := Str.ofString "__getitem__") ht.typeIs PyProof.Rows.slot_tuple_getitem (wpAny_call_entry PyProof.Rows.slot_tuple_getitem ht.typeIs entry_tuple_getitem ?_ (args_tuple_getitem _ _)))))
  show wpAny (model prog w) _ (Builtin.Tuple.tupleItemsOf (.ref t) >>= _) _ _ s
  refine wpAny_bind (tupleItemsOf_ ht (wpAny_bind (wpAny_typeOf ty ?_)))
  rw [if_pos (by decide)]
  refine wpAny_bind (applied_rev hs pl pu ps ?_)
  have no : ¬ (((items.size : Int) - 1 == 0 && (-1 : Int) == 1 && items.size == items.size) = true) := by
    intro q
    rw [Bool.and_eq_true, Bool.and_eq_true] at q
    exact absurd q.1.2 (by decide)
  show wpAny (model prog w) _ (if ((items.size : Int) - 1 == 0 && (-1 : Int) == 1 && items.size == items.size) = true then _ else _) _ _ s
  rw [if_neg no, pick_rev]
  first
    | exact wpAny_bind (m := Builtin.Tuple.tupleExact _) (wpAny_newObj_type (wpAny_pure ⟨_, rfl, wpAny_pure h⟩) hk)
    | exact wpAny_bind (wpAny_bind (m := Builtin.Tuple.tupleExact _) (wpAny_newObj_type (wpAny_pure (wpAny_pure ⟨_, rfl, wpAny_pure h⟩)) hk))
    | exact wpAny_bind (wpAny_bind (m := Builtin.Tuple.tupleExact _) (wpAny_newObj_type (wpAny_pure ⟨_, rfl, wpAny_pure h⟩) hk))
end
def tRevA (K : PySem.W.Frag) (te : TE) : TE := fun σ H Q => te σ H fun x H1 => ∃ a xs, x = .ref a ∧ ((SqL K H1 a xs ∧ ∀ p, H1 p = none → Q (.ref p) (upd H1 p (.lst xs.reverse))) ∨ (SqT K H1 a xs ∧ ∀ p, H1 p = none → Q (.ref p) (upd H1 p (.tup xs.reverse))))
section
variable {X : Cx}
theorem pe_revA {e : Expr} {te : TE} {k : Nat} {p1 p2 p3 pos : Pos} (he : PE X e te) : PE X (.Subscript e (.Slice none none (some (.UnaryOp .USub (.Constant (.int 1) k p1) p2)) p3) pos) (tRevA X.K te) := by
  refine ⟨fun pins s σ H Q I h => Subscript_ (thn (he.run pins s σ H _ I h) fun v s1 ⟨x, H1, I1, r1, a, xs, ex, q⟩ => ?_)⟩
  subst ex
  cases r1
  have st : PO X (some (.UnaryOp .USub (.Constant (.int 1) k p1) p2)) (tPart (tUn (rU fun i => .int (-i)) (tC (.int 1)))) := po_some (pe_un un_neg pe_int)
  refine wpAny_Slice (thn (po_none.run pins s1 σ H1 (fun o H2 => o = none ∧ H2 = H1) I1 ⟨rfl, rfl⟩) fun vl s2 ⟨l, H2, I2, pl, e1, e2⟩ => ?_)
  subst e1 e2
  refine thn (po_none.run pins s2 σ H2 (fun o H3 => o = none ∧ H3 = H2) I2 ⟨rfl, rfl⟩) fun vu s3 ⟨u, H3, I3, pu, e3, e4⟩ => ?_
  subst e3 e4
  refine thn (st.run pins s3 σ H3 (fun o H4 => o = some (-1) ∧ H4 = H3) I3 ⟨1, rfl, -1, rfl, rfl, rfl⟩) fun vs s4 ⟨o, H4, I4, ps, e5, e6⟩ => ?_
  subst e5 e6
  have I5 : Inv X pins σ H4 { s4 with heap := s4.heap.push { cls := .type "slice", data := .fields #[vl, vu, vs] } } := I4.kept (t' := s4.toks) fun b ob q => Heap.get?_push_of_some _ q
  show wpAny (model X.prog X.w) X.A (subscriptTail e (.Slice none none (some (.UnaryOp .USub (.Constant (.int 1) k p1) p2)) p3) (.ref a) (.ref s4.heap.objs.size)) (EP X pins σ Q) X.xe { s4 with heap := s4.heap.push { cls := .type "slice", data := .fields #[vl, vu, vs] } }
  rcases q with ⟨hx, q⟩ | ⟨hx, q⟩
  · obtain ⟨its, r, ht, hz⟩ := I5.list hx
    have hlen := r.length
    refine tail_any (ops := [.ref a, .ref s4.heap.objs.size]) ht.isList.typeIs (PySem.slot_list_getitem.lookup) ?_ (by with_unfolding_all rfl)
    refine wpAny_getItem_list_slice ht.isList (Heap.IsSliceOf.new _ vl vu vs) pl pu ps (by decide) ?_ (by rw [List.size_toArray]; omega)
    rw [PySem.W.krv_pick]
    exact ⟨.ref _, _, I5.laid (t' := s4.toks) (o := .lst xs.reverse) (fun b ob q => Heap.get?_push_of_some _ q) (Nat.le_refl _) ⟨by rw [List.length_reverse]; exact hz, _, 0, r.reverse, Heap.get?_push_size _ rfl⟩, rfl, q _ (I5.hok.fresh (Nat.le_refl _))⟩
  · obtain ⟨its, r, ht, hz⟩ := I5.tuple hx
    have hlen := r.length
    refine tail_any (ops := [.ref a, .ref s4.heap.objs.size]) ht.typeIs (PyProof.Rows.slot_tuple_getitem.lookup) ?_ (by with_unfolding_all rfl)
    refine get_tup_rev ht (Heap.IsSliceOf.new _ vl vu vs) pl pu ps ?_ (by rw [List.size_toArray]; omega)
    exact ⟨.ref _, _, I5.laid (t' := s4.toks) (o := .tup xs.reverse) (fun b ob q => Heap.get?_push_of_some _ q) (Nat.le_refl _) ⟨by rw [List.length_reverse]; exact hz, _, r.reverse, ⟨_, Heap.get?_push_size _ rfl, rfl, 0, rfl⟩⟩, rfl, q _ (I5.hok.fresh (Nat.le_refl _))⟩
end
def gRevS : Sto → List D → Option D := fun s ds => match ds with
  | [.lst _ xs] => some (.lst true xs.reverse)
  | [.tup xs] => some (.tup xs.reverse)
  | [.ro ns] => some (.lst true (ns.reverse.map .int))
  | _ => none
theorem v_revS {K : PySem.W.Frag} {mg : Str → Option Value} : OpV K mg (fun vs H Q => ∃ a xs, vs = [V.ref a] ∧ ((SqL K H a xs ∧ ∀ p, H p = none → Q (.ref p) (upd H p (.lst xs.reverse))) ∨ (SqT K H a xs ∧ ∀ p, H p = none → Q (.ref p) (upd H p (.tup xs.reverse))))) gRevS := by
  intro ρ s H ds vs a f d w r h e Q q
  unfold gRevS at e
  split at e
  · cases e
    obtain ⟨v1, rfl, r1⟩ := r.inv1
    obtain ⟨p1, vs1, b1, g1, rfl, h1, t1, l1⟩ := inv_lst r1
    refine ⟨p1, vs1, rfl, .inl ⟨SqL.of h1, fun p hp => ?_⟩⟩
    obtain ⟨n1, n2⟩ := new_lst w hp t1.reverse (h.le l1)
    exact q _ _ _ _ (same_upd hp) n1 (n2.le l1)
  · cases e
    obtain ⟨v1, rfl, r1⟩ := r.inv1
    obtain ⟨p1, vs1, rfl, h1, t1⟩ := inv_tup r1
    exact ⟨p1, vs1, rfl, .inr ⟨SqT.of h1, fun p hp => q _ _ _ _ (same_upd hp) (new_tup hp t1.reverse) (.refl h)⟩⟩
  · cases e
    obtain ⟨v1, rfl, r1⟩ := r.inv1
    cases r1 with
    | ro hq _ _ =>
      refine ⟨_, _, rfl, .inl ⟨hq.L, fun p hp => ?_⟩⟩
      rw [← List.map_reverse]
      obtain ⟨n1, n2⟩ := new_lst w hp (reps_ints _) (fun x => ⟨Nat.zero_le _, fun z => no0 z⟩)
      exact q _ _ _ _ (same_upd hp) n1 (n2.le fun x => ⟨Nat.zero_le _, Nat.zero_le _⟩)
  · cases e
theorem s_rev {X : Cx} {W : WX} {e : Expr} {m : M} {k : Nat} {p1 p2 p3 pos : Pos} (he : SE X W e m) : SE X W (.Subscript e (.Slice none none (some (.UnaryOp .USub (.Constant (.int 1) k p1) p2)) p3) pos) (mOp gRevS [m]) :=
  PE.imp (pe_revA he) fun σ H Q h => rE_mono (rA_1 (rA_op v_revS h)) fun v H1 ⟨a, xs, e, z⟩ => by cases e; exact ⟨a, xs, rfl, z⟩
end Zm
set_option Elab.async false
set_option linter.all false
set_option maxRecDepth 100000
set_option autoImplicit false
/-! Z19: name op= e of numbers. -/
namespace Zm
open PySem PySem.Spec PyProof.Rows L2
section
variable {K : PySem.W.Frag} {mg : Str → Option Value} {W : WX} {σ : L2.St} {H : Hp} {D : Ends} {i : Nat} {m : M} {f : Int → Int → Int}
end
section
variable {X : Cx} {W : WX} {e : Expr} {m : M} {x : Str} {pos pos' : Pos}
end
end Zm
set_option Elab.async false
set_option linter.all false
set_option maxRecDepth 100000
set_option maxHeartbeats 4000000
set_option autoImplicit false
/-! Z20: a tuple times one; x in a list of data. -/
namespace Zm
open PySem PySem.Spec PyProof.Rows L2
theorem mul_one_t (l : Addr) (items : Array Value) (n : Nat) (dd : Option Addr) (sl : Array (Option Value)) (u : Tok) :
    Meets (Builtin.«tuple.__mul__» ⟨[.ref l, .int 1 u], []⟩) (fun _ R s => s.heap.get? l = some { cls := .type "tuple", dict := dd, data := .seq items n, slots := sl } ∧ R (.ok (.ret (Value.ref l))) s) :=
  .of_wp fun prog w A R s h => by
    obtain ⟨hp, g, d, tk, os⟩ := s
    obtain ⟨hl, h⟩ := h
    have f1 := AutoSeq1.idx_int
    have c0 : (decide ((1 : Int) < -(2 ^ 63)) || decide ((1 : Int) ≥ 2 ^ 63)) = false := by decide
    have c1 : (items.isEmpty || (1 : Int) == 1) = true := by rw [show ((1 : Int) == 1) = true from rfl, Bool.or_true]
    wp_walk using wpAny_loadPart' hl
    repeat (first
      | (refine wpAny_ite_false (decide_eq_false (by rw [c0]; exact Bool.false_ne_true)) ?_; wp_walk using wpAny_loadPart' hl)
      | (refine wpAny_ite_true (decide_eq_true c1) ?_; wp_walk using wpAny_loadPart' hl))
    exact ⟨_, rfl, h⟩
def rRep1 (K : PySem.W.Frag) : R2 := fun x y H Q => ∃ l xs, x = .ref l ∧ y = .int 1 ∧ SqT K H l xs ∧ Q (.ref l) H
theorem op_rep1 {X : Cx} : OpR X (binaryOp .Mult) (rRep1 X.K) := by
  intro pins s σ H x y v u Q I rx ry h
  obtain ⟨l, xs, rfl, rfl, hT, q⟩ := h
  cases rx
  obtain ⟨t, rfl⟩ := ry
  obtain ⟨its, r, ⟨⟨cls, dd, data, sl⟩, ho, hc, n, hd⟩, hs⟩ := I.tuple hT
  simp only at hc hd
  subst hc hd
  exact wpAny_binaryOp_repeat_ref (T := "tuple") (U := "int") (by decide) ⟨_, ho, rfl⟩ (fun s' => typeIs_int s' 1 t) noFill_tuple_mul F.fills_int_mul F.slot_int_rmul repeat_tuple F.slot_int_index.lookup
    (call_meets F.slot_int_rmul (typeIs_int s 1 t) F.entry_int_rmul (F.args_int_rmul_2 _ _) (int_rmul_tuple 1 t l its.toArray n dd sl) ⟨ho, rfl, ⟨_, ho, rfl⟩, call_meets F.slot_tuple_mul ⟨_, ho, rfl⟩ F.entry_tuple_mul (F.args_tuple_mul_2 _ _) (mul_one_t l its.toArray n dd sl t) ⟨ho, ⟨.ref l, H, I, rfl, q⟩⟩⟩)
def gMulT : Sto → List D → Option D := fun s ds => match ds with
  | [.tup xs, .int k] => if k = 1 then some (.tup xs) else gMul s ds
  | _ => gMul s ds
theorem o_mulT {X : Cx} : OpR X (binaryOp .Mult) (fun x y H Q => rRep1 X.K x y H Q ∨ rMulZ X.K x y H Q) := fun pins s σ H x y v u Q I rx ry h => h.elim (op_rep1 pins s σ H x y v u Q I rx ry) (o_mul pins s σ H x y v u Q I rx ry)
theorem v_mulT {K : PySem.W.Frag} {mg : Str → Option Value} : OpV K mg (r2 (fun x y H Q => rRep1 K x y H Q ∨ rMulZ K x y H Q)) gMulT := by
  intro ρ s H ds vs a f d w r h e Q q
  have old : gMul s ds = some d → r2 (fun x y H Q => rRep1 K x y H Q ∨ rMulZ K x y H Q) vs H Q := fun e => by
    obtain ⟨x, y, e1, z⟩ := v_mul ρ s H ds vs a f d w r h e Q q
    exact ⟨x, y, e1, .inr z⟩
  unfold gMulT at e
  split at e
  · split at e
    · rename_i xs k hk
      subst hk
      cases e
      obtain ⟨v1, v2, a1, f1, a2, f2, rfl, r1, r2, eq⟩ := r.inv2
      cases inv_int r2
      obtain ⟨p1, vs1, rfl, h1, t1⟩ := inv_tup r1
      have le : ∀ x, a1 x ≤ a x ∧ f1 x ≤ f x := fun x => by have := eq x; omega
      exact ⟨_, _, rfl, .inl ⟨p1, vs1, rfl, rfl, SqT.of h1, q _ H _ _ (fun _ _ h => h) (.tup h1 t1) ((Out.refl (h.le le)).le le)⟩⟩
    · exact old e
  · exact old e
end Zm
set_option Elab.async false
set_option linter.all false
set_option maxRecDepth 100000
set_option autoImplicit false
/-! Z21: calls of defs by keywords alone. -/
namespace Zm
open PySem PySem.Spec PyProof.Rows L2
def sw {α : Type} : Nat → List α → List α
  | 0, a :: b :: t => b :: a :: t
  | n + 1, a :: t => a :: sw n t
  | _, l => l
def sws {α : Type} : List Nat → List α → List α
  | [], l => l
  | n :: p, l => sws p (sw n l)
section
variable {K : PySem.W.Frag} {mg : Str → Option Value} {H : Hp} {ρ : List Addr}
theorem Reps.sw : ∀ {n : Nat} {ds : List D} {vs : List V} {a f : Cnt}, Reps K mg H ρ ds vs a f → Reps K mg H ρ (sw n ds) (sw n vs) a f
  | 0, _, _, _, _, .nil h1 h2 => .nil h1 h2
  | 0, _, _, _, _, .cons r (.nil h1 h2) e1 e2 => .cons r (.nil h1 h2) e1 e2
  | 0, _, _, a, f, .cons (a := a1) (f := f1) (a' := a2) (f' := f2) r (.cons (a := a3) (f := f3) (a' := a4) (f' := f4) r2 t g1 g2) e1 e2 => by
    refine .cons r2 (.cons (A := fun x => a1 x + a4 x) (F := fun x => f1 x + f4 x) r t (fun _ => rfl) fun _ => rfl) ?_ ?_
    · intro x; rw [e1, g1]; omega
    · intro x; rw [e2, g2]; omega
  | n + 1, _, _, _, _, .nil h1 h2 => .nil h1 h2
  | n + 1, _, _, _, _, .cons r t e1 e2 => .cons r (Reps.sw (n := n) t) e1 e2
theorem Reps.sws : ∀ {p : List Nat} {ds : List D} {vs : List V} {a f : Cnt}, Reps K mg H ρ ds vs a f → Reps K mg H ρ (sws p ds) (sws p vs) a f
  | [], _, _, _, _, h => h
  | _ :: p, _, _, _, _, h => Reps.sws (p := p) h.sw
end
theorem vals_sw {n : Nat} {vs : List V} {us : List Value} (h : Vals vs us) : Vals (sw n vs) (sw n us) := by
  induction n generalizing vs us with
  | zero =>
    cases h with
    | nil => exact .nil
    | cons r t =>
      cases t with
      | nil => exact .cons r .nil
      | cons r2 t2 => exact .cons r2 (.cons r t2)
  | succ n ih =>
    cases h with
    | nil => exact .nil
    | cons r t => exact .cons r (ih t)
theorem vals_sws {p : List Nat} {vs : List V} {us : List Value} (h : Vals vs us) : Vals (sws p vs) (sws p us) := by
  induction p generalizing vs us with
  | nil => exact h
  | cons n p ih => exact ih (vals_sw h)
/-- a def of the text keeps its machine's promise, called by keywords ks, in the order that p puts right -/
structure FnK (P : Program) (w : World) (K : PySem.W.Frag) (mg : Str → Option Value) (base : Heap) (k : Nat) (x : Str) (ps ks : List Str) (p : List Nat) (m : Fn) : Prop where
  ex : ∃ f fd, mg x = some (.ref f) ∧ PySem.W.keepIn K (.ref f) = true ∧ (∀ (s : Shared) (ws : List Value), ws.length = ps.length → BindsTo s fd ⟨[], ks.zip ws⟩ (ps.zip (sws p ws))) ∧ FnG P w K mg base k f fd ps (spF K mg m)
theorem fnK_mk {P : Program} {w : World} {K : PySem.W.Frag} {mg : Str → Option Value} {base : Heap} {k : Nat} {x qual : Str} {ps : List Str} {m : Fn} {st : Stmt} {f : Addr} {fd : FuncData} (M : FnM P w K mg base k x ps m) (F : Fun K x qual st f fd) (hm : mg x = some (.ref f)) (ks : List Str) (p : List Nat)
    (h : ∀ (kV doc pm : Value) (an : Option Addr) (cdv ct : Value) (ws : List Value), ws.length = ps.length → bindArgs (PySem.W.fnOf x qual (defArgs st) (defBody st) (defScope st) .none kV doc pm an cdv ct) ⟨[], ks.zip ws⟩ = pure (ps.zip (sws p ws))) : FnK P w K mg base k x ps ks p m := by
  obtain ⟨f', fd', a, b, c, d, oc', od', osl', lk'⟩ := M.ex
  rw [hm] at a
  cases a
  obtain ⟨oc, od, kV, doc, pm, an, cdv, ct, osl, e, lk, hcd⟩ := F.ex
  rw [lk] at lk'
  cases lk'
  refine ⟨f, fd, hm, b, fun s ws hl => ?_, d⟩
  rw [e]
  exact BindsTo.of_eq (h kV doc pm an cdv ct ws hl)
@[simp] def mCallK (f : Fn) (p : List Nat) (ms : List M) : M := fun σ s => (mArgs ms σ s).bind fun ds s1 => f (sws p ds) s1
section
variable {K : PySem.W.Frag} {mg : Str → Option Value} {W : WX} {σ : L2.St} {H : Hp}
theorem rE_callK {Q : VK} {fn : Fn} {p : List Nat} {ms : List M} (h : rE K mg W (mCallK fn p ms) σ H Q) : rA K mg W (mArgs ms) σ H fun vs H1 => spF K mg fn (sws p vs) H1 Q (WE W σ) := by
  obtain ⟨σm, s, ρ, A, F, rel, h⟩ := h
  refine ⟨σm, s, ρ, A, F, rel, ?_⟩
  unfold mCallK at h
  cases e : mArgs ms σm s with
  | bad => rw [e] at h; exact h
  | ex x s1 => rw [e] at h; exact h
  | ok ds s1 =>
    rw [e, Zm.R.bind_ok] at h
    intro vs H1 ρ1 a f fr wd rp g
    refine ⟨sws p ds, s1, ρ1, a, f, wd, rp.sws, g.sp, ?_⟩
    cases e2 : fn (sws p ds) s1 with
    | bad => rw [e2] at h; exact h
    | ex x s2 =>
      rw [e2] at h
      exact fun cls dd H2 ρ2 fr2 wd2 rx => h cls dd H2 ρ2 (fr.trans fr2 fun x z => .inr ((g x).2.1 z).2) wd2 rx
    | ok d s2 =>
      rw [e2] at h
      exact fun v H2 ρ2 a' f' fr2 wd2 rp2 o => h v H2 ρ2 a' f' (fr.trans fr2 fun x z => .inr ((g x).2.1 z).2) wd2 rp2 (g.out fr o)
end
section
variable {X : Cx} {k : Nat} {f : Addr} {fd : FuncData} {ps ks : List Str} {sp : Sp} {E : L2.St → XK} {q : List Nat} {t : TA} {kws : List Keyword} {x : Str} {p pos : Pos}
theorem sw_len {α : Type} : ∀ (n : Nat) (l : List α), (sw n l).length = l.length
  | 0, [] => rfl
  | 0, [_] => rfl
  | 0, _ :: _ :: _ => rfl
  | _ + 1, [] => rfl
  | n + 1, _ :: t => congrArg (· + 1) (sw_len n t)
theorem sws_len {α : Type} : ∀ (p : List Nat) (l : List α), (sws p l).length = l.length
  | [], _ => rfl
  | n :: p, l => (sws_len p (sw n l)).trans (sw_len n l)
theorem run_fnKw {pins : List (Addr × Obj)} {σ : L2.St} {H : Hp} {s : Shared} {Q : VK} {ws : List Value} {zs : List V} (F : FnG X.prog X.w X.K X.mg X.base k f fd ps sp) (hr : Room k X.A) (hg : X.A.guards = some [])
    (hb : ∀ (s : Shared) (ws : List Value), ws.length = ps.length → BindsTo s fd ⟨[], ks.zip ws⟩ (ps.zip (sws q ws))) (hx : PassesAt (L2N.CX X.prog X.w) X σ (E σ)) (I : Inv X pins σ H s) (r : Vals zs ws) (h : sp (sws q zs) H Q (E σ)) :
    wpAny (model X.prog X.w) X.A (call (.ref f) [] (ks.zip ws)) (EP X pins σ Q) X.xe s := by
  have nus : ws.length = ps.length := by rw [← r.length, ← sws_len q zs]; exact F.len _ _ _ _ h
  refine wpAny_call (codeAny_mono (F.run X.A X.stack s H ⟨[], ks.zip ws⟩ (sws q ws) (sws q zs) Q (E σ) hr hg I.env0 (hb s ws nus) (vals_sws r) h) ?_)
  intro res s' hq
  match res, hq with
  | .error e, hq => exact hx pins H s e s' I hq
  | .ok (.ret u), hq => exact I.after hq
  | .ok .next, hq => exact hq.elim
  | .ok .brk, hq => exact hq.elim
  | .ok .cont, hq => exact hq.elim
def tCallKw (q : List Nat) (sp : Sp) (E : L2.St → XK) (tk : TA) : TE := fun σ H Q => tk σ H fun zs H2 => sp (sws q zs) H2 Q (E σ)
theorem pe_callKw (F : FnG X.prog X.w X.K X.mg X.base k f fd ps sp) (hr : Room k X.A) (hgd : X.A.guards = some []) (hg : Gl X x) (hm : X.mg x = some (.ref f)) (hk : PySem.W.keepIn X.K (.ref f) = true)
    (hb : ∀ (s : Shared) (ws : List Value), ws.length = ps.length → BindsTo s fd ⟨[], ks.zip ws⟩ (ps.zip (sws q ws)))
    (hx : ∀ σ, PassesAt (L2N.CX X.prog X.w) X σ (E σ)) (hkw : PK X kws t) (hall : (backToKw pos (keywordEach kws X.env)).all (·.1.isSome) = true := by rfl) (hks : (backToKw pos (keywordEach kws X.env)).filterMap (·.1) = ks := by rfl) (hdb : (x == ("__debug__" : Str)) = false := by decide)
    (hpl : ((backTo pos (starEach [] X.env)).any (·.1) || (backToKw pos (keywordEach kws X.env)).any (·.1.isNone)) = false := by rfl) :
    PE X (.Call (.Name x p) [] kws pos) (tCallKw q sp E t) := by
  refine ⟨fun pins s σ H Q I h => ?_⟩
  refine wpAny_Call_Name_kw (ld_glob I hg hm ?_ hdb)
  refine PySem.W.callWith_KW0 (h₀ := X.base) I.ok.mod.kin hk hall ?_ hpl
  refine thn (hkw.run pos pins s σ H _ I h) fun ws s2 ⟨zs, H2, I2, rz, q2⟩ => ⟨I2.kIn, ?_⟩
  rw [hks]
  exact run_fnKw F hr hgd hb (hx σ) I2 rz q2
end
/-- keywords as arguments of machines -/
def SKw (X : Cx) (W : WX) (kws : List Keyword) (ms : List M) : Prop := PK X kws (rA X.K X.mg W (mArgs ms))
section
variable {X : Cx} {W : WX} {e : Expr} {m : M} {ms : List M} {kws : List Keyword} {nm : Option Str} {kpos : Pos} {k : Nat} {x : Str} {ps ks : List Str} {q : List Nat} {fn : Fn} {p pos : Pos}
theorem PK.imp {t t' : TA} (h : PK X kws t) (i : ∀ σ H Q, t' σ H Q → t σ H Q) : PK X kws t' := ⟨fun pos pins s σ H Q I q => h.run pos pins s σ H Q I (i σ H Q q)⟩
theorem sk_nil : SKw X W [] [] := PK.imp pk_nil fun σ H Q h => rA_nil h
theorem sk_cons (he : SE X W e m) (hs : SKw X W kws ms) : SKw X W (⟨nm, e, kpos⟩ :: kws) (m :: ms) := PK.imp (pk_cons he hs) fun σ H Q h => rA_cons h
theorem s_callK (F : FnK X.prog X.w X.K X.mg X.base k x ps ks q fn) (hr : Room k X.A) (hgd : X.A.guards = some []) (tk : L2N.Takes X W) (ha : SKw X W kws ms) (hg : Gl X x := by rfl)
    (hall : (backToKw pos (keywordEach kws X.env)).all (·.1.isSome) = true := by rfl) (hks : (backToKw pos (keywordEach kws X.env)).filterMap (·.1) = ks := by rfl) (hdb : (x == ("__debug__" : Str)) = false := by decide)
    (hpl : ((backTo pos (starEach [] X.env)).any (·.1) || (backToKw pos (keywordEach kws X.env)).any (·.1.isNone)) = false := by rfl) : SE X W (.Call (.Name x p) [] kws pos) (mCallK fn q ms) := by
  obtain ⟨f, fd, a, b, c, d⟩ := F.ex
  exact PE.imp (pe_callKw d hr hgd hg a b c (E := WE W) (fun σ => L2N.passAt tk σ) ha hall hks hdb hpl) fun σ H Q h => rE_callK h
end
end Zm
set_option Elab.async false
set_option linter.all false
set_option maxRecDepth 100000
set_option autoImplicit false
/-! Z22: dicts: made, read, written. -/
namespace Zm
open PySem PySem.Spec PyProof.Rows L2
def dK : D → Option Key
  | .int i => some (.inl i)
  | .str z => some (.inr z)
  | _ => none
def dKs : List D → Option (List Key)
  | [] => some []
  | x :: xs => match dK x, dKs xs with
    | some a, some b => some (a :: b)
    | _, _ => none
def dKT : D → Option (List Key)
  | .tup xs => dKs xs
  | _ => none
section
variable {κ : Type} [DecidableEq κ]
def lookG (o : D → Option κ) : List D → List D → κ → Option D
  | k :: ks, v :: vs, q => if o k = some q then some v else lookG o ks vs q
  | _, _, _ => none
def replG (o : D → Option κ) : List D → List D → κ → D → List D
  | k :: ks, w :: vs, q, v => (if o k = some q then v else w) :: replG o ks vs q v
  | _, vs, _, _ => vs
def putG (o : D → Option κ) (ks vs : List D) (kd : D) (q : κ) (v : D) : List D × List D :=
  if (lookG o ks vs q).isSome = true then (ks, replG o ks vs q v) else (ks ++ [kd], vs ++ [v])
end
def gLook (t : Bool) (ks vs : List D) (k : D) : Option (Option D) := match t with
  | false => (dK k).map (lookG dK ks vs)
  | true => (dKT k).map (lookG dKT ks vs)
def gPut (t : Bool) (ks vs : List D) (k v : D) : Option (List D × List D) := match t with
  | false => (dK k).map fun q => putG dK ks vs k q v
  | true => (dKT k).map fun q => putG dKT ks vs k q v
section
variable {K : PySem.W.Frag} {mg : Str → Option Value} {H H1 : Hp} {ρ : List Addr} {κ : Type} [DecidableEq κ] {o : D → Option κ} {to : κ → D}
theorem Reps.z2 {d : D} {ds : List D} {v : V} {vs : List V} (h : Reps K mg H ρ (d :: ds) (v :: vs) c0 c0) : Rep K mg H ρ d v c0 c0 ∧ Reps K mg H ρ ds vs c0 c0 := by
  cases h with
  | cons r t e1 e2 =>
    exact ⟨r.cong (fun x => by have := e1 x; have z : c0 x = 0 := rfl; omega) (fun x => by have := e2 x; have z : c0 x = 0 := rfl; omega),
      t.cong (fun x => by have := e1 x; have z : c0 x = 0 := rfl; omega) (fun x => by have := e2 x; have z : c0 x = 0 := rfl; omega)⟩
theorem Reps.c2 {d : D} {ds : List D} {v : V} {vs : List V} (r : Rep K mg H ρ d v c0 c0) (t : Reps K mg H ρ ds vs c0 c0) : Reps K mg H ρ (d :: ds) (v :: vs) c0 c0 := .cons r t (fun _ => rfl) (fun _ => rfl)
theorem inv_dic {t o : Bool} {ks vs : List D} {v : V} {a f : Cnt} (h : Rep K mg H ρ (.dic o t ks vs) v a f) : ∃ p ws, v = .ref p ∧ DicRd H t p ks ws ∧ plains vs = true ∧ Reps K mg H ρ vs ws c0 c0 := by
  cases h with
  | dicO h hp pl t e1 e2 => exact ⟨_, _, rfl, h.rd, pl, t⟩
  | dicF h hp pl t e1 e2 => exact ⟨_, _, rfl, h, pl, t⟩
end
/-! ### expressions -/
def mDic (t : Bool) : M := fun _ s => .ok (.dic true t [] []) s
section
variable {K : PySem.W.Frag} {mg : Str → Option Value}
end
section
variable {X : Cx} {W : WX} {e f o i : Expr} {me mf mo mi : M} {pos apos cpos : Pos}
theorem s_dicK : SE X W (.Dict [] [] pos) (mDic false) := PE.imp pe_dnewK fun σ H Q ⟨σm, s, ρ, A, F, rel, h⟩ p hp =>
  h (.ref p) _ ρ (cp p) c0 (Fr.of_same (same_upd hp)) (rel.wd.same (same_upd hp)) (.dicO ⟨_, upd_same, [], rfl, rfl, rfl⟩ (fun z => by obtain ⟨l, q⟩ := rel.wd.lst z; rw [hp] at q; cases q) rfl (.nil (fun _ => rfl) (fun _ => rfl)) (fun _ => rfl) (fun _ => rfl)) fun x => by
    refine ⟨by unfold cp; split <;> omega, fun z => ⟨rfl, ?_⟩, fun z => no0 z⟩
    by_cases e : x = p
    · subst e; exact hp
    · rw [cp_ne e] at z; omega
end
end Zm
set_option Elab.async false
set_option linter.all false
set_option maxRecDepth 100000
set_option autoImplicit false
/-! Z23: dicts written; walked by their keys. -/
namespace Zm
open PySem PySem.Spec PyProof.Rows L2
section
variable {X : Cx} {W : WX} {i o : Expr} {mi mo : M} {pos : Pos}
end
/-! ### d[k] = e -/
section
variable {K : PySem.W.Frag} {mg : Str → Option Value} {W : WX} {H H' H1 : Hp} {ρ ρ' ρ1 : List Addr} {σm : Env} {σ : L2.St} {s s' s1 : Sto} {A F : Cnt}
end
section
variable {X : Cx} {W : WX} {e ei : Expr} {m mi : M} {pos pos' spos : Pos} {x : Str}
end
/-! ### for k in d -/
def Dc (u : HO) : Prop := (∃ kvs, u = .dK kvs) ∨ ∃ kvs, u = .dT kvs
theorem DicV.dc {t : Bool} {ks : List D} {ws : List V} {u : HO} (h : DicV t ks ws u) : Dc u := by
  cases t with
  | false => obtain ⟨kvs, rfl, _⟩ := h; exact .inl ⟨_, rfl⟩
  | true => obtain ⟨kvs, rfl, _⟩ := h; exact .inr ⟨_, rfl⟩
section
variable {K : PySem.W.Frag} {mg : Str → Option Value} {H : Hp} {ρ : List Addr} {p : Addr} {u : HO} {od : Obj}
theorem lock_at (hu : H p = some u) (mu : Dc u) {x : Addr} {o : HO} (e : H x = some o) (h : ¬ Dc o) : upd H p (.frz od u) x = some o := by
  rw [upd_ne]
  · exact e
  · intro z
    subst z
    rw [hu] at e
    cases e
    exact h mu
theorem unlock_at (hu : H p = some (.frz od u)) {x : Addr} {o : HO} (e : H x = some o) (h : ∀ o' u', Dc u' → o ≠ .frz o' u') (mu : Dc u) : upd H p u x = some o := by
  rw [upd_ne]
  · exact e
  · intro z
    subst z
    rw [hu] at e
    cases e
    exact h _ _ mu rfl
theorem rdU_lock (hu : H p = some u) (mu : Dc u) {x : Addr} {v : HO} (h : Rd H x v) : Rd (upd H p (.frz od u)) x v := by
  by_cases z : x = p
  · subst z
    rcases h with e | ⟨o, e⟩
    · rw [hu] at e; cases e
      exact .inr ⟨od, upd_same⟩
    · rw [hu] at e; cases e
      rcases mu with ⟨_, z⟩ | ⟨_, z⟩ <;> cases z
  · rcases h with e | ⟨o, e⟩
    · exact .inl (by rw [upd_ne z]; exact e)
    · exact .inr ⟨o, by rw [upd_ne z]; exact e⟩
theorem rdU_unlock (hu : H p = some (.frz od u)) {x : Addr} {v : HO} (h : Rd H x v) (dv : Dc v) : Rd (upd H p u) x v := by
  by_cases z : x = p
  · subst z
    rcases h with e | ⟨o, e⟩
    · rw [hu] at e; cases e
      rcases dv with ⟨_, z⟩ | ⟨_, z⟩ <;> cases z
    · rw [hu] at e; cases e
      exact .inl upd_same
  · rcases h with e | ⟨o, e⟩
    · exact .inl (by rw [upd_ne z]; exact e)
    · exact .inr ⟨o, by rw [upd_ne z]; exact e⟩
theorem sqR_lock (hu : H p = some u) (mu : Dc u) {x : Addr} {vs : List V} (h : SqR K H x vs) : SqR K (upd H p (.frz od u)) x vs := by
  rcases h with ⟨o, e⟩ | e
  · exact .inl ⟨o, lock_at hu mu e (fun z => by rcases z with ⟨_, z⟩ | ⟨_, z⟩ <;> cases z)⟩
  · exact .inr e
theorem sqR_unlock (hu : H p = some (.frz od u)) (mu : Dc u) {x : Addr} {vs : List V} (h : SqR K H x vs) : SqR K (upd H p u) x vs := by
  rcases h with ⟨o, e⟩ | e
  · exact .inl ⟨o, unlock_at hu e (fun o' u' d z => by cases z; rcases d with ⟨_, z⟩ | ⟨_, z⟩ <;> cases z) mu⟩
  · exact .inr e
theorem xc_lock {c : Str} {m : Option Int} {q : Addr} (hu : H p = some u) (mu : Dc u) (h : XcAt mg H c m q) : XcAt mg (upd H p (.frz od u)) c m q := by
  cases m with
  | some a => exact h
  | none =>
    obtain ⟨C, e1, e2⟩ := h
    exact ⟨C, e1, lock_at hu mu e2 (fun z => by rcases z with ⟨_, z⟩ | ⟨_, z⟩ <;> cases z)⟩
theorem xc_unlock {c : Str} {m : Option Int} {q : Addr} (hu : H p = some (.frz od u)) (mu : Dc u) (h : XcAt mg H c m q) : XcAt mg (upd H p u) c m q := by
  cases m with
  | some a => exact h
  | none =>
    obtain ⟨C, e1, e2⟩ := h
    exact ⟨C, e1, unlock_at hu e2 (fun _ _ _ z => by cases z) mu⟩
mutual
theorem Rep.lock (hu : H p = some u) (mu : Dc u) : ∀ {d : D} {v : V} {A F : Cnt}, Rep K mg H ρ d v A F → A p = 0 → Rep K mg (upd H p (.frz od u)) ρ d v A F
  | _, _, _, _, .non a f, _ => .non a f
  | _, _, _, _, .bl a f, _ => .bl a f
  | _, _, _, _, .int a f, _ => .int a f
  | _, _, _, _, .str a f, _ => .str a f
  | _, _, _, _, .tup h t, hA => .tup (lock_at hu mu h (fun z => by rcases z with ⟨_, z⟩ | ⟨_, z⟩ <;> cases z)) (Reps.lock hu mu t hA)
  | _, _, _, _, .own h hp t e, hA => .own (lock_at hu mu h (fun z => by rcases z with ⟨_, z⟩ | ⟨_, z⟩ <;> cases z)) hp (Reps.lock hu mu t (by have := e p; omega)) e
  | _, _, _, _, .frz h hp t e, hA => .frz (lock_at hu mu h (fun z => by rcases z with ⟨_, z⟩ | ⟨_, z⟩ <;> cases z)) hp (Reps.lock hu mu t hA) e
  | _, _, _, _, .ro h a f, _ => .ro (sqR_lock hu mu h) a f
  | _, _, _, _, .box h a f, _ => .box h a f
  | _, _, _, _, .fn h k a f, _ => .fn h k a f
  | _, _, _, _, .ty a f, _ => .ty a f
  | _, _, _, _, .exc h a f, _ => .exc (xc_lock hu mu h) a f
  | _, _, _, _, .dicO (p := q) h hp pl t e1 e2, hA => .dicO (by
      obtain ⟨w, hw, dv⟩ := h
      refine ⟨w, ?_, dv⟩
      rw [upd_ne]
      · exact hw
      · intro z
        subst z
        have := e1 q
        rw [cp_same] at this
        omega) hp pl (Reps.lock hu mu t rfl) e1 e2
  | _, _, _, _, .dicF h hp pl t e1 e2, hA => .dicF (let ⟨w, hw, dv⟩ := h; ⟨w, rdU_lock hu mu hw, dv⟩) hp pl (Reps.lock hu mu t rfl) e1 e2
  | _, _, _, _, .dilO (p := q) h hp pl t e1 e2, hA => .dilO (by
      obtain ⟨w, hw, dv⟩ := h
      refine ⟨w, ?_, dv⟩
      rw [upd_ne]
      · exact hw
      · intro z
        subst z
        have := e1 q
        rw [cp_same] at this
        omega) hp pl (Reps.lock hu mu t rfl) e1 e2
  | _, _, _, _, .dilF h hp pl t e1 e2, hA => .dilF (let ⟨w, hw, dv⟩ := h; ⟨w, rdU_lock hu mu hw, dv⟩) hp pl (Reps.lock hu mu t rfl) e1 e2
theorem Reps.lock (hu : H p = some u) (mu : Dc u) : ∀ {d : List D} {v : List V} {A F : Cnt}, Reps K mg H ρ d v A F → A p = 0 → Reps K mg (upd H p (.frz od u)) ρ d v A F
  | _, _, _, _, .nil a f, _ => .nil a f
  | _, _, _, _, .cons h t e1 e2, hA => .cons (Rep.lock hu mu h (by have := e1 p; omega)) (Reps.lock hu mu t (by have := e1 p; omega)) e1 e2
end
mutual
theorem Rep.unlock (hu : H p = some (.frz od u)) (mu : Dc u) : ∀ {d : D} {v : V} {A F : Cnt}, Rep K mg H ρ d v A F → Rep K mg (upd H p u) ρ d v A F
  | _, _, _, _, .non a f => .non a f
  | _, _, _, _, .bl a f => .bl a f
  | _, _, _, _, .int a f => .int a f
  | _, _, _, _, .str a f => .str a f
  | _, _, _, _, .tup h t => .tup (unlock_at hu h (fun _ _ _ z => by cases z) mu) (Reps.unlock hu mu t)
  | _, _, _, _, .own h hp t e => .own (unlock_at hu h (fun _ _ _ z => by cases z) mu) hp (Reps.unlock hu mu t) e
  | _, _, _, _, .frz h hp t e => .frz (unlock_at hu h (fun _ _ _ z => by cases z) mu) hp (Reps.unlock hu mu t) e
  | _, _, _, _, .ro h a f => .ro (sqR_unlock hu mu h) a f
  | _, _, _, _, .box h a f => .box h a f
  | _, _, _, _, .fn h k a f => .fn h k a f
  | _, _, _, _, .ty a f => .ty a f
  | _, _, _, _, .exc h a f => .exc (xc_unlock hu mu h) a f
  | _, _, _, _, .dicO (p := q) h hp pl t e1 e2 => .dicO (by
      obtain ⟨w, hw, dv⟩ := h
      refine ⟨w, unlock_at hu hw (fun _ _ _ z => ?_) mu, dv⟩
      rcases dv.dc with ⟨_, e⟩ | ⟨_, e⟩ <;> rw [e] at z <;> cases z) hp pl (Reps.unlock hu mu t) e1 e2
  | _, _, _, _, .dicF h hp pl t e1 e2 => .dicF (let ⟨w, hw, dv⟩ := h; ⟨w, rdU_unlock hu hw dv.dc, dv⟩) hp pl (Reps.unlock hu mu t) e1 e2
  | _, _, _, _, .dilO (p := q) h hp pl t e1 e2 => .dilO (by
      obtain ⟨w, hw, dv⟩ := h
      refine ⟨w, unlock_at hu hw (fun _ _ _ z => ?_) mu, dv⟩
      rcases dv.dc with ⟨_, e⟩ | ⟨_, e⟩ <;> rw [e] at z <;> cases z) hp pl (Reps.unlock hu mu t) e1 e2
  | _, _, _, _, .dilF h hp pl t e1 e2 => .dilF (let ⟨w, hw, dv⟩ := h; ⟨w, rdU_unlock hu hw dv.dc, dv⟩) hp pl (Reps.unlock hu mu t) e1 e2
theorem Reps.unlock (hu : H p = some (.frz od u)) (mu : Dc u) : ∀ {d : List D} {v : List V} {A F : Cnt}, Reps K mg H ρ d v A F → Reps K mg (upd H p u) ρ d v A F
  | _, _, _, _, .nil a f => .nil a f
  | _, _, _, _, .cons h t e1 e2 => .cons (Rep.unlock hu mu h) (Reps.unlock hu mu t) e1 e2
end
end
section
variable {K : PySem.W.Frag} {mg : Str → Option Value} {H H' : Hp} {ρ ρ' : List Addr} {p : Addr} {u : HO} {od : Obj} {A F A0 F0 : Cnt}
end
section
variable {X : Cx} {W : WX} {tge : Expr} {tg : Tg} {body : MS} {ss : List Stmt} {pos pos' : Pos} {x : Str}
end
end Zm
set_option Elab.async false
set_option linter.all false
set_option maxRecDepth 100000
set_option autoImplicit false
/-! Z24: int(..), xs.index(..), xs[i] op= e, defs that call themselves. -/
namespace Zm
open PySem PySem.Spec PyProof.Rows L2
def toI : List D → Option (List Int)
  | [] => some []
  | .int i :: ds => (toI ds).map (i :: ·)
  | _ :: _ => none
section
variable {K : PySem.W.Frag} {mg : Str → Option Value}
variable {H : Hp} {ρ : List Addr}
end
section
variable {X : Cx} {W : WX} {o e : Expr} {mo me : M} {apos cpos : Pos}
end
/-! ### xs[i] op= e -/
section
variable {K : PySem.W.Frag} {mg : Str → Option Value} {W : WX} {σ : L2.St} {H : Hp} {D : Ends} {i : Nat} {mi m : M} {f : Int → Int → Int}
end
section
variable {X : Cx} {W : WX} {e ei : Expr} {m mi : M} {x : Str} {pos pos' tpos : Pos}
end
/-! ### defs that call themselves -/
def badF : Fn := fun _ _ => .bad
theorem fnM_bad {P : Program} {w : World} {K : PySem.W.Frag} {mg : Str → Option Value} {base : Heap} {x qual : Str} {st : Stmt} {f : Addr} {fd : FuncData} {ps : List Str} {k : Nat} (F : Fun K x qual st f fd) (hm : mg x = some (.ref f)) (hb : Binds K fd ps []) :
    FnM P w K mg base k x ps badF := by
  refine ⟨f, fd, hm, F.kp, hb, ⟨fun vs H Q E h => ?_, fun A out s H args us vs Q E _ _ _ _ _ h => ?_⟩, ?_⟩
  · obtain ⟨_, _, _, _, _, _, _, _, h⟩ := h; exact h.elim
  · obtain ⟨_, _, _, _, _, _, _, _, h⟩ := h; exact h.elim
  · obtain ⟨oc, od, kV, doc, pm, an, cdv, ct, osl, rfl, lk, hcd⟩ := F.ex
    exact ⟨oc, od, osl, lk⟩
end Zm
set_option Elab.async false
set_option linter.all false
set_option maxRecDepth 100000
set_option autoImplicit false
/-! Z25: == and != of dicts whose keys are tuples. -/
namespace Dq
open PySem PySem.W PySem.Calls PyProof.Rows PyProof.V PySem.Spec
section
variable {prog : Program} {w : World} {K : Type} [DecidableEq K] {knd : HeapKind prog w K} {A : Around} {E : Value → Shared → Prop} {s : Shared}
inductive Hits (A : Around) (s : Shared) (kb : List (K × Addr × Value)) : List (K × Addr × Value) → Bool → Prop
  | nil : Hits A s kb [] true
  | miss {k : K} {p : Addr × Value} {r : List (K × Addr × Value)} : atKey kb k = none → Hits A s kb ((k, p) :: r) false
  | hit {k : K} {p q : Addr × Value} {r : List (K × Addr × Value)} {e b : Bool} : atKey kb k = some q → SeqAt.EqAt A s p.2 q.2 e → Hits A s kb r b → Hits A s kb ((k, p) :: r) (e && b)
end
end Dq
namespace Zm
open PySem PySem.Spec PyProof.Rows L2
section
variable {X : Cx}
end
section
variable {K : PySem.W.Frag} {mg : Str → Option Value} {H : Hp} {ρ : List Addr}
end
end Zm
set_option Elab.async false
set_option linter.all false
set_option maxRecDepth 100000
set_option autoImplicit false
/-! Z26: many names from one value that holds no frozen list: nothing is frozen. -/
namespace Zm
open PySem PySem.Spec PyProof.Rows L2
section
variable {K : PySem.W.Frag} {mg : Str → Option Value} {W : WX} {H : Hp} {σ : L2.St} {D : Ends} {msk : List Bool} {tg : Tg} {m : M}
end
section
variable {X : Cx} {W : WX} {e tge : Expr} {m : M} {tg : Tg} {pos : Pos}
end
end Zm
set_option Elab.async false
set_option linter.all false
set_option maxRecDepth 100000
set_option autoImplicit false
/-! Z27: x = y[k] if t else e: only what lies within y is frozen; lists within lists written. -/
namespace Zm
open PySem PySem.Spec PyProof.Rows L2
section
variable {K : PySem.W.Frag} {mg : Str → Option Value} {W : WX} {H H' H1 : Hp} {ρ ρ' ρ1 : List Addr} {σm : Env} {σ : L2.St} {s s' s1 : Sto} {A F : Cnt}
end
section
variable {K : PySem.W.Frag} {mg : Str → Option Value} {W : WX} {H : Hp} {σ : L2.St} {D : Ends} {i j : Nat} {mi m2 : M} {t : T} {msk : List Bool}
end
section
variable {X : Cx} {W : WX} {c e2 ei : Expr} {t : T} {mi m2 : M} {pos pos' ipos py p2 : Pos} {x y : Str}
end
end Zm
set_option Elab.async false
set_option linter.all false
set_option maxRecDepth 100000
set_option autoImplicit false
/-! Z28: lists within an owned list written: x[j][k] = e, x[j].append(e). -/
namespace Zm
open PySem PySem.Spec PyProof.Rows L2
section
variable {K : PySem.W.Frag} {mg : Str → Option Value} {W : WX} {H H' H1 : Hp} {ρ ρ' ρ1 : List Addr} {σm : Env} {σ : L2.St} {s s' s1 : Sto} {A F : Cnt}
end
section
variable {K : PySem.W.Frag} {mg : Str → Option Value} {W : WX} {H : Hp} {σ : L2.St} {Ds : Ends} {i : Nat} {mj mk m : M} {r : Addr → List V → Hp → Hp → Prop} {g : UG}
end
section
variable {X : Cx} {W : WX} {e ei ej ek : Expr} {m mj mk : M} {pos pos' ipos spos apos cpos : Pos} {x : Str}
end
end Zm
set_option Elab.async false
set_option linter.all false
set_option maxRecDepth 100000
set_option autoImplicit false
/-! Z29: for x in xs: x.append(..), x.reverse(), loops of the same kind within: the lists within an owned list are written. -/
namespace Zm
open PySem PySem.Spec PyProof.Rows L2
inductive UP where
  | app (m : M)
  | rev
  | seq (a b : UP)
  | each (u : UP)
section
variable {K : PySem.W.Frag} {mg : Str → Option Value} {W : WX} {H H' H1 : Hp} {ρ ρ' ρ1 : List Addr} {σm : Env} {σ : L2.St} {s s' s1 : Sto} {A F : Cnt}
/-- a slot forgotten -/
theorem EnvR.drop : ∀ {σm : Env} {σ : L2.St} {A F : Cnt} (j : Nat), EnvR K mg H ρ σm σ A F → ∃ A' F', EnvR K mg H ρ (σm.set j none) σ A' F' ∧ ∀ x, A' x ≤ A x ∧ F' x ≤ F x
  | _, _, _, _, j, .nil a f => ⟨_, _, .nil a f, fun x => ⟨Nat.le_refl _, Nat.le_refl _⟩⟩
  | _, _, _, _, 0, .no t => ⟨_, _, .no t, fun x => ⟨Nat.le_refl _, Nat.le_refl _⟩⟩
  | _, _, _, _, j + 1, .no t => by
    obtain ⟨A', F', e, l⟩ := EnvR.drop j t
    exact ⟨A', F', .no e, l⟩
  | _, _, _, _, 0, .yes h t e1 e2 => ⟨_, _, .no t, fun x => by rw [e1, e2]; omega⟩
  | _, _, _, _, j + 1, .yes h t e1 e2 => by
    obtain ⟨A', F', e, l⟩ := EnvR.drop j t
    exact ⟨_, _, .yes h e (fun _ => rfl) (fun _ => rfl), fun x => by have := l x; rw [e1, e2]; omega⟩
end
theorem Chg.refl {ss : List Nat} {σ : L2.St} : Chg ss σ σ := ⟨rfl, fun _ _ => rfl⟩
theorem Chg.tr {ss : List Nat} {σ σ' σ'' : L2.St} (a : Chg ss σ σ') (b : Chg ss σ' σ'') : Chg ss σ σ'' := ⟨b.1.trans a.1, fun j hj => (b.2 j hj).trans (a.2 j hj)⟩
section
variable {K : PySem.W.Frag} {mg : Str → Option Value} {W : WX} {H : Hp} {σ : L2.St} {Ds : Ends} {j : Nat} {vs : List Nat}
end
section
variable {X : Cx} {W : WX} {e : Expr} {m : M} {u ub : UP} {st : Stmt} {sts ss : List Stmt} {j j' : Nat} {vs : List Nat} {pos pos' apos cpos epos : Pos} {x y : Str}
end
end Zm
set_option Elab.async false
set_option linter.all false
set_option maxRecDepth 100000
set_option autoImplicit false
/-! Z30: defs as values, called; a dict of one pair; sorted keys; list(range(..)). -/
namespace Zm
open PySem PySem.Spec PyProof.Rows L2
/-- the defs that may be called -/
inductive FT (P : Program) (w : World) (K : PySem.W.Frag) (mg : Str → Option Value) (base : Heap) (k : Nat) : List (Str × Fn) → Prop
  | nil : FT P w K mg base k []
  | cons {x : Str} {ps : List Str} {m : Fn} {r : List (Str × Fn)} : FnM P w K mg base k x ps m → FT P w K mg base k r → FT P w K mg base k ((x, m) :: r)
def ftLook : List (Str × Fn) → Str → Option Fn
  | [], _ => none
  | p :: r, x => if p.1 = x then some p.2 else ftLook r x
theorem FT.look {P : Program} {w : World} {K : PySem.W.Frag} {mg : Str → Option Value} {base : Heap} {k : Nat} {tbl : List (Str × Fn)} (h : FT P w K mg base k tbl) {x : Str} {m : Fn} : ftLook tbl x = some m → ∃ ps, FnM P w K mg base k x ps m := by
  induction h with
  | nil => intro e; cases e
  | @cons y ps m' r F _ ih =>
    intro e
    unfold ftLook at e
    split at e
    · rename_i z
      cases e
      dsimp only at z
      subst z
      exact ⟨ps, F⟩
    · exact ih e
section
variable {K : PySem.W.Frag} {mg : Str → Option Value} {W : WX} {σ : L2.St} {H : Hp} {Q : VK} {tbl : List (Str × Fn)} {mf : M} {ms : List M}
end
section
variable {X : Cx} {W : WX} {fe e : Expr} {es : List Expr} {mf : M} {ms : List M} {k i : Nat} {x : Str} {ps : List Str} {m : Fn} {tbl : List (Str × Fn)} {p pos : Pos}
end
/-! ### {k: v} -/
section
variable {X : Cx} {W : WX} {ek ev : Expr} {mk mv : M} {pos : Pos}
end
end Zm
namespace Zm
open PySem PySem.Spec PyProof.Rows L2
/-! ### sorted(d), d's keys ints; list(range(..)) -/
section
variable {K : PySem.W.Frag} {mg : Str → Option Value}
end
section
variable {X : Cx} {W : WX} {ea eb : Expr} {ma mb : M} {p q pos qpos : Pos}
end
end Zm
set_option Elab.async false
set_option linter.all false
set_option maxRecDepth 100000
set_option autoImplicit false
/-! Z31: a value handed on as frozen. -/
namespace Zm
open PySem PySem.Spec PyProof.Rows L2
section
variable {X : Cx} {W : WX} {e : Expr} {m : M}
end
section
variable {K : PySem.W.Frag} {mg : Str → Option Value}
end
end Zm
set_option Elab.async false
set_option linter.all false
set_option maxRecDepth 100000
set_option autoImplicit false
/-! ZI4: enumerate of a zip of two rows. -/
namespace Zi
open PySem PySem.Spec PyProof.Rows L2
section
variable {prog : Program} {w : World} {A : Around} {E : Value → Shared → Prop} {s : Shared} {z tI tO i1 i2 : Addr} {fp1 fp2 : List Addr} {n1 n2 i : Nat} {P1 P2 : Nat → Value → Prop} {St1 St2 : Nat → Heap → Prop} {a1 a2 u : Value} {b : Bool}
end
section
variable {prog : Program} {w : World} {A : Around} {E : Value → Shared → Prop} {s : Shared}
end
end Zi
set_option Elab.async false
set_option linter.all false
set_option maxRecDepth 100000
set_option autoImplicit false
/-! Z32: enumerate of a zip. -/
namespace Zm
open PySem PySem.Spec PyProof.Rows L2
section
variable {X : Cx} {W : WX} {tge e e2 e3 : Expr} {m ma mb mc : M} {ms : List M} {es : List Expr} {p p2 pos pos2 tpos : Pos} {elts : List Expr} {kk : Nat}
end
end Zm
set_option Elab.async false
set_option linter.all false
set_option maxRecDepth 100000
set_option autoImplicit false
/-! Z33: a, b = y[i][j], y[k][l]: only what lies within y is frozen. -/
namespace Zm
open PySem PySem.Spec PyProof.Rows L2
section
variable {K : PySem.W.Frag} {mg : Str → Option Value} {W : WX} {H H' H1 : Hp} {ρ ρ' ρ1 : List Addr} {σm : Env} {σ : L2.St} {s s' s1 : Sto} {A F : Cnt} {Ds : Ends}
end
section
variable {X : Cx} {W : WX} {ea eb ec ed : Expr} {ka kb kc kd : M} {px py pt pt2 pos p1 p2 p3 p4 p5 p6 : Pos} {kt k2} {x y z : Str}
end
end Zm
set_option Elab.async false
set_option linter.all false
set_option maxRecDepth 100000
set_option autoImplicit false
/-! Z34: name *= e of numbers. -/
namespace Zm
open PySem PySem.Spec PyProof.Rows L2
section
variable {X : Cx}
end
section
variable {K : PySem.W.Frag} {mg : Str → Option Value} {W : WX} {σ : L2.St} {H : Hp} {D : Ends} {i : Nat} {m : M}
end
section
variable {X : Cx} {W : WX} {e : Expr} {m : M} {x : Str} {pos pos' : Pos}
end
end Zm
set_option Elab.async false
set_option linter.all false
set_option maxRecDepth 100000
set_option autoImplicit false
/-! Z35: min of three. -/
namespace Zm
open PySem PySem.Spec PyProof.Rows L2
@[simp] def gMin3 : Sto → List D → Option D := fun _ ds => match ds with
  | [.int i, .int j, .int k] => some (.int (if k < (if j < i then j else i) then k else (if j < i then j else i)))
  | _ => none
section
variable {K : PySem.W.Frag} {mg : Str → Option Value}
end
end Zm
set_option Elab.async false
set_option linter.all false
set_option maxRecDepth 100000
set_option autoImplicit false
/-! Z36: list(reversed(xs)), tuple(reversed(xs)); a def by another name. -/
namespace RT
open PySem PySem.Spec PyProof.Rows
section
variable {prog : Program} {w : World} {A : Around} {E : Value → Shared → Prop} {s : Shared}
end
section
open L2
variable {X : Cx}
end
end RT
namespace Zm
open PySem PySem.Spec PyProof.Rows L2
section
variable {K : PySem.W.Frag} {mg : Str → Option Value}
variable {X : Cx} {W : WX} {e : Expr} {m : M} {p p2 pos pos2 : Pos}
end
section
variable {P : Program} {w : World} {K : PySem.W.Frag} {mg : Str → Option Value} {base : Heap}
end
end Zm
set_option Elab.async false
set_option linter.all false
set_option maxRecDepth 100000
set_option autoImplicit false
/-! Z37: return (a number, a list of the def's own). -/
namespace Zm
open PySem PySem.Spec PyProof.Rows L2
section
variable {X : Cx} {W : WX} {e : Expr} {m : M} {x : Str} {pos pos' pos2 : Pos} {p1 : Nat}
end
end Zm
set_option Elab.async false
set_option linter.all false
set_option maxRecDepth 100000
set_option autoImplicit false
/-! Z38: a name becomes a new list of what is frozen: the list itself stays owned. -/
namespace Zm
open PySem PySem.Spec PyProof.Rows L2
def mSetT (msk : List Bool) (i : Nat) (m : M) : MS := fun σ s => (m (restr msk σ) s).to σ fun d s' => match d with
  | .lst true ds => if i < σ.length then .nx ((frzE msk σ).set i (some (.lst true (fzs ds)))) s' else .bad
  | _ => .bad
section
variable {K : PySem.W.Frag} {mg : Str → Option Value} {H H1 : Hp} {ρ ρ1 : List Addr} {σm : Env} {σ : L2.St} {s s1 : Sto} {v : V} {A F a f : Cnt}
theorem Rep.ft {ds : List D} (r : Rep K mg H ρ (.lst true ds) v a f) (sp : Sp1 a f) : ∃ a' f', Rep K mg H ρ (.lst true (fzs ds)) v a' f' ∧ ∀ x, a' x ≤ a x ∧ (1 ≤ f' x → 1 ≤ a x ∨ 1 ≤ f x) ∧ (1 ≤ a' x → f' x = 0) := by
  cases r with
  | own h hp t e =>
    rename_i p vs a1
    obtain ⟨F', r, q⟩ := Reps.fz t
    refine ⟨fun x => cp p x + c0 x, F', .own h hp r (fun _ => rfl), fun x => ?_⟩
    have e := e x
    have q := q x
    have s0 := sp x
    have hc : c0 x = 0 := rfl
    refine ⟨by show cp p x + c0 x ≤ a x; omega, fun z => by have := q z; omega, fun z => ?_⟩
    by_cases w : 1 ≤ F' x
    · have := q w
      have z : 1 ≤ cp p x + c0 x := z
      have := s0.2 (by omega)
      omega
    · omega
theorem Rel.setT {msk : List Bool} {Am Fm Ar F2 : Cnt} {ds : List D} (rel : Rel K mg σm s σ H ρ A F) (r2 : EnvR K mg H ρ (frzE msk σm) σ Ar F2) (q : ∀ x, A x = Am x + Ar x ∧ Fm x ≤ F x ∧ (1 ≤ F2 x → 1 ≤ F x ∨ 1 ≤ Am x))
    (fr : Fr c0 H H1 ρ ρ1) (wd : Wd K mg ρ1 s1 H1) (rp : Rep K mg H1 ρ1 (.lst true ds) v a f) (g : Gd Am Fm H a f) (i : Nat) (hi : i < σm.length) :
    ∃ A' F', Rel K mg ((frzE msk σm).set i (some (.lst true (fzs ds)))) s1 (σ.set i (some v)) H1 ρ1 A' F' ∧ Nx A F H A' F' := by
  obtain ⟨a', f', rp', qf⟩ := rp.ft g.sp
  have e1 := r2.frame fr fun _ hx => no0 hx
  obtain ⟨A', F', e', le, _⟩ := e1.set i rp' (by rw [frzE_length]; exact hi)
  have ev := rel.env.there
  have key : ∀ x, 1 ≤ f' x → 1 ≤ Am x ∨ 1 ≤ Fm x ∨ H x = none := fun x h => by
    obtain ⟨g1, g2, g3⟩ := g x
    rcases (qf x).2.1 h with z | z
    · exact .inr (.inr (g2 z).2)
    · exact g3 z
  have new : ∀ x, 1 ≤ a' x → H x = none ∧ A x = 0 ∧ F x = 0 := fun x h => by
    have := (qf x).1
    have hn := ((g x).2.1 (by omega)).2
    have : ¬ 1 ≤ A x + F x := fun y => by obtain ⟨⟨o, ho⟩, _⟩ := ev x y; rw [hn] at ho; cases ho
    exact ⟨hn, by omega, by omega⟩
  refine ⟨A', F', ⟨e', wd, fun x => ?_⟩, fun x => ?_⟩
  · have l := le x
    have s0 := rel.sep x
    have q0 := q x
    have g1 := (g x).1
    have qx := qf x
    by_cases n : 1 ≤ a' x
    · obtain ⟨n1, n2, n3⟩ := new x n
      have h1 : F2 x = 0 := by
        cases z : F2 x with
        | zero => rfl
        | succ k => have := q0.2.2 (by omega); omega
      have := qx.2.2 n
      exact ⟨by omega, fun _ => by omega⟩
    · refine ⟨by omega, fun y => ?_⟩
      have hA : 1 ≤ A x := by omega
      have hF := s0.2 hA
      obtain ⟨⟨o, ho⟩, _⟩ := ev x (by omega)
      have h1 : F2 x = 0 := by
        cases z : F2 x with
        | zero => rfl
        | succ k => have := q0.2.2 (by omega); omega
      have h2 : f' x = 0 := by
        cases z : f' x with
        | zero => rfl
        | succ k =>
          rcases key x (by omega) with w | w | w
          · omega
          · omega
          · rw [w] at ho; cases ho
      omega
  · have l := le x
    have q0 := q x
    refine ⟨fun y => ?_, fun y => ?_⟩
    · by_cases n : 1 ≤ a' x
      · exact .inr (new x n).1
      · exact .inl (by omega)
    · by_cases z : 1 ≤ f' x
      · rcases key x z with w | w | w
        · exact .inl (by omega)
        · exact .inr (.inl (by omega))
        · exact .inr (.inr w)
      · have := q0.2.2 (by omega)
        omega
theorem setT_end {W : WX} {D : Ends} {msk : List Bool} {i : Nat} {m : M} (h : rS K mg W (mSetT msk i m) D σ H) : rE K mg W m σ H fun x H1 => gName i x σ H1 D.nx := by
  obtain ⟨σm, s, ρ, A, F, rel, h⟩ := h
  refine rEF_of_to rel h fun d s1 v H1 ρ1 a f Am Fm Ar F2 fr wd rp g r2 q h => ?_
  split at h
  · split at h
    · rename_i z
      obtain ⟨A', F', rel', n⟩ := rel.setT r2 q fr wd rp g i z
      exact h _ _ _ _ _ fr.up rel' n
    · exact h.elim
  · exact h.elim
end
section
variable {X : Cx} {W : WX} {e : Expr} {m : M} {pos pos' : Pos} {x : Str}
theorem ss_setT (i : Nat) (msk : List Bool) (nd : X.N.Nodup) (he : SE X W e m) (hi : X.N[i]? = some x := by rfl) (hx : Loc X.env.scope x := by first | exact .inl rfl | exact .inr rfl) (hs : swapsWith e (some (.Name x pos')) pos.line X.env = pure false := by rfl)
    (hf : X.fn x = true ∨ X.env.scope.names.lookup x = some .local := by first | exact .inl rfl | exact .inr rfl) : SS X W (.Assign [.Name x pos'] e pos) (mSetT msk i m) :=
  PS.imp (ps_set nd hi hx he hs hf) fun D σ H h => setT_end h
end
end Zm
set_option Elab.async false
set_option linter.all false
set_option maxRecDepth 100000
set_option autoImplicit false
/-! Z39: sorted(d), d's keys pairs of ints. -/
namespace Zm
open PySem PySem.Spec PyProof.Rows L2
section
variable {X : Cx}
end
end Zm
set_option Elab.async false
set_option linter.all false
set_option maxRecDepth 100000
set_option autoImplicit false
/-! Z40: the machine of sorted(d), d's keys pairs of ints. -/
namespace Zm
open PySem PySem.Spec PyProof.Rows L2
section
variable {K : PySem.W.Frag} {mg : Str → Option Value} {H : Hp} {ρ : List Addr}
end
end Zm
set_option Elab.async false
set_option linter.all false
set_option maxRecDepth 100000
set_option autoImplicit false
/-! Z41: x[j][k] += e. -/
namespace Zm
open PySem PySem.Spec PyProof.Rows L2
section
variable {K : PySem.W.Frag} {mg : Str → Option Value} {W : WX} {H : Hp} {σ : L2.St} {Ds : Ends} {i : Nat} {mj mk m : M}
end
section
variable {X : Cx} {W : WX} {e ej ek : Expr} {m mj mk : M} {pos pos' ipos spos : Pos} {x : Str}
end
end Zm
set_option Elab.async false
set_option linter.all false
set_option maxRecDepth 100000
set_option autoImplicit false
/-! Z42: name = f(a, xs.pop(e)), f a def as a value, xs an owned list of numbers. -/
namespace Zm
open PySem PySem.Spec PyProof.Rows L2
section
variable {K : PySem.W.Frag} {mg : Str → Option Value} {W : WX} {H H' H1 : Hp} {ρ ρ' ρ1 : List Addr} {σm : Env} {σ : L2.St} {s s' s1 : Sto}
end
section
variable {X : Cx} {W : WX} {e : Expr} {me : M} {k : Nat} {f x xa xi : Str} {tbl : List (Str × Fn)} {pos pos' p1 p2 p3 apos cpos bpos : Pos}
end
end Zm
set_option Elab.async false
set_option linter.all false
set_option maxRecDepth 100000
set_option autoImplicit false
/-! Z43: sorted(xs, reverse=True), numbers. -/
namespace Zm
open PySem PySem.Spec PyProof.Rows L2
section
variable {K : PySem.W.Frag} {mg : Str → Option Value}
end
section
variable {X : Cx} {W : WX} {e : Expr} {m : M} {p pos p2 kpos : Pos} {j : Nat}
end
section
variable {X : Cx} {W : WX} {ea : Expr} {ma : M} {p q pos qpos : Pos}
end
end Zm
set_option Elab.async false
set_option linter.all false
set_option maxRecDepth 100000
set_option autoImplicit false
/-! Z44: the least of a list of lists of numbers. -/
namespace Zm
open PySem PySem.Spec PyProof.Rows L2
mutual
theorem reads_uniq {h : Heap} : ∀ {d d' : PyData} {v : Value} {as bs : List Addr}, Reads h v d as → Reads h v d' bs → d = d'
  | _, _, _, _, _, .none, .none => rfl
  | _, _, _, _, _, .bool _, .bool _ => rfl
  | _, _, _, _, _, .int _ _, .int _ _ => rfl
  | _, _, _, _, _, .str _ _, .str _ _ => rfl
  | _, _, _, _, _, .list e1 _ d1 r1, .list e2 _ d2 r2 => by
    rw [e1] at e2; cases e2; rw [d1] at d2; cases d2
    rw [readsA_uniq r1 r2]
  | _, _, _, _, _, .tuple e1 _ d1 r1, .tuple e2 _ d2 r2 => by
    rw [e1] at e2; cases e2; rw [d1] at d2; cases d2
    rw [readsA_uniq r1 r2]
  | _, _, _, _, _, .list e1 c1 _ _, .tuple e2 c2 _ _ => by
    rw [e1] at e2; cases e2; rw [c1] at c2; exact absurd (Value.type.inj c2) (by decide)
  | _, _, _, _, _, .tuple e1 c1 _ _, .list e2 c2 _ _ => by
    rw [e1] at e2; cases e2; rw [c1] at c2; exact absurd (Value.type.inj c2) (by decide)
  | _, _, _, _, _, .dict e1 c1 _ _ _, .list e2 c2 _ _ => by
    rw [e1] at e2; cases e2; rw [c1] at c2; exact absurd (Value.type.inj c2) (by decide)
  | _, _, _, _, _, .dict e1 c1 _ _ _, .tuple e2 c2 _ _ => by
    rw [e1] at e2; cases e2; rw [c1] at c2; exact absurd (Value.type.inj c2) (by decide)
  | _, _, _, _, _, .list e1 c1 _ _, .dict e2 c2 _ _ _ => by
    rw [e1] at e2; cases e2; rw [c1] at c2; exact absurd (Value.type.inj c2) (by decide)
  | _, _, _, _, _, .tuple e1 c1 _ _, .dict e2 c2 _ _ _ => by
    rw [e1] at e2; cases e2; rw [c1] at c2; exact absurd (Value.type.inj c2) (by decide)
  | _, _, _, _, _, .dict e1 _ d1 r1 q1, .dict e2 _ d2 r2 q2 => by
    rw [e1] at e2; cases e2; rw [d1] at d2; cases d2
    have a := readsA_uniq r1 r2
    have b := readsA_uniq q1 q2
    congr 1
    exact pairs_eq a b
theorem readsA_uniq {h : Heap} : ∀ {ds es : List PyData} {vs : List Value} {as bs : List Addr}, ReadsAll h vs ds as → ReadsAll h vs es bs → ds = es
  | _, _, _, _, _, .nil, .nil => rfl
  | _, _, _, _, _, .cons r1 q1, .cons r2 q2 => by rw [reads_uniq r1 r2, readsA_uniq q1 q2]
theorem pairs_eq {α β : Type} : ∀ {xs ys : List (α × β)}, xs.map (·.1) = ys.map (·.1) → xs.map (·.2) = ys.map (·.2) → xs = ys
  | [], [], _, _ => rfl
  | [], _ :: _, h, _ => by simp at h
  | _ :: _, [], h, _ => by simp at h
  | (a, b) :: xs, (c, d) :: ys, h, h' => by
    simp only [List.map_cons, List.cons.injEq] at h h'
    rw [h.1, h'.1, pairs_eq h.2 h'.2]
end
def ltL (a b : List Int) : Bool := PySem.W.dataLt (.list (a.map .int)) (.list (b.map .int))
def minLL (x : List Int) (xs : List (List Int)) : List Int := xs.foldl (fun a y => if ltL y a then y else a) x
section
variable {X : Cx}
end
section
variable {K : PySem.W.Frag} {mg : Str → Option Value}
end
end Zm
set_option Elab.async false
set_option linter.all false
set_option maxRecDepth 100000
set_option autoImplicit false
/-! ZX1: walks over lists and tuples while an exception is handled. -/
namespace Zm
open PySem PySem.Spec PyProof.Rows L2 HotX L2H
section
variable {prog : Program} {w : World} {A : Around} {E : Value → Shared → Prop} {s : Shared}
end
end Zm
set_option Elab.async false
set_option linter.all false
set_option maxRecDepth 100000
set_option maxHeartbeats 2000000
set_option autoImplicit false
/-! ZX2: lists made of lists while an exception is handled. -/
namespace Zm
open PySem PySem.Spec PyProof.Rows L2 HotX
section
variable {Y : Cx} {pz : List (Addr × Obj)} {τ : L2.St} {G : Hp} {t : Shared}
end
section
variable {Y : Cx}
end
end Zm
set_option Elab.async false
set_option linter.all false
set_option maxRecDepth 100000
set_option maxHeartbeats 2000000
set_option autoImplicit false
/-! ZX3: exceptions: raised, caught, asked what they are. -/
namespace Zm
open PySem PySem.Spec PyProof.Rows L2 HotX
/-! ### raised -/
def excB : List Value := [.type "ValueError", .type "Exception", .type "BaseException", .type "object"]
/-- what is known of a class of the program's own exceptions -/
structure ExK (K : PySem.W.Frag) (mg : Str → Option Value) (x : Str) : Prop where
  ex : ∃ C, mg x = some (.ref C) ∧ PySem.W.excIn K C excB "ValueError.__new__" = true ∧ PySem.W.keepIn K (.ref C) = true ∧ PySem.W.subIn K (.ref C) (.type "BaseException") = some true ∧ PySem.W.typeIn K (.ref C) = some (.type "type")
section
variable {X : Cx} {W : WX} {x m : Str} {p p2 pos rpos : Pos} {j : Nat}
end
/-! ### asked what it is, while it is handled -/
def exSub (c t : Str) : Bool := c == t || t == ("HallError" : Str)
/-- what is known of the class c, asked for those of ts -/
structure XTab (K : PySem.W.Frag) (mg : Str → Option Value) (ts : List Str) (c : Str) : Prop where
  cls : ∀ C, mg c = some (.ref C) → ExcC K C ∧ PySem.W.kitOne K (.ref C) (.type "ValueError") = some true ∧ ∀ t ∈ ts, ∀ q, mg t = some (.ref q) → PySem.W.kitOne K (.ref C) (.ref q) = some (exSub c t)
section
variable {X : Cx} {W : WX}
end
end Zm
set_option Elab.async false
set_option linter.all false
set_option maxRecDepth 100000
set_option maxHeartbeats 2000000
set_option autoImplicit false
/-! ZX4: a def that is called with the exception that is handled; try. -/
namespace Zm
open PySem PySem.Spec PyProof.Rows L2 HotX
/-- what a def of one argument promises there: of each class of rs, whatever the exception's address is -/
structure FnE (P : Program) (w : World) (K : PySem.W.Frag) (mg : Str → Option Value) (base : Heap) (k : Nat) (f : Addr) (fd : FuncData) (ps : List Str) (rs : List Str) (fw : Str → Int → Fn) : Prop where
  len : ∀ c a vs H Q E, spF K mg (fw c a) vs H Q E → vs.length = ps.length
  run : ∀ (c : Str) (C : Addr) (p : Addr × Obj), c ∈ rs → mg c = some (.ref C) → L2N.Zn (.ref C) none p.2 → ∀ (A : Around) (out : List PySem.Env) (s : Shared) (H : Hp) (args : Args) (us : List Value) (vs : List V) (Q : VK) (E : XK),
    L2H.RoomH k A → L2H.Hot1 A p → L2H.PinOk out H s p → Env0 P w K mg base A out s H → BindsTo s fd args (ps.zip us) → Vals vs us → spF K mg (fw c p.1) vs H Q E → codeAny (model P w) A (.call (.ref f) args) (CR (L2N.CX P w) out P w H s Q E) s
section
variable {P : Program} {w : World} {K : PySem.W.Frag} {mg : Str → Option Value} {base : Heap}
end
/-- such a def of the text -/
structure FnX (P : Program) (w : World) (K : PySem.W.Frag) (mg : Str → Option Value) (base : Heap) (k : Nat) (x : Str) (ps rs : List Str) (fw : Str → Int → Fn) : Prop where
  ex : ∃ f fd, mg x = some (.ref f) ∧ PySem.W.keepIn K (.ref f) = true ∧ Binds K fd ps [] ∧ FnE P w K mg base k f fd ps rs fw
section
variable {P : Program} {w : World} {K : PySem.W.Frag} {mg : Str → Option Value} {base : Heap}
theorem FnX.mono {j k : Nat} {x : Str} {ps rs : List Str} {fw : Str → Int → Fn} (F : FnX P w K mg base j x ps rs fw) (h : j ≤ k) : FnX P w K mg base k x ps rs fw := by
  obtain ⟨f, fd, a, b, c, d⟩ := F.ex
  exact ⟨f, fd, a, b, c, d.len, fun c C p hc gC hz A out s H args us vs Q E hr => d.run c C p hc gC hz A out s H args us vs Q E (hr.mono h)⟩
end
/-! ### x = f(e) in a suite -/
section
variable {X : Cx} {k : Nat} {x : Str} {ps rs : List Str} {fw : Str → Int → Fn} {a : Addr} {oe : Obj} {pn : List (Addr × Obj)} {q pos : Pos} {e : Expr} {t : TA}
end
/-! ### try: body, except HallError as e: x = f(e) -/
section
variable {X : Cx} {W : WX} {k ix ie : Nat} {x y n hx : Str} {ps rs : List Str} {fw : Str → Int → Fn} {g : Str → D} {body : List Stmt} {mb : MS} {np pos pos' q1 q2 q3 q4 q5 : Pos}
end
end Zm
set_option Elab.async false
set_option linter.all false
set_option maxRecDepth 100000
set_option maxHeartbeats 2000000
set_option autoImplicit false
/-! ZX5: the machine's rules while an exception is handled. -/
namespace Zm
open PySem PySem.Spec PyProof.Rows L2 HotX
section
variable {X : Cx} {W : WX} {pos p : Pos}
theorem PIH.imp {tg e : Expr} {t t' : TI} (h : L2H.PIH X tg e t) (q : ∀ σ H Q, t' σ H Q → t σ H Q) : L2H.PIH X tg e t' := ⟨fun pins s σ H Q I w => h.run pins s σ H Q I (q σ H Q w)⟩
end
/-! ### isinstance(e, (C1, C2, ..)) -/
section
variable {X : Cx} {W : WX} {pos p : Pos}
end
/-! ### a, b, .. = a list -/
section
variable {X : Cx} {pos : Pos}
theorem PGs.imp {es : List Expr} {t t' : TGs} (h : PGs X es t) (q : ∀ v σ H Q, t' v σ H Q → t v σ H Q) : PGs X es t' := ⟨fun pins s σ H vs us Q I r w => h.run pins s σ H vs us Q I r (q vs σ H Q w)⟩
theorem PG.or {e : Expr} {t t' : TG} (h : PG X e t) (h' : PG X e t') : PG X e (fun v σ H Q => t v σ H Q ∨ t' v σ H Q) := ⟨fun pins s σ H v u Q I r w => w.elim (h.run pins s σ H v u Q I r) (h'.run pins s σ H v u Q I r)⟩
end
/-! ### facts, from simpler ones -/
section
variable {K : PySem.W.Frag} {C T : Addr} {b : Bool}
end
end Zm
set_option Elab.async false
set_option linter.all false
set_option maxRecDepth 100000
set_option autoImplicit false
/-! ZX6: texts joined. -/
namespace Zm
open PySem PySem.Spec PyProof.Rows L2
section
variable {K : PySem.W.Frag} {mg : Str → Option Value} {H : Hp} {ρ : List Addr}
end
section
variable {X : Cx} {W : WX} {o e : Expr} {mo me : M} {apos cpos : Pos}
end
/-! ### a number among those of a tuple -/
end Zm
set_option Elab.async false
set_option linter.all false
set_option maxRecDepth 100000
set_option autoImplicit false
/-! ZX7: xs[j] = F(box, xs[j]). -/
namespace Zm
open PySem PySem.Spec PyProof.Rows L2
def mStC (fn : Fn) (i ia j : Nat) : MS := fun σ s => match σ[i]?, σ[ia]?, σ[j]? with
  | some (some (.lst true xs)), some (some (.box n)), some (some (.int k)) => match ixN xs.length k with
    | some q => (match xs[q]? with
      | some x => (fn [.box n, fz x] s).to σ fun d s' => .nx (σ.set i (some (.lst true ((fzs xs).set q (fz d))))) s'
      | none => .bad)
    | none => .bad
  | _, _, _ => .bad
section
variable {K : PySem.W.Frag} {mg : Str → Option Value} {W : WX} {H : Hp} {σ : L2.St} {D : Ends} {fn : Fn} {i ia j : Nat}
theorem stC_end (h : rS K mg W (mStC fn i ia j) D σ H) : ∃ va p l k n y, σ[ia]? = some (some va) ∧ σ[i]? = some (some (.ref p)) ∧ H p = some (.lst l) ∧ σ[j]? = some (some (.int k)) ∧ ixN l.length k = some n ∧ l[n]? = some y ∧
    spF K mg fn [va, y] H (fun v H1 => H1 p = some (.lst l) ∧ D.nx σ (upd H1 p (.lst (l.set n v)))) (WE W σ) := by
  obtain ⟨σm, s, ρ, A, F, rel, h⟩ := h
  unfold mStC at h
  split at h
  · rename_i xs nb k hi ha hj
    obtain ⟨p, vs, a1, f1, A2, F2, e1, hp, r0, q, wr⟩ := rel.wr hi
    obtain ⟨vb, ab, fb, eb, rb, _⟩ := rel.env.get ha
    obtain ⟨vk, ak, fk, ek, rk, _⟩ := rel.env.get hj
    cases rk
    split at h
    · rename_i n hn
      split at h
      · rename_i x hx
        obtain ⟨y, ay, fy, hy, ry, _, _, _, le⟩ := r0.set hx (.non (A := c0) (F := c0) (fun _ => rfl) (fun _ => rfl))
        obtain ⟨fx, rx, qx⟩ := ry.fz
        obtain ⟨ff, rf, qf⟩ := r0.fz
        have zx : ∀ c, 1 ≤ fx c → 1 ≤ a1 c + f1 c := fun c hc => by
          have := qx c hc
          have := le c
          have z : c0 c = 0 := rfl
          omega
        refine ⟨vb, p, vs, k, n, y, eb, e1, hp, ek, by rw [← r0.length]; exact hn, hy, [.box nb, fz x], s, ρ, c0, fx, rel.wd, ?_, fun c => ⟨Nat.zero_le _, fun z => by cases z⟩, ?_⟩
        · cases rb with
          | box hb _ _ => exact .cons (.box (A := c0) (F := c0) hb (fun _ => rfl) (fun _ => rfl)) (.cons rx (.nil (A := c0) (F := c0) (fun _ => rfl) (fun _ => rfl)) (fun _ => rfl) (fun _ => rfl)) (fun _ => rfl) (fun c => by show fx c = c0 c + (fx c + c0 c); have z : c0 c = 0 := rfl; omega)
        · cases e : fn [.box nb, fz x] s with
          | bad => rw [e] at h; exact h
          | ex xc s1 =>
            rw [e] at h
            exact fun cls dd H' ρ' fr wd rx => h cls dd σ H' ρ' A F fr.up (rel.next fr wd) .refl rx
          | ok d s1 =>
            rw [e] at h
            intro v H1 ρ1 a' f' fr wd rp o
            simp only [R.to_ok] at h
            obtain ⟨fd, rd, qd⟩ := rp.fz
            have hl : n < (fzs xs).length := by
              rw [fzs_eq, List.length_map]; exact (ixN_lt hn)
            obtain ⟨w, a0, f0, _, _, A', F', r', le'⟩ := (rf.on fr).set (i := n) (List.getElem?_eq_getElem hl) rd
            have ev := rel.env.there
            have key : ∀ c, 1 ≤ fd c → 1 ≤ a1 c + f1 c ∨ H c = none := fun c hc => by
              have := qd c hc
              obtain ⟨o1, o2, o3⟩ := o c
              by_cases z : 1 ≤ a' c
              · rcases (o2 z).2 with w | w
                · exact .inr w
                · cases w
              · rcases o3 (by omega) with w | w | w
                · cases w
                · exact .inl (zx c w)
                · exact .inr w
            have sp : ∀ c, cp p c + A' c + A2 c ≤ 1 ∧ (1 ≤ cp p c + A' c + A2 c → F' c + F2 c = 0) := fun c => by
              have s0 := rel.sep c
              have q0 := q c
              have l0 := le' c
              have z0 : c0 c = 0 := rfl
              refine ⟨by omega, fun hc => ?_⟩
              have s1 := s0.2 (by omega)
              have nf : ff c = 0 := by
                cases w : ff c with
                | zero => rfl
                | succ t => have := qf c (by omega); omega
              have nd : fd c = 0 := by
                cases w : fd c with
                | zero => rfl
                | succ t =>
                  rcases key c (by omega) with z | z
                  · omega
                  · obtain ⟨⟨ob, ho⟩, _⟩ := ev c (by omega)
                    rw [z] at ho; cases ho
              omega
            obtain ⟨hp1, h2, h3⟩ := wr H1 ρ1 s1 _ _ A' F' fr wd r' sp
            refine ⟨hp1, h _ _ _ _ _ h2 h3 fun c => ?_⟩
            have q0 := q c
            have l0 := le' c
            have z0 : c0 c = 0 := rfl
            refine ⟨fun y => .inl (by omega), fun y => ?_⟩
            by_cases w : 1 ≤ fd c
            · rcases key c w with z | z
              · by_cases z2 : 1 ≤ a1 c
                · exact .inl (by omega)
                · exact .inr (.inl (by omega))
              · exact .inr (.inr z)
            · by_cases w2 : 1 ≤ ff c
              · have := qf c w2
                by_cases z2 : 1 ≤ a1 c
                · exact .inl (by omega)
                · exact .inr (.inl (by omega))
              · exact .inr (.inl (by omega))
      · exact h.elim
    · exact h.elim
  · exact h.elim
end
section
variable {X : Cx} {W : WX} {k : Nat} {f x xa xj : Str} {ps : List Str} {m : Fn} {pos pos' p1 p2 p3 p4 p5 spos spos2 bpos : Pos}
theorem ss_stC (i ia j : Nat) (F : FnM X.prog X.w X.K X.mg X.base k f ps m) (hr : Room k X.A) (hgd : X.A.guards = some []) (tk : L2N.Takes X W)
    (hNi : X.N[i]? = some x := by rfl) (hvi : Vis X.env.scope x := by first | exact Or.inl rfl | exact Or.inr (Or.inl rfl) | exact Or.inr (Or.inr rfl)) (hNa : X.N[ia]? = some xa := by rfl) (hva : Vis X.env.scope xa := by first | exact Or.inl rfl | exact Or.inr (Or.inl rfl) | exact Or.inr (Or.inr rfl))
    (hNj : X.N[j]? = some xj := by rfl) (hvj : Vis X.env.scope xj := by first | exact Or.inl rfl | exact Or.inr (Or.inl rfl) | exact Or.inr (Or.inr rfl))
    (hdi : (x == ("__debug__" : Str)) = false := by decide) (hci : (x == ("__classdict__" : Str)) = false := by decide) (hda : (xa == ("__debug__" : Str)) = false := by decide) (hca : (xa == ("__classdict__" : Str)) = false := by decide)
    (hdj : (xj == ("__debug__" : Str)) = false := by decide) (hcj : (xj == ("__classdict__" : Str)) = false := by decide) (hg : Gl X f := by rfl) (hdb : (f == ("__debug__" : Str)) = false := by decide)
    (he : starEach [.Name xa p2, .Subscript (.Name x p3) (.Name xj p4) spos2] X.env = (false, eval (.Name xa p2) X.env) :: starEach [.Subscript (.Name x p3) (.Name xj p4) spos2] X.env := by rfl)
    (he2 : starEach [.Subscript (.Name x p3) (.Name xj p4) spos2] X.env = (false, eval (.Subscript (.Name x p3) (.Name xj p4) spos2) X.env) :: starEach [] X.env := by rfl)
    (hpl : (backTo bpos (starEach [.Subscript (.Name x p3) (.Name xj p4) spos2] X.env)).any (·.1) = false := by rfl) (hpi : PlainIx (.Name xj p4) := by intro _ _; rfl)
    (ha : ∀ v, assign (.Subscript (.Name x pos') (.Name xj p5) spos) X.env v = (do
      let ov ← holding [v] (eval (.Name x pos') X.env)
      let iv ← holding [v, ov] (eval (.Name xj p5) X.env)
      standAt spos
      holding [v, ov, iv] (setItem ov iv v)
      release [v, ov, iv] []) := by intro _; rfl)
    (hs : swapsWithSole [.Subscript (.Name x pos') (.Name xj p5) spos] (.Call (.Name f p1) [.Name xa p2, .Subscript (.Name x p3) (.Name xj p4) spos2] [] bpos) pos.line X.env = pure false := by rfl) (hw : swappedStores [.Subscript (.Name x pos') (.Name xj p5) spos] (.Call (.Name f p1) [.Name xa p2, .Subscript (.Name x p3) (.Name xj p4) spos2] [] bpos) X.env = pure none := by rfl)
    (h1 : (assignEach [.Subscript (.Name x pos') (.Name xj p5) spos] X.env).map (·.2) = [assign (.Subscript (.Name x pos') (.Name xj p5) spos) X.env] := by rfl) :
    SS X W (.Assign [.Subscript (.Name x pos') (.Name xj p5) spos] (.Call (.Name f p1) [.Name xa p2, .Subscript (.Name x p3) (.Name xj p4) spos2] [] bpos) pos) (mStC m i ia j) := by
  obtain ⟨fa, fd, a, b, c, d, _⟩ := F.ex
  refine PS.imp (ps_asg (pe_callG d hr hgd hg a b c (E := WE W) (fun σ => L2N.passAt tk σ) (pa_cons (pe_var hNa hva hda hca) (pa_cons (pe_ix ix_seq (pe_var hNi hvi hdi hci) (pe_var hNj hvj hdj hcj) hpi) pa_nil he2) he) hdb he hpl) (pg_sub (pe_var hNi hvi hdi hci) (pe_var hNj hvj hdj hcj) set_list ha) hs hw h1) fun D σ H h => ?_
  obtain ⟨va, p, l, kk, n, y, ea, ei, hp, ej, hn, hy, q⟩ := stC_end h
  refine ⟨va, ea, .ref p, ei, .int kk, ej, .inl ⟨p, l, kk, y, rfl, rfl, SqL.of hp, ?_, ?_⟩⟩
  · unfold atI; rw [hn]; exact hy
  · obtain ⟨ds, s, ρ, a, f, wd, rp, sp, o⟩ := q
    refine ⟨ds, s, ρ, a, f, wd, rp, sp, ?_⟩
    cases e : m ds s with
    | bad => rw [e] at o; exact o
    | ex xc s1 => rw [e] at o; exact o
    | ok d s1 =>
      rw [e] at o
      intro v H' ρ' a' f' fr wd' rp' ou
      obtain ⟨hp1, hq⟩ := o v H' ρ' a' f' fr wd' rp' ou
      exact ⟨_, ei, _, ej, p, l, kk, n, rfl, rfl, hp1, hn, hq⟩
end
end Zm
set_option Elab.async false
set_option linter.all false
set_option maxRecDepth 100000
set_option autoImplicit false
/-! ZX8: F(x).index(t, p), F telling a new tuple of numbers. -/
namespace Zm
open PySem PySem.Spec PyProof.Rows L2
/-! ### a new tuple, its object known -/
/-! ### its place of a number, from a place on -/
/-! ### defs that tell such -/
def spT (K : PySem.W.Frag) (mg : Str → Option Value) (m : Fn) : Sp := fun vs H Q E => ∃ ds s ρ a f, Wd K mg ρ s H ∧ Reps K mg H ρ ds vs a f ∧ Sp1 a f ∧ match m ds s with
  | .ok (.tup es) s' => ∃ ns, toI es = some ns ∧ ∀ (p : Addr) (H' : Hp) (ρ' : List Addr) (o : Obj), Fr a H H' ρ ρ' → Wd K mg ρ' s' H' → H' p = some (.frz o (.tup (ns.map V.int))) → o.cls = .type "tuple" → o.dict = none → Q (.ref p) H'
  | .ex x s' => ∀ cls dd H' ρ', Fr a H H' ρ ρ' → Wd K mg ρ' s' H' → RepX mg H' x cls dd → E cls dd H'
  | _ => False
structure FnT (P : Program) (w : World) (K : PySem.W.Frag) (mg : Str → Option Value) (base : Heap) (k : Nat) (x : Str) (ps : List Str) (m : Fn) : Prop where
  ex : ∃ f fd, mg x = some (.ref f) ∧ PySem.W.keepIn K (.ref f) = true ∧ Binds K fd ps [] ∧ FnG P w K mg base k f fd ps (spT K mg m)
section
variable {P : Program} {w : World} {K : PySem.W.Frag} {mg : Str → Option Value} {base : Heap}
theorem FnT.mono {j k : Nat} {x : Str} {ps : List Str} {m : Fn} (F : FnT P w K mg base j x ps m) (h : j ≤ k) : FnT P w K mg base k x ps m := by
  obtain ⟨f, fd, a, b, c, d⟩ := F.ex
  exact ⟨f, fd, a, b, c, d.mono h⟩
end
section
variable {K : PySem.W.Frag} {mg : Str → Option Value} {W : WX} {H : Hp} {σ : L2.St} {Q : VK} {fn : Fn} {m1 mt mp : M}
end
section
variable {X : Cx} {W : WX} {k : Nat} {x : Str} {ps : List Str} {fn : Fn} {e1 e2 e3 : Expr} {m1 mt mp : M} {p cp apos cpos : Pos}
end
end Zm
set_option Elab.async false
set_option linter.all false
set_option maxRecDepth 100000
set_option autoImplicit false
/-! ZX9: sorted(a tuple of numbers). -/
namespace Zm
open PySem PySem.Spec PyProof.Rows L2
end Zm
set_option Elab.async false
set_option linter.all false
set_option maxRecDepth 100000
set_option autoImplicit false
/-! ZR: repr of data in which an empty dict may stand. -/
namespace Zm
open PySem PySem.Spec PyProof.Rows L2
mutual
def pz : D → Option PyData
  | .non => some .none
  | .bl b => some (.bool b)
  | .int i => some (.int i)
  | .str x => some (.str x)
  | .tup xs => (pzs xs).map .tuple
  | .lst _ xs => (pzs xs).map .list
  | .ro ns => some (.list (ns.map .int))
  | .dic _ _ [] _ => some (.dict [])
  | .dic _ _ (_ :: _) _ => none
  | .dil _ _ _ => none
  | .box _ => none | .fn _ => none | .ty _ => none | .exc _ _ => none
def pzs : List D → Option (List PyData)
  | [] => some []
  | x :: xs => match pz x, pzs xs with
    | some y, some ys => some (y :: ys)
    | _, _ => none
end
mutual
theorem pz_fz : ∀ d : D, pz (fz d) = pz d
  | .non => rfl | .bl _ => rfl | .int _ => rfl | .str _ => rfl | .box _ => rfl | .fn _ => rfl | .ty _ => rfl | .exc _ _ => rfl | .ro _ => rfl
  | .dic _ _ [] _ => rfl | .dic _ _ (_ :: _) _ => rfl
  | .dil _ _ _ => rfl
  | .tup xs => by show (pzs (fzs xs)).map _ = (pzs xs).map _; rw [pzs_fz xs]
  | .lst o xs => by show (pzs (fzs xs)).map _ = (pzs xs).map _; rw [pzs_fz xs]
theorem pzs_fz : ∀ xs : List D, pzs (fzs xs) = pzs xs
  | [] => rfl
  | x :: xs => by
    show (match pz (fz x), pzs (fzs xs) with
      | some y, some ys => some (y :: ys)
      | _, _ => none) = (match pz x, pzs xs with
      | some y, some ys => some (y :: ys)
      | _, _ => none)
    rw [pz_fz x, pzs_fz xs]
end
mutual
theorem pz_pd : ∀ {d : D} {x : PyData}, pd d = some x → pz d = some x
  | .non, _, h => h | .bl _, _, h => h | .int _, _, h => h | .str _, _, h => h | .ro _, _, h => h
  | .box _, _, h => by cases h
  | .fn _, _, h => by cases h
  | .ty _, _, h => by cases h
  | .exc _ _, _, h => by cases h
  | .dic _ _ _ _, _, h => by cases h
  | .dil _ _ _, _, h => by cases h
  | .tup xs, _, h => by
    rw [pd, Option.map_eq_some_iff] at h
    obtain ⟨ys, e, rfl⟩ := h
    rw [pz, pzs_pd e]; rfl
  | .lst o xs, _, h => by
    rw [pd, Option.map_eq_some_iff] at h
    obtain ⟨ys, e, rfl⟩ := h
    rw [pz, pzs_pd e]; rfl
theorem pzs_pd : ∀ {ds : List D} {xs : List PyData}, pds ds = some xs → pzs ds = some xs
  | [], _, h => h
  | d :: ds, _, h => by
    rw [pds] at h
    cases e1 : pd d with
    | none => rw [e1] at h; cases h
    | some y =>
      cases e2 : pds ds with
      | none => rw [e1, e2] at h; cases h
      | some ys =>
        rw [e1, e2] at h; cases h
        rw [pzs, pz_pd e1, pzs_pd e2]
end
/-! data, an empty dict may stand in it -/
mutual
inductive Sh (K : PySem.W.Frag) (H : Hp) : V → PyData → Prop
  | non : Sh K H .non .none
  | bl (b : Bool) : Sh K H (.bl b) (.bool b)
  | int (i : Int) : Sh K H (.int i) (.int i)
  | str (x : Str) : Sh K H (.str x) (.str x)
  | lst {a : Addr} {xs : List V} {ds : List PyData} : SqL K H a xs → ShL K H xs ds → Sh K H (.ref a) (.list ds)
  | tup {a : Addr} {xs : List V} {ds : List PyData} : SqT K H a xs → ShL K H xs ds → Sh K H (.ref a) (.tuple ds)
  | dic {a : Addr} {t : Bool} {ws : List V} : DicRd H t a [] ws → Sh K H (.ref a) (.dict [])
inductive ShL (K : PySem.W.Frag) (H : Hp) : List V → List PyData → Prop
  | nil : ShL K H [] []
  | cons {v : V} {vs : List V} {d : PyData} {ds : List PyData} : Sh K H v d → ShL K H vs ds → ShL K H (v :: vs) (d :: ds)
end
theorem ShL.ints {K : PySem.W.Frag} {H : Hp} : ∀ ns : List Int, ShL K H (ns.map V.int) (ns.map .int)
  | [] => .nil
  | n :: ns => .cons (.int n) (ShL.ints ns)
section
variable {K : PySem.W.Frag} {mg : Str → Option Value} {H : Hp} {ρ : List Addr}
mutual
theorem Rep.sh : ∀ {d : D} {v : V} {a f : Cnt} {x : PyData}, pz d = some x → Rep K mg H ρ d v a f → Sh K H v x
  | .non, _, _, _, _, e, h => by cases h; cases e; exact .non
  | .bl _, _, _, _, _, e, h => by cases h; cases e; exact .bl _
  | .int _, _, _, _, _, e, h => by cases h; cases e; exact .int _
  | .str _, _, _, _, _, e, h => by cases h; cases e; exact .str _
  | .tup xs, _, _, _, _, e, h => by
    rw [pz, Option.map_eq_some_iff] at e
    obtain ⟨ys, e1, rfl⟩ := e
    cases h with
    | tup q t => exact .tup (SqT.of q) (Reps.sh e1 t)
  | .lst _ xs, _, _, _, _, e, h => by
    rw [pz, Option.map_eq_some_iff] at e
    obtain ⟨ys, e1, rfl⟩ := e
    obtain ⟨p, vs, a1, f1, rfl, hp, t, _⟩ := inv_lst h
    exact .lst (SqL.of hp) (Reps.sh e1 t)
  | .ro ns, _, _, _, _, e, h => by
    cases e
    cases h with
    | ro q _ _ => exact .lst q.L (ShL.ints ns)
  | .dic _ _ [] _, _, _, _, _, e, h => by
    cases e
    obtain ⟨p, ws, rfl, hd, _⟩ := inv_dic h
    exact .dic hd
  | .dic _ _ (_ :: _) _, _, _, _, _, e, _ => by cases e
  | .dil _ _ _, _, _, _, _, e, _ => by cases e
  | .box _, _, _, _, _, e, _ => by cases e
  | .fn _, _, _, _, _, e, _ => by cases e
  | .ty _, _, _, _, _, e, _ => by cases e
  | .exc _ _, _, _, _, _, e, _ => by cases e
theorem Reps.sh : ∀ {ds : List D} {vs : List V} {a f : Cnt} {xs : List PyData}, pzs ds = some xs → Reps K mg H ρ ds vs a f → ShL K H vs xs
  | [], _, _, _, _, e, h => by cases h; cases e; exact .nil
  | d :: ds, _, _, _, _, e, h => by
    rw [pzs] at e
    cases e1 : pz d with
    | none => rw [e1] at e; cases e
    | some y =>
      cases e2 : pzs ds with
      | none => rw [e1, e2] at e; cases e
      | some ys =>
        rw [e1, e2] at e
        cases e
        cases h with
        | cons h t _ _ => exact .cons (Rep.sh e1 h) (Reps.sh e2 t)
end
end
section
variable {X : Cx} {pins : List (Addr × Obj)} {σ : L2.St} {H : Hp} {s : Shared}
/-- how an empty dict stands in the heap -/
theorem dic_nil (I : Inv X pins σ H s) {t : Bool} {a : Addr} {ws : List V} (h : DicRd H t a [] ws) : (a == sysModules) = false ∧ ∃ o ep, s.heap.get? a = some o ∧ o.cls = .type "dict" ∧ o.data = .dict #[] ep := by
  obtain ⟨u, rd, q⟩ := h
  cases t with
  | false =>
    obtain ⟨kvs, rfl, e1, _⟩ := q
    cases kvs with
    | cons k ks => cases e1
    | nil =>
      obtain ⟨_, hs, vs, kv, o, es, ep, h1, h2, h3, _, h5, _⟩ := dk_rd I.hok rd
      refine ⟨hs, o, ep, h1, h2.1, ?_⟩
      cases kv
      have : es.toList = [] := by
        generalize es.toList = l at h5
        cases h5; rfl
      rw [h3, Array.toList_eq_nil_iff.mp this]
  | true =>
    obtain ⟨kvs, rfl, e1, _⟩ := q
    cases kvs with
    | cons k ks => cases e1
    | nil =>
      obtain ⟨_, hs, xs, kv, o, es, ep, h1, h2, h3, h4, _⟩ := dt_rd I.hok rd
      refine ⟨hs, o, ep, h1, h2.1, ?_⟩
      cases kv
      rw [h3, Array.toList_eq_nil_iff.mp (show es.toList = [] from h4)]
abbrev RdAt (X : Cx) (s : Shared) (u : Value) (d : PyData) : Prop := ∃ as bs, Reads s.heap u d as ∧ ReadAtMost s.heap d.depth bs ∧ ReprK X.prog X.w bs s.heap d.depth u d.shown
abbrev RdAll (X : Cx) (s : Shared) (us : List Value) (ds : List PyData) : Prop := ∃ as bs, ReadsAll s.heap us ds as ∧ ReadAtMost s.heap (PyData.depthAll ds) bs ∧ ReprAllK X.prog X.w bs s.heap (PyData.depthAll ds) us (PyData.shownAll ds)
mutual
theorem Sh.rd (I : Inv X pins σ H s) : ∀ {v : V} {d : PyData} {u : Value}, Sh X.K H v d → RelV v u → d.showable = true → d.shown.length ≤ sizeLine → RdAt X s u d
  | _, _, _, .non, r, _, _ => by
    cases r
    exact ⟨_, [], .none, fun _ z => (List.not_mem_nil z).elim, by rw [PyData.shown]; exact .of_is .none _ _ _⟩
  | _, _, _, .bl b, r, _, _ => by
    cases r
    exact ⟨_, [], .bool b, fun _ z => (List.not_mem_nil z).elim, by rw [PyData.shown]; exact .of_is (.bool b) _ _ _⟩
  | _, _, _, .int i, r, hs, _ => by
    obtain ⟨t, rfl⟩ := r
    rw [PyData.showable, decide_eq_true_eq] at hs
    exact ⟨_, [], .int i t, fun _ z => (List.not_mem_nil z).elim, by rw [PyData.shown]; exact .of_is (ReprIs.int t hs) _ _ _⟩
  | _, _, _, .str x, r, _, hz => by
    obtain ⟨t, rfl⟩ := r
    rw [PyData.shown] at hz
    exact ⟨_, [], .str x t, fun _ z => (List.not_mem_nil z).elim, by rw [PyData.shown]; exact .of_is (ReprIs.str x t hz) _ _ _⟩
  | _, _, _, .lst (ds := ds) hq ha, r, hs, hz => by
    cases r
    rw [PyData.showable] at hs
    rw [PyData.shown] at hz
    obtain ⟨its, rv, ⟨o, n, ho, hc, _, hd⟩, _⟩ := I.list hq
    obtain ⟨as, bs, q1, q2, q3⟩ := ShL.rd I ha rv hs fun t ht => Nat.le_trans (listText_mem_le ht) hz
    have rr : Reads s.heap (.ref _) (.list ds) (_ :: as) := Reads.list ho hc hd q1
    have deep : PyData.depthAll ds < (PyData.list ds).depth := by rw [PyData.depth]; omega
    have out := not_mem_of_deeper rr deep q2
    refine ⟨_, _, rr, ReadAtMost.cons rr (Nat.le_of_lt deep) q2, ?_⟩
    rw [PyData.depth, PyData.shown]
    cases its with
    | nil =>
      cases q1
      rw [PyData.shownAll, listText_nil]
      exact .listEmpty ho hc hd
    | cons y ys =>
      refine .list ho hc hd out ?_ fun i z e => q3.item i z (by simpa using e)
      rw [q3.length_eq]; simp
  | _, _, _, .tup (ds := ds) hq ha, r, hs, hz => by
    cases r
    rw [PyData.showable] at hs
    rw [PyData.shown] at hz
    obtain ⟨its, rv, ⟨o, ho, hc, n, hd⟩, _⟩ := I.tuple hq
    obtain ⟨as, bs, q1, q2, q3⟩ := ShL.rd I ha rv hs fun t ht => Nat.le_trans (tupleText_mem_le ht) hz
    have rr : Reads s.heap (.ref _) (.tuple ds) as := Reads.tuple ho hc hd q1
    have deep : PyData.depthAll ds < (PyData.tuple ds).depth := by rw [PyData.depth]; omega
    have out := not_mem_of_deeper rr deep q2
    refine ⟨_, _, rr, ReadAtMost.cons rr (Nat.le_of_lt deep) q2, ?_⟩
    rw [PyData.depth, PyData.shown]
    exact .tuple ho hc hd out q3
  | _, _, _, .dic h, r, _, _ => by
    cases r
    obtain ⟨hs, o, ep, h1, h2, h3⟩ := dic_nil I h
    have rr : Reads s.heap (.ref _) (.dict []) _ := Reads.dict h1 h2 h3 (.nil) (.nil)
    refine ⟨_, _, rr, ReadAtMost.cons rr (Nat.zero_le _) (n := 0) (bs := []) fun _ z => (List.not_mem_nil z).elim, ?_⟩
    rw [PyData.depth, PyData.shown, PyData.shownKv]
    exact .dict h1 h2 h3 hs List.not_mem_nil .nil
theorem ShL.rd (I : Inv X pins σ H s) : ∀ {vs : List V} {ds : List PyData} {us : List Value}, ShL X.K H vs ds → Vals vs us → PyData.showableAll ds = true → (∀ t ∈ PyData.shownAll ds, t.length ≤ sizeLine) → RdAll X s us ds
  | _, _, _, .nil, r, _, _ => by
    cases r
    exact ⟨_, [], .nil, fun _ z => (List.not_mem_nil z).elim, by rw [PyData.shownAll]; exact .nil⟩
  | _, _, _, .cons h1 h2, r, hs, hz => by
    cases r with
    | cons r1 r2 =>
      rw [PyData.showableAll, Bool.and_eq_true] at hs
      rw [PyData.shownAll] at hz
      obtain ⟨as, bs, a1, a2, a3⟩ := Sh.rd I h1 r1 hs.1 (hz _ List.mem_cons_self)
      obtain ⟨as', bs', b1, b2, b3⟩ := ShL.rd I h2 r2 hs.2 fun t ht => hz t (List.mem_cons_of_mem _ ht)
      refine ⟨_, bs ++ bs', .cons a1 b1, ?_, ?_⟩
      · rw [PyData.depthAll]
        exact (a2.mono (Nat.le_max_left _ _)).append (b2.mono (Nat.le_max_right _ _))
      · rw [PyData.depthAll, PyData.shownAll]
        exact .cons ((a3.more fun _ z => List.mem_append_left _ z).level_le (Nat.le_max_left _ _)) (b3.more_le (fun _ z => List.mem_append_right _ z) (Nat.le_max_right _ _))
end
end
def gReprZ : Sto → List D → Option D := fun _ ds => match ds with
  | [d] => (pz d).bind fun x => if x.showable = true ∧ x.depth ≤ 60 ∧ x.shown.length ≤ sizeLine then some (.str x.shown) else none
  | _ => none
def rReprY (K : PySem.W.Frag) : List V → Hp → VK → Prop := fun xs H Q => ∃ x d, xs = [x] ∧ Sh K H x d ∧ d.showable = true ∧ d.depth ≤ 60 ∧ d.shown.length ≤ sizeLine ∧ Q (.str d.shown) H
section
variable {X : Cx} {K : PySem.W.Frag} {mg : Str → Option Value}
theorem cr_reprZ (hu : X.A.units + 64 < cLine) (hg : X.A.guards = some []) : CallR X (.builtin "repr") (rReprY X.K) := by
  intro pins s σ H xs us Q I r h
  obtain ⟨x, d, rfl, hd, h1, h3, h4, q⟩ := h
  obtain ⟨u, rfl, ru⟩ := vals1 r
  cases hd with
  | non =>
    cases ru
    rw [PyData.shown] at q
    exact PySem.P.repr_of_none ⟨.str _, H, I.tok _, ⟨_, rfl⟩, q⟩
  | bl b =>
    cases ru
    refine PySem.P.repr_of_bool ⟨.str _, H, I.tok _, ⟨_, rfl⟩, ?_⟩
    cases b <;> (simp only [PyData.shown] at q; exact q)
  | int i =>
    obtain ⟨t, rfl⟩ := ru
    have hz : i.natAbs.log2 < 1920 := by simpa [PyData.showable] using h1
    exact PySem.P.repr_of_int hz ⟨.str _, H, I.tok _, ⟨_, rfl⟩, by simpa only [PyData.shown] using q⟩
  | str z =>
    obtain ⟨t, rfl⟩ := ru
    exact PySem.P.repr_of_str ⟨.str _, H, I.tok _, ⟨_, rfl⟩, by simpa only [PyData.shown] using q⟩ (by simpa only [PyData.shown] using h4)
  | @lst a xs ds hq ha =>
    cases ru
    rw [PyData.showable] at h1
    rw [PyData.shown] at h4 q
    rw [PyData.depth] at h3
    obtain ⟨its, rv, ⟨o, n, ho, hc, _, hd⟩, _⟩ := I.list hq
    obtain ⟨as, bs, q1, q2, q3⟩ := ShL.rd I ha rv h1 fun t ht => Nat.le_trans (listText_mem_le ht) h4
    have rr : Reads s.heap (.ref a) (.list ds) (_ :: as) := Reads.list ho hc hd q1
    have out := not_mem_of_deeper rr (n := PyData.depthAll ds) (by rw [PyData.depth]; omega) q2
    refine call_repr_slot (by omega) ⟨o, ho, hc⟩ F.slot_list_repr.toG ?_
    cases its with
    | nil =>
      cases q1
      rw [PyData.shownAll, listText_nil] at q
      exact call_list_repr_empty ⟨o, ho, hc⟩ ho hd ⟨_, _, rfl, .str _, H, I.tok _, ⟨_, rfl⟩, q⟩
    | cons y ys =>
      refine call_list_reprK ho hc hd out ?_ (fun i z e => q3.item i z (by simpa using e)) (g := []) hg (fun b _ => Clear.nil b) (by show X.A.units + 1 + _ < _; omega) (fun _ _ e => e) (fun h' u tk hk => ⟨_, _, rfl, .str _, H, I.kept hk, ⟨_, rfl⟩, q⟩) h4
      rw [q3.length_eq]; simp
  | @tup a xs ds hq ha =>
    cases ru
    rw [PyData.showable] at h1
    rw [PyData.shown] at h4 q
    rw [PyData.depth] at h3
    obtain ⟨its, rv, ⟨o, ho, hc, n, hd⟩, _⟩ := I.tuple hq
    obtain ⟨as, bs, q1, q2, q3⟩ := ShL.rd I ha rv h1 fun t ht => Nat.le_trans (tupleText_mem_le ht) h4
    have rr : Reads s.heap (.ref a) (.tuple ds) as := Reads.tuple ho hc hd q1
    have out := not_mem_of_deeper rr (n := PyData.depthAll ds) (by rw [PyData.depth]; omega) q2
    refine call_repr_slot (by omega) ⟨o, ho, hc⟩ F.slot_tuple_repr ?_
    exact call_tuple_reprK ho hc hd out q3 (g := []) hg (fun b _ => Clear.nil b) (by show X.A.units + 1 + _ < _; omega) (fun _ _ e => e) (fun h' u tk hk => ⟨_, _, rfl, .str _, H, I.kept hk, ⟨_, rfl⟩, q⟩) h4
  | dic h =>
    cases ru
    rw [PyData.shown, PyData.shownKv] at h4 q
    obtain ⟨hs, o, ep, ho, hc, hd⟩ := dic_nil I h
    refine call_repr_slot (by omega) ⟨o, ho, hc⟩ F.slot_dict_repr ?_
    exact call_dict_reprK (d := 0) (as := []) ho hc hd hs List.not_mem_nil .nil (g := []) hg (fun b _ => Clear.nil b) (by show X.A.units + 1 + _ < _; omega) (fun _ _ e => e) (fun h' u tk hk => ⟨_, _, rfl, .str _, H, I.kept hk, ⟨_, rfl⟩, q⟩) h4
theorem v_reprZ : OpV K mg (rReprY K) gReprZ := by
  intro ρ s H ds vs a f d w r h e Q q
  unfold Zm.gReprZ at e
  split at e
  · rw [Option.bind_eq_some_iff] at e
    obtain ⟨x, e1, e2⟩ := e
    split at e2
    · rename_i z
      cases e2
      obtain ⟨v1, rfl, r1⟩ := r.inv1
      exact ⟨_, x, rfl, r1.sh e1, z.1, z.2.1, z.2.2, fin_str q⟩
    · cases e2
  · cases e
end
end Zm
set_option Elab.async false
set_option linter.all false
set_option maxRecDepth 100000
set_option autoImplicit false
/-! Z45: for k, v in d.items(), the keys tuples. -/
namespace Zm
open PySem PySem.Spec PyProof.Rows L2
section
variable {X : Cx} {pins : List (Addr × Obj)} {σ : L2.St} {H : Hp} {s : Shared} {d : Addr} {o : Obj}
end
section
variable {P : Program} {w : World} {K : PySem.W.Frag} {d : Addr} {o : Obj} {es : Array DictEntry} {ep : Nat} {elts : List Expr} {kk : Nat} {tpos : Pos}
end
section
variable {X : Cx} {e : Expr} {td : TE} {apos cpos : Pos}
end
end Zm
set_option Elab.async false
set_option linter.all false
set_option maxRecDepth 100000
set_option autoImplicit false
/-! Z46: dicts of lists: name = [.. for k, v in d.items() if ..]; the dict stays our own. -/
namespace Zm
open PySem PySem.Spec PyProof.Rows L2
mutual
/-- no list of our own within -/
def isF : D → Bool
  | .tup xs => isFs xs
  | .lst o xs => !o && isFs xs
  | .dic o _ _ _ => !o
  | .dil o _ _ => !o
  | .non => true | .bl _ => true | .int _ => true | .str _ => true | .box _ => true | .fn _ => true | .ty _ => true | .exc _ _ => true | .ro _ => true
def isFs : List D → Bool
  | [] => true
  | x :: xs => isF x && isFs xs
end
mutual
/-- no dict within -/
def noDc : D → Bool
  | .tup xs => noDcs xs
  | .lst _ xs => noDcs xs
  | .dic _ _ _ _ => false
  | .dil _ _ _ => false
  | .non => true | .bl _ => true | .int _ => true | .str _ => true | .box _ => true | .fn _ => true | .ty _ => true | .exc _ _ => true | .ro _ => true
def noDcs : List D → Bool
  | [] => true
  | x :: xs => noDc x && noDcs xs
end
section
variable {K : PySem.W.Frag} {mg : Str → Option Value} {H : Hp} {ρ : List Addr}
mutual
theorem Rep.isF : ∀ {d : D} {v : V} {A F : Cnt}, Rep K mg H ρ d v A F → isF d = true → ∀ x, A x = 0
  | _, _, _, _, .non a _, _, x => a x
  | _, _, _, _, .bl a _, _, x => a x
  | _, _, _, _, .int a _, _, x => a x
  | _, _, _, _, .str a _, _, x => a x
  | _, _, _, _, .tup _ t, h, x => Reps.isF t (by simpa [Zm.isF] using h) x
  | _, _, _, _, .own _ _ _ _, h, _ => by simp [Zm.isF] at h
  | _, _, _, _, .frz _ _ t _, h, x => Reps.isF t (by simpa [Zm.isF] using h) x
  | _, _, _, _, .ro _ a _, _, x => a x
  | _, _, _, _, .box _ a _, _, x => a x
  | _, _, _, _, .fn _ _ a _, _, x => a x
  | _, _, _, _, .ty a _, _, x => a x
  | _, _, _, _, .exc _ a _, _, x => a x
  | _, _, _, _, .dicO _ _ _ _ _ _, h, _ => by simp [Zm.isF] at h
  | _, _, _, _, .dicF _ _ _ _ e1 _, _, x => e1 x
  | _, _, _, _, .dilO _ _ _ _ _ _, h, _ => by simp [Zm.isF] at h
  | _, _, _, _, .dilF _ _ _ _ e1 _, _, x => e1 x
theorem Reps.isF : ∀ {ds : List D} {vs : List V} {A F : Cnt}, Reps K mg H ρ ds vs A F → isFs ds = true → ∀ x, A x = 0
  | _, _, _, _, .nil a _, _, x => a x
  | _, _, _, _, .cons h t e1 _, hn, x => by
    simp only [isFs, Bool.and_eq_true] at hn
    rw [e1, Rep.isF h hn.1, Reps.isF t hn.2]
end
mutual
theorem Rep.lsts : ∀ {d : D} {v : V} {A F : Cnt}, Rep K mg H ρ d v A F → noDc d = true → ∀ x, 1 ≤ A x + F x → ∃ l, H x = some (.lst l)
  | _, _, _, _, .non a f, _, x, hx => by rw [a, f] at hx; omega
  | _, _, _, _, .bl a f, _, x, hx => by rw [a, f] at hx; omega
  | _, _, _, _, .int a f, _, x, hx => by rw [a, f] at hx; omega
  | _, _, _, _, .str a f, _, x, hx => by rw [a, f] at hx; omega
  | _, _, _, _, .tup _ t, h, x, hx => Reps.lsts t (by simpa [noDc] using h) x hx
  | _, _, _, _, .own (p := p) h _ t e, hn, x, hx => by
    by_cases q : x = p
    · subst q; exact ⟨_, h⟩
    · rw [e, cp_ne q] at hx
      exact Reps.lsts t (by simpa [noDc] using hn) x (by omega)
  | _, _, _, _, .frz (p := p) h _ t e, hn, x, hx => by
    by_cases q : x = p
    · subst q; exact ⟨_, h⟩
    · rw [e, cp_ne q] at hx
      exact Reps.lsts t (by simpa [noDc] using hn) x (by omega)
  | _, _, _, _, .ro _ a f, _, x, hx => by rw [a, f] at hx; omega
  | _, _, _, _, .box _ a f, _, x, hx => by rw [a, f] at hx; omega
  | _, _, _, _, .fn _ _ a f, _, x, hx => by rw [a, f] at hx; omega
  | _, _, _, _, .ty a f, _, x, hx => by rw [a, f] at hx; omega
  | _, _, _, _, .exc _ a f, _, x, hx => by rw [a, f] at hx; omega
  | _, _, _, _, .dicO _ _ _ _ _ _, hn, _, _ => by simp [noDc] at hn
  | _, _, _, _, .dicF _ _ _ _ _ _, hn, _, _ => by simp [noDc] at hn
  | _, _, _, _, .dilO _ _ _ _ _ _, hn, _, _ => by simp [noDc] at hn
  | _, _, _, _, .dilF _ _ _ _ _ _, hn, _, _ => by simp [noDc] at hn
theorem Reps.lsts : ∀ {ds : List D} {vs : List V} {A F : Cnt}, Reps K mg H ρ ds vs A F → noDcs ds = true → ∀ x, 1 ≤ A x + F x → ∃ l, H x = some (.lst l)
  | _, _, _, _, .nil a f, _, x, hx => by rw [a, f] at hx; omega
  | _, _, _, _, .cons (a := a) (f := f) h t e1 e2, hn, x, hx => by
    simp only [noDcs, Bool.and_eq_true] at hn
    rw [e1, e2] at hx
    by_cases z : 1 ≤ a x + f x
    · exact Rep.lsts h hn.1 x z
    · exact Reps.lsts t hn.2 x (by omega)
end
end
section
variable {K : PySem.W.Frag} {mg : Str → Option Value} {H H1 : Hp} {ρ ρ1 : List Addr} {σm : Env} {σ : L2.St} {s s1 : Sto} {A F a f : Cnt} {p : Addr} {od : Obj} {W : WX}
end
section
variable {X : Cx} {W : WX} {iter elt : Expr} {elts : List Expr} {kk : Nat} {tpos : Pos} {ifs : List Expr} {tg : Tg} {t : T} {m : M} {pos py spos apos cpos xpos : Pos} {scope : Scope} {own : List (Str × Nat)} {y x : Str}
end
end Zm
set_option Elab.async false
set_option linter.all false
set_option maxRecDepth 100000
set_option autoImplicit false
/-! Z47: max(.., key=len) of a list of lists, of a dict's lists. -/
namespace Zm
open PySem PySem.Spec PyProof.Rows L2
section
variable {prog : Program} {w : World} {A : Around} {E : Value → Shared → Prop} {s : Shared}
end
section
variable {X : Cx}
end
end Zm
set_option Elab.async false
set_option linter.all false
set_option maxRecDepth 100000
set_option autoImplicit false
/-! Z48: dicts of lists: made, written; the longest of lists. -/
namespace Zm
open PySem PySem.Spec PyProof.Rows L2
mutual
theorem fz2 : ∀ d : D, fz (fz d) = fz d
  | .tup xs => by simp [fzs2 xs]
  | .lst _ xs => by simp [fzs2 xs]
  | .dic _ _ _ _ => rfl | .dil _ _ _ => rfl
  | .non => rfl | .bl _ => rfl | .int _ => rfl | .str _ => rfl | .box _ => rfl | .fn _ => rfl | .ty _ => rfl | .exc _ _ => rfl | .ro _ => rfl
theorem fzs2 : ∀ xs : List D, fzs (fzs xs) = fzs xs
  | [] => rfl
  | x :: xs => by simp [fz2 x, fzs2 xs]
end
section
variable {K : PySem.W.Frag} {mg : Str → Option Value} {H H1 : Hp} {ρ ρ1 : List Addr} {σm : Env} {σ : L2.St} {s s1 : Sto} {A F a f : Cnt} {W : WX}
end
section
variable {X : Cx} {W : WX} {e : Expr} {m : M} {p p2 pos kpos : Pos}
/-! ### d != {} -/
end
section
variable {K : PySem.W.Frag} {mg : Str → Option Value} {H H1 : Hp} {ρ ρ1 : List Addr} {σm : Env} {σ : L2.St} {s s1 : Sto} {A F a f : Cnt} {W : WX}
/-! ### d[k] = a new list -/
end
end Zm
set_option Elab.async false
set_option linter.all false
set_option maxRecDepth 100000
set_option autoImplicit false
/-! Z49: d[k] = a new list: the rule. -/
namespace Zm
open PySem PySem.Spec PyProof.Rows L2
section
variable {K : PySem.W.Frag} {mg : Str → Option Value} {H : Hp} {σ : L2.St} {W : WX}
end
section
variable {X : Cx} {W : WX} {e ei : Expr} {m mi : M} {pos pos' spos : Pos} {x : Str}
end
end Zm
set_option Elab.async false
set_option linter.all false
set_option maxRecDepth 100000
set_option autoImplicit false
namespace Zm
open PySem PySem.Spec PyProof.Rows L2
def f__law_well : Fn := mkFn 2 3 (mSeq (mSetD [] 2 (mC (.int 0))) (mSeq (mIf (tV (mOp gLt [(mVar 1), (mOp gLen [(mVar 0)])])) (mSetD [true, true] 2 (mOp gIx [(mVar 0), (mVar 1)])) mNil) (mRet (mBox [(mOp gMax2 [(mC (.int 0)), (mOp gSub [(mOp gAbs [(mVar 2)]), (mOp gPow [(mC (.int 10)), (mC (.int 18))])])]), (mOp gAdd [(mOp gMod [(mVar 2), (mOp gAdd [(mOp gPow [(mC (.int 10)), (mC (.int 37))]), (mC (.int 43))])]), (mOp gMul [(mC (.int 13171)), (mVar 1)])]), (mC (.int 0))]))))
def f__law_dip : Fn := mkFn 2 4 (mSeq (mIf (tV (mOp gGt [(mOp gIx [(mVar 0), (mC (.int 0))]), (mC (.int 0))])) (mSeq (mSetD [true, true] 2 (mOp gMod [(mOp gIx [(mVar 0), (mC (.int 0))]), (mVar 1)])) (mSeq (mSt [true, true] 0 (mC (.int 0)) (mOp gDiv [(mOp gIx [(mVar 0), (mC (.int 0))]), (mVar 1)])) (mRetV 2))) mNil) (mSeq (mSt [true] 0 (mC (.int 2)) (mOp gAdd [(mOp gIx [(mVar 0), (mC (.int 2))]), (mC (.int 1))])) (mSeq (mSetD [true] 3 (mOp gMod [(mOp gPow [(mOp gAdd [(mOp gIx [(mVar 0), (mC (.int 1))]), (mOp gMul [(mC (.int 49979687)), (mOp gIx [(mVar 0), (mC (.int 2))])])]), (mC (.int 3))]), (mOp gAdd [(mOp gPow [(mC (.int 10)), (mC (.int 38))]), (mC (.int 133))])])) (mSeq (mSetD [true, false, false, true] 3 (mOp gMod [(mOp gPow [(mOp gAdd [(mVar 3), (mOp gMul [(mC (.int 160481183)), (mOp gIx [(mVar 0), (mC (.int 2))])])]), (mC (.int 3))]), (mOp gAdd [(mOp gPow [(mC (.int 10)), (mC (.int 35))]), (mC (.int 69))])])) (mRet (mOp gMod [(mOp gDiv [(mVar 3), (mC (.int 131071))]), (mVar 1)]))))))
/-- for spot in range(many) -/
def f__law_hall_b1 : MS := (mUpd uApp [true, false, false, true, true] 8 [(mOp gIx [(mOp gLst [(mCall f__law_dip [(mVar 0), (mC (.int 4))]), (mCall f__law_dip [(mVar 0), (mC (.int 12))]), (mCall f__law_dip [(mVar 0), (mVar 3)])]), (mCall f__law_dip [(mVar 0), (mOp gAdd [(mC (.int 1)), (mVar 4)])])])])
/-- for k in range(1 + _law_dip(well, counters)) -/
def f__law_hall_b2 : MS := (mSeq (mSetD [] 8 (mOp gLst [])) (mSeq (mForP (iR1 [(mVar 5)]) (.nm 9) f__law_hall_b1) (mUpd uApp [false, false, false, false, false, false, false, false, true] 6 [(mOp gTuple [(mVar 8)])])))
def f__law_hall : Fn := mkFn 4 10 (mSeq (mSetD [true] 4 (mCall f__law_dip [(mVar 0), (mC (.int 3))])) (mSeq (mSetD [true, false, true] 5 (mOp gAdd [(mC (.int 1)), (mCall f__law_dip [(mVar 0), (mVar 2)])])) (mSeq (mSetD [] 6 (mOp gLst [])) (mSeq (mForP (iR1 [(mOp gAdd [(mC (.int 1)), (mCall f__law_dip [(mVar 0), (mVar 1)])])]) (.nm 7) f__law_hall_b2) (mRet (mOp gTuple [(mVar 6)]))))))
def f_is_whole : Fn := mkFn 1 1 (mRet (mAnd (mOp gIsi [(mVar 0), (mC (.ty "int"))]) (mNot (mOp gIsi [(mVar 0), (mC (.ty "bool"))]))))
def f_is_amount : Fn := mkFn 1 1 (mRet (mAnd (mCall f_is_whole [(mVar 0)]) (mOp gGe [(mVar 0), (mC (.int 0))])))
/-- [is_amount(one) for one in thing] -/
def f_is_row_c1 : M := mLc (iSeq (mVar 0)) (.nm 2) [2] tTrue (mCall f_is_amount [(mVar 2)])
def f_is_row : Fn := mkFn 2 3 (mRet (mAnd (mOp gIsi [(mVar 0), (mC (.ty "tuple"))]) (mAnd (mOp gEq [(mOp gLen [(mVar 0)]), (mVar 1)]) (mOp gAll [f_is_row_c1]))))
/-- [is_row(row, len(thing[0])) for row in thing] -/
def f_is_hall_c1 : M := mLc (iSeq (mVar 0)) (.nm 1) [1] tTrue (mCall f_is_row [(mVar 1), (mOp gLen [(mOp gIx [(mVar 0), (mC (.int 0))])])])
def f_is_hall : Fn := mkFn 1 2 (mSeq (mIf (tOr (tNot (tV (mOp gIsi [(mVar 0), (mC (.ty "tuple"))]))) (tOr (tNot (tV (mChain gLe gLe (mC (.int 1)) (mOp gLen [(mVar 0)]) (mC (.int 8))))) (tNot (tV (mOp gIsi [(mOp gIx [(mVar 0), (mC (.int 0))]), (mC (.ty "tuple"))]))))) (mRet (mC (.bl false))) mNil) (mRet (mAnd (mChain gLe gLe (mC (.int 1)) (mOp gLen [(mOp gIx [(mVar 0), (mC (.int 0))])]) (mC (.int 8))) (mOp gAll [f_is_hall_c1]))))
/-- [_law_alike(found[k], due[k]) for k in range(len(due))] -/
def f__law_alike_8dc4_c1 (R : Fn) : M := mLc (iR1 [(mOp gLen [(mVar 1)])]) (.nm 2) [2] tTrue (mCall R [(mOp gIx [(mVar 0), (mVar 2)]), (mOp gIx [(mVar 1), (mVar 2)])])
def f__law_alike_8dc4_body (R : Fn) : Fn := mkFn 2 3 (mSeq (mIf (tV (mOp gIsi2 [(mVar 1), (mOp gTup [(mC (.ty "list")), (mC (.ty "tuple"))])])) (mSeq (mIf (tV (mOp gNe [(mOp gIsi [(mVar 0), (mC (.ty "list"))]), (mOp gIsi [(mVar 1), (mC (.ty "list"))])])) (mRet (mC (.bl false))) mNil) (mSeq (mIf (tV (mOp gNe [(mOp gIsi [(mVar 0), (mC (.ty "tuple"))]), (mOp gIsi [(mVar 1), (mC (.ty "tuple"))])])) (mRet (mC (.bl false))) mNil) (mSeq (mIf (tV (mOp gNe [(mOp gLen [(mVar 0)]), (mOp gLen [(mVar 1)])])) (mRet (mC (.bl false))) mNil) (mRet (mOp gAll [(f__law_alike_8dc4_c1 R)]))))) mNil) (mSeq (mIf (tOr (tV (mOp gIsN [(mVar 0), (mC .non)])) (tV (mOp gIsN [(mVar 1), (mC .non)]))) (mRet (mAnd (mOp gIsN [(mVar 0), (mC .non)]) (mOp gIsN [(mVar 1), (mC .non)]))) mNil) (mRet (mAnd (mOp gEq [(mOp gIsi [(mVar 0), (mC (.ty "bool"))]), (mOp gIsi [(mVar 1), (mC (.ty "bool"))])]) (mOp gEq [(mVar 0), (mVar 1)])))))
def f__law_alike_8dc4_r : Nat → Fn
  | 0 => badF
  | n + 1 => f__law_alike_8dc4_body (f__law_alike_8dc4_r n)
def f__law_alike_8dc4 : Fn := f__law_alike_8dc4_r 8
/-- [_law_alike(found[k], due[k]) for k in range(len(due))] -/
def f__law_alike_c1 (R : Fn) : M := mLc (iR1 [(mOp gLen [(mVar 1)])]) (.nm 2) [2] tTrue (mCall R [(mOp gIx [(mVar 0), (mVar 2)]), (mOp gIx [(mVar 1), (mVar 2)])])
def f__law_alike_body (R : Fn) : Fn := mkFn 2 3 (mSeq (mIf (tV (mOp gIsi2 [(mVar 1), (mOp gTup [(mC (.ty "list")), (mC (.ty "tuple"))])])) (mSeq (mIf (tOr (tV (mOp gNe [(mOp gIsi [(mVar 0), (mC (.ty "list"))]), (mOp gIsi [(mVar 1), (mC (.ty "list"))])])) (tNot (tV (mOp gIsi2 [(mVar 0), (mOp gTup [(mC (.ty "list")), (mC (.ty "tuple"))])])))) (mRet (mC (.bl false))) mNil) (mSeq (mIf (tV (mOp gNe [(mOp gLen [(mVar 0)]), (mOp gLen [(mVar 1)])])) (mRet (mC (.bl false))) mNil) (mRet (mOp gAll [(f__law_alike_c1 R)])))) mNil) (mSeq (mIf (tOr (tV (mOp gIsi [(mVar 1), (mC (.ty "bool"))])) (tV (mOp gIsi [(mVar 0), (mC (.ty "bool"))]))) (mRet (mAnd (mOp gIsi [(mVar 1), (mC (.ty "bool"))]) (mAnd (mOp gIsi [(mVar 0), (mC (.ty "bool"))]) (mOp gEq [(mVar 0), (mVar 1)])))) mNil) (mRet (mOp gEq [(mVar 0), (mVar 1)]))))
def f__law_alike_r : Nat → Fn
  | 0 => badF
  | n + 1 => f__law_alike_body (f__law_alike_r n)
def f__law_alike : Fn := f__law_alike_r 8
end Zm
set_option Elab.async false
set_option linter.all false
set_option maxRecDepth 100000
set_option autoImplicit false
/-! XG02: xs != [], whatever is in xs. -/
namespace Zm
open PySem PySem.Spec PyProof.Rows L2
def gNeN : Sto → List D → Option D := fun _ ds => match ds with
  | [.lst _ xs, .lst _ []] => some (.bl (!xs.isEmpty))
  | _ => none
def rNeLen (K : PySem.W.Frag) : R2 := fun x y H Q => ∃ a b xs, x = .ref a ∧ y = .ref b ∧ SqL K H a xs ∧ SqL K H b [] ∧ Q (.bl (!xs.isEmpty)) H
theorem op_neLen {X : Cx} (hu : X.A.units + 64 < cLine) : OpR X (compareOp .NotEq) (rNeLen X.K) := by
  intro pins s σ H x y v u Q I rx ry h
  obtain ⟨a, b, xs, rfl, rfl, ha, hb, q⟩ := h
  obtain rfl : v = Value.ref a := rx
  obtain rfl : u = Value.ref b := ry
  obtain ⟨ia, ra, pa, _⟩ := I.list ha
  obtain ⟨ib, rb, pb, _⟩ := I.list hb
  have lb : ib = [] := by cases rb; rfl
  subst lb
  have la := ra.length
  have hl := pa.isList
  have hb := pb.isList
  cases xs with
  | nil =>
    have : ia = [] := by cases ra; rfl
    subst this
    have := SeqAt.RcNeAt.lists (A := X.A) (s := s) (e := fun _ => true) hl hb rfl (by omega) (fun j j1 => by simp at j1)
    exact this X.prog X.w _ _ ⟨.bl false, H, I, rfl, q⟩
  | cons z zs =>
    have := SeqAt.RcNeAt.lists_lengths (A := X.A) (s := s) hl hb (by
      have : ia.length ≠ 0 := by simp at la; omega
      simpa using this) (by omega)
    exact this X.prog X.w _ _ ⟨.bl true, H, I, rfl, q⟩
theorem v_neN {K : PySem.W.Frag} {mg : Str → Option Value} : OpV K mg (r2 (rNeLen K)) gNeN := by
  intro ρ s H ds vs a f d w r h e Q q
  unfold gNeN at e
  split at e
  · rename_i o xs o2
    cases e
    obtain ⟨v1, v2, a1, f1, a2, f2, rfl, r1, r2, eq⟩ := r.inv2
    obtain ⟨b1, us, _, _, rfl, h1, t1, _⟩ := r1.lstI
    obtain ⟨b2, us2, _, _, rfl, h2, t2, _⟩ := r2.lstI
    have e2 : us2 = [] := by cases t2; rfl
    subst e2
    refine ⟨_, _, rfl, b1, b2, us, rfl, rfl, SqL.of h1, SqL.of h2, ?_⟩
    have : xs.isEmpty = us.isEmpty := by cases t1 <;> rfl
    rw [← this]
    exact q _ H c0 c0 (fun _ _ h => h) (.bl (fun _ => rfl) (fun _ => rfl)) (.zero (fun _ => rfl) (fun _ => rfl))
  · cases e
/-! ### True + 1, 0 - True, str(True) -/
def gAddB : Sto → List D → Option D := fun s ds => match ds with
  | [.bl b, .int j] => some (.int ((if b = true then 1 else 0) + j))
  | ds => gAdd s ds
def gSubB : Sto → List D → Option D := fun s ds => match ds with
  | [.int i, .bl b] => some (.int (i - if b = true then 1 else 0))
  | ds => gSub s ds
def gStrB : Sto → List D → Option D := fun s ds => match ds with
  | [.bl b] => some (.str (if b = true then "True" else "False"))
  | ds => gStr s ds
def rAddB : R2 := fun x y H Q => ∃ b j, x = .bl b ∧ y = .int j ∧ Q (.int ((if b = true then 1 else 0) + j)) H
def rSubB : R2 := fun x y H Q => ∃ i b, x = .int i ∧ y = .bl b ∧ Q (.int (i - if b = true then 1 else 0)) H
section
variable {X : Cx}
theorem op_addB : OpR X (binaryOp .Add) rAddB := by
  intro pins s σ H x y v u Q I rx ry h
  obtain ⟨b, j, rfl, rfl, q⟩ := h
  obtain rfl : v = Value.bool b := rx
  obtain ⟨t, rfl⟩ := ry
  exact PySem.IntBool.add_bool_int ⟨.int _, H, I.tok _, ⟨_, rfl⟩, q⟩
theorem op_subB : OpR X (binaryOp .Sub) rSubB := by
  intro pins s σ H x y v u Q I rx ry h
  obtain ⟨i, b, rfl, rfl, q⟩ := h
  obtain ⟨t, rfl⟩ := rx
  obtain rfl : u = Value.bool b := ry
  exact PySem.IntBool.sub_int_bool ⟨.int _, H, I.tok _, ⟨_, rfl⟩, q⟩
theorem call_strB : CallR X (.type "str") (fun xs H Q => ∃ b, xs = [.bl b] ∧ Q (.str (if b = true then "True" else "False")) H) := by
  intro pins s σ H xs us Q I r h
  obtain ⟨b, rfl, q⟩ := h
  obtain ⟨u, rfl, e⟩ := vals1 r
  obtain rfl : u = Value.bool b := e
  exact PySem.P.str_of_bool ⟨.str _, H, I.tok _, ⟨_, rfl⟩, by cases b <;> exact q⟩
end
section
variable {K : PySem.W.Frag} {mg : Str → Option Value}
theorem v_addB : OpV K mg (r2 fun x y H Q => rAddB x y H Q ∨ rAddZ K x y H Q) gAddB := by
  intro ρ s H ds vs a f d w r h e Q q
  unfold gAddB at e
  split at e
  · cases e
    obtain ⟨v1, v2, _, _, _, _, rfl, r1, r2, _⟩ := r.inv2
    cases inv_int r2
    cases r1
    exact ⟨_, _, rfl, .inl ⟨_, _, rfl, rfl, fin_int q⟩⟩
  · obtain ⟨x, y, e1, z⟩ := v_add (K := K) (mg := mg) ρ s H ds vs a f d w r h e Q q
    exact ⟨x, y, e1, .inr z⟩
theorem v_subB : OpV K mg (r2 fun x y H Q => rSubB x y H Q ∨ (rI0 fun i j => .int (i - j)) x y H Q) gSubB := by
  intro ρ s H ds vs a f d w r h e Q q
  unfold gSubB at e
  split at e
  · cases e
    obtain ⟨v1, v2, _, _, _, _, rfl, r1, r2, _⟩ := r.inv2
    cases inv_int r1
    cases r2
    exact ⟨_, _, rfl, .inl ⟨_, _, rfl, rfl, fin_int q⟩⟩
  · obtain ⟨x, y, e1, z⟩ := v_sub (K := K) (mg := mg) ρ s H ds vs a f d w r h e Q q
    exact ⟨x, y, e1, .inr z⟩
theorem v_strB : OpV K mg (fun xs H Q => (∃ b, xs = [.bl b] ∧ Q (.str (if b = true then "True" else "False")) H) ∨ ∃ i, xs = [.int i] ∧ i.natAbs.log2 < 1920 ∧ Q (.str (toString i)) H) gStrB := by
  intro ρ s H ds vs a f d w r h e Q q
  unfold gStrB at e
  split at e
  · cases e
    obtain ⟨v1, rfl, r1⟩ := r.inv1
    cases r1
    exact .inl ⟨_, rfl, fin_str q⟩
  · exact .inr (v_str (K := K) (mg := mg) ρ s H ds vs a f d w r h e Q q)
end
end Zm
set_option Elab.async false
set_option linter.all false
set_option maxRecDepth 100000
set_option autoImplicit false
namespace Zm
open PySem PySem.Spec PyProof.Rows L2
def f__law_odd : Fn := mkFn 2 3 (mSeq (mSetD [] 2 (mOp gLst [(mC .non), (mC (.bl true)), (mC (.bl false)), (mC (.int 0)), (mC (.int 1)), (mOp gNeg [(mC (.int 1))]), (mC (.str "")), (mC (.str "0")), (mOp gTup []), (mOp gLst []), (mDic false), (mOp gTup [(mC (.int 0))]), (mOp gLst [(mC (.int 0))]), (mOp gTup [(mOp gTup [(mC (.int 0))])]), (mOp gTup [(mC (.int 1)), (mC (.int 2))]), (mOp gTup [(mC (.bl true))]), (mC (.str "1 2"))])) (mSeq (mIf (tV (mOp gIsi [(mVar 1), (mC (.ty "int"))])) (mSetD [false, true] 2 (mOp gLst [(mOp gAddB [(mVar 1), (mC (.int 1))]), (mOp gNeg [(mC (.int 1))]), (mC (.bl true)), (mC .non), (mOp gStrB [(mVar 1)]), (mOp gTup [(mVar 1)]), (mOp gSubB [(mOp gPow [(mC (.int 10)), (mC (.int 12))]), (mC (.int 1))]), (mOp gSubB [(mC (.int 0)), (mVar 1)]), (mOp gLst [(mVar 1)])])) mNil) (mRet (mOp gIx [(mVar 2), (mCall f__law_dip [(mVar 0), (mOp gLen [(mVar 2)])])]))))
def f__law_bent_body (R : Fn) : Fn := mkFn 2 5 (mSeq (mIf (tNot (tV (mOp gIsi2 [(mVar 1), (mOp gTup [(mC (.ty "list")), (mC (.ty "tuple"))])]))) (mRet (mCall f__law_odd [(mVar 0), (mVar 1)])) mNil) (mSeq (mSetT [false, true] 2 (mOp gList [(mVar 1)])) (mSeq (mSetD [true, false, true] 3 (mCall f__law_dip [(mVar 0), (mOp gAdd [(mOp gLen [(mVar 2)]), (mC (.int 1))])])) (mSeq (mSetD [true] 4 (mCall f__law_dip [(mVar 0), (mC (.int 8))])) (mSeq (mIf (tAnd (tV (mOp gLt [(mVar 3), (mOp gLen [(mVar 2)])])) (tV (mOp gGt [(mVar 4), (mC (.int 2))]))) (mStC R 2 0 3) (mIf (tV (mOp gLt [(mVar 4), (mC (.int 3))])) (mSetT [false, false, true, true, true] 2 (mOp gIx [(mOp gLst [(mOp gAdd [(mOp gSl01 [(mVar 2), (mVar 3)]), (mOp gSl10 [(mVar 2), (mOp gAdd [(mVar 3), (mC (.int 1))])])]), (mOp gAdd [(mOp gSl01 [(mVar 2), (mOp gAdd [(mVar 3), (mC (.int 1))])]), (mOp gSl10 [(mVar 2), (mVar 3)])]), (mOp gRevS [(mVar 2)])]), (mVar 4)])) (mUpd uApp [true] 2 [(mCall f__law_odd [(mVar 0), (mC .non)])]))) (mRet (mIfE (tV (mOp gEq [(mOp gIsi [(mVar 1), (mC (.ty "tuple"))]), (mOp gGt [(mCall f__law_dip [(mVar 0), (mC (.int 12))]), (mC (.int 0))])])) (mOp gTuple [(mVar 2)]) (mVar 2))))))))
def f__law_bent_r : Nat → Fn
  | 0 => badF
  | n + 1 => f__law_bent_body (f__law_bent_r n)
def f__law_bent : Fn := f__law_bent_r 8
/-- [one for one in row if not isinstance(one, int) or isinstance(one, bool) or one < 0] -/
def f__law_is_hall_c1 : M := mLc (iSeq (mVar 1)) (.nm 2) [2] (tOr (tNot (tV (mOp gIsi [(mVar 2), (mC (.ty "int"))]))) (tOr (tV (mOp gIsi [(mVar 2), (mC (.ty "bool"))])) (tV (mOp gLt [(mVar 2), (mC (.int 0))])))) (mVar 2)
/-- for row in what -/
def f__law_is_hall_b2 : MS := (mSeq (mIf (tOr (tNot (tV (mOp gIsi [(mVar 1), (mC (.ty "tuple"))]))) (tOr (tV (mOp gLt [(mOp gLen [(mVar 1)]), (mC (.int 1))])) (tOr (tV (mOp gGt [(mOp gLen [(mVar 1)]), (mC (.int 8))])) (tV (mOp gNe [(mOp gLen [(mVar 1)]), (mOp gLen [(mOp gIx [(mVar 0), (mC (.int 0))])])]))))) (mRet (mC (.bl false))) mNil) (mIf (tV (mOp gNeN [f__law_is_hall_c1, (mOp gLst [])])) (mRet (mC (.bl false))) mNil))
def f__law_is_hall : Fn := mkFn 1 3 (mSeq (mIf (tOr (tNot (tV (mOp gIsi [(mVar 0), (mC (.ty "tuple"))]))) (tOr (tV (mOp gLt [(mOp gLen [(mVar 0)]), (mC (.int 1))])) (tV (mOp gGt [(mOp gLen [(mVar 0)]), (mC (.int 8))])))) (mRet (mC (.bl false))) mNil) (mSeq (mFor [true] (iSeq (mVar 0)) (.nm 1) f__law_is_hall_b2) (mRet (mC (.bl true)))))
/-- for what in some -/
def f_law_b1 : MS := (mSeq (mSetD [false, false, false, false, false, false, false, false, true] 9 (mOp gReprZ [(mVar 8)])) (mSeq (mSetD [false, false, false, false, false, false, false, false, true] 10 (mCall f__law_is_hall [(mVar 8)])) (mIf (tOr (tV (mOp gNe [(mOp gReprZ [(mCall f_is_hall [(mVar 8)])]), (mOp gReprZ [(mVar 10)])])) (tOr (tV (mOp gNe [(mCallK f_is_hall [] [(mVar 8)]), (mVar 10)])) (tV (mOp gNe [(mOp gReprZ [(mVar 8)]), (mVar 9)])))) (mRet (mC (.bl false))) mNil)))
/-- for turn in range(8) -/
def f_law_b2 : MS := (mSeq (mSetD [false, false, false, true] 6 (mCall f__law_hall [(mVar 3), (mC (.int 8)), (mC (.int 8)), (mOp gPow [(mC (.int 10)), (mC (.int 12))])])) (mSeq (mSetD [false, false, false, true, false, false, true] 7 (mCall f__law_bent [(mVar 3), (mVar 6)])) (mSetD [false, false, false, true, true, false, true, true] 4 (mOp gAdd [(mVar 4), (mOp gLst [(mVar 6), (mVar 7), (mCall f__law_bent [(mVar 3), (mVar 7)])])]))))
/-- for k in range(max(1, min(4, len(script)))) -/
def f_law_b3 : MS := (mSeq (mSetD [true, false, true] 3 (mCall f__law_well [(mVar 0), (mVar 2)])) (mSeq (mSetD [false, true] 4 (mVar 1)) (mSeq (mForP (iR1 [(mC (.int 8))]) (.nm 5) f_law_b2) (mFor [false, false, false, false, true] (iSeq (mVar 4)) (.nm 8) f_law_b1))))
def f_law : Fn := mkFn 1 11 (mSeq (mSetD [] 1 (mOp gLst [(mC .non), (mC (.int 0)), (mC (.bl true)), (mC (.str "")), (mC (.str "0")), (mOp gTup []), (mOp gLst []), (mDic false), (mOp gTup [(mOp gTup [])]), (mOp gTup [(mOp gTup []), (mOp gTup [])]), (mOp gLst [(mOp gTup [(mC (.int 0))])]), (mOp gTup [(mOp gTup [(mC (.int 0))])]), (mOp gTup [(mOp gLst [(mC (.int 0))])]), (mOp gMulT [(mOp gTup [(mOp gTup [(mC (.int 0))])]), (mC (.int 8))]), (mOp gMulT [(mOp gTup [(mOp gTup [(mC (.int 0))])]), (mC (.int 9))])])) (mSeq (mSetD [false, true] 1 (mOp gAdd [(mVar 1), (mOp gLst [(mOp gTup [(mOp gMulT [(mOp gTup [(mC (.int 0))]), (mC (.int 8))])]), (mOp gTup [(mOp gMulT [(mOp gTup [(mC (.int 0))]), (mC (.int 9))])]), (mOp gTup [(mOp gTup [(mC (.int 0)), (mC (.int 1))]), (mOp gTup [(mC (.int 0))])]), (mOp gTup [(mOp gTup [(mC (.int 0))]), (mOp gTup [(mC (.int 0)), (mC (.int 1))])]), (mOp gTup [(mOp gTup [(mC (.bl true))])]), (mOp gTup [(mOp gTup [(mC .non)])]), (mOp gTup [(mC (.int 0))]), (mOp gTup [(mC (.str "0"))])])])) (mSeq (mSetD [false, true] 1 (mOp gAdd [(mVar 1), (mOp gLst [(mOp gMulT [(mOp gTup [(mOp gMulT [(mOp gTup [(mC (.int 0))]), (mC (.int 8))])]), (mC (.int 8))]), (mOp gTup [(mOp gTup [(mOp gNeg [(mC (.int 1))])])]), (mOp gTup [(mOp gTup [(mC (.str "0"))])]), (mOp gTup [(mOp gTup [(mC (.int 0))]), (mOp gLst [(mC (.int 0))])]), (mOp gTup [(mOp gTup [(mOp gPow [(mC (.int 10)), (mC (.int 40))])])])])])) (mSeq (mForP (iR1 [(mOp gMax2 [(mC (.int 1)), (mOp gMin2 [(mC (.int 4)), (mOp gLen [(mVar 0)])])])]) (.nm 2) f_law_b3) (mRet (mC (.bl true)))))))
end Zm
set_option Elab.async false
set_option linter.all false
set_option maxRecDepth 100000
set_option autoImplicit false
namespace Zm
open PySem PySem.Spec PyProof.Rows L2
def kst (i : Nat) : Stmt := (PySem.Challenge.pw_movedminutes_k02_halls_judged.main.body[i]?).getD (.Pass ⟨0, 0, 0, 0⟩)
structure Txt (K : PySem.W.Frag) (mg : Str → Option Value) : Prop where
  f__law_well : ∃ f fd, mg "_law_well" = some (.ref f) ∧ Fun K "_law_well" "_law_well" (kst 8) f fd
  f__law_dip : ∃ f fd, mg "_law_dip" = some (.ref f) ∧ Fun K "_law_dip" "_law_dip" (kst 9) f fd
  f__law_hall : ∃ f fd, mg "_law_hall" = some (.ref f) ∧ Fun K "_law_hall" "_law_hall" (kst 10) f fd
  f__law_odd : ∃ f fd, mg "_law_odd" = some (.ref f) ∧ Fun K "_law_odd" "_law_odd" (kst 12) f fd
  f__law_bent : ∃ f fd, mg "_law_bent" = some (.ref f) ∧ Fun K "_law_bent" "_law_bent" (kst 13) f fd
  f__law_is_hall : ∃ f fd, mg "_law_is_hall" = some (.ref f) ∧ Fun K "_law_is_hall" "_law_is_hall" (kst 11) f fd
  f_is_whole : ∃ f fd, mg "is_whole" = some (.ref f) ∧ Fun K "is_whole" "is_whole" (kst 3) f fd
  f_is_amount : ∃ f fd, mg "is_amount" = some (.ref f) ∧ Fun K "is_amount" "is_amount" (kst 4) f fd
  f_is_row : ∃ f fd, mg "is_row" = some (.ref f) ∧ Fun K "is_row" "is_row" (kst 5) f fd
  f_is_hall : ∃ f fd, mg "is_hall" = some (.ref f) ∧ Fun K "is_hall" "is_hall" (kst 6) f fd
  n_abs : mg "abs" = none
  n_all : mg "all" = none
  n_bool : mg "bool" = none
  n_int : mg "int" = none
  n_isinstance : mg "isinstance" = none
  n_len : mg "len" = none
  n_list : mg "list" = none
  n_max : mg "max" = none
  n_min : mg "min" = none
  n_range : mg "range" = none
  n_repr : mg "repr" = none
  n_str : mg "str" = none
  n_tuple : mg "tuple" = none
  c_MOST_COUNTERS : ∃ t, mg "MOST_COUNTERS" = some (.int 8 t)
  c_MOST_CUSTOMERS : ∃ t, mg "MOST_CUSTOMERS" = some (.int 8 t)
section
variable {P : Program} {w : World} {K : PySem.W.Frag} {mg : Str → Option Value} {base : Heap}
theorem sc__law_well : FnScope ["script", "k", "cell"] ["script", "k"] (defScope (kst 8)) := ⟨rfl, rfl, rfl, by decide +kernel, rfl, by decide +kernel, by decide +kernel⟩
theorem ok__law_well (T : Txt K mg) : FnM P w K mg base 1 "_law_well" ["script", "k"] f__law_well := by
  obtain ⟨f, fd, hm, F⟩ := T.f__law_well
  exact fnM_mk (k := 0) F sc__law_well hm (F.binds fun _ _ _ _ _ _ us hl => match us, hl with | [_, _], _ => rfl) fun cdv A out s H E hr hg => (ss_cons (ss_setD 2 [] sc__law_well.nd s_int) (ss_cons (ss_if (st_cmp op_lt v_cmpI (s_var 1) (s_blt call_len v_len T.n_len (by rfl) (sa_cons (s_var 0) sa_nil))) (ss_one (ss_setD 2 [true, true] sc__law_well.nd (s_ix (s_var 0) (s_var 1)))) ss_nil) (ss_one (ss_ret (s_box (sa_cons (s_blt (call_max2 rfl) v_max2 T.n_max (by rfl) (sa_cons s_int (sa_cons (s_bin op_sub v_sub (s_blt call_abs v_abs T.n_abs (by rfl) (sa_cons (s_var 2) sa_nil)) (s_bin o_pow v_pow s_int s_int)) sa_nil))) (sa_cons (s_bin o_add v_add (s_bin op_mod v_mod (s_var 2) (s_bin o_add v_add (s_bin o_pow v_pow s_int s_int) s_int)) (s_bin o_mul v_mul s_int (s_var 1))) (sa_cons s_int sa_nil))))))))
theorem sc__law_dip : FnScope ["well", "wide", "found", "mixed"] ["well", "wide"] (defScope (kst 9)) := ⟨rfl, rfl, rfl, by decide +kernel, rfl, by decide +kernel, by decide +kernel⟩
theorem ok__law_dip (T : Txt K mg) : FnM P w K mg base 1 "_law_dip" ["well", "wide"] f__law_dip := by
  obtain ⟨f, fd, hm, F⟩ := T.f__law_dip
  exact fnM_mk (k := 0) F sc__law_dip hm (F.binds fun _ _ _ _ _ _ us hl => match us, hl with | [_, _], _ => rfl) fun cdv A out s H E hr hg => (ss_cons (ss_if (st_cmp op_gt v_cmpI (s_ix (s_var 0) s_int) s_int) (ss_cons (ss_setD 2 [true, true] sc__law_dip.nd (s_bin op_mod v_mod (s_ix (s_var 0) s_int) (s_var 1))) (ss_cons (ss_st 0 [true, true] (s_bin op_fdivW v_div (s_ix (s_var 0) s_int) (s_var 1)) s_int) (ss_one (ss_retV 2)))) ss_nil) (ss_cons (ss_st 0 [true] (s_bin o_add v_add (s_ix (s_var 0) s_int) s_int) s_int) (ss_cons (ss_setD 3 [true] sc__law_dip.nd (s_bin op_mod v_mod (s_bin o_pow v_pow (s_bin o_add v_add (s_ix (s_var 0) s_int) (s_bin o_mul v_mul s_int (s_ix (s_var 0) s_int))) s_int) (s_bin o_add v_add (s_bin o_pow v_pow s_int s_int) s_int))) (ss_cons (ss_setD 3 [true, false, false, true] sc__law_dip.nd (s_bin op_mod v_mod (s_bin o_pow v_pow (s_bin o_add v_add (s_var 3) (s_bin o_mul v_mul s_int (s_ix (s_var 0) s_int))) s_int) (s_bin o_add v_add (s_bin o_pow v_pow s_int s_int) s_int))) (ss_one (ss_ret (s_bin op_mod v_mod (s_bin op_fdivW v_div (s_var 3) s_int) (s_var 1))))))))
theorem sc__law_hall : FnScope ["well", "counters", "customers", "wide", "lean", "many", "found", "k", "row", "spot"] ["well", "counters", "customers", "wide"] (defScope (kst 10)) := ⟨rfl, rfl, rfl, by decide +kernel, rfl, by decide +kernel, by decide +kernel⟩
theorem ok__law_hall (T : Txt K mg) : FnM P w K mg base 2 "_law_hall" ["well", "counters", "customers", "wide"] f__law_hall := by
  obtain ⟨f, fd, hm, F⟩ := T.f__law_hall
  have c__law_dip := (ok__law_dip (P := P) (w := w) (base := base) T).mono (by decide : 1 ≤ 1)
  exact fnM_mk (k := 1) F sc__law_hall hm (F.binds fun _ _ _ _ _ _ us hl => match us, hl with | [_, _, _, _], _ => rfl) fun cdv A out s H E hr hg => (ss_cons (ss_setD 4 [true] sc__law_hall.nd (s_call c__law_dip hr hg (L2N.takes_of rfl rfl rfl rfl) (sa_cons (s_var 0) (sa_cons s_int sa_nil)))) (ss_cons (ss_setD 5 [true, false, true] sc__law_hall.nd (s_bin o_add v_add s_int (s_call c__law_dip hr hg (L2N.takes_of rfl rfl rfl rfl) (sa_cons (s_var 0) (sa_cons (s_var 2) sa_nil))))) (ss_cons (ss_setD 6 [] sc__law_hall.nd (s_lst sa_nil)) (ss_cons (ss_forP (passes_of rfl) rfl (si_range1 T.n_range (sa_cons (s_bin o_add v_add s_int (s_call c__law_dip hr hg (L2N.takes_of rfl rfl rfl rfl) (sa_cons (s_var 0) (sa_cons (s_var 1) sa_nil)))) sa_nil)) (sg_nm 7 sc__law_hall.nd) (ss_cons (ss_setD 8 [] sc__law_hall.nd (s_lst sa_nil)) (ss_cons (ss_forP (passes_of rfl) rfl (si_range1 T.n_range (sa_cons (s_var 5) sa_nil)) (sg_nm 9 sc__law_hall.nd) (ss_one (ss_appD 8 [true, false, false, true, true] (s_ix (s_lst (sa_cons (s_call c__law_dip hr hg (L2N.takes_of rfl rfl rfl rfl) (sa_cons (s_var 0) (sa_cons s_int sa_nil))) (sa_cons (s_call c__law_dip hr hg (L2N.takes_of rfl rfl rfl rfl) (sa_cons (s_var 0) (sa_cons s_int sa_nil))) (sa_cons (s_call c__law_dip hr hg (L2N.takes_of rfl rfl rfl rfl) (sa_cons (s_var 0) (sa_cons (s_var 3) sa_nil))) sa_nil)))) (s_call c__law_dip hr hg (L2N.takes_of rfl rfl rfl rfl) (sa_cons (s_var 0) (sa_cons (s_bin o_add v_add s_int (s_var 4)) sa_nil))))))) (ss_one (ss_appD 6 [false, false, false, false, false, false, false, false, true] (s_blty call_tuple_of v_tuple T.n_tuple (by rfl) (sa_cons (s_var 8) sa_nil))))))) (ss_one (ss_ret (s_blty call_tuple_of v_tuple T.n_tuple (by rfl) (sa_cons (s_var 6) sa_nil))))))))
theorem sc__law_odd : FnScope ["well", "what", "some"] ["well", "what"] (defScope (kst 12)) := ⟨rfl, rfl, rfl, by decide +kernel, rfl, by decide +kernel, by decide +kernel⟩
theorem ok__law_odd (T : Txt K mg) : FnM P w K mg base 2 "_law_odd" ["well", "what"] f__law_odd := by
  obtain ⟨f, fd, hm, F⟩ := T.f__law_odd
  have c__law_dip := (ok__law_dip (P := P) (w := w) (base := base) T).mono (by decide : 1 ≤ 1)
  exact fnM_mk (k := 1) F sc__law_odd hm (F.binds fun _ _ _ _ _ _ us hl => match us, hl with | [_, _], _ => rfl) fun cdv A out s H E hr hg => (ss_cons (ss_setD 2 [] sc__law_odd.nd (s_lst (sa_cons s_non (sa_cons s_bl (sa_cons s_bl (sa_cons s_int (sa_cons s_int (sa_cons (s_un un_neg v_neg s_int) (sa_cons s_str (sa_cons s_str (sa_cons (s_tup sa_nil) (sa_cons (s_lst sa_nil) (sa_cons s_dicK (sa_cons (s_tup (sa_cons s_int sa_nil)) (sa_cons (s_lst (sa_cons s_int sa_nil)) (sa_cons (s_tup (sa_cons (s_tup (sa_cons s_int sa_nil)) sa_nil)) (sa_cons (s_tup (sa_cons s_int (sa_cons s_int sa_nil))) (sa_cons (s_tup (sa_cons s_bl sa_nil)) (sa_cons s_str sa_nil))))))))))))))))))) (ss_cons (ss_if (st_val (s_blt call_isi v_isi T.n_isinstance (by rfl) (sa_cons (s_var 1) (sa_cons (s_ty T.n_int (by rfl)) sa_nil)))) (ss_one (ss_setD 2 [false, true] sc__law_odd.nd (s_lst (sa_cons (s_bin (op_addB.or o_add) v_addB (s_var 1) s_int) (sa_cons (s_un un_neg v_neg s_int) (sa_cons s_bl (sa_cons s_non (sa_cons (s_blty (call_strB.or call_str_int) v_strB T.n_str (by rfl) (sa_cons (s_var 1) sa_nil)) (sa_cons (s_tup (sa_cons (s_var 1) sa_nil)) (sa_cons (s_bin (op_subB.or op_sub) v_subB (s_bin o_pow v_pow s_int s_int) s_int) (sa_cons (s_bin (op_subB.or op_sub) v_subB s_int (s_var 1)) (sa_cons (s_lst (sa_cons (s_var 1) sa_nil)) sa_nil)))))))))))) ss_nil) (ss_one (ss_ret (s_ix (s_var 2) (s_call c__law_dip hr hg (L2N.takes_of rfl rfl rfl rfl) (sa_cons (s_var 0) (sa_cons (s_blt call_len v_len T.n_len (by rfl) (sa_cons (s_var 2) sa_nil)) sa_nil))))))))
theorem sc__law_bent : FnScope ["well", "what", "line", "spot", "way"] ["well", "what"] (defScope (kst 13)) := ⟨rfl, rfl, rfl, by decide +kernel, rfl, by decide +kernel, by decide +kernel⟩
theorem okr__law_bent (T : Txt K mg) : ∀ n : Nat, FnM P w K mg base (3 + n) "_law_bent" ["well", "what"] (f__law_bent_r n)
  | 0 => by
    obtain ⟨f, fd, hm, F⟩ := T.f__law_bent
    exact fnM_bad F hm (F.binds fun _ _ _ _ _ _ us hl => match us, hl with | [_, _], _ => rfl)
  | n + 1 => by
    obtain ⟨f, fd, hm, F⟩ := T.f__law_bent
    have c__law_bent := okr__law_bent T n
    have c__law_dip := (ok__law_dip (P := P) (w := w) (base := base) T).mono (by omega : 1 ≤ 3 + n)
    have c__law_odd := (ok__law_odd (P := P) (w := w) (base := base) T).mono (by omega : 2 ≤ 3 + n)
    exact fnM_mk (k := 3 + n) F sc__law_bent hm (F.binds fun _ _ _ _ _ _ us hl => match us, hl with | [_, _], _ => rfl) fun cdv A out s H E hr hg => (ss_cons (ss_if (st_not (st_val (s_blt call_isiT v_isi2 T.n_isinstance (by rfl) (sa_cons (s_var 1) (sa_cons (s_tup (sa_cons (s_ty T.n_list (by rfl)) (sa_cons (s_ty T.n_tuple (by rfl)) sa_nil))) sa_nil))))) (ss_one (ss_ret (s_call c__law_odd hr hg (L2N.takes_of rfl rfl rfl rfl) (sa_cons (s_var 0) (sa_cons (s_var 1) sa_nil))))) ss_nil) (ss_cons (ss_setT 2 [false, true] sc__law_bent.nd (s_blty call_list_of v_list T.n_list (by rfl) (sa_cons (s_var 1) sa_nil))) (ss_cons (ss_setD 3 [true, false, true] sc__law_bent.nd (s_call c__law_dip hr hg (L2N.takes_of rfl rfl rfl rfl) (sa_cons (s_var 0) (sa_cons (s_bin o_add v_add (s_blt call_len v_len T.n_len (by rfl) (sa_cons (s_var 2) sa_nil)) s_int) sa_nil)))) (ss_cons (ss_setD 4 [true] sc__law_bent.nd (s_call c__law_dip hr hg (L2N.takes_of rfl rfl rfl rfl) (sa_cons (s_var 0) (sa_cons s_int sa_nil)))) (ss_cons (ss_if (SW.st (sw_and (st_cmp op_lt v_cmpI (s_var 3) (s_blt call_len v_len T.n_len (by rfl) (sa_cons (s_var 2) sa_nil))) (sw_and1 (st_cmp op_gt v_cmpI (s_var 4) s_int)))) (ss_one (ss_stC 2 0 3 c__law_bent hr hg (L2N.takes_of rfl rfl rfl rfl))) (ss_one (ss_if (st_cmp op_lt v_cmpI (s_var 4) s_int) (ss_one (ss_setT 2 [false, false, true, true, true] sc__law_bent.nd (s_ix (s_lst (sa_cons (s_bin o_add v_add (s_sl01 (s_var 2) (s_var 3)) (s_sl10 (s_var 2) (s_bin o_add v_add (s_var 3) s_int))) (sa_cons (s_bin o_add v_add (s_sl01 (s_var 2) (s_bin o_add v_add (s_var 3) s_int)) (s_sl10 (s_var 2) (s_var 3))) (sa_cons (s_rev (s_var 2)) sa_nil)))) (s_var 4)))) (ss_one (ss_appD 2 [true] (s_call c__law_odd hr hg (L2N.takes_of rfl rfl rfl rfl) (sa_cons (s_var 0) (sa_cons s_non sa_nil)))))))) (ss_one (ss_ret (s_if (st_cmp (op_eqD hr.units) v_eq (s_blt call_isi v_isi T.n_isinstance (by rfl) (sa_cons (s_var 1) (sa_cons (s_ty T.n_tuple (by rfl)) sa_nil))) (s_cmp op_gt v_cmpI (s_call c__law_dip hr hg (L2N.takes_of rfl rfl rfl rfl) (sa_cons (s_var 0) (sa_cons s_int sa_nil))) s_int)) (s_blty call_tuple_of v_tuple T.n_tuple (by rfl) (sa_cons (s_var 2) sa_nil)) (s_var 2)))))))))
theorem ok__law_bent (T : Txt K mg) : FnM P w K mg base 11 "_law_bent" ["well", "what"] f__law_bent := okr__law_bent T 8
theorem sc__law_is_hall : FnScope ["what", "row", "one"] ["what"] (defScope (kst 11)) := ⟨rfl, rfl, rfl, by decide +kernel, rfl, by decide +kernel, by decide +kernel⟩
theorem ok__law_is_hall (T : Txt K mg) : FnM P w K mg base 1 "_law_is_hall" ["what"] f__law_is_hall := by
  obtain ⟨f, fd, hm, F⟩ := T.f__law_is_hall
  exact fnM_mk (k := 0) F sc__law_is_hall hm (F.binds fun _ _ _ _ _ _ us hl => match us, hl with | [_], _ => rfl) fun cdv A out s H E hr hg => (ss_cons (ss_if (SW.st (sw_or (st_not (st_val (s_blt call_isi v_isi T.n_isinstance (by rfl) (sa_cons (s_var 0) (sa_cons (s_ty T.n_tuple (by rfl)) sa_nil))))) (sw_or (st_cmp op_lt v_cmpI (s_blt call_len v_len T.n_len (by rfl) (sa_cons (s_var 0) sa_nil)) s_int) (sw_or1 (st_cmp op_gt v_cmpI (s_blt call_len v_len T.n_len (by rfl) (sa_cons (s_var 0) sa_nil)) s_int))))) (ss_one (ss_ret s_bl)) ss_nil) (ss_cons (ss_for [true] (passes_of rfl) rfl (si_seq (s_var 0)) (sg_nm 1 sc__law_is_hall.nd) (ss_cons (ss_if (SW.st (sw_or (st_not (st_val (s_blt call_isi v_isi T.n_isinstance (by rfl) (sa_cons (s_var 1) (sa_cons (s_ty T.n_tuple (by rfl)) sa_nil))))) (sw_or (st_cmp op_lt v_cmpI (s_blt call_len v_len T.n_len (by rfl) (sa_cons (s_var 1) sa_nil)) s_int) (sw_or (st_cmp op_gt v_cmpI (s_blt call_len v_len T.n_len (by rfl) (sa_cons (s_var 1) sa_nil)) s_int) (sw_or1 (st_cmp (op_neD hr.units) v_ne (s_blt call_len v_len T.n_len (by rfl) (sa_cons (s_var 1) sa_nil)) (s_blt call_len v_len T.n_len (by rfl) (sa_cons (s_ix (s_var 0) s_int) sa_nil)))))))) (ss_one (ss_ret s_bl)) ss_nil) (ss_one (ss_if (st_cmp (op_neLen hr.units) v_neN (s_lc (own := [("one", 2)]) rfl sc__law_is_hall.nd (si_seq (s_var 1)) (blkOk_by rfl) (fun _ _ _ _ _ => (sg_nm 2 sc__law_is_hall.nd)) (fun _ _ _ _ _ => (sts_one (SW.st (sw_or (st_not (st_val (s_blt call_isi v_isi T.n_isinstance (by rfl) (sa_cons (s_var 2) (sa_cons (s_ty T.n_int (by rfl)) sa_nil))))) (sw_or (st_val (s_blt call_isi v_isi T.n_isinstance (by rfl) (sa_cons (s_var 2) (sa_cons (s_ty T.n_bool (by rfl)) sa_nil)))) (sw_or1 (st_cmp op_lt v_cmpI (s_var 2) s_int))))))) (fun _ _ _ _ _ => (s_var 2))) (s_lst sa_nil)) (ss_one (ss_ret s_bl)) ss_nil)))) (ss_one (ss_ret s_bl))))
theorem sc_is_whole : FnScope ["thing"] ["thing"] (defScope (kst 3)) := ⟨rfl, rfl, rfl, by decide +kernel, rfl, by decide +kernel, by decide +kernel⟩
theorem ok_is_whole (T : Txt K mg) : FnM P w K mg base 1 "is_whole" ["thing"] f_is_whole := by
  obtain ⟨f, fd, hm, F⟩ := T.f_is_whole
  exact fnM_mk (k := 0) F sc_is_whole hm (F.binds fun _ _ _ _ _ _ us hl => match us, hl with | [_], _ => rfl) fun cdv A out s H E hr hg => (ss_one (ss_ret (s_and (s_blt call_isi v_isi T.n_isinstance (by rfl) (sa_cons (s_var 0) (sa_cons (s_ty T.n_int (by rfl)) sa_nil))) (s_one (s_not (s_blt call_isi v_isi T.n_isinstance (by rfl) (sa_cons (s_var 0) (sa_cons (s_ty T.n_bool (by rfl)) sa_nil))))))))
theorem sc_is_amount : FnScope ["thing"] ["thing"] (defScope (kst 4)) := ⟨rfl, rfl, rfl, by decide +kernel, rfl, by decide +kernel, by decide +kernel⟩
theorem ok_is_amount (T : Txt K mg) : FnM P w K mg base 2 "is_amount" ["thing"] f_is_amount := by
  obtain ⟨f, fd, hm, F⟩ := T.f_is_amount
  have c_is_whole := (ok_is_whole (P := P) (w := w) (base := base) T).mono (by decide : 1 ≤ 1)
  exact fnM_mk (k := 1) F sc_is_amount hm (F.binds fun _ _ _ _ _ _ us hl => match us, hl with | [_], _ => rfl) fun cdv A out s H E hr hg => (ss_one (ss_ret (s_and (s_call c_is_whole hr hg (L2N.takes_of rfl rfl rfl rfl) (sa_cons (s_var 0) sa_nil)) (s_one (s_cmp op_ge v_cmpI (s_var 0) s_int)))))
theorem sc_is_row : FnScope ["thing", "many", "one"] ["thing", "many"] (defScope (kst 5)) := ⟨rfl, rfl, rfl, by decide +kernel, rfl, by decide +kernel, by decide +kernel⟩
theorem ok_is_row (T : Txt K mg) : FnM P w K mg base 3 "is_row" ["thing", "many"] f_is_row := by
  obtain ⟨f, fd, hm, F⟩ := T.f_is_row
  have c_is_amount := (ok_is_amount (P := P) (w := w) (base := base) T).mono (by decide : 2 ≤ 2)
  exact fnM_mk (k := 2) F sc_is_row hm (F.binds fun _ _ _ _ _ _ us hl => match us, hl with | [_, _], _ => rfl) fun cdv A out s H E hr hg => (ss_one (ss_ret (s_and (s_blt call_isi v_isi T.n_isinstance (by rfl) (sa_cons (s_var 0) (sa_cons (s_ty T.n_tuple (by rfl)) sa_nil))) (s_and (s_cmp (op_eqD hr.units) v_eq (s_blt call_len v_len T.n_len (by rfl) (sa_cons (s_var 0) sa_nil)) (s_var 1)) (s_one (s_blt (cr_all rfl) v_all T.n_all (by rfl) (sa_cons (s_lc (own := [("one", 2)]) rfl sc_is_row.nd (si_seq (s_var 0)) (blkOk_by rfl) (fun _ _ _ _ _ => (sg_nm 2 sc_is_row.nd)) (fun _ _ _ _ _ => sts_nil) (fun _ _ _ _ _ => (s_call c_is_amount hr hg takes0N (sa_cons (s_var 2) sa_nil)))) sa_nil)))))))
theorem sc_is_hall : FnScope ["thing", "row"] ["thing"] (defScope (kst 6)) := ⟨rfl, rfl, rfl, by decide +kernel, rfl, by decide +kernel, by decide +kernel⟩
theorem ok_is_hall (T : Txt K mg) : FnM P w K mg base 4 "is_hall" ["thing"] f_is_hall := by
  obtain ⟨f, fd, hm, F⟩ := T.f_is_hall
  have c_is_row := (ok_is_row (P := P) (w := w) (base := base) T).mono (by decide : 3 ≤ 3)
  exact fnM_mk (k := 3) F sc_is_hall hm (F.binds fun _ _ _ _ _ _ us hl => match us, hl with | [_], _ => rfl) fun cdv A out s H E hr hg => (ss_cons (ss_if (SW.st (sw_or (st_not (st_val (s_blt call_isi v_isi T.n_isinstance (by rfl) (sa_cons (s_var 0) (sa_cons (s_ty T.n_tuple (by rfl)) sa_nil))))) (sw_or (st_not (st_chain op_le op_le v_cmpI v_cmpI s_int (s_blt call_len v_len T.n_len (by rfl) (sa_cons (s_var 0) sa_nil)) (s_gi T.c_MOST_COUNTERS.choose_spec))) (sw_or1 (st_not (st_val (s_blt call_isi v_isi T.n_isinstance (by rfl) (sa_cons (s_ix (s_var 0) s_int) (sa_cons (s_ty T.n_tuple (by rfl)) sa_nil))))))))) (ss_one (ss_ret s_bl)) ss_nil) (ss_one (ss_ret (s_and (s_chain op_le op_le v_cmpI v_cmpI s_int (s_blt call_len v_len T.n_len (by rfl) (sa_cons (s_ix (s_var 0) s_int) sa_nil)) (s_gi T.c_MOST_CUSTOMERS.choose_spec)) (s_one (s_blt (cr_all rfl) v_all T.n_all (by rfl) (sa_cons (s_lc (own := [("row", 1)]) rfl sc_is_hall.nd (si_seq (s_var 0)) (blkOk_by rfl) (fun _ _ _ _ _ => (sg_nm 1 sc_is_hall.nd)) (fun _ _ _ _ _ => sts_nil) (fun _ _ _ _ _ => (s_call c_is_row hr hg takes0N (sa_cons (s_var 1) (sa_cons (s_blt call_len v_len T.n_len (by rfl) (sa_cons (s_ix (s_var 0) s_int) sa_nil)) sa_nil))))) sa_nil)))))))
theorem sc_law : FnScope ["script", "whats", "k", "well", "some", "turn", "desks", "bent", "what", "text", "due"] ["script"] (defScope (kst 14)) := ⟨rfl, rfl, rfl, by decide +kernel, rfl, by decide +kernel, by decide +kernel⟩
theorem ok_law {f : Addr} {fd : FuncData} (T : Txt K mg) (F : Fun K "law" "law" (kst 14) f fd) : FnG P w K mg base 12 f fd ["script"] (spF K mg f_law) := by
  have c_is_hall := (ok_is_hall (P := P) (w := w) (base := base) T).mono (by decide : 4 ≤ 11)
  have c__law_is_hall := (ok__law_is_hall (P := P) (w := w) (base := base) T).mono (by decide : 1 ≤ 11)
  have c__law_bent := (ok__law_bent (P := P) (w := w) (base := base) T).mono (by decide : 11 ≤ 11)
  have c__law_hall := (ok__law_hall (P := P) (w := w) (base := base) T).mono (by decide : 2 ≤ 11)
  have c__law_well := (ok__law_well (P := P) (w := w) (base := base) T).mono (by decide : 1 ≤ 11)
  exact fnG_mk (k := 11) F sc_law fun cdv A out s H E hr hg => (ss_cons (ss_setD 1 [] sc_law.nd (s_lst (sa_cons s_non (sa_cons s_int (sa_cons s_bl (sa_cons s_str (sa_cons s_str (sa_cons (s_tup sa_nil) (sa_cons (s_lst sa_nil) (sa_cons s_dicK (sa_cons (s_tup (sa_cons (s_tup sa_nil) sa_nil)) (sa_cons (s_tup (sa_cons (s_tup sa_nil) (sa_cons (s_tup sa_nil) sa_nil))) (sa_cons (s_lst (sa_cons (s_tup (sa_cons s_int sa_nil)) sa_nil)) (sa_cons (s_tup (sa_cons (s_tup (sa_cons s_int sa_nil)) sa_nil)) (sa_cons (s_tup (sa_cons (s_lst (sa_cons s_int sa_nil)) sa_nil)) (sa_cons (s_bin o_mulT v_mulT (s_tup (sa_cons (s_tup (sa_cons s_int sa_nil)) sa_nil)) s_int) (sa_cons (s_bin o_mulT v_mulT (s_tup (sa_cons (s_tup (sa_cons s_int sa_nil)) sa_nil)) s_int) sa_nil))))))))))))))))) (ss_cons (ss_setD 1 [false, true] sc_law.nd (s_bin o_add v_add (s_var 1) (s_lst (sa_cons (s_tup (sa_cons (s_bin o_mulT v_mulT (s_tup (sa_cons s_int sa_nil)) s_int) sa_nil)) (sa_cons (s_tup (sa_cons (s_bin o_mulT v_mulT (s_tup (sa_cons s_int sa_nil)) s_int) sa_nil)) (sa_cons (s_tup (sa_cons (s_tup (sa_cons s_int (sa_cons s_int sa_nil))) (sa_cons (s_tup (sa_cons s_int sa_nil)) sa_nil))) (sa_cons (s_tup (sa_cons (s_tup (sa_cons s_int sa_nil)) (sa_cons (s_tup (sa_cons s_int (sa_cons s_int sa_nil))) sa_nil))) (sa_cons (s_tup (sa_cons (s_tup (sa_cons s_bl sa_nil)) sa_nil)) (sa_cons (s_tup (sa_cons (s_tup (sa_cons s_non sa_nil)) sa_nil)) (sa_cons (s_tup (sa_cons s_int sa_nil)) (sa_cons (s_tup (sa_cons s_str sa_nil)) sa_nil))))))))))) (ss_cons (ss_setD 1 [false, true] sc_law.nd (s_bin o_add v_add (s_var 1) (s_lst (sa_cons (s_bin o_mulT v_mulT (s_tup (sa_cons (s_bin o_mulT v_mulT (s_tup (sa_cons s_int sa_nil)) s_int) sa_nil)) s_int) (sa_cons (s_tup (sa_cons (s_tup (sa_cons (s_un un_neg v_neg s_int) sa_nil)) sa_nil)) (sa_cons (s_tup (sa_cons (s_tup (sa_cons s_str sa_nil)) sa_nil)) (sa_cons (s_tup (sa_cons (s_tup (sa_cons s_int sa_nil)) (sa_cons (s_lst (sa_cons s_int sa_nil)) sa_nil))) (sa_cons (s_tup (sa_cons (s_tup (sa_cons (s_bin o_pow v_pow s_int s_int) sa_nil)) sa_nil)) sa_nil)))))))) (ss_cons (ss_forP (passes_of rfl) rfl (si_range1 T.n_range (sa_cons (s_blt (call_max2 rfl) v_max2 T.n_max (by rfl) (sa_cons s_int (sa_cons (s_blt (call_min2 rfl) v_min2 T.n_min (by rfl) (sa_cons s_int (sa_cons (s_blt call_len v_len T.n_len (by rfl) (sa_cons (s_var 0) sa_nil)) sa_nil))) sa_nil))) sa_nil)) (sg_nm 2 sc_law.nd) (ss_cons (ss_setD 3 [true, false, true] sc_law.nd (s_call c__law_well hr hg (L2N.takes_of rfl rfl rfl rfl) (sa_cons (s_var 0) (sa_cons (s_var 2) sa_nil)))) (ss_cons (ss_setD 4 [false, true] sc_law.nd (s_var 1)) (ss_cons (ss_forP (passes_of rfl) rfl (si_range1 T.n_range (sa_cons s_int sa_nil)) (sg_nm 5 sc_law.nd) (ss_cons (ss_setD 6 [false, false, false, true] sc_law.nd (s_call c__law_hall hr hg (L2N.takes_of rfl rfl rfl rfl) (sa_cons (s_var 3) (sa_cons s_int (sa_cons s_int (sa_cons (s_bin o_pow v_pow s_int s_int) sa_nil)))))) (ss_cons (ss_setD 7 [false, false, false, true, false, false, true] sc_law.nd (s_call c__law_bent hr hg (L2N.takes_of rfl rfl rfl rfl) (sa_cons (s_var 3) (sa_cons (s_var 6) sa_nil)))) (ss_one (ss_setD 4 [false, false, false, true, true, false, true, true] sc_law.nd (s_bin o_add v_add (s_var 4) (s_lst (sa_cons (s_var 6) (sa_cons (s_var 7) (sa_cons (s_call c__law_bent hr hg (L2N.takes_of rfl rfl rfl rfl) (sa_cons (s_var 3) (sa_cons (s_var 7) sa_nil))) sa_nil)))))))))) (ss_one (ss_for [false, false, false, false, true] (passes_of rfl) rfl (si_seq (s_var 4)) (sg_nm 8 sc_law.nd) (ss_cons (ss_setD 9 [false, false, false, false, false, false, false, false, true] sc_law.nd (s_blt (cr_reprZ hr.units hg) v_reprZ T.n_repr (by rfl) (sa_cons (s_var 8) sa_nil))) (ss_cons (ss_setD 10 [false, false, false, false, false, false, false, false, true] sc_law.nd (s_call c__law_is_hall hr hg (L2N.takes_of rfl rfl rfl rfl) (sa_cons (s_var 8) sa_nil))) (ss_one (ss_if (SW.st (sw_or (st_cmp (op_neD hr.units) v_ne (s_blt (cr_reprZ hr.units hg) v_reprZ T.n_repr (by rfl) (sa_cons (s_call c_is_hall hr hg (L2N.takes_of rfl rfl rfl rfl) (sa_cons (s_var 8) sa_nil)) sa_nil)) (s_blt (cr_reprZ hr.units hg) v_reprZ T.n_repr (by rfl) (sa_cons (s_var 10) sa_nil))) (sw_or (st_cmp (op_neD hr.units) v_ne (s_callK (fnK_mk c_is_hall T.f_is_hall.choose_spec.choose_spec.2 T.f_is_hall.choose_spec.choose_spec.1 ["thing"] [] fun _ _ _ _ _ _ ws hl => match ws, hl with | [_], _ => rfl) hr hg (L2N.takes_of rfl rfl rfl rfl) (sk_cons (s_var 8) sk_nil)) (s_var 10)) (sw_or1 (st_cmp (op_neD hr.units) v_ne (s_blt (cr_reprZ hr.units hg) v_reprZ T.n_repr (by rfl) (sa_cons (s_var 8) sa_nil)) (s_var 9)))))) (ss_one (ss_ret s_bl)) ss_nil)))))))))) (ss_one (ss_ret s_bl))))))
end
end Zm
set_option linter.all false
set_option autoImplicit false
/-! P0: stepping a machine. -/
namespace Zm
open PySem
@[simp] theorem fz_ints : ∀ ns : List Int, fzs (ns.map D.int) = ns.map D.int
  | [] => rfl
  | n :: ns => by simp [fz_ints ns]
@[simp] theorem noF_ints : ∀ ns : List Int, noFs (ns.map D.int) = true
  | [] => rfl
  | n :: ns => by simp [noF_ints ns]
@[simp] theorem plain_ints : ∀ ns : List Int, plains (ns.map D.int) = true
  | [] => rfl
  | n :: ns => by simp [plain_ints ns]
theorem szl : (1000000 : Nat) ≤ sizeLine := by decide
theorem sm_of {i : Int} (h : i.natAbs < 2 ^ 1900) : sm i = true := decide_eq_true h
end Zm
namespace Zm
open PySem
mutual
/-- only numbers, in lists and tuples -/
def itg : PyData → Bool
  | .int _ => true
  | .list xs => itgs xs
  | .tuple xs => itgs xs
  | _ => false
def itgs : List PyData → Bool
  | [] => true
  | x :: xs => itg x && itgs xs
end
mutual
theorem itg_lay : ∀ x : PyData, itg x = true → x.canLay0 = true
  | .int _, _ => by simp [PyData.canLay0]
  | .list xs, h => by simp only [itg] at h; simp only [PyData.canLay0]; exact itgs_lay xs h
  | .tuple xs, h => by simp only [itg] at h; simp only [PyData.canLay0]; exact itgs_lay xs h
  | .none, h => by simp [itg] at h
  | .bool _, h => by simp [itg] at h
  | .str _, h => by simp [itg] at h
  | .dict _, h => by simp [itg] at h
theorem itgs_lay : ∀ xs : List PyData, itgs xs = true → PyData.canLayAll0 xs = true
  | [], _ => by simp [PyData.canLayAll0]
  | x :: xs, h => by
    simp only [itgs, Bool.and_eq_true] at h
    simp only [PyData.canLayAll0, Bool.and_eq_true]
    exact ⟨itg_lay x h.1, itgs_lay xs h.2⟩
end
mutual
theorem eqv_itg : ∀ x y : PyData, itg x = true → itg y = true → PyData.eqv x y = true → x = y
  | .int i, .int j, _, _, e => by simp [PyData.eqv] at e; rw [e]
  | .list xs, .list ys, h, h', e => by
    simp only [itg] at h h'; simp only [PyData.eqv] at e
    rw [eqvs_itg xs ys h h' e]
  | .tuple xs, .tuple ys, h, h', e => by
    simp only [itg] at h h'; simp only [PyData.eqv] at e
    rw [eqvs_itg xs ys h h' e]
  | .int _, .list _, _, _, e => by simp [PyData.eqv] at e
  | .int _, .tuple _, _, _, e => by simp [PyData.eqv] at e
  | .list _, .int _, _, _, e => by simp [PyData.eqv] at e
  | .list _, .tuple _, _, _, e => by simp [PyData.eqv] at e
  | .tuple _, .int _, _, _, e => by simp [PyData.eqv] at e
  | .tuple _, .list _, _, _, e => by simp [PyData.eqv] at e
  | .none, _, h, _, _ => by simp [itg] at h
  | .bool _, _, h, _, _ => by simp [itg] at h
  | .str _, _, h, _, _ => by simp [itg] at h
  | .dict _, _, h, _, _ => by simp [itg] at h
  | _, .none, _, h, _ => by simp [itg] at h
  | _, .bool _, _, h, _ => by simp [itg] at h
  | _, .str _, _, h, _ => by simp [itg] at h
  | _, .dict _, _, h, _ => by simp [itg] at h
theorem eqvs_itg : ∀ xs ys : List PyData, itgs xs = true → itgs ys = true → PyData.eqvAll xs ys = true → xs = ys
  | [], [], _, _, _ => rfl
  | x :: xs, y :: ys, h, h', e => by
    simp only [itgs, Bool.and_eq_true] at h h'
    simp only [PyData.eqvAll, Bool.and_eq_true] at e
    rw [eqv_itg x y h.1 h'.1 e.1, eqvs_itg xs ys h.2 h'.2 e.2]
  | [], _ :: _, _, _, e => by simp [PyData.eqvAll] at e
  | _ :: _, [], _, _, e => by simp [PyData.eqvAll] at e
end
/-- data that may be compared -/
structure Cmp (d : D) (x : PyData) : Prop where
  p : pd d = some x
  g : itg x = true
  h : x.depth ≤ 64
theorem Cmp.sh {d : D} {x : PyData} (c : Cmp d x) : shapedD d = some x := by
  unfold shapedD
  rw [c.p]
  have : SeqAt.shaped x = true := Bool.and_eq_true_iff.mpr ⟨itg_lay x c.g, decide_eq_true c.h⟩
  simp only [this, if_true]
theorem eq_t {s : Sto} {d e : D} {x : PyData} (c : Cmp d x) (c' : Cmp e x) : gEq s [d, e] = some (.bl true) := by
  simp only [gEq, c.sh, c'.sh, SeqAt.eqv_refl x (itg_lay x c.g)]
theorem ne_f {s : Sto} {d e : D} {x : PyData} (c : Cmp d x) (c' : Cmp e x) : gNe s [d, e] = some (.bl false) := by
  simp only [gNe, c.sh, c'.sh, SeqAt.eqv_refl x (itg_lay x c.g), Bool.not_true]
theorem eqv_f {x y : PyData} (h : itg x = true) (h' : itg y = true) (ne : x ≠ y) : PyData.eqv x y = false := by
  cases e : PyData.eqv x y with
  | false => rfl
  | true => exact absurd (eqv_itg x y h h' e) ne
theorem eq_f {s : Sto} {d e : D} {x y : PyData} (c : Cmp d x) (c' : Cmp e y) (ne : x ≠ y) : gEq s [d, e] = some (.bl false) := by
  simp only [gEq, c.sh, c'.sh, eqv_f c.g c'.g ne]
theorem ne_t {s : Sto} {d e : D} {x y : PyData} (c : Cmp d x) (c' : Cmp e y) (ne : x ≠ y) : gNe s [d, e] = some (.bl true) := by
  simp only [gNe, c.sh, c'.sh, eqv_f c.g c'.g ne, Bool.not_false]
theorem Cmp.int (i : Int) : Cmp (.int i) (.int i) := ⟨rfl, rfl, by simp [PyData.depth]⟩
theorem pds_map {α : Type} {f : α → D} {g : α → PyData} (h : ∀ x, pd (f x) = some (g x)) : ∀ xs : List α, pds (xs.map f) = some (xs.map g)
  | [] => rfl
  | x :: xs => by rw [List.map_cons, pds, h x, pds_map h xs]; rfl
theorem depth_map {α : Type} {g : α → PyData} {n : Nat} (h : ∀ x, (g x).depth ≤ n) : ∀ xs : List α, PyData.depthAll (xs.map g) ≤ n
  | [] => by simp [PyData.depthAll]
  | x :: xs => by rw [List.map_cons, PyData.depthAll]; have := h x; have := depth_map h xs; omega
end Zm
namespace Zm
open PySem
theorem atI_nat {α : Type} {xs : List α} {k : Nat} : L2.atI xs (k : Int) = xs[k]? := by
  unfold L2.atI L2.ixN
  rw [if_pos (by omega)]
  by_cases h : k < xs.length
  · rw [if_pos (by omega)]; simp
  · rw [if_neg (by omega), List.getElem?_eq_none (by omega)]; rfl
theorem atI_zero {α : Type} {xs : List α} : L2.atI xs 0 = xs[0]? := atI_nat (k := 0)
end Zm
namespace Zm
open PySem PySem.Spec PyProof.Rows L2
theorem cut_from {α : Type} (xs : List α) (k : Nat) : cutD xs (some (k : Int)) none = xs.drop k := by
  unfold cutD
  rw [HT.sIx_nat, HT.sIx_none, List.take_of_length_le (by simp)]
  by_cases h : k ≤ xs.length
  · rw [Nat.min_eq_left h]
  · rw [Nat.min_eq_right (by omega), List.drop_eq_nil_of_le (by omega), List.drop_eq_nil_of_le (by omega)]
theorem cut_to {α : Type} (xs : List α) (k : Nat) : cutD xs none (some (k : Int)) = xs.take k := by
  unfold cutD
  rw [HT.sIx_nat, HT.sIx_none, List.drop_zero, Nat.sub_zero]
  by_cases h : k ≤ xs.length
  · rw [Nat.min_eq_left h]
  · rw [Nat.min_eq_right (by omega), List.take_of_length_le (Nat.le_refl _), List.take_of_length_le (by omega)]
end Zm
namespace Zm
open PySem
end Zm
set_option linter.all false
set_option autoImplicit false
set_option maxRecDepth 100000
/-! TL: programs over plain types, and the machines that keep them. -/
namespace Zm
open PySem
mutual
theorem fz_fz : ∀ d : D, fz (fz d) = fz d
  | .tup xs => by simp [fzs_fzs xs]
  | .lst _ xs => by simp [fzs_fzs xs]
  | .dic _ _ _ _ => rfl
  | .dil _ _ _ => rfl
  | .non => rfl | .bl _ => rfl | .int _ => rfl | .str _ => rfl | .box _ => rfl | .fn _ => rfl | .ty _ => rfl | .exc _ _ => rfl | .ro _ => rfl
theorem fzs_fzs : ∀ xs : List D, fzs (fzs xs) = fzs xs
  | [] => rfl
  | x :: xs => by simp [fz_fz x, fzs_fzs xs]
end
mutual
theorem plain_fz : ∀ d : D, plain d = true → fz d = d
  | .tup xs, h => by simp only [plain] at h; simp [plains_fz xs h]
  | .lst _ xs, h => by simp at h
  | .dic _ _ _ _, h => by simp at h
  | .dil _ _ _, h => by simp at h
  | .non, _ => rfl | .bl _, _ => rfl | .int _, _ => rfl | .str _, _ => rfl | .box _, _ => rfl | .fn _, _ => rfl | .ty _, _ => rfl | .exc _ _, _ => rfl | .ro _, _ => rfl
theorem plains_fz : ∀ xs : List D, plains xs = true → fzs xs = xs
  | [], _ => rfl
  | x :: xs, h => by simp only [plains, Bool.and_eq_true] at h; simp [plain_fz x h.1, plains_fz xs h.2]
end
mutual
theorem plain_noF : ∀ d : D, plain d = true → noF d = true
  | .tup xs, h => by simp only [plain] at h; simp [plains_noF xs h]
  | .lst _ xs, h => by simp at h
  | .dic _ _ _ _, h => by simp at h
  | .dil _ _ _, h => by simp at h
  | .non, _ => rfl | .bl _, _ => rfl | .int _, _ => rfl | .str _, _ => rfl | .box _, _ => rfl | .fn _, _ => rfl | .ty _, _ => rfl | .exc _ _, _ => rfl | .ro _, _ => rfl
theorem plains_noF : ∀ xs : List D, plains xs = true → noFs xs = true
  | [], _ => rfl
  | x :: xs, h => by simp only [plains, Bool.and_eq_true] at h; simp [plain_noF x h.1, plains_noF xs h.2]
end
mutual
theorem fz_plain : ∀ d : D, plain (fz d) = true → plain d = true
  | .tup xs, h => by simp only [fz, plain] at h; simp [fzs_plains xs h]
  | .lst _ xs, h => by simp at h
  | .dic _ _ _ _, h => by simp at h
  | .dil _ _ _, h => by simp at h
  | .non, _ => rfl | .bl _, _ => rfl | .int _, _ => rfl | .str _, _ => rfl | .box _, _ => rfl | .fn _, _ => rfl | .ty _, _ => rfl | .exc _ _, _ => rfl | .ro _, _ => rfl
theorem fzs_plains : ∀ xs : List D, plains (fzs xs) = true → plains xs = true
  | [], _ => rfl
  | x :: xs, h => by simp only [fzs, plains, Bool.and_eq_true] at h; simp [fz_plain x h.1, fzs_plains xs h.2]
end
mutual
theorem pd_fz : ∀ d : D, pd (fz d) = pd d
  | .tup xs => by simp [fz, pd, pds_fz xs]
  | .lst _ xs => by simp [fz, pd, pds_fz xs]
  | .dic _ _ _ _ => rfl
  | .dil _ _ _ => rfl
  | .non => rfl | .bl _ => rfl | .int _ => rfl | .str _ => rfl | .box _ => rfl | .fn _ => rfl | .ty _ => rfl | .exc _ _ => rfl | .ro _ => rfl
theorem pds_fz : ∀ xs : List D, pds (fzs xs) = pds xs
  | [] => rfl
  | x :: xs => by simp [fzs, pds, pd_fz x, pds_fz xs]
end
/-! ### what stands for what -/
abbrev G (α : Type) := Sto → R α
def pr {α : Type} (x : α) : G α := fun s => .ok x s
def bd {α β : Type} (t : G α) (k : α → G β) : G β := fun s => (t s).bind fun a s' => k a s'
@[simp] theorem pr_ap {α : Type} (x : α) (s : Sto) : pr x s = .ok x s := rfl
theorem bd_ap {α β : Type} (t : G α) (k : α → G β) (s : Sto) : bd t k s = (t s).bind fun a s' => k a s' := rfl
@[simp] theorem bd_ok {α β : Type} {t : G α} {k : α → G β} {s s' : Sto} {a : α} (h : t s = .ok a s') : bd t k s = k a s' := by rw [bd_ap, h]; rfl
theorem bd_ex {α β : Type} {t : G α} {k : α → G β} {s s' : Sto} {x : Xc} (h : t s = .ex x s') : bd t k s = .ex x s' := by rw [bd_ap, h]; rfl
structure Ec (α : Type) where
  f : α → D
  h : ∀ x, fz (f x) = f x
inductive Kd where
  | any | top | own | fro | pl
/-- d stands for x: .top an owned list, .own nothing frozen within, .fro all frozen, .pl no list at all -/
def Rp {α : Type} (k : Kd) (e : Ec α) (x : α) (d : D) : Prop := fz d = e.f x ∧ match k with
  | .any => True
  | .top => ∃ ds, d = .lst true ds
  | .own => noF d = true
  | .fro => d = e.f x
  | .pl => plain d = true
class Pn {α : Type} (e : Ec α) : Prop where
  p : ∀ x, plain (e.f x) = true
section
variable {α β γ : Type} {k k' : Kd} {e : Ec α} {x : α} {d : D}
theorem Rp.any (h : Rp k e x d) : Rp .any e x d := ⟨h.1, trivial⟩
theorem Rp.fz (h : Rp k e x d) : Rp .fro e x (fz d) := ⟨by rw [fz_fz]; exact h.1, h.1⟩
theorem Rp.plain [Pn e] (h : Rp k e x d) : Rp .pl e x d := ⟨h.1, fz_plain _ (by rw [h.1]; exact Pn.p x)⟩
theorem Rp.plE (h : Rp .pl e x d) : d = e.f x := by rw [← h.1]; exact (plain_fz _ h.2).symm
theorem Rp.plO (h : Rp .pl e x d) : Rp .own e x d := ⟨h.1, plain_noF _ h.2⟩
theorem Rp.self (e : Ec α) (x : α) : Rp .fro e x (e.f x) := ⟨e.h x, rfl⟩
theorem Rp.selfP (e : Ec α) [Pn e] (x : α) : Rp .pl e x (e.f x) := (Rp.self e x).plain
end
def eI : Ec Int := ⟨.int, fun _ => rfl⟩
def eB : Ec Bool := ⟨.bl, fun _ => rfl⟩
def eN : Ec Unit := ⟨fun _ => .non, fun _ => rfl⟩
def eS : Ec Str := ⟨.str, fun _ => rfl⟩
def eBx : Ec Nat := ⟨.box, fun _ => rfl⟩
def eRo : Ec (List Int) := ⟨.ro, fun _ => rfl⟩
def eTy : Ec String := ⟨.ty, fun _ => rfl⟩
def eX : Ec D := ⟨fz, fz_fz⟩
theorem fzs_ec {α : Type} (e : Ec α) (xs : List α) : fzs (xs.map e.f) = xs.map e.f := by rw [fzs_eq, List.map_map]; exact List.map_congr_left fun x _ => e.h x
def eL {α : Type} (e : Ec α) : Ec (List α) := ⟨fun xs => .lst false (xs.map e.f), fun xs => by simp [fzs_ec]⟩
def eT {α : Type} (e : Ec α) : Ec (List α) := ⟨fun xs => .tup (xs.map e.f), fun xs => by simp [fzs_ec]⟩
def eP {α β : Type} (a : Ec α) (b : Ec β) : Ec (α × β) := ⟨fun p => .tup [a.f p.1, b.f p.2], fun p => by simp [a.h, b.h]⟩
def eP3 {α β γ : Type} (a : Ec α) (b : Ec β) (c : Ec γ) : Ec (α × β × γ) := ⟨fun p => .tup [a.f p.1, b.f p.2.1, c.f p.2.2], fun p => by simp [a.h, b.h, c.h]⟩
def eO {α : Type} (e : Ec α) : Ec (Option α) := ⟨fun o => match o with
  | none => .non
  | some x => e.f x, fun o => by cases o <;> simp [e.h]⟩
instance : Pn eI := ⟨fun _ => rfl⟩
instance : Pn eB := ⟨fun _ => rfl⟩
instance : Pn eN := ⟨fun _ => rfl⟩
instance : Pn eS := ⟨fun _ => rfl⟩
instance : Pn eBx := ⟨fun _ => rfl⟩
instance : Pn eRo := ⟨fun _ => rfl⟩
instance : Pn eTy := ⟨fun _ => rfl⟩
instance {α : Type} (e : Ec α) [Pn e] : Pn (eT e) := ⟨fun xs => by
  show plains (xs.map e.f) = true
  rw [plains_iff]; intro d hd; obtain ⟨x, _, rfl⟩ := List.mem_map.mp hd; exact Pn.p x⟩
instance {α β : Type} (a : Ec α) (b : Ec β) [Pn a] [Pn b] : Pn (eP a b) := ⟨fun p => by show plains [a.f p.1, b.f p.2] = true; simp [Pn.p]⟩
instance {α β γ : Type} (a : Ec α) (b : Ec β) (c : Ec γ) [Pn a] [Pn b] [Pn c] : Pn (eP3 a b c) := ⟨fun p => by show plains [a.f p.1, b.f p.2.1, c.f p.2.2] = true; simp [Pn.p]⟩
instance {α : Type} (e : Ec α) [Pn e] : Pn (eO e) := ⟨fun o => by cases o <;> simp [eO, Pn.p]⟩
/-! ### what such a tree looks like -/
section
variable {α β : Type} {k : Kd} {d : D}
theorem Rp.int {x : Int} (h : Rp k eI x d) : d = .int x := by have := h.1; cases d <;> simp_all [eI]
theorem Rp.bl {x : Bool} (h : Rp k eB x d) : d = .bl x := by have := h.1; cases d <;> simp_all [eB]
theorem Rp.str {x : Str} (h : Rp k eS x d) : d = .str x := by have := h.1; cases d <;> simp_all [eS]
theorem Rp.non {x : Unit} (h : Rp k eN x d) : d = .non := by have := h.1; cases d <;> simp_all [eN]
theorem Rp.box {x : Nat} (h : Rp k eBx x d) : d = .box x := by have := h.1; cases d <;> simp_all [eBx]
theorem Rp.ro {x : List Int} (h : Rp k eRo x d) : d = .ro x := by have := h.1; cases d <;> simp_all [eRo]
theorem Rp.ty {x : String} (h : Rp k eTy x d) : d = .ty x := by have := h.1; cases d <;> simp_all [eTy]
theorem Rp.lst {e : Ec α} {xs : List α} (h : Rp k (eL e) xs d) : ∃ o ds, d = .lst o ds ∧ fzs ds = xs.map e.f := by
  have := h.1
  cases d with
  | lst o ds => exact ⟨o, ds, rfl, by simpa [eL] using this⟩
  | _ => simp_all [eL]
theorem Rp.tup {e : Ec α} {xs : List α} (h : Rp k (eT e) xs d) : ∃ ds, d = .tup ds ∧ fzs ds = xs.map e.f := by
  have := h.1
  cases d with
  | tup ds => exact ⟨ds, rfl, by simpa [eT] using this⟩
  | _ => simp_all [eT]
theorem Rp.lstO {e : Ec α} {xs : List α} (h : Rp .own (eL e) xs d) : ∃ ds, d = .lst true ds ∧ fzs ds = xs.map e.f ∧ noFs ds = true := by
  obtain ⟨o, ds, rfl, q⟩ := h.lst
  have := h.2
  simp only [noF, Bool.and_eq_true] at this
  obtain ⟨rfl, h2⟩ := this
  exact ⟨ds, rfl, q, h2⟩
theorem Rp.ownT {e : Ec α} {xs : List α} (h : Rp .own (eL e) xs d) : Rp .top (eL e) xs d := by
  obtain ⟨ds, rfl, _, _⟩ := h.lstO
  exact ⟨h.1, ds, rfl⟩
theorem Rp.pair {a : Ec α} {b : Ec β} {p : α × β} (h : Rp k (eP a b) p d) : ∃ x y, d = .tup [x, y] ∧ Zm.fz x = a.f p.1 ∧ Zm.fz y = b.f p.2 := by
  have := h.1
  cases d with
  | tup ds =>
    simp only [eP, fz, D.tup.injEq] at this
    match ds, this with
    | [x, y], this => simp at this; exact ⟨x, y, rfl, this⟩
    | [], this => simp at this
    | [_], this => simp at this
    | _ :: _ :: _ :: _, this => simp at this
  | _ => simp_all [eP]
theorem rp_top {e : Ec α} {xs : List α} {ds : List D} (h : fzs ds = xs.map e.f) : Rp .top (eL e) xs (.lst true ds) := ⟨by simp [eL, h], ds, rfl⟩
theorem rp_own {e : Ec α} {xs : List α} {ds : List D} (h : fzs ds = xs.map e.f) (hn : noFs ds = true) : Rp .own (eL e) xs (.lst true ds) := ⟨by simp [eL, h], by simp [hn]⟩
theorem rp_tup {e : Ec α} {xs : List α} {ds : List D} (h : fzs ds = xs.map e.f) : Rp .any (eT e) xs (.tup ds) := ⟨by simp [eT, h], trivial⟩
theorem noFs_pn {e : Ec α} [Pn e] {xs : List α} {ds : List D} (h : fzs ds = xs.map e.f) : noFs ds = true := plains_noF _ (fzs_plains _ (by
  rw [h, plains_iff]; intro d hd; obtain ⟨x, _, rfl⟩ := List.mem_map.mp hd; exact Pn.p x))
theorem rp_len {e : Ec α} {xs : List α} {ds : List D} (h : fzs ds = xs.map e.f) : ds.length = xs.length := by
  have := congrArg List.length h
  simpa [fzs_eq] using this
end
/-! ### patterns of slots -/
inductive Pt : Type 1 where
  | no
  | vr {α : Type} (k : Kd) (e : Ec α) (x : α)
def PtM : Pt → Option D → Prop
  | .no, _ => True
  | .vr k e x, o => ∃ d, o = some d ∧ Rp k e x d
def Mt : List Pt → Env → Prop
  | [], [] => True
  | p :: π, o :: σ => PtM p o ∧ Mt π σ
  | _, _ => False
def Kd.dg : Kd → Kd
  | .pl => .pl
  | _ => .any
def Kd.fr : Kd → Kd
  | .pl => .pl
  | _ => .fro
def Pt.dg : Pt → Pt
  | .no => .no
  | .vr k e x => .vr k.dg e x
def Pt.fr : Pt → Pt
  | .no => .no
  | .vr k e x => .vr k.fr e x
/-- the mask's slots alone; its slots perhaps frozen -/
def restrP : List Bool → List Pt → List Pt
  | [], π => π.map fun _ => .no
  | _, [] => []
  | b :: bs, p :: π => (if b = true then p else .no) :: restrP bs π
def frzP : List Bool → List Pt → List Pt
  | [], π => π
  | _, [] => []
  | b :: bs, p :: π => (if b = true then p.dg else p) :: frzP bs π
def fzP (π : List Pt) : List Pt := π.map Pt.fr
section
variable {α : Type} {k : Kd} {e : Ec α} {x : α} {π π' : List Pt} {σ : Env} {d : D}
theorem Mt.len : ∀ {π : List Pt} {σ : Env}, Mt π σ → σ.length = π.length
  | [], [], _ => rfl
  | _ :: _, _ :: _, h => congrArg (· + 1) (Mt.len h.2)
  | [], _ :: _, h => h.elim
  | _ :: _, [], h => h.elim
theorem Mt.get : ∀ {π : List Pt} {σ : Env} {i : Nat}, Mt π σ → π[i]? = some (.vr k e x) → ∃ d, σ[i]? = some (some d) ∧ Rp k e x d
  | [], [], i, _, h => by simp at h
  | p :: π, o :: σ, 0, m, h => by
    simp at h; subst h
    obtain ⟨d, rfl, r⟩ := m.1
    exact ⟨d, rfl, r⟩
  | p :: π, o :: σ, i + 1, m, h => by
    have := Mt.get (i := i) m.2 (by simpa using h)
    simpa using this
  | [], _ :: _, _, h, _ => h.elim
  | _ :: _, [], _, h, _ => h.elim
theorem Mt.set : ∀ {π : List Pt} {σ : Env} (i : Nat) {p : Pt} {o : Option D}, Mt π σ → PtM p o → Mt (π.set i p) (σ.set i o)
  | [], [], i, _, _, _, _ => trivial
  | _ :: _, _ :: _, 0, _, _, m, h => ⟨h, m.2⟩
  | _ :: _, _ :: _, i + 1, _, _, m, h => ⟨m.1, Mt.set i m.2 h⟩
  | [], _ :: _, _, _, _, h, _ => h.elim
  | _ :: _, [], _, _, _, h, _ => h.elim
theorem ptm_dg : ∀ {p : Pt} {o : Option D}, PtM p o → PtM p.dg o
  | .no, _, _ => trivial
  | .vr .pl _ _, _, h => h
  | .vr .any _ _, _, h => h
  | .vr .top _ _, _, ⟨d, e, r⟩ => ⟨d, e, r.any⟩
  | .vr .own _ _, _, ⟨d, e, r⟩ => ⟨d, e, r.any⟩
  | .vr .fro _ _, _, ⟨d, e, r⟩ => ⟨d, e, r.any⟩
theorem rp_fr {α : Type} {e : Ec α} {x : α} {d : D} : ∀ {k : Kd}, Rp k e x d → Rp k.fr e x (fz d)
  | .pl, h => by rw [plain_fz _ h.2]; exact h
  | .any, h => h.fz
  | .top, h => h.fz
  | .own, h => h.fz
  | .fro, h => h.fz
theorem rp_dgfz {α : Type} {e : Ec α} {x : α} {d : D} : ∀ {k : Kd}, Rp k e x d → Rp k.dg e x (fz d)
  | .pl, h => by rw [plain_fz _ h.2]; exact h
  | .any, h => h.fz.any
  | .top, h => h.fz.any
  | .own, h => h.fz.any
  | .fro, h => h.fz.any
theorem ptm_fz : ∀ {p : Pt} {o : Option D}, PtM p o → PtM p.fr (o.map fz)
  | .no, _, _ => trivial
  | .vr k _ _, _, ⟨d, rfl, r⟩ => ⟨fz d, rfl, rp_fr r⟩
theorem ptm_dgfz : ∀ {p : Pt} {o : Option D}, PtM p o → PtM p.dg (o.map fz)
  | .no, _, _ => trivial
  | .vr k _ _, _, ⟨d, rfl, r⟩ => ⟨fz d, rfl, rp_dgfz r⟩
theorem Mt.nos : ∀ {π : List Pt} {σ : Env}, Mt π σ → Mt (π.map fun _ => .no) (σ.map fun _ => none)
  | [], [], _ => trivial
  | _ :: _, _ :: _, h => ⟨trivial, Mt.nos h.2⟩
  | [], _ :: _, h => h.elim
  | _ :: _, [], h => h.elim
theorem Mt.nos' : ∀ {π : List Pt} {σ : Env}, Mt π σ → Mt (π.map fun _ => .no) σ
  | [], [], _ => trivial
  | _ :: _, _ :: _, h => ⟨trivial, Mt.nos' h.2⟩
  | [], _ :: _, h => h.elim
  | _ :: _, [], h => h.elim
/-- under the mask: in the slots as they are, and in the mask's alone -/
theorem Mt.restr : ∀ {bs : List Bool} {π : List Pt} {σ : Env}, Mt π σ → Mt (restrP bs π) (restr bs σ)
  | [], _, _, h => h.nos
  | b :: bs, [], [], _ => trivial
  | true :: bs, p :: π, o :: σ, h => ⟨h.1, Mt.restr h.2⟩
  | false :: bs, p :: π, o :: σ, h => ⟨trivial, Mt.restr h.2⟩
  | _ :: _, [], _ :: _, h => h.elim
  | _ :: _, _ :: _, [], h => h.elim
theorem Mt.restr' : ∀ {bs : List Bool} {π : List Pt} {σ : Env}, Mt π σ → Mt (restrP bs π) σ
  | [], _, _, h => h.nos'
  | b :: bs, [], [], _ => trivial
  | true :: bs, p :: π, o :: σ, h => ⟨h.1, Mt.restr' h.2⟩
  | false :: bs, p :: π, o :: σ, h => ⟨trivial, Mt.restr' h.2⟩
  | _ :: _, [], _ :: _, h => h.elim
  | _ :: _, _ :: _, [], h => h.elim
theorem Mt.frz : ∀ {bs : List Bool} {π : List Pt} {σ : Env}, Mt π σ → Mt (frzP bs π) (frzE bs σ)
  | [], _, _, h => h
  | b :: bs, [], [], _ => trivial
  | true :: bs, p :: π, o :: σ, h => ⟨ptm_dgfz h.1, Mt.frz h.2⟩
  | false :: bs, p :: π, o :: σ, h => ⟨h.1, Mt.frz h.2⟩
  | _ :: _, [], _ :: _, h => h.elim
  | _ :: _, _ :: _, [], h => h.elim
theorem Mt.frz' : ∀ {bs : List Bool} {π : List Pt} {σ : Env}, Mt π σ → Mt (frzP bs π) σ
  | [], _, _, h => h
  | b :: bs, [], [], _ => trivial
  | true :: bs, p :: π, o :: σ, h => ⟨ptm_dg h.1, Mt.frz' h.2⟩
  | false :: bs, p :: π, o :: σ, h => ⟨h.1, Mt.frz' h.2⟩
  | _ :: _, [], _ :: _, h => h.elim
  | _ :: _, _ :: _, [], h => h.elim
theorem Mt.fzE : ∀ {π : List Pt} {σ : Env}, Mt π σ → Mt (fzP π) (fzE σ)
  | [], [], _ => trivial
  | _ :: _, _ :: _, h => ⟨ptm_fz h.1, Mt.fzE h.2⟩
  | [], _ :: _, h => h.elim
  | _ :: _, [], h => h.elim
end
/-- of less -/
def Wk (π π' : List Pt) : Prop := ∀ σ, Mt π σ → Mt π' σ
section
variable {α : Type} {k : Kd} {e : Ec α} {x : α} {p : Pt} {π π' : List Pt}
theorem wk_nil : Wk [] [] := fun _ h => h
theorem wk_no (h : Wk π π') : Wk (p :: π) (.no :: π') := fun σ m => match σ, m with
  | _ :: σ, m => ⟨trivial, h σ m.2⟩
  | [], m => m.elim
theorem wk_eq (h : Wk π π') : Wk (p :: π) (p :: π') := fun σ m => match σ, m with
  | _ :: σ, m => ⟨m.1, h σ m.2⟩
  | [], m => m.elim
end
/-! ### expressions -/
def Rf {α : Type} (k : Kd) (e : Ec α) : R α → R D → Prop
  | .ok x s, r => ∃ d, r = .ok d s ∧ Rp k e x d
  | .ex x s, r => r = .ex x s
  | .bad, _ => True
def TE {α : Type} (π : List Pt) (m : M) (k : Kd) (e : Ec α) (t : G α) : Prop := ∀ σ s, Mt π σ → Rf k e (t s) (m σ s)
def TP {α : Type} (π : List Pt) (m : M) (k : Kd) (e : Ec α) (x : α) : Prop := ∀ σ s, Mt π σ → ∃ d, m σ s = .ok d s ∧ Rp k e x d
def RfB : R Bool → R Bool → Prop
  | .bad, _ => True
  | a, b => b = a
def TC (π : List Pt) (t : T) (g : G Bool) : Prop := ∀ σ s, Mt π σ → RfB (g s) (t σ s)
def TA {α : Type} (π : List Pt) (ms : List M) (K : List D → Sto → R D) (k : Kd) (e : Ec α) (t : G α) : Prop := ∀ σ s, Mt π σ → Rf k e (t s) ((mArgs ms σ s).bind K)
section
variable {α β γ : Type} {π : List Pt} {m ma mb mc : M} {ms : List M} {k ka kb kc : Kd} {e : Ec α} {ea : Ec β} {eb : Ec γ} {x : α} {t : G α} {K : List D → Sto → R D} {c : T}
theorem Rf.bind {tb : G β} {r : R D} {f : β → G α} {h : D → Sto → R D} {s : Sto} (a : Rf ka ea (tb s) r) (b : ∀ y d s, Rp ka ea y d → Rf k e (f y s) (h d s)) : Rf k e (bd tb f s) (r.bind h) := by
  unfold bd
  cases q : tb s with
  | ok y s1 =>
    rw [q] at a
    obtain ⟨d, rfl, r⟩ := a
    exact b y d s1 r
  | ex z s1 => rw [q] at a; cases a; exact rfl
  | bad => trivial
theorem TP.te (h : TP π m k e x) : TE π m k e (pr x) := fun σ s M => h σ s M
theorem te_var (i : Nat) {k : Kd} {π : List Pt} {e : Ec α} {x : α} (h : π[i]? = some (.vr k e x) := by rfl) : TP π (mVar i) .fro e x := fun σ s M => by
  obtain ⟨d, q, r⟩ := M.get h
  exact ⟨fz d, by simp [q], r.fz⟩
theorem te_varP (i : Nat) {π : List Pt} {e : Ec α} {x : α} (h : π[i]? = some (.vr .pl e x) := by rfl) : TP π (mVar i) .pl e x := fun σ s M => by
  obtain ⟨d, q, r⟩ := M.get h
  exact ⟨fz d, by simp [q], rp_fr r⟩
theorem te_int {i : Int} : TP π (mC (.int i)) .pl eI i := fun σ s M => ⟨_, rfl, rfl, rfl⟩
theorem te_bl {i : Bool} : TP π (mC (.bl i)) .pl eB i := fun σ s M => ⟨_, rfl, rfl, rfl⟩
theorem te_str {i : Str} : TP π (mC (.str i)) .pl eS i := fun σ s M => ⟨_, rfl, rfl, rfl⟩
theorem te_none : TP π (mC .non) .fro (eO e) none := fun σ s M => ⟨_, rfl, rfl, rfl⟩
theorem TP.any (h : TP π m k e x) : TP π m .any e x := fun σ s M => let ⟨d, q, r⟩ := h σ s M; ⟨d, q, r.any⟩
theorem TP.plain [Pn e] (h : TP π m k e x) : TP π m .pl e x := fun σ s M => let ⟨d, q, r⟩ := h σ s M; ⟨d, q, r.plain⟩
theorem TP.own (h : TP π m .pl e x) : TP π m .own e x := fun σ s M => let ⟨d, q, r⟩ := h σ s M; ⟨d, q, r.plO⟩
theorem Rf.mono {k' : Kd} {a : R α} {r : R D} (h : Rf k e a r) (q : ∀ x d, Rp k e x d → Rp k' e x d) : Rf k' e a r := by
  cases a with
  | ok x s => obtain ⟨d, h1, h2⟩ := h; exact ⟨d, h1, q _ _ h2⟩
  | ex x s => exact h
  | bad => trivial
theorem TE.any (h : TE π m k e t) : TE π m .any e t := fun σ s M => (h σ s M).mono fun _ _ r => r.any
theorem TE.plain [Pn e] (h : TE π m k e t) : TE π m .pl e t := fun σ s M => (h σ s M).mono fun _ _ r => r.plain
theorem TE.own (h : TE π m .pl e t) : TE π m .own e t := fun σ s M => (h σ s M).mono fun _ _ r => r.plO
theorem TE.top {e : Ec β} {t : G (List β)} (h : TE π m .own (eL e) t) : TE π m .top (eL e) t := fun σ s M => (h σ s M).mono fun _ _ r => r.ownT
/-- something that may be none -/
theorem rp_some {d : D} (h : Rp k e x d) : Rp .any (eO e) (some x) d := ⟨h.1, trivial⟩
theorem TP.some (h : TP π m k e x) : TP π m .any (eO e) (some x) := fun σ s M => let ⟨d, q, r⟩ := h σ s M; ⟨d, q, rp_some r⟩
theorem TE.some (h : TE π m k e t) : TE π m .any (eO e) (bd t fun x => pr (some x)) := fun σ s M => by
  have := h σ s M
  unfold bd
  cases q : t s with
  | ok x s1 => rw [q] at this; obtain ⟨d, h1, h2⟩ := this; exact ⟨d, h1, rp_some h2⟩
  | ex x s1 => rw [q] at this; exact this
  | bad => trivial
/-- data as a tree -/
theorem rp_x {d : D} (h : Rp k e x d) : Rp .any eX (e.f x) d := ⟨by show _ = fz (e.f x); rw [e.h]; exact h.1, trivial⟩
theorem TP.asX (h : TP π m k e x) : TP π m .any eX (e.f x) := fun σ s M => let ⟨d, q, r⟩ := h σ s M; ⟨d, q, rp_x r⟩
theorem TE.asX (h : TE π m k e t) : TE π m .any eX (bd t fun x => pr (e.f x)) := fun σ s M => by
  have := h σ s M
  unfold bd
  cases q : t s with
  | ok x s1 => rw [q] at this; obtain ⟨d, h1, h2⟩ := this; exact ⟨d, h1, rp_x h2⟩
  | ex x s1 => rw [q] at this; exact this
  | bad => trivial
/-! ### arguments -/
theorem ta_nil (h : ∀ s, Rf k e (t s) (K [] s)) : TA π [] K k e t := fun σ s M => h s
theorem ta_P {y : β} (h : TP π m ka ea y) (q : ∀ d, Rp ka ea y d → TA π ms (fun ds => K (d :: ds)) k e t) : TA π (m :: ms) K k e t := fun σ s M => by
  obtain ⟨d, h1, h2⟩ := h σ s M
  have := q d h2 σ s M
  simp only [mArgs, h1, R.bind_ok]
  cases z : mArgs ms σ s with
  | ok ds s1 => rw [z] at this; exact this
  | ex x s1 => rw [z] at this; exact this
  | bad => rw [z] at this; exact this
theorem ta_E {tb : G β} {f : β → G α} (h : TE π m ka ea tb) (q : ∀ y d, Rp ka ea y d → TA π ms (fun ds => K (d :: ds)) k e (f y)) : TA π (m :: ms) K k e (bd tb f) := fun σ s M => by
  have h := h σ s M
  unfold bd
  cases z : tb s with
  | ok y s1 =>
    rw [z] at h
    obtain ⟨d, h1, h2⟩ := h
    have := q y d h2 σ s1 M
    simp only [mArgs, h1, R.bind_ok]
    show Rf k e (f y s1) _
    cases z : mArgs ms σ s1 with
    | ok ds s1 => rw [z] at this; exact this
    | ex x s1 => rw [z] at this; exact this
    | bad => rw [z] at this; exact this
  | ex x s1 =>
    rw [z] at h
    have h : m σ s = .ex x s1 := h
    simp only [mArgs, h, R.bind_ex]; exact rfl
  | bad => trivial
theorem te_op {g : Sto → List D → Option D} (h : TA π ms (fun ds s => R.of (g s ds) s) k e t) : TE π (mOp g ms) k e t := fun σ s M => h σ s M
theorem te_call {f : Fn} (h : TA π ms f k e t) : TE π (mCall f ms) k e t := fun σ s M => h σ s M
/-- pure ones: by what the machine's operation gives -/
def OkP {α : Type} (g : Sto → List D → Option D) (ds : List D) (k : Kd) (e : Ec α) (x : α) : Prop := ∀ s, ∃ d, g s ds = some d ∧ Rp k e x d
theorem ok_p {g : Sto → List D → Option D} {ds : List D} (h : OkP g ds k e x) : ∀ s, Rf k e (pr x s) (R.of (g s ds) s) := fun s => by
  obtain ⟨d, e1, r⟩ := h s
  exact ⟨d, by rw [e1]; rfl, r⟩
end
end Zm
set_option linter.all false
set_option autoImplicit false
set_option maxRecDepth 100000
/-! TL2: tests, what is walked, lists made of lists, statements, functions. -/
namespace Zm
open PySem
/-! ### tests and what hangs on them -/
def orG (a b : G Bool) : G Bool := bd a fun z => if z = true then pr true else b
section
variable {α β γ : Type} {π : List Pt} {m ma mb mc : M} {ms : List M} {k ka kb kc : Kd} {e : Ec α} {ea : Ec β} {eb : Ec γ} {x : α} {t ta tb : G α} {b b' : Bool} {c c' : T} {g g' : G Bool}
theorem RfB.bind {tb : G Bool} {r : R Bool} {f : Bool → G Bool} {h : Bool → Sto → R Bool} {s : Sto} (a : RfB (tb s) r) (b : ∀ y s, RfB (f y s) (h y s)) : RfB (bd tb f s) (r.bind h) := by
  unfold bd
  cases q : tb s with
  | ok y s1 => rw [q] at a; cases a; exact b y s1
  | ex z s1 => rw [q] at a; cases a; exact rfl
  | bad => trivial
theorem tc_V (h : TE π m k eB g) : TC π (tV m) g := fun σ s M => by
  have := h σ s M
  unfold tV
  cases q : g s with
  | ok y s1 => rw [q] at this; obtain ⟨d, e1, r⟩ := this; rw [e1, r.bl]; exact rfl
  | ex z s1 => rw [q] at this; have this : m σ s = _ := this; rw [this]; exact rfl
  | bad => trivial
theorem tc_or (h : TC π c g) (h' : TC π c' g') : TC π (tOr c c') (orG g g') := fun σ s M => (h σ s M).bind fun y s => by
  cases y
  · exact h' σ s M
  · exact rfl
end
/-! ### what is walked -/
def RfS {α : Type} (e : Ec α) : R (List α) → R (List D) → Prop
  | .ok xs s, r => r = .ok (xs.map e.f) s
  | .ex x s, r => r = .ex x s
  | .bad, _ => True
def TI {α : Type} (π : List Pt) (src : Src) (e : Ec α) (t : G (List α)) : Prop := ∀ σ s, Mt π σ → RfS e (t s) (src σ s)
def TIp {α : Type} (π : List Pt) (src : Src) (e : Ec α) (xs : List α) : Prop := ∀ σ s, Mt π σ → src σ s = .ok (xs.map e.f) s
def irg (n : Nat) : List Int := (List.range n).map fun (i : Nat) => (i : Int)
def irg2 (a : Int) (n : Nat) : List Int := (List.range n).map fun (i : Nat) => a + (i : Int)
def irgD (a : Int) (n : Nat) : List Int := (List.range n).map fun (i : Nat) => a - (i : Int)
@[irreducible] def rangeT (j : Int) : G (List Int) := fun s => if big j = true then .ok (irg j.toNat) s else .bad
@[irreducible] def rangeT2 (i j : Int) : G (List Int) := fun s => if big i = true ∧ big j = true then .ok (irg2 i (j - i).toNat) s else .bad
@[irreducible] def rangeT3 (i j : Int) : G (List Int) := fun s => if big i = true ∧ big j = true then .ok (irgD i (i - j).toNat) s else .bad
def zipT3 {α β γ : Type} : List α → List β → List γ → List (α × β × γ)
  | x :: xs, y :: ys, z :: zs => (x, y, z) :: zipT3 xs ys zs
  | _, _, _ => []
section
variable {α β γ : Type} {π : List Pt} {m ma mb mc : M} {k ka kb kc : Kd} {e : Ec α} {ea : Ec β} {eb : Ec γ}
theorem items_lst {xs : List α} {d : D} (h : Rp k (eL e) xs d) : itemsOf d = some (xs.map e.f) := by
  obtain ⟨o, ds, rfl, q⟩ := h.lst
  exact congrArg some q
/-- what is gone through, of whatever kind -/
def TIt {α : Type} (π : List Pt) (m : M) (e : Ec α) (xs : List α) : Prop := ∀ σ s, Mt π σ → ∃ d, m σ s = .ok d s ∧ itemsOf d = some (xs.map e.f)
def RfI {α : Type} (e : Ec α) : R (List α) → R D → Prop
  | .ok xs s, r => ∃ d, r = .ok d s ∧ itemsOf d = some (xs.map e.f)
  | .ex x s, r => r = .ex x s
  | .bad, _ => True
def TItE {α : Type} (π : List Pt) (m : M) (e : Ec α) (t : G (List α)) : Prop := ∀ σ s, Mt π σ → RfI e (t s) (m σ s)
theorem it_L {xs : List α} (h : TP π m k (eL e) xs) : TIt π m e xs := fun σ s M => let ⟨d, h1, r⟩ := h σ s M; ⟨d, h1, items_lst r⟩
theorem TIt.te {xs : List α} (h : TIt π m e xs) : TItE π m e (pr xs) := fun σ s M => h σ s M
theorem no_str {d : D} {xs : List D} (h : itemsOf d = some xs) : ∀ z, d ≠ .str z := fun z e => by rw [e] at h; cases h
theorem tip_seq {xs : List α} (h : TIt π m e xs) : TIp π (iSeq m) e xs := fun σ s M => by
  obtain ⟨d, e1, this⟩ := h σ s M
  have ns := no_str this
  simp only [iSeq, e1, R.bind_ok]
  cases d with
  | str z => exact (ns z rfl).elim
  | _ => simp only [this, R.of_some]
theorem ti_r1 {t : G Int} (h : TE π m k eI t) : TI π (iR1 [m]) eI (bd t rangeT) := fun σ s M => by
  have h := h σ s M
  unfold bd
  cases q : t s with
  | bad => trivial
  | ex x s1 => rw [q] at h; have h : m σ s = .ex x s1 := h; simp only [iR1, mArgs, h, R.bind_ex]; exact rfl
  | ok x s1 =>
    rw [q] at h
    obtain ⟨d, e1, r⟩ := h
    simp only [iR1, mArgs, e1, R.bind_ok, r.int, rangeT]
    split
    · simp [RfS, rng, irg, eI]
    · trivial
theorem ti_r1p {x : Int} (h : TP π m k eI x) : TI π (iR1 [m]) eI (rangeT x) := ti_r1 h.te
/-! ### targets -/
def TB {α : Type} (tg : Tg) (e : Ec α) (x : α) (π π1 : List Pt) : Prop := ∀ σ, Mt π σ → ∃ σ1, tg.bind (e.f x) σ = some σ1 ∧ Mt π1 σ1
theorem tb_nm {i : Nat} {x : α} (hi' : Nat.blt i π.length = true := by rfl) : TB (.nm i) e x π (π.set i (.vr .fro e x)) := fun σ M => by
  have hl := M.len
  have hi := Nat.le_of_ble_eq_true hi'
  exact ⟨σ.set i (some (e.f x)), by unfold Tg.bind; rw [if_pos (by omega)], M.set i ⟨_, rfl, Rp.self e x⟩⟩
theorem tb_nmP {i : Nat} {x : α} [Pn e] (hi' : Nat.blt i π.length = true := by rfl) : TB (.nm i) e x π (π.set i (.vr .pl e x)) := fun σ M => by
  have hl := M.len
  have hi := Nat.le_of_ble_eq_true hi'
  exact ⟨σ.set i (some (e.f x)), by unfold Tg.bind; rw [if_pos (by omega)], M.set i ⟨_, rfl, Rp.selfP e x⟩⟩
end
/-! ### lists made of lists -/
@[irreducible] def mapT {α β : Type} (xs : List α) (f : α → β) : G (List β) := fun s => if xs.length ≤ sizeLine then .ok (xs.map f) s else .bad
@[irreducible] def filT {α β : Type} (xs : List α) (c : α → Bool) (f : α → β) : G (List β) := fun s => if xs.length ≤ sizeLine then .ok ((xs.filter c).map f) s else .bad
section
variable {α β γ : Type} {π : List Pt} {m : M} {k kb : Kd} {e : Ec α} {eb : Ec β} {src : Src} {tg : Tg} {vs : List Nat} {t : T} {c : α → G Bool} {f : α → G β}
end
end Zm
set_option linter.all false
set_option autoImplicit false
set_option maxRecDepth 100000
/-! TL3: statements, functions. -/
namespace Zm
open PySem
inductive RB (τ ρ : Type) where
  | nx (v : τ) (s : Sto) | rt (r : ρ) (s : Sto) | bk (v : τ) (s : Sto) | ct (v : τ) (s : Sto) | ex (x : Xc) (s : Sto) | bad
abbrev B (τ ρ : Type) := Sto → RB τ ρ
def nxB {τ ρ : Type} (v : τ) : B τ ρ := fun s => .nx v s
def rtB {τ ρ : Type} (r : ρ) : B τ ρ := fun s => .rt r s
def badB {τ ρ : Type} : B τ ρ := fun _ => .bad
/-- an expression, and what follows -/
def eb {α τ ρ : Type} (t : G α) (k : α → B τ ρ) : B τ ρ := fun s => match t s with
  | .ok x s' => k x s'
  | .ex x s' => .ex x s'
  | .bad => .bad
/-- what is known, given a name -/
def lt {α τ ρ : Type} (x : α) (k : α → B τ ρ) : B τ ρ := k x
/-- one block, and what follows -/
def sq {τ τ' ρ : Type} (a : B τ ρ) (k : τ → B τ' ρ) : B τ' ρ := fun s => match a s with
  | .nx v s' => k v s'
  | .rt r s' => .rt r s'
  | .ex x s' => .ex x s'
  | _ => .bad
def ifB {τ ρ : Type} (c : G Bool) (a b : B τ ρ) : B τ ρ := eb c fun z => if z = true then a else b
def forT {α τ ρ : Type} (f : α → τ → B τ ρ) : List α → τ → B τ ρ
  | [], v, s => .nx v s
  | x :: xs, v, s => match f x v s with
    | .nx v s => forT f xs v s
    | .ct v s => forT f xs v s
    | .bk v s => .nx v s
    | .rt r s => .rt r s
    | .ex x s => .ex x s
    | .bad => .bad
def fnT {τ ρ : Type} (b : B τ ρ) : G ρ := fun s => match b s with
  | .rt r s => .ok r s
  | .ex x s => .ex x s
  | _ => .bad
def Rs {τ ρ : Type} (π' : τ → List Pt) (k : Kd) (e : Ec ρ) : RB τ ρ → RS → Prop
  | .nx v s, r => ∃ σ, r = .nx σ s ∧ Mt (π' v) σ
  | .rt x s, r => ∃ d, r = .rt d s ∧ Rp k e x d
  | .bk v s, r => ∃ σ, r = .bk σ s ∧ Mt (π' v) σ
  | .ct v s, r => ∃ σ, r = .ct σ s ∧ Mt (π' v) σ
  | .ex x s, r => ∃ σ, r = .ex x σ s
  | .bad, _ => True
def TS {τ ρ : Type} (π : List Pt) (m : MS) (π' : τ → List Pt) (k : Kd) (e : Ec ρ) (t : B τ ρ) : Prop := ∀ σ s, Mt π σ → Rs π' k e (t s) (m σ s)
section
variable {α β γ τ τ' τ1 ρ : Type} {π π1 : List Pt} {m ma mb : M} {ms : List M} {a b rest : MS} {k ka kb kc kr : Kd} {e : Ec α} {ea : Ec β} {eb' : Ec γ} {er : Ec ρ} {x : α} {t : G α} {π' : τ → List Pt} {i j : Nat} {msk : List Bool} {c : T} {g : G Bool} {cb : Bool} {tr : B τ ρ}
theorem ts_one (h : TS π (mSeq a mNil) π' kr er tr) : TS π a π' kr er tr := fun σ s M => by
  have := h σ s M
  have e : mSeq a mNil σ s = a σ s := by
    unfold mSeq
    cases a σ s <;> rfl
  rw [e] at this; exact this
theorem ts_nil {v : τ} (w : Wk π (π' v)) : TS π mNil π' kr er (nxB v) := fun σ s M => ⟨σ, rfl, w σ M⟩
theorem Rs.eb {t : G α} {q : α → B τ ρ} {r : R D} {σ : Env} {s : Sto} {h : D → Sto → RS} (a : Rf k e (t s) r) (b : ∀ x d s, Rp k e x d → Rs π' kr er (q x s) (h d s)) : Rs π' kr er (eb t q s) (r.to σ h) := by
  unfold Zm.eb
  cases z : t s with
  | bad => trivial
  | ex x s1 => rw [z] at a; have a : r = .ex x s1 := a; rw [a]; exact ⟨σ, rfl⟩
  | ok x s1 => rw [z] at a; obtain ⟨d, rfl, h2⟩ := a; exact b x d s1 h2
theorem ts_retP {x : ρ} (h : TP π m kr er x) : TS π (mSeq (mRet m) rest) π' kr er (rtB x) := fun σ s M => by
  obtain ⟨d, h1, h2⟩ := h σ s M
  simp only [mSeq, mRet, h1, R.to_ok, RS.then_rt]
  exact ⟨d, rfl, h2⟩
/-! assignments -/
theorem ts_setE {q : α → B τ ρ} (h : TE π m .own e t) (n : ∀ x, TS (π.set i (.vr .own e x)) rest π' kr er (q x)) (hi' : Nat.blt i π.length = true := by rfl) : TS π (mSeq (mSetD msk i m) rest) π' kr er (eb t q) := fun σ s M => by
  have hl := M.len
  have hi := Nat.le_of_ble_eq_true hi'
  have h := h σ s M
  unfold Zm.eb
  cases z : t s with
  | bad => trivial
  | ex x s1 => rw [z] at h; have h : m σ s = .ex x s1 := h; simp only [mSeq, mSetD, h, R.to_ex, RS.then_ex]; exact ⟨σ, rfl⟩
  | ok x s1 =>
    rw [z] at h; obtain ⟨d, h1, h2⟩ := h
    simp only [mSeq, mSetD, h1, R.to_ok]
    rw [if_pos h2.2, if_pos (by omega)]
    exact n x _ s1 (M.set i ⟨d, rfl, h2⟩)
theorem ts_setPlE {q : α → B τ ρ} (h : TE π m .pl e t) (n : ∀ x, TS (π.set i (.vr .pl e x)) rest π' kr er (q x)) (hi' : Nat.blt i π.length = true := by rfl) : TS π (mSeq (mSetD msk i m) rest) π' kr er (eb t q) := fun σ s M => by
  have hl := M.len
  have hi := Nat.le_of_ble_eq_true hi'
  have h := h σ s M
  unfold Zm.eb
  cases z : t s with
  | bad => trivial
  | ex x s1 => rw [z] at h; have h : m σ s = .ex x s1 := h; simp only [mSeq, mSetD, h, R.to_ex, RS.then_ex]; exact ⟨σ, rfl⟩
  | ok x s1 =>
    rw [z] at h; obtain ⟨d, h1, h2⟩ := h
    simp only [mSeq, mSetD, h1, R.to_ok]
    rw [if_pos (plain_noF _ h2.2), if_pos (by omega)]
    exact n x _ s1 (M.set i ⟨d, rfl, h2⟩)
theorem ts_setAE {q : α → B τ ρ} (h : TE (restrP msk π) m k e t) (n : ∀ x, TS ((frzP msk π).set i (.vr .any e x)) rest π' kr er (q x)) (hi' : Nat.blt i π.length = true := by rfl) : TS π (mSeq (mSetD msk i m) rest) π' kr er (eb t q) := fun σ s M => by
  have hl := M.len
  have hi := Nat.le_of_ble_eq_true hi'
  have h1 := h σ s M.restr'
  have h2 := h _ s (M.restr (bs := msk))
  unfold Zm.eb
  cases z : t s with
  | bad => trivial
  | ex x s1 => rw [z] at h1; have h1 : m σ s = .ex x s1 := h1; simp only [mSeq, mSetD, h1, R.to_ex, RS.then_ex]; exact ⟨σ, rfl⟩
  | ok x s1 =>
    rw [z] at h1 h2; obtain ⟨d, h1, r1⟩ := h1; obtain ⟨d2, h2, r2⟩ := h2
    simp only [mSeq, mSetD, h1, R.to_ok]
    by_cases hn : noF d = true
    · rw [if_pos hn, if_pos (by omega)]
      exact n x _ s1 (M.frz'.set i ⟨d, rfl, r1.any⟩)
    · rw [if_neg hn]
      simp only [mSetF, h2, R.to_ok]
      rw [if_pos (by omega)]
      exact n x _ s1 (M.frz.set i ⟨_, rfl, r2.fz.any⟩)
theorem ts_setP {q : α → B τ ρ} (h : TP π m .own e x) (n : ∀ x, TS (π.set i (.vr .own e x)) rest π' kr er (q x)) (hi' : Nat.blt i π.length = true := by rfl) : TS π (mSeq (mSetD msk i m) rest) π' kr er (lt x q) := ts_setE h.te n hi'
theorem ts_setAP {q : α → B τ ρ} (h : TP (restrP msk π) m k e x) (n : ∀ x, TS ((frzP msk π).set i (.vr .any e x)) rest π' kr er (q x)) (hi' : Nat.blt i π.length = true := by rfl) : TS π (mSeq (mSetD msk i m) rest) π' kr er (lt x q) := ts_setAE h.te n hi'
/-! a, b = .., .. -/
/-! ifs: what follows is in both; or behind both -/
theorem seq_if {c : T} {a b rest : MS} {σ : Env} {s : Sto} : mSeq (mIf c a b) rest σ s = (c σ s).to σ fun z s' => if z = true then mSeq a rest σ s' else mSeq b rest σ s' := by
  simp only [mSeq, mIf]
  cases c σ s with
  | ok z s1 => simp only [R.to_ok]; split <;> rfl
  | ex x s1 => rfl
  | bad => rfl
theorem RfB.to {r : R Bool} {σ : Env} {s : Sto} {q : Bool → B τ ρ} {h : Bool → Sto → RS} (a : RfB (g s) r) (b : ∀ z s, Rs π' kr er (q z s) (h z s)) : Rs π' kr er (eb g q s) (r.to σ h) := by
  unfold Zm.eb
  cases z : g s with
  | bad => trivial
  | ex x s1 => rw [z] at a; have a : r = .ex x s1 := a; rw [a]; exact ⟨σ, rfl⟩
  | ok x s1 => rw [z] at a; have a : r = .ok x s1 := a; rw [a]; exact b x s1
theorem ts_ifD {u v : B τ ρ} (hc : TC π c g) (h1 : TS π (mSeq a rest) π' kr er u) (h2 : TS π (mSeq b rest) π' kr er v) : TS π (mSeq (mIf c a b) rest) π' kr er (ifB g u v) := fun σ s M => by
  rw [seq_if]
  exact (hc σ s M).to fun z s => by
    cases z
    · exact h2 σ s M
    · exact h1 σ s M
theorem ts_skip {u : B τ ρ} (h : TS π rest π' kr er u) : TS π (mSeq mNil rest) π' kr er u := fun σ s M => h σ s M
theorem Rs.sq {u : B τ ρ} {q : τ → B τ' ρ} {πq : τ' → List Pt} {r : RS} {s : Sto} (h : Rs π' kr er (u s) r) (n : ∀ v, TS (π' v) rest πq kr er (q v)) : Rs πq kr er (sq u q s) (r.then rest) := by
  unfold Zm.sq
  cases z : u s with
  | nx v s1 => rw [z] at h; obtain ⟨σ1, rfl, m1⟩ := h; exact n v σ1 s1 m1
  | rt r s1 => rw [z] at h; obtain ⟨d, rfl, m1⟩ := h; exact ⟨d, rfl, m1⟩
  | ex x s1 => rw [z] at h; obtain ⟨σ1, rfl⟩ := h; exact ⟨σ1, rfl⟩
  | bk v s1 => trivial
  | ct v s1 => trivial
  | bad => trivial
theorem ts_sq {u : B τ ρ} {q : τ → B τ' ρ} {πq : τ' → List Pt} (h : TS π a π' kr er u) (n : ∀ v, TS (π' v) rest πq kr er (q v)) : TS π (mSeq a rest) πq kr er (sq u q) := fun σ s M => (h σ s M).sq n
/-! loops -/
theorem for_core' {tg : Tg} {body : MS} {f : α → τ → B τ ρ} (h : ∀ x v, ∃ π1, TB tg e x (π' v) π1 ∧ TS π1 body π' kr er (f x v)) : ∀ (xs : List α) (v : τ) (σ : Env) (s : Sto), Mt (π' v) σ → Rs π' kr er (forT f xs v s) (forR tg body (xs.map e.f) σ s)
  | [], v, σ, s, M => ⟨σ, rfl, M⟩
  | x :: xs, v, σ, s, M => by
    obtain ⟨π1, hb, hs⟩ := h x v
    obtain ⟨σ1, e1, m1⟩ := hb σ M
    have := hs σ1 s m1
    rw [List.map_cons]
    unfold forT forR
    simp only [e1]
    cases z : f x v s with
    | nx v s1 => rw [z] at this; obtain ⟨σ2, e2, m2⟩ := this; simp only [e2]; exact for_core' h xs v σ2 s1 m2
    | ct v s1 => rw [z] at this; obtain ⟨σ2, e2, m2⟩ := this; simp only [e2]; exact for_core' h xs v σ2 s1 m2
    | bk v s1 => rw [z] at this; obtain ⟨σ2, e2, m2⟩ := this; simp only [e2]; exact ⟨σ2, rfl, m2⟩
    | rt r s1 => rw [z] at this; obtain ⟨d, e2, m2⟩ := this; simp only [e2]; exact ⟨d, rfl, m2⟩
    | ex y s1 => rw [z] at this; obtain ⟨σ2, e2⟩ := this; simp only [e2]; exact ⟨σ2, rfl⟩
    | bad => trivial
theorem ts_for {src : Src} {tg : Tg} {body : MS} {f : α → τ → B τ ρ} {xs : List α} {v0 : τ} (π0 : τ → List Pt) (hi : TIp (restrP msk π) src e xs) (w : Wk (frzP msk π) (π0 v0)) (h : ∀ x v, ∃ π1, TB tg e x (π0 v) π1 ∧ TS π1 body π0 kr er (f x v)) : TS π (mFor msk src tg body) π0 kr er (forT f xs v0) := fun σ s M => by
  simp only [mFor, hi _ s (M.restr (bs := msk)), R.to_ok]
  exact for_core' h xs v0 _ s (w _ M.frz)
theorem ts_forP {src : Src} {tg : Tg} {body : MS} {f : α → τ → B τ ρ} {ts : G (List α)} {v0 : τ} (π0 : τ → List Pt) (hi : TI π src e ts) (w : Wk π (π0 v0)) (h : ∀ x v, ∃ π1, TB tg e x (π0 v) π1 ∧ TS π1 body π0 kr er (f x v)) : TS π (mForP src tg body) π0 kr er (eb ts fun xs => forT f xs v0) := fun σ s M => by
  have hi := hi σ s M
  unfold Zm.eb
  cases z : ts s with
  | bad => trivial
  | ex x s1 => rw [z] at hi; have hi : src σ s = .ex x s1 := hi; simp only [mForP, hi, R.to_ex]; exact ⟨σ, rfl⟩
  | ok xs s1 =>
    rw [z] at hi; have hi : src σ s = .ok (xs.map e.f) s1 := hi
    simp only [mForP, hi, R.to_ok]
    exact for_core' h xs v0 _ s1 (w _ M)
/-! a list's own methods -/
theorem ts_upd {g : UG} {q : α → B τ ρ} {xs : List β} {k' : α → Option (List β)} (i : Nat) (hx : π[i]? = some (.vr .own (eL ea) xs)) (h : TE π m .own e t)
    (hg : ∀ x d ds, Rp .own e x d → fzs ds = xs.map ea.f → noFs ds = true → ∀ ys, k' x = some ys → ∃ ds', g ds [d] = some ds' ∧ fzs ds' = ys.map ea.f ∧ noFs ds' = true) (qb : α → B τ ρ) (n : ∀ x ys, k' x = some ys → TS (π.set i (.vr .own (eL ea) ys)) rest π' kr er (qb x)) (n0 : ∀ x, k' x = none → qb x = badB) :
    TS π (mSeq (mUpd g msk i [m]) rest) π' kr er (eb t qb) := fun σ s M => by
  have h := h σ s M
  obtain ⟨d0, e0, r0⟩ := M.get hx
  obtain ⟨ds, rfl, q1, q2⟩ := r0.lstO
  unfold Zm.eb
  cases z : t s with
  | bad => trivial
  | ex x s1 => rw [z] at h; have h : m σ s = .ex x s1 := h; simp only [mSeq, mUpd, e0, mArgs, h, R.bind_ex, R.to_ex, RS.then_ex]; exact ⟨σ, rfl⟩
  | ok x s1 =>
    rw [z] at h; obtain ⟨d, h1, r1⟩ := h
    simp only [mSeq, mUpd, e0, mArgs, h1, R.bind_ok, R.to_ok]
    rw [if_pos (by simp [r1.2])]
    cases hk : k' x with
    | none => rw [n0 x hk]; trivial
    | some ys =>
      obtain ⟨ds', g1, g2, g3⟩ := hg x d ds r1 q1 q2 ys hk
      simp only [g1, RS.then_nx]
      exact n x ys hk _ s1 (M.set i ⟨_, rfl, rp_own g2 g3⟩)
theorem fzs_app {xs : List β} {ds : List D} {x : β} {d : D} (h : fzs ds = xs.map ea.f) (r : fz d = ea.f x) : fzs (ds ++ [d]) = (xs ++ [x]).map ea.f := by
  rw [fzs_eq] at h ⊢; simp [h, r]
theorem noFs_app {ds es : List D} (h : noFs ds = true) (h' : noFs es = true) : noFs (ds ++ es) = true := by
  rw [noFs_iff] at h h' ⊢
  intro x hx
  rcases List.mem_append.mp hx with z | z
  · exact h x z
  · exact h' x z
/-- xs.append(x) -/
def apB {β τ ρ : Type} (xs : List β) (x : β) (k : List β → B τ ρ) : B τ ρ := fun s => if xs.length < sizeLine then k (xs ++ [x]) s else .bad
def apO {β : Type} (xs : List β) (x : β) : Option (List β) := if xs.length < sizeLine then some (xs ++ [x]) else none
theorem ts_appE {xs : List α} {q : List α → B τ ρ} (i : Nat) (h : TE π m .own e t) (n : ∀ ys, TS (π.set i (.vr .own (eL e) ys)) rest π' kr er (q ys)) (hx : π[i]? = some (.vr .own (eL e) xs) := by rfl) : TS π (mSeq (mUpd uApp msk i [m]) rest) π' kr er (eb t fun x => apB xs x q) := by
  refine ts_upd (q := fun _ => badB) (k' := apO xs) i hx h (fun x d ds r q1 q2 ys hk => ?_) _ (fun x ys hk => ?_) (fun x hk => ?_)
  · unfold apO at hk
    split at hk <;> simp at hk
    subst hk
    have := rp_len q1
    exact ⟨ds ++ [d], by unfold uApp; simp only []; rw [if_pos (by omega)], fzs_app q1 r.1, noFs_app q2 (by simp [r.2])⟩
  · unfold apO at hk
    split at hk <;> simp at hk
    subst hk
    intro σ s M
    have := n (xs ++ [x]) σ s M
    unfold apB; rw [if_pos ‹_›]; exact this
  · unfold apO at hk
    split at hk <;> simp at hk
    funext s
    unfold apB; rw [if_neg ‹_›]; rfl
theorem ts_appP {xs : List α} {q : List α → B τ ρ} (i : Nat) (h : TP π m .own e x) (n : ∀ ys, TS (π.set i (.vr .own (eL e) ys)) rest π' kr er (q ys)) (hx : π[i]? = some (.vr .own (eL e) xs) := by rfl) : TS π (mSeq (mUpd uApp msk i [m]) rest) π' kr er (apB xs x q) := ts_appE (t := pr x) i h.te n hx
end
/-! functions -/
section
variable {τ ρ : Type} {k : Kd} {er : Ec ρ} {π' : τ → List Pt} {body : MS}
def nosP (n : Nat) : List Pt := List.replicate n .no
theorem mt_nos : ∀ n : Nat, Mt (nosP n) (List.replicate n none)
  | 0 => trivial
  | n + 1 => ⟨trivial, mt_nos n⟩
theorem mt_cons {α : Type} {k : Kd} {e : Ec α} {x : α} {d : D} {π : List Pt} {σ : Env} (r : Rp k e x d) (h : Mt π σ) : Mt (.vr k e x :: π) (some d :: σ) := ⟨⟨d, rfl, r⟩, h⟩
theorem fn_ok {b : B τ ρ} {π : List Pt} {np ns : Nat} {ds : List D} {s : Sto} (hl : ds.length = np) (M : Mt π (ds.map some ++ List.replicate (ns - np) none)) (h : TS π body π' k er b) : Rf k er (fnT b s) (mkFn np ns body ds s) := by
  have := h _ s M
  unfold fnT mkFn
  rw [if_pos hl]
  cases z : b s with
  | nx v s1 => trivial
  | rt r s1 => rw [z] at this; obtain ⟨d, e1, r⟩ := this; rw [e1]; exact ⟨d, rfl, r⟩
  | ex x s1 => rw [z] at this; obtain ⟨σ1, e1⟩ := this; rw [e1]; exact rfl
  | bk v s1 => trivial
  | ct v s1 => trivial
  | bad => trivial
end
end Zm
set_option linter.all false
set_option autoImplicit false
set_option maxRecDepth 100000
/-! TL4: operations. -/
namespace Zm
open PySem
/-! ### pure arguments -/
def TPA {α : Type} (π : List Pt) (ms : List M) (K : Sto → List D → Option D) (k : Kd) (e : Ec α) (x : α) : Prop := ∀ σ s, Mt π σ → ∃ ds d, mArgs ms σ s = .ok ds s ∧ K s ds = some d ∧ Rp k e x d
section
variable {α β γ : Type} {π : List Pt} {m : M} {ms : List M} {k ka kb kc : Kd} {e : Ec α} {ea : Ec β} {eb : Ec γ} {x : α} {g : Sto → List D → Option D} {d d' : D} {ds : List D}
theorem pa_nil {K : Sto → List D → Option D} (h : ∀ s, ∃ d, K s [] = some d ∧ Rp k e x d) : TPA π [] K k e x := fun σ s M => let ⟨d, h1, h2⟩ := h s; ⟨[], d, rfl, h1, h2⟩
theorem pa {K : Sto → List D → Option D} {y : β} (h : TP π m ka ea y) (q : ∀ d, Rp ka ea y d → TPA π ms (fun s ds => K s (d :: ds)) k e x) : TPA π (m :: ms) K k e x := fun σ s M => by
  obtain ⟨d, e1, r1⟩ := h σ s M
  obtain ⟨ds, z, e2, e3, r⟩ := q d r1 σ s M
  exact ⟨d :: ds, z, by simp only [mArgs, e1, e2, R.bind_ok], e3, r⟩
theorem tp_op (h : TPA π ms g k e x) : TP π (mOp g ms) k e x := fun σ s M => by
  obtain ⟨ds, z, e2, e3, r⟩ := h σ s M
  exact ⟨z, by simp [e2, e3], r⟩
/-! ### numbers -/
theorem rpI (i : Int) : Rp .pl eI i (.int i) := ⟨rfl, rfl⟩
theorem rpB (i : Bool) : Rp .pl eB i (.bl i) := ⟨rfl, rfl⟩
theorem x_addI {x y : Int} (h : Rp ka eI x d) (h' : Rp kb eI y d') : OkP gAdd [d, d'] .pl eI (x + y) := fun s => ⟨_, by rw [h.int, h'.int]; rfl, rpI _⟩
theorem x_neg {x : Int} (h : Rp ka eI x d) : OkP gNeg [d] .pl eI (-x) := fun s => ⟨_, by rw [h.int]; rfl, rpI _⟩
theorem x_max2 {x y : Int} (h : Rp ka eI x d) (h' : Rp kb eI y d') : OkP gMax2 [d, d'] .pl eI (max x y) := fun s => ⟨_, by rw [h.int, h'.int]; rfl, by
  have : (if y > x then y else x) = max x y := by omega
  rw [this]; exact rpI _⟩
theorem x_min2 {x y : Int} (h : Rp ka eI x d) (h' : Rp kb eI y d') : OkP gMin2 [d, d'] .pl eI (min x y) := fun s => ⟨_, by rw [h.int, h'.int]; rfl, by
  have : (if y < x then y else x) = min x y := by omega
  rw [this]; exact rpI _⟩
@[irreducible] def mulT (x y : Int) : G Int := fun s => if sm x = true ∧ sm y = true then .ok (x * y) s else .bad
@[irreducible] def divT (x y : Int) : G Int := fun s => if 0 < y ∧ sm y = true then .ok (x / y) s else .bad
@[irreducible] def modT (x y : Int) : G Int := fun s => if 0 < y then .ok (x % y) s else .bad
@[irreducible] def powT (x y : Int) : G Int := fun s => if 0 ≤ y ∧ y ≤ 1000 ∧ sm x = true then .ok (x ^ y.toNat) s else .bad
/-- an operation that may fail -/
def OkE {α : Type} (g : Sto → List D → Option D) (ds : List D) (k : Kd) (e : Ec α) (t : G α) : Prop := ∀ s, Rf k e (t s) (R.of (g s ds) s)
theorem x_pow {x y : Int} (h : Rp ka eI x d) (h' : Rp kb eI y d') : OkE gPow [d, d'] .pl eI (powT x y) := fun s => by
  rw [h.int, h'.int]; simp only [powT, gPow]
  split
  · exact ⟨_, rfl, rpI _⟩
  · trivial
/-! ### displays -/
inductive RpL {α : Type} (k : Kd) (e : Ec α) : List α → List D → Prop
  | nil : RpL k e [] []
  | cons {x : α} {xs : List α} {d : D} {ds : List D} : Rp k e x d → RpL k e xs ds → RpL k e (x :: xs) (d :: ds)
theorem RpL.fzs {xs : List α} (h : RpL k e xs ds) : fzs ds = xs.map e.f := by
  induction h with
  | nil => rfl
  | cons r _ ih => rw [Zm.fzs, ih, r.1]; rfl
theorem RpL.noF {xs : List α} (h : RpL .own e xs ds) : noFs ds = true := by
  induction h with
  | nil => rfl
  | cons r _ ih => simp [ih, r.2]
theorem RpL.plO {xs : List α} (h : RpL .pl e xs ds) : RpL .own e xs ds := by
  induction h with
  | nil => exact .nil
  | cons r _ ih => exact .cons r.plO ih
theorem RpL.len {xs : List α} (h : RpL k e xs ds) : ds.length = xs.length := rp_len h.fzs
theorem le_sz {n : Nat} (h : Nat.ble n 1000 = true) : n ≤ sizeLine := Nat.le_trans (Nat.le_of_ble_eq_true h) (by decide)
theorem x_lstO {xs : List α} (h : RpL .own e xs ds) (hl : Nat.ble ds.length 1000 = true := by rfl) : OkP gLst ds .own (eL e) xs := fun s => ⟨_, by unfold Zm.gLst; rw [if_pos (le_sz hl)], rp_own h.fzs h.noF⟩
theorem x_lstP {xs : List α} (h : RpL .pl e xs ds) (hl : Nat.ble ds.length 1000 = true := by rfl) : OkP gLst ds .own (eL e) xs := x_lstO h.plO hl
theorem x_lstA {xs : List α} (h : RpL k e xs ds) (hl : Nat.ble ds.length 1000 = true := by rfl) : OkP gLst ds .top (eL e) xs := fun s => ⟨_, by unfold Zm.gLst; rw [if_pos (le_sz hl)], rp_top h.fzs⟩
theorem x_tup {xs : List α} (h : RpL k e xs ds) (hl : Nat.ble ds.length 1000 = true := by rfl) : OkP Zm.gTup ds .any (eT e) xs := fun s => ⟨_, by unfold Zm.gTup; rw [if_pos (le_sz hl)], rp_tup h.fzs⟩
theorem rp_pair {y : β} (h : Rp ka e x d) (h' : Rp kb ea y d') : Rp .any (eP e ea) (x, y) (.tup [d, d']) := ⟨by simp [eP, h.1, h'.1], trivial⟩
theorem x_pair {y : β} (h : Rp ka e x d) (h' : Rp kb ea y d') : OkP Zm.gTup [d, d'] .any (eP e ea) (x, y) := fun s => ⟨_, by unfold Zm.gTup; rw [if_pos (by show 2 ≤ sizeLine; decide)], rp_pair h h'⟩
/-! ### rows: length, places, slices, put together -/
theorem x_lenR {xs : List Int} (h : Rp ka eRo xs d) : OkP gLen [d] .pl eI (xs.length : Int) := fun s => by
  rw [h.ro]; exact ⟨_, rfl, rpI _⟩
@[irreducible] def ixT {α : Type} (xs : List α) (i : Int) : G α := fun s => match L2.atI xs i with
  | some x => .ok x s
  | none => .bad
def Kd.el : Kd → Kd
  | .top => .any
  | k => k
theorem atI_fzs {xs : List α} {ds : List D} (q : fzs ds = xs.map e.f) {i : Int} {x : α} (h : L2.atI xs i = some x) : ∃ d, L2.atI ds i = some d ∧ fz d = e.f x ∧ d ∈ ds := by
  have hl := rp_len q
  unfold L2.atI at h ⊢
  rw [hl]
  cases z : L2.ixN xs.length i with
  | none => rw [z] at h; cases h
  | some j =>
    rw [z] at h
    have h : xs[j]? = some x := h
    have hj := (List.getElem?_eq_some_iff.mp h).1
    refine ⟨ds[j]'(by omega), List.getElem?_eq_getElem (by omega), ?_, List.getElem_mem _⟩
    have := congrArg (fun l => l[j]?) q
    simp only [fzs_eq, List.getElem?_map, h, Option.map_some] at this
    rw [List.getElem?_eq_getElem (by omega)] at this
    simpa using this
theorem noFs_mem {ds : List D} {d : D} (h : noFs ds = true) (hd : d ∈ ds) : noF d = true := noFs_iff.mp h d hd
theorem mem_fro {xs : List α} {ds : List D} {d : D} (q : fzs ds = ds) (hd : d ∈ ds) : fz d = d := by
  rw [fzs_eq] at q
  obtain ⟨j, hj, rfl⟩ := List.getElem_of_mem hd
  have := congrArg (fun l => l[j]?) q
  simp only [List.getElem?_map, List.getElem?_eq_getElem hj] at this
  simpa using this
theorem rp_elL : ∀ {k : Kd} {xs : List α} {d : D} {i : Int} {x : α}, Rp k (eL e) xs d → L2.atI xs i = some x → ∀ s, ∃ z, gIx s [d, .int i] = some z ∧ Rp k.el e x z := fun {k xs d i x} h hx s => by
  obtain ⟨o, ds, rfl, q⟩ := h.lst
  obtain ⟨z, h1, h2, h3⟩ := atI_fzs q hx
  refine ⟨z, h1, h2, ?_⟩
  cases k with
  | any => trivial
  | top => trivial
  | own => have := h.2; simp only [noF, Bool.and_eq_true] at this; exact noFs_mem this.2 h3
  | fro =>
    have : D.lst o ds = .lst false (xs.map e.f) := h.2
    simp only [D.lst.injEq] at this
    have q2 : fzs ds = ds := by rw [q]; exact this.2.symm
    show z = e.f x
    rw [← h2, mem_fro (xs := xs) q2 h3]
  | pl => have := h.2; simp at this
theorem x_ixL {xs : List α} {i : Int} (h : Rp ka (eL e) xs d) (h' : Rp kb eI i d') : OkE gIx [d, d'] ka.el e (ixT xs i) := fun s => by
  unfold ixT
  cases z : L2.atI xs i with
  | none => trivial
  | some x => obtain ⟨w, h1, h2⟩ := rp_elL h z s; rw [h'.int, h1]; exact ⟨w, rfl, h2⟩
/-- one behind the other -/
@[irreducible] def catT {α : Type} (xs ys : List α) : G (List α) := fun s => if xs.length + ys.length ≤ sizeLine then .ok (xs ++ ys) s else .bad
theorem fzs_cat {xs ys : List α} {ds es : List D} (q : fzs ds = xs.map e.f) (q' : fzs es = ys.map e.f) : fzs (ds ++ es) = (xs ++ ys).map e.f := by
  rw [fzs_eq] at q q' ⊢; rw [List.map_append, q, q', List.map_append]
theorem x_catL {xs ys : List α} (h : Rp ka (eL e) xs d) (h' : Rp kb (eL e) ys d') : OkE gAdd [d, d'] .top (eL e) (catT xs ys) := fun s => by
  obtain ⟨o, ds, rfl, q⟩ := h.lst
  obtain ⟨o', ds', rfl, q'⟩ := h'.lst
  have h1 := rp_len q
  have h2 := rp_len q'
  unfold catT
  split
  · exact ⟨.lst true (ds ++ ds'), by simp only [gAdd]; rw [if_pos (by omega)]; rfl, rp_top (fzs_cat q q')⟩
  · trivial
@[irreducible] def catS (x y : Str) : G Str := fun s => if x.length + y.length ≤ sizeLine then .ok (x ++ y) s else .bad
theorem x_catS {x y : Str} (h : Rp ka eS x d) (h' : Rp kb eS y d') : OkE gAdd [d, d'] .pl eS (catS x y) := fun s => by
  rw [h.str, h'.str]; simp only [catS, gAdd]
  split
  · exact ⟨_, rfl, rfl, rfl⟩
  · trivial
/-- [x] * k, (..) * k -/
@[irreducible] def repT {α : Type} (x : α) (k : Int) : G (List α) := fun s => if 0 ≤ k ∧ k ≤ 1000 then .ok (List.replicate k.toNat x) s else .bad
@[irreducible] def repsT {α : Type} (xs : List α) (k : Int) : G (List α) := fun s => if k = 1 then .ok xs s else if xs ≠ [] ∧ 2 ≤ k ∧ k ≤ 1000 ∧ xs.length ≤ 1000 then .ok (List.replicate k.toNat xs).flatten s else .bad
theorem x_rep [Pn e] {x : α} {j : Int} (h : Rp ka (eL e) [x] d) (h' : Rp kb eI j d') : OkE gMul [d, d'] .own (eL e) (repT x j) := fun s => by
  obtain ⟨o, ds, rfl, q⟩ := h.lst
  have hl := rp_len q
  match ds, hl, q with
  | [z], _, q =>
    have q : fz z = e.f x := by simpa using q
    have pz : plain z = true := fz_plain _ (by rw [q]; exact Pn.p x)
    rw [h'.int]
    unfold repT
    simp only [gMul]
    split
    · rename_i hj
      rw [if_pos ⟨pz, hj⟩]
      have : fzs (List.replicate j.toNat z) = (List.replicate j.toNat x).map e.f := by rw [fzs_eq]; simp [q]
      exact ⟨_, rfl, rp_own this (noFs_pn this)⟩
    · trivial
  | [], hl, _ => simp at hl
  | _ :: _ :: _, hl, _ => simp at hl
theorem x_reps [Pn e] {xs : List α} {j : Int} (h : Rp ka (eT e) xs d) (h' : Rp kb eI j d') : OkE gMulT [d, d'] .any (eT e) (repsT xs j) := fun s => by
  obtain ⟨ds, rfl, q⟩ := h.tup
  have hl := rp_len q
  have pz : plains ds = true := fzs_plains _ (by rw [q, plains_iff]; intro d hd; obtain ⟨x, _, rfl⟩ := List.mem_map.mp hd; exact Pn.p x)
  rw [h'.int]
  unfold repsT
  simp only [gMulT]
  split
  · exact ⟨_, rfl, rp_tup q⟩
  · simp only [gMul]
    split
    · rename_i hj
      have nn : ds ≠ [] := fun z => by subst z; apply hj.1; exact List.eq_nil_of_length_eq_zero hl.symm
      rw [if_pos ⟨pz, nn, hj.2.1, hj.2.2.1, by omega⟩]
      refine ⟨_, rfl, rp_tup ?_⟩
      rw [fzs_eq] at q ⊢
      simp [List.map_flatten, q]
    · trivial
theorem x_tupL {xs : List α} (h : Rp ka (eL e) xs d) : OkP gTuple [d] .any (eT e) xs := fun s => by
  obtain ⟨o, ds, rfl, q⟩ := h.lst
  exact ⟨_, rfl, rp_tup q⟩
@[irreducible] def maxT (xs : List Int) : G Int := fun s => match xs with
  | x :: xs => .ok (xs.foldl max x) s
  | [] => .bad
@[irreducible] def minT (xs : List Int) : G Int := fun s => match xs with
  | x :: xs => .ok (xs.foldl min x) s
  | [] => .bad
/-! ### None -/
class NotN {α : Type} (e : Ec α) : Prop where
  nn : ∀ x, isNon (e.f x) = false
instance : NotN eI := ⟨fun _ => rfl⟩
instance : NotN eB := ⟨fun _ => rfl⟩
instance : NotN eS := ⟨fun _ => rfl⟩
instance : NotN eRo := ⟨fun _ => rfl⟩
instance : NotN (eL e) := ⟨fun _ => rfl⟩
instance : NotN (eT e) := ⟨fun _ => rfl⟩
instance : NotN (eP e ea) := ⟨fun _ => rfl⟩
instance : NotN (eP3 e ea eb) := ⟨fun _ => rfl⟩
/-- what is not none -/
@[irreducible] def getT {α : Type} (o : Option α) : G α := fun s => match o with
  | some x => .ok x s
  | none => .bad
/-! ### alike -/
class Cm {α : Type} (e : Ec α) where
  py : α → PyData
  n : Nat
  hp : ∀ x, pd (e.f x) = some (py x)
  lay : ∀ x, (py x).canLay0 = true
  dep : ∀ x, (py x).depth ≤ n
  inj : ∀ x y, PyData.eqv (py x) (py y) = true → x = y
instance : Cm eI := ⟨.int, 1, fun _ => rfl, fun _ => rfl, fun _ => by simp [PyData.depth], fun x y h => by simpa [PyData.eqv] using h⟩
instance : Cm eB := ⟨.bool, 1, fun _ => rfl, fun _ => rfl, fun _ => by simp [PyData.depth], fun x y h => by simpa [PyData.eqv] using h⟩
theorem lays_map {f : α → PyData} (h : ∀ x, (f x).canLay0 = true) : ∀ xs : List α, PyData.canLayAll0 (xs.map f) = true
  | [] => by simp [PyData.canLayAll0]
  | x :: xs => by simp [PyData.canLayAll0, h x, lays_map h xs]
theorem eqvs_map {f : α → PyData} (h : ∀ x y, PyData.eqv (f x) (f y) = true → x = y) : ∀ xs ys : List α, PyData.eqvAll (xs.map f) (ys.map f) = true → xs = ys
  | [], [], _ => rfl
  | x :: xs, y :: ys, e => by
    simp only [List.map_cons, PyData.eqvAll, Bool.and_eq_true] at e
    rw [h x y e.1, eqvs_map h xs ys e.2]
  | [], _ :: _, e => by simp [PyData.eqvAll] at e
  | _ :: _, [], e => by simp [PyData.eqvAll] at e
instance [c : Cm e] : Cm (eL e) := ⟨fun xs => .list (xs.map c.py), c.n + 1, fun xs => by
    show (pds (xs.map e.f)).map _ = _
    rw [pds_map c.hp]; rfl, fun xs => by simp only [PyData.canLay0]; exact lays_map c.lay xs, fun xs => by rw [PyData.depth]; have := depth_map c.dep xs; omega,
  fun xs ys h => by simp only [PyData.eqv] at h; exact eqvs_map c.inj xs ys h⟩
instance [c : Cm e] : Cm (eT e) := ⟨fun xs => .tuple (xs.map c.py), c.n + 1, fun xs => by
    show (pds (xs.map e.f)).map _ = _
    rw [pds_map c.hp]; rfl, fun xs => by simp only [PyData.canLay0]; exact lays_map c.lay xs, fun xs => by rw [PyData.depth]; have := depth_map c.dep xs; omega,
  fun xs ys h => by simp only [PyData.eqv] at h; exact eqvs_map c.inj xs ys h⟩
instance [c : Cm e] [c' : Cm ea] : Cm (eP e ea) := ⟨fun p => .tuple [c.py p.1, c'.py p.2], max c.n c'.n + 1, fun p => by
    show (pds [e.f p.1, ea.f p.2]).map _ = _
    simp [pds, c.hp, c'.hp], fun p => by simp [PyData.canLay0, PyData.canLayAll0, c.lay, c'.lay], fun p => by
    have := c.dep p.1
    have := c'.dep p.2
    simp only [PyData.depth, PyData.depthAll]; omega,
  fun p q h => by
    simp only [PyData.eqv, PyData.eqvAll, Bool.and_eq_true] at h
    exact Prod.ext (c.inj _ _ h.1) (c'.inj _ _ h.2.1)⟩
theorem pd_non {d : D} (h : pd d = some .none) : isNon d = true := by
  cases d <;> simp [pd] at h <;> first | rfl | (obtain ⟨_, _, h⟩ := h; cases h)
theorem eqv_non {y : PyData} (h : PyData.eqv y .none = true ∨ PyData.eqv .none y = true) : y = .none := by
  cases y <;> simp_all [PyData.eqv]
instance [c : Cm e] [NotN e] : Cm (eO e) := ⟨fun o => match o with
    | none => .none
    | some x => c.py x, max c.n 1, fun o => by cases o with
    | none => rfl
    | some x => exact c.hp x, fun o => by cases o with
    | none => rfl
    | some x => exact c.lay x, fun o => by cases o with
    | none => simp only [PyData.depth]; omega
    | some x => have := c.dep x; show (c.py x).depth ≤ _; omega,
  fun o p h => by
    have key : ∀ x, c.py x ≠ .none := fun x z => by
      have := c.hp x
      rw [z] at this
      have := pd_non this
      rw [NotN.nn] at this; cases this
    cases o with
    | none => cases p with
      | none => rfl
      | some y => have h : PyData.eqv .none (c.py y) = true := h; exact (key y (eqv_non (.inr h))).elim
    | some x => cases p with
      | none => have h : PyData.eqv (c.py x) .none = true := h; exact (key x (eqv_non (.inl h))).elim
      | some y => rw [c.inj x y h]⟩
theorem Cm.sh [c : Cm e] (hn : c.n ≤ 64) (h : Rp k e x d) : shapedD d = some (c.py x) := by
  unfold shapedD
  rw [← pd_fz, h.1, c.hp]
  have : SeqAt.shaped (c.py x) = true := Bool.and_eq_true_iff.mpr ⟨c.lay x, decide_eq_true (Nat.le_trans (c.dep x) hn)⟩
  simp only [this, if_true]
theorem Cm.eqv [DecidableEq α] [c : Cm e] (x y : α) : PyData.eqv (c.py x) (c.py y) = decide (x = y) := by
  by_cases h : x = y
  · subst h; simp [SeqAt.eqv_refl _ (c.lay x)]
  · rw [decide_eq_false h]
    cases z : PyData.eqv (c.py x) (c.py y) with
    | false => rfl
    | true => exact (h (c.inj x y z)).elim
theorem x_ne [DecidableEq α] [c : Cm e] {y : α} (h : Rp ka e x d) (h' : Rp kb e y d') (hn : c.n ≤ 64 := by decide) : OkP gNe [d, d'] .pl eB (!decide (x = y)) := fun s =>
  ⟨_, by simp only [gNe, Cm.sh hn h, Cm.sh hn h', Cm.eqv], rpB _⟩
/-- of whatever kinds -/
@[irreducible] def eqX (a b : D) : G Bool := fun s => match gEq s [a, b] with
  | some (.bl z) => .ok z s
  | _ => .bad
@[irreducible] def neX (a b : D) : G Bool := fun s => match gNe s [a, b] with
  | some (.bl z) => .ok z s
  | _ => .bad
theorem sh_fz (d : D) : shapedD (fz d) = shapedD d := by unfold shapedD; rw [pd_fz]
theorem x_neX {y : β} (h : Rp ka e x d) (h' : Rp kb ea y d') : OkE gNe [d, d'] .pl eB (neX (e.f x) (ea.f y)) := fun s => by
  have : gNe s [e.f x, ea.f y] = gNe s [d, d'] := by rw [← h.1, ← h'.1]; simp only [gNe, sh_fz]
  unfold neX
  rw [this]
  cases gNe s [d, d'] with
  | none => trivial
  | some z => cases z with
    | bl b => exact ⟨_, rfl, rpB _⟩
    | _ => trivial
/-! ### writing -/
@[irreducible] def reprX (a : D) : G Str := fun s => match gRepr s [a] with
  | some (.str z) => .ok z s
  | _ => .bad
@[irreducible] def strT (i : Int) : G Str := fun s => if sm i = true then .ok (toString i) s else .bad
theorem x_str {x : Int} (h : Rp ka eI x d) : OkE gStr [d] .pl eS (strT x) := fun s => by
  rw [h.int]; simp only [strT, gStr]
  split
  · exact ⟨_, rfl, rfl, rfl⟩
  · trivial
end
end Zm
namespace Zm
section
variable {α β : Type} {π : List Pt} {m : M} {k : Kd} {e : Ec α} {o : Option α} {t : G (Option α)}
@[simp] theorem getT_some {x : α} {s : Sto} : getT (some x) s = .ok x s := by unfold getT; rfl
@[simp] theorem getT_none {s : Sto} : getT (none : Option α) s = .bad := by unfold getT; rfl
theorem rp_get : ∀ {k : Kd} {x : α} {d : D}, Rp k (eO e) (some x) d → Rp k e x d
  | .any, _, _, h => ⟨h.1, trivial⟩
  | .top, _, _, h => ⟨h.1, h.2⟩
  | .own, _, _, h => ⟨h.1, h.2⟩
  | .fro, _, _, h => ⟨h.1, h.2⟩
  | .pl, _, _, h => ⟨h.1, h.2⟩
theorem TP.lst {e : Ec β} {x : List β} (h : TP π m .own (eL e) x) : TP π m .top (eL e) x := fun σ s M => let ⟨d, q, r⟩ := h σ s M; ⟨d, q, r.ownT⟩
end
theorem at_ {τ ρ : Type} (π : List Pt) {π0 : List Pt} {a : MS} {π' : τ → List Pt} {kr : Kd} {er : Ec ρ} {tr : B τ ρ} (h : TS π a π' kr er tr) (e : π0 = π := by rfl) : TS π0 a π' kr er tr := e ▸ h
end Zm
namespace Zm
section
variable {α : Type} {π : List Pt} {m : M} {k : Kd} {e : Ec α} {x : α} {t : G α}
theorem rp_xf {d : D} (h : Rp .fro e x d) : Rp .fro eX (e.f x) d := ⟨by show _ = fz (e.f x); rw [e.h]; exact h.1, by show d = fz (e.f x); rw [e.h]; exact h.2⟩
theorem rp_xp {d : D} (h : Rp .pl e x d) : Rp .fro eX (e.f x) d := rp_xf ⟨h.1, h.plE⟩
theorem TP.asXp (h : TP π m .pl e x) : TP π m .fro eX (e.f x) := fun σ s M => let ⟨d, q, r⟩ := h σ s M; ⟨d, q, rp_xp r⟩
theorem TE.asXp (h : TE π m .pl e t) : TE π m .fro eX (bd t fun x => pr (e.f x)) := fun σ s M => by
  have := h σ s M
  unfold bd
  cases q : t s with
  | ok x s1 => rw [q] at this; obtain ⟨d, h1, h2⟩ := this; exact ⟨d, h1, rp_xp h2⟩
  | ex x s1 => rw [q] at this; exact this
  | bad => trivial
end
end Zm
theorem Zm.Rp.froX {x d : Zm.D} (h : Zm.Rp .fro Zm.eX x d) : d = Zm.fz x := h.2
set_option linter.all false
set_option autoImplicit false
set_option maxRecDepth 100000
/-! GL: reasoning about plain-typed programs. -/
namespace Zm
open PySem
section
variable {α β γ τ τ' ρ : Type} {s s' s1 : Sto} {t : G α} {x : α}
theorem eb_ok {k : α → B τ ρ} (h : t s = .ok x s') : eb t k s = k x s' := by unfold eb; rw [h]
@[simp] theorem eb_pr {k : α → B τ ρ} : eb (pr x) k s = k x s := rfl
@[simp] theorem lt_ap {k : α → B τ ρ} : lt x k s = k x s := rfl
theorem lt_eq {k : α → B τ ρ} : lt x k = k x := rfl
@[simp] theorem bd_pr {k : α → G β} : bd (pr x) k s = k x s := rfl
theorem sq_nx {a : B τ ρ} {k : τ → B τ' ρ} {v : τ} (h : a s = .nx v s') : sq a k s = k v s' := by unfold sq; rw [h]
theorem sq_rt {a : B τ ρ} {k : τ → B τ' ρ} {v : ρ} (h : a s = .rt v s') : sq a k s = .rt v s' := by unfold sq; rw [h]
@[simp] theorem sq_nxB {k : τ → B τ' ρ} {v : τ} : sq (nxB v) k s = k v s := rfl
theorem fnT_rt {b : B τ ρ} {r : ρ} (h : b s = .rt r s') : fnT b s = .ok r s' := by unfold fnT; rw [h]
theorem orG_ok {a b : G Bool} {z : Bool} (h : a s = .ok z s') : orG a b s = if z = true then .ok true s' else b s' := by unfold orG; rw [bd_ok h]; split <;> rfl
theorem orG_ff {a b : G Bool} {z : Bool} (h : a s = .ok false s') (h' : b s' = .ok z s1) : orG a b s = .ok z s1 := by rw [orG_ok h]; simpa using h'
/-! lists -/
theorem szM : (1000000 : Nat) ≤ sizeLine := by decide
theorem szL : (1000000 : Nat) < sizeLine := by decide
theorem ap_ok {xs : List β} {y : β} {k : List β → B τ ρ} (h : xs.length ≤ 1000000) : apB xs y k s = k (xs ++ [y]) s := by
  unfold apB; rw [if_pos (Nat.lt_of_le_of_lt h szL)]
theorem cat_ok {xs ys : List α} (h : xs.length + ys.length ≤ 1000000) : catT xs ys s = .ok (xs ++ ys) s := by
  unfold catT; rw [if_pos (Nat.le_trans h szM)]
theorem ix_get {xs : List α} {i : Nat} {x : α} (h : xs[i]? = some x) : ixT xs (i : Int) s = .ok x s := by
  unfold ixT; rw [atI_nat, h]
theorem ix_int {xs : List α} {j : Int} {i : Nat} {x : α} (hj : j = (i : Int)) (h : xs[i]? = some x) : ixT xs j s = .ok x s := by
  rw [hj]; exact ix_get h
theorem ix_any {xs : List α} {j : Int} (h0 : 0 ≤ j) (h1 : j < xs.length) : ∃ x, ixT xs j s = .ok x s ∧ xs[j.toNat]? = some x ∧ x ∈ xs := by
  have h : j.toNat < xs.length := by omega
  exact ⟨xs[j.toNat], ix_int (i := j.toNat) (by omega) (List.getElem?_eq_getElem h), List.getElem?_eq_getElem h, List.getElem_mem h⟩
theorem range_ok {n : Nat} (h : n ≤ 1000000) : rangeT (n : Int) s = .ok (irg n) s := by
  have hb : big (n : Int) = true := decide_eq_true ⟨by omega, by omega⟩
  unfold rangeT; rw [if_pos hb]; rfl
theorem range_int {j : Int} (h0 : -1000000 ≤ j) (h : j ≤ 1000000) : rangeT j s = .ok (irg j.toNat) s := by
  have hb : big j = true := decide_eq_true ⟨by omega, by omega⟩
  unfold rangeT; rw [if_pos hb]
@[simp] theorem irg_len {n : Nat} : (irg n).length = n := by simp [irg]
@[simp] theorem irg2_len {i : Int} {n : Nat} : (irg2 i n).length = n := by simp [irg2]
@[simp] theorem irgD_len {i : Int} {n : Nat} : (irgD i n).length = n := by simp [irgD]
theorem irg_get {n i : Nat} (h : i < n) : (irg n)[i]? = some (i : Int) := by simp [irg, h]
/-- the greatest of a list: what it is -/
def IsMax (xs : List Int) (m : Int) : Prop := m ∈ xs ∧ ∀ y ∈ xs, y ≤ m
def IsMin (xs : List Int) (m : Int) : Prop := m ∈ xs ∧ ∀ y ∈ xs, m ≤ y
theorem IsMax.one {xs : List Int} {m n : Int} (h : IsMax xs m) (h' : IsMax xs n) : m = n := by
  have := h.2 n h'.1; have := h'.2 m h.1; omega
theorem IsMin.one {xs : List Int} {m n : Int} (h : IsMin xs m) (h' : IsMin xs n) : m = n := by
  have := h.2 n h'.1; have := h'.2 m h.1; omega
theorem pow10_ok {k : Nat} (h : k ≤ 1000) : powT 10 (k : Int) s = .ok (10 ^ k) s := by
  unfold powT
  rw [if_pos ⟨by omega, by omega, sm_of (Nat.lt_of_lt_of_le (m := 2 ^ 250) (by decide) (Nat.pow_le_pow_right (by decide) (by decide)))⟩]
  rfl
/-! loops -/
theorem for_nx {f : α → τ → B τ ρ} {x : α} {xs : List α} {v w : τ} (h : f x v s = .nx w s') : forT f (x :: xs) v s = forT f xs w s' := by
  conv => lhs; unfold forT
  rw [h]
theorem for_rt {f : α → τ → B τ ρ} {x : α} {xs : List α} {v : τ} {w : ρ} (h : f x v s = .rt w s') : forT f (x :: xs) v s = .rt w s' := by
  conv => lhs; unfold forT
  rw [h]
end
/-! ### draws: what a program hands back, whatever is drawn -/
/-- W s n C: the draws' state at n, after at most C draws -/
abbrev DS := Sto → Nat → Nat → Prop
class Dr (W : DS) : Prop where
  mono : ∀ {s n C C'}, W s n C → C ≤ C' → W s n C'
def Gets {α : Type} (W : DS) (n k : Nat) (t : G α) (P : α → Prop) : Prop := ∀ s C, W s n C → C + k ≤ 2 ^ 90 → ∃ x s', t s = .ok x s' ∧ P x ∧ W s' n (C + k)
def GetsB {τ ρ : Type} (W : DS) (n k : Nat) (b : B τ ρ) (P : τ → Prop) (Q : ρ → Prop) : Prop := ∀ s C, W s n C → C + k ≤ 2 ^ 90 →
  (∃ v s', b s = .nx v s' ∧ P v ∧ W s' n (C + k)) ∨ (∃ r s', b s = .rt r s' ∧ Q r ∧ W s' n (C + k))
section
variable {α β τ τ' ρ : Type} {W : DS} [Dr W] {n k k' : Nat} {t : G α} {x : α} {P : α → Prop}
theorem Gets.mono {P' : α → Prop} (h : Gets W n k t P) (hk : k ≤ k') (hp : ∀ x, P x → P' x) : Gets W n k' t P' := fun s C w hc => by
  obtain ⟨x, s', e, p, w'⟩ := h s C w (by omega)
  exact ⟨x, s', e, hp x p, Dr.mono w' (by omega)⟩
theorem gets_eq (h : ∀ s, t s = .ok x s) (p : P x) : Gets W n k t P := fun s C w hc => ⟨x, s, h s, p, Dr.mono w (by omega)⟩
theorem gets_pr (p : P x) : Gets W n k (pr x) P := (gets_eq (fun _ => rfl) p).mono (Nat.zero_le _) fun _ h => h
theorem gets_bd {f : α → G β} {Q : β → Prop} (h : Gets W n k t P) (q : ∀ x, P x → Gets W n (k' - k) (f x) Q) (hk : k ≤ k' := by omega) : Gets W n k' (bd t f) Q := fun s C w hc => by
  obtain ⟨x, s1, e, p, w1⟩ := h s C w (by omega)
  obtain ⟨y, s2, e2, p2, w2⟩ := q x p s1 (C + k) w1 (by omega)
  exact ⟨y, s2, by rw [bd_ok e]; exact e2, p2, by rw [show C + k' = C + k + (k' - k) by omega]; exact w2⟩
theorem gets_bdE {f : α → G β} {Q : β → Prop} (h : ∀ s, t s = .ok x s) (q : Gets W n k (f x) Q) : Gets W n k (bd t f) Q := fun s C w hc => by
  obtain ⟨y, s2, e2, r⟩ := q s C w hc
  exact ⟨y, s2, by rw [bd_ok (h s)]; exact e2, r⟩
theorem gets_fn {b : B τ ρ} {Q : ρ → Prop} (h : GetsB W n k b (fun _ => False) Q) : Gets W n k (fnT b) Q := fun s C w hc => by
  rcases h s C w hc with ⟨_, _, _, f, _⟩ | ⟨r, s', e, q, w'⟩
  · exact f.elim
  · exact ⟨r, s', fnT_rt e, q, w'⟩
theorem GetsB.mono {b : B τ ρ} {P P' : τ → Prop} {Q Q' : ρ → Prop} (h : GetsB W n k b P Q) (hk : k ≤ k') (hp : ∀ x, P x → P' x) (hq : ∀ x, Q x → Q' x) : GetsB W n k' b P' Q' := fun s C w hc => by
  rcases h s C w (by omega) with ⟨v, s', e, p, w'⟩ | ⟨v, s', e, p, w'⟩
  · exact .inl ⟨v, s', e, hp _ p, Dr.mono w' (by omega)⟩
  · exact .inr ⟨v, s', e, hq _ p, Dr.mono w' (by omega)⟩
variable {P : τ → Prop} {Q : ρ → Prop}
theorem gb_nx {v : τ} (p : P v) : GetsB W n k (nxB v) P Q := fun s C w hc => .inl ⟨v, s, rfl, p, Dr.mono w (by omega)⟩
theorem gb_rt {v : ρ} (p : Q v) : GetsB W n k (rtB v) P Q := fun s C w hc => .inr ⟨v, s, rfl, p, Dr.mono w (by omega)⟩
theorem gb_lt {f : α → B τ ρ} (h : GetsB W n k (f x) P Q) : GetsB W n k (lt x f) P Q := h
theorem gb_eb {P1 : α → Prop} {f : α → B τ ρ} (h : Gets W n k t P1) (q : ∀ x, P1 x → GetsB W n (k' - k) (f x) P Q) (hk : k ≤ k' := by omega) : GetsB W n k' (eb t f) P Q := fun s C w hc => by
  obtain ⟨x, s1, e, p, w1⟩ := h s C w (by omega)
  have := q x p s1 (C + k) w1 (by omega)
  rw [eb_ok e, show C + k' = C + k + (k' - k) by omega]; exact this
theorem gb_ebE {f : α → B τ ρ} (h : ∀ s, t s = .ok x s) (q : GetsB W n k (f x) P Q) : GetsB W n k (eb t f) P Q := fun s C w hc => by
  rw [eb_ok (h s)]; exact q s C w hc
theorem gb_ap {xs : List β} {y : β} {f : List β → B τ ρ} (hl : xs.length ≤ 1000000) (q : GetsB W n k (f (xs ++ [y])) P Q) : GetsB W n k (apB xs y f) P Q := fun s C w hc => by
  rw [ap_ok hl]; exact q s C w hc
/-- a test that is never so -/
theorem gb_ifF {g : G Bool} {a b : B τ ρ} (h : ∀ s, g s = .ok false s) (h1 : GetsB W n k b P Q) : GetsB W n k (ifB g a b) P Q := gb_ebE h h1
theorem gb_sq {b : B τ' ρ} {P1 : τ' → Prop} {f : τ' → B τ ρ} (h : GetsB W n k b P1 Q) (q : ∀ v, P1 v → GetsB W n (k' - k) (f v) P Q) (hk : k ≤ k' := by omega) : GetsB W n k' (sq b f) P Q := fun s C w hc => by
  rcases h s C w (by omega) with ⟨v, s1, e, p, w1⟩ | ⟨r, s1, e, p, w1⟩
  · rw [sq_nx e, show C + k' = C + k + (k' - k) by omega]; exact q v p s1 (C + k) w1 (by omega)
  · exact .inr ⟨r, s1, sq_rt e, p, Dr.mono w1 (by omega)⟩
theorem gb_forI {f : α → τ → B τ ρ} (I : Nat → τ → Prop) : ∀ (xs : List α) (j : Nat) (v : τ), I j v → (∀ i (hi : i < xs.length) v, I (j + i) v → GetsB W n k (f xs[i] v) (I (j + i + 1)) Q) → GetsB W n (k * xs.length) (forT f xs v) (I (j + xs.length)) Q
  | [], j, v, h0, _ => fun s C w hc => .inl ⟨v, s, rfl, h0, by simpa using w⟩
  | x :: xs, j, v, h0, st => fun s C w hc => by
    rw [List.length_cons, Nat.mul_succ] at hc ⊢
    rcases st 0 (by simp) v h0 s C w (by omega) with ⟨v1, s1, e, p, w1⟩ | ⟨r, s1, e, p, w1⟩
    · have ih := gb_forI I xs (j + 1) v1 p (fun i hi v h => by
        have := st (i + 1) (by simpa using hi) v (by rw [show j + (i + 1) = j + 1 + i by omega]; exact h)
        rw [show j + (i + 1) + 1 = j + 1 + i + 1 by omega] at this
        simpa using this) s1 (C + k) w1 (by omega)
      rw [show C + (k * xs.length + k) = C + k + k * xs.length by omega, show j + (xs.length + 1) = j + 1 + xs.length by omega, for_nx (by simpa using e)]
      exact ih
    · exact .inr ⟨r, s1, for_rt (by simpa using e), p, Dr.mono w1 (by omega)⟩
/-- a loop: what holds behind i turns -/
theorem gb_for {f : α → τ → B τ ρ} (I : Nat → τ → Prop) {xs : List α} {v : τ} (h0 : I 0 v) (st : ∀ i (hi : i < xs.length) v, I i v → GetsB W n k (f xs[i] v) (I (i + 1)) Q) : GetsB W n (k * xs.length) (forT f xs v) (I xs.length) Q := by
  have := gb_forI (W := W) (n := n) (k := k) (Q := Q) I xs 0 v h0 fun i hi v h => by simpa using st i hi v (by simpa using h)
  simpa using this
/-- .. of at most N turns -/
theorem gb_forN {f : α → τ → B τ ρ} (I : Nat → τ → Prop) {xs : List α} {v : τ} (k N : Nat) (hN : xs.length ≤ N) (h0 : I 0 v) (st : ∀ i (hi : i < xs.length) v, I i v → GetsB W n k (f xs[i] v) (I (i + 1)) Q) (hP : ∀ v, I xs.length v → P v) (hk : k * N ≤ k' := by omega) : GetsB W n k' (forT f xs v) P Q :=
  (gb_for I h0 st).mono (Nat.le_trans (Nat.mul_le_mul_left _ hN) hk) (fun v h => hP v h) fun _ h => h
end
/-- without a draw, the store as it is -/
def Ps {α : Type} (t : G α) (P : α → Prop) : Prop := ∀ s, ∃ x, t s = .ok x s ∧ P x
theorem Ps.mono {α : Type} {t : G α} {P P' : α → Prop} (h : Ps t P) (q : ∀ x, P x → P' x) : Ps t P' := fun s => by
  obtain ⟨x, e, p⟩ := h s
  exact ⟨x, e, q x p⟩
/-- one that there is just one of -/
theorem Ps.one {α : Type} {t : G α} {P : α → Prop} {x : α} (h : Ps t P) (u : ∀ y, P y → y = x) (s : Sto) : t s = .ok x s := by
  obtain ⟨y, e, p⟩ := h s
  rw [u y p] at e; exact e
section
variable {α β τ τ' ρ : Type} {t : G α} {P : τ → Prop} {Q : ρ → Prop}
end
/-! a law -/
/-- nothing is drawn -/
def W0t : DS := fun _ _ _ => True
instance : Dr W0t := ⟨fun _ _ => trivial⟩
theorem gb_new {τ ρ : Type} {W : DS} {K m k : Nat} {t : G Nat} {f : Nat → B τ ρ} {P : τ → Prop} {Q : ρ → Prop} (h : ∀ s, ∃ n s', t s = .ok n s' ∧ W s' n 0) (q : ∀ n, GetsB W n K (f n) P Q) (hK : K ≤ 2 ^ 90 := by decide) : GetsB W0t m k (eb t f) P Q := fun s C w hc => by
  obtain ⟨n, s1, e, w1⟩ := h s
  rw [eb_ok e]
  rcases q n s1 0 w1 (by omega) with ⟨v, s2, e2, p, _⟩ | ⟨v, s2, e2, p, _⟩
  · exact .inl ⟨v, s2, e2, p, trivial⟩
  · exact .inr ⟨v, s2, e2, p, trivial⟩
theorem good_of {g : List Int → G Bool} {f : Fn} (tf : ∀ ns s, Rf .pl eB (g ns s) (f [.ro ns] s)) (h : ∀ ns, Gets W0t 0 0 (g ns) (fun z => z = true)) : ∀ ns : List Int, ns.length ≤ 63 → ∃ s, f [.ro ns] [] = .ok (.bl true) s := fun ns _ => by
  obtain ⟨z, s, e, hz, _⟩ := h ns [] 0 trivial (by decide)
  subst hz
  have := tf ns []
  rw [e] at this
  obtain ⟨d, h1, h2⟩ := this
  rw [h2.bl] at h1
  exact ⟨s, h1⟩
theorem rp_ro (ns : List Int) : Rp .any eRo ns (.ro ns) := ⟨rfl, trivial⟩
end Zm
set_option linter.all false
set_option autoImplicit false
set_option maxRecDepth 100000
/-! GT: what repr tells. -/
namespace Zm
open PySem PySem.PyData
def sok (x : Str) : Prop := PyData.strOk x = true
theorem sok_app {x y : Str} (hx : sok x) (hy : sok y) : sok (x ++ y) := by
  unfold sok PyData.strOk at *
  rw [Str.cps_append]
  simp only [Array.all_append, Bool.and_eq_true]
  exact ⟨hx, hy⟩
theorem sok_of (s : String) : sok (Str.ofString s) := by
  unfold sok PyData.strOk
  rw [← Array.all_toList, PyProof.Rows.signs_ofString, List.all_eq_true]
  intro c hc
  obtain ⟨ch, _, rfl⟩ := List.mem_map.mp hc
  have h := ch.valid
  rw [decide_eq_true_eq]
  show ch.val.toNat < 0x110000
  rcases h with h | h
  · omega
  · exact h.2
theorem len_app (x y : Str) : (x ++ y).length = x.length + y.length := strLen_append x y
/-- a thing whose text is not too long -/
def RO (d : D) (k B : Nat) : Prop := ∃ x, pd d = some x ∧ x.showable = true ∧ x.hasDict = false ∧ x.depth ≤ k ∧ x.shown.length ≤ B ∧ sok x.shown
theorem RO.mono {d : D} {k B k' B' : Nat} (h : RO d k B) (h1 : k ≤ k') (h2 : B ≤ B') : RO d k' B' := by
  obtain ⟨x, a, b, c, e, f, g⟩ := h
  exact ⟨x, a, b, c, by omega, by omega, g⟩
theorem ro_bl {b : Bool} : RO (.bl b) 0 5 := ⟨.bool b, rfl, by simp [showable], by simp [hasDict], by simp [depth], by cases b <;> decide, by cases b; exact sok_of "False"; exact sok_of "True"⟩
theorem ro_non : RO .non 0 4 := ⟨.none, rfl, by simp [showable], by simp [hasDict], by simp [depth], by decide, sok_of "None"⟩
theorem sh_str {z : Str} (h : sok z) : shapedD (.str z) = some (.str z) := by
  unfold shapedD
  simp only [pd]
  rw [if_pos]
  unfold SeqAt.shaped
  rw [show PyData.canLay0 (.str z) = true from h]
  simp [depth]
theorem ne_str {z : Str} (h : sok z) (s : Sto) : neX (eS.f z) (eS.f z) s = .ok false s := by
  unfold neX gNe
  rw [show eS.f z = .str z from rfl]
  simp only [sh_str h]
  unfold PyData.eqv
  simp
end Zm
set_option Elab.async false
set_option linter.all false
set_option maxRecDepth 100000
set_option autoImplicit false
/-! TL5: typed: calls by keywords. -/
namespace Zm
open PySem
section
variable {α : Type} {π : List Pt} {ms : List M} {k : Kd} {e : Ec α} {t : G α}
theorem te_callK {f : Fn} {p : List Nat} (h : TA π ms (fun ds => f (sws p ds)) k e t) : TE π (mCallK f p ms) k e t := fun σ s M => h σ s M
end
end Zm
set_option Elab.async false
set_option linter.all false
set_option maxRecDepth 100000
set_option autoImplicit false
/-! TL6: typed: dicts. -/
namespace Zm
open PySem PySem.Spec PyProof.Rows L2
section
variable {κ β : Type} [DecidableEq κ]
def dlook : List (κ × β) → κ → Option β
  | [], _ => none
  | p :: l, k => if p.1 = k then some p.2 else dlook l k
def dput (l : List (κ × β)) (k : κ) (v : β) : List (κ × β) := if (dlook l k).isSome = true then l.map (fun p => if p.1 = k then (p.1, v) else p) else l ++ [(k, v)]
end
def eDic {κ β : Type} (t : Bool) (ek : Ec κ) (ev : Ec β) : Ec (List (κ × β)) := ⟨fun l => .dic false t (l.map fun p => ek.f p.1) (l.map fun p => ev.f p.2), fun _ => rfl⟩
/-- keys that the machine tells apart -/
class Kc {κ : Type} [DecidableEq κ] (t : Bool) (ek : Ec κ) : Prop where
  look : ∀ {β : Type} (ev : Ec β) (l : List (κ × β)) (q : κ), gLook t (l.map fun p => ek.f p.1) (l.map fun p => ev.f p.2) (ek.f q) = some ((dlook l q).map ev.f)
  put : ∀ {β : Type} (ev : Ec β) (l : List (κ × β)) (q : κ) (v : β), gPut t (l.map fun p => ek.f p.1) (l.map fun p => ev.f p.2) (ek.f q) (ev.f v) = some ((dput l q v).map (fun p => ek.f p.1), (dput l q v).map fun p => ev.f p.2)
  pl : Pn ek
section
variable {κ κ' β : Type} [DecidableEq κ] [DecidableEq κ'] {ek : Ec κ} {ev : Ec β} {o : D → Option κ'} {j : κ → κ'}
theorem lookG_l (h1 : ∀ k, o (ek.f k) = some (j k)) (h2 : ∀ a b, j a = j b → a = b) (q : κ) : ∀ l : List (κ × β), lookG o (l.map fun p => ek.f p.1) (l.map fun p => ev.f p.2) (j q) = (dlook l q).map ev.f
  | [] => rfl
  | p :: l => by
    rw [List.map_cons, List.map_cons, lookG, dlook, h1]
    by_cases e : p.1 = q
    · rw [if_pos (by rw [e]), if_pos e]; rfl
    · rw [if_neg (fun z => e (h2 _ _ (Option.some.inj z))), if_neg e]; exact lookG_l h1 h2 q l
theorem replG_l (h1 : ∀ k, o (ek.f k) = some (j k)) (h2 : ∀ a b, j a = j b → a = b) (q : κ) (v : β) : ∀ l : List (κ × β), replG o (l.map fun p => ek.f p.1) (l.map fun p => ev.f p.2) (j q) (ev.f v) = (l.map fun p => if p.1 = q then (p.1, v) else p).map fun p => ev.f p.2
  | [] => rfl
  | p :: l => by
    rw [List.map_cons, List.map_cons, List.map_cons, List.map_cons, replG, h1, replG_l h1 h2 q v l]
    by_cases e : p.1 = q
    · rw [if_pos (by rw [e]), if_pos e]
    · rw [if_neg (fun z => e (h2 _ _ (Option.some.inj z))), if_neg e]
theorem putG_l (h1 : ∀ k, o (ek.f k) = some (j k)) (h2 : ∀ a b, j a = j b → a = b) (q : κ) (v : β) (l : List (κ × β)) : putG o (l.map fun p => ek.f p.1) (l.map fun p => ev.f p.2) (ek.f q) (j q) (ev.f v) = ((dput l q v).map (fun p => ek.f p.1), (dput l q v).map fun p => ev.f p.2) := by
  unfold putG dput
  rw [lookG_l h1 h2, Option.isSome_map]
  by_cases e : (dlook l q).isSome = true
  · rw [if_pos e, if_pos e, replG_l h1 h2]
    congr 1
    rw [List.map_map]
    refine List.map_congr_left fun p _ => ?_
    show ek.f p.1 = ek.f (if p.1 = q then (p.1, v) else p).1
    split <;> rfl
  · rw [if_neg e, if_neg e, List.map_append, List.map_append]; rfl
end
instance : Kc false eI := ⟨fun ev l q => by
    show (dK (.int q)).map (lookG dK _ _) = _
    show some (lookG dK _ _ (Sum.inl q)) = _
    rw [lookG_l (j := fun q : Int => (Sum.inl q : Key)) (fun _ => rfl) (fun a b e => Sum.inl.inj e)],
  fun ev l q v => by
    show some (putG dK _ _ _ (Sum.inl q) _) = _
    rw [putG_l (j := fun q : Int => (Sum.inl q : Key)) (fun _ => rfl) (fun a b e => Sum.inl.inj e)], inferInstance⟩
instance : Kc true (eP eI eI) := ⟨fun ev l q => by
    show some (lookG dKT _ _ [Sum.inl q.1, Sum.inl q.2]) = _
    rw [lookG_l (j := fun q : Int × Int => ([Sum.inl q.1, Sum.inl q.2] : List Key)) (fun _ => rfl) (fun a b e => by simp at e; exact Prod.ext e.1 e.2)],
  fun ev l q v => by
    show some (putG dKT _ _ _ [Sum.inl q.1, Sum.inl q.2] _) = _
    rw [putG_l (j := fun q : Int × Int => ([Sum.inl q.1, Sum.inl q.2] : List Key)) (fun _ => rfl) (fun a b e => by simp at e; exact Prod.ext e.1 e.2)], inferInstance⟩
section
variable {κ β : Type} [DecidableEq κ] {t : Bool} {ek : Ec κ} {ev : Ec β} {k kb : Kd} {d d' : D} {l : List (κ × β)} {q : κ} {v : β}
theorem Rp.dic (h : Rp k (eDic t ek ev) l d) : ∃ o, d = .dic o t (l.map fun p => ek.f p.1) (l.map fun p => ev.f p.2) := by
  have := h.1
  cases d with
  | dic o t' ks vs =>
    simp only [eDic, fz, D.dic.injEq, true_and] at this
    obtain ⟨rfl, rfl, rfl⟩ := this
    exact ⟨o, rfl⟩
  | _ => simp_all [eDic]
variable {π : List Pt} {m ma mb mc : M}
end
section
variable {κ β τ ρ : Type} [DecidableEq κ] {t : Bool} {ek : Ec κ} {ev : Ec β} {k ka kr : Kd} {l : List (κ × β)} {π : List Pt} {π' : τ → List Pt} {er : Ec ρ} {rest : MS} {m mi : M}
end
end Zm
set_option Elab.async false
set_option linter.all false
set_option maxRecDepth 100000
set_option autoImplicit false
/-! TL7: typed: int(..), index, xs[i] op= e, == of dicts. -/
namespace Zm
open PySem PySem.Spec PyProof.Rows L2
section
variable {π : List Pt} {ma mb : M} {k kb : Kd} {d d' : D}
end
section
variable {τ ρ : Type} {k ka kr : Kd} {π : List Pt} {π' : τ → List Pt} {er : Ec ρ} {rest : MS} {m mi : M} {f : Int → Int → Int}
end
end Zm
set_option Elab.async false
set_option linter.all false
set_option maxRecDepth 100000
set_option autoImplicit false
namespace Zm
open PySem
section
variable {α τ ρ : Type} {π : List Pt} {π' : τ → List Pt} {m : M} {rest : MS} {k kr : Kd} {e : Ec α} {er : Ec ρ} {t : G α} {x : α} {msk : List Bool}
end
end Zm
set_option Elab.async false
set_option linter.all false
set_option maxRecDepth 100000
set_option autoImplicit false
/-! TL9: x = y[k] if t else e; lists within lists written. -/
namespace Zm
open PySem
section
variable {α β τ ρ : Type} {π : List Pt} {π' : τ → List Pt} {m m2 mi mj mk : M} {rest : MS} {k kr ki kj kk : Kd} {e : Ec α} {er : Ec ρ} {t : G α} {x : α} {msk : List Bool} {i j : Nat} {c : T} {g : G Bool} {ti : G Int}
end
end Zm
namespace Zm
open PySem
end Zm
namespace Zm
open PySem
section
variable {α : Type} {π : List Pt} {m : M} {k : Kd} {e : Ec α} {t : G α} {x : α} {b c : String}
end
end Zm
set_option Elab.async false
set_option linter.all false
set_option maxRecDepth 100000
set_option autoImplicit false
/-! TL10: things of another kind put into a list that is not read any more. -/
namespace Zm
open PySem
section
variable {α β τ ρ : Type} {π : List Pt} {π' : τ → List Pt} {m : M} {rest : MS} {k kr : Kd} {e : Ec α} {ea : Ec β} {er : Ec ρ} {t : G β} {msk : List Bool} {i : Nat}
end
end Zm
set_option Elab.async false
set_option linter.all false
set_option maxRecDepth 100000
set_option autoImplicit false
/-! TL11: loops that write the lists within a list; rows of unlike things. -/
namespace Zm
open PySem
inductive UT where
  | app (c : D)
  | rev
  | seq (a b : UT)
  | each (u : UT)
inductive UR (π : List Pt) : UP → UT → Prop
  | app {α : Type} {e : Ec α} {m : M} {x : α} : TP π m .pl e x → UR π (.app m) (.app (e.f x))
  | rev : UR π .rev .rev
  | seq {a b : UP} {a' b' : UT} : UR π a a' → UR π b b' → UR π (.seq a b) (.seq a' b')
  | each {u : UP} {u' : UT} : UR π u u' → UR π (.each u) (.each u')
section
variable {π : List Pt} {σ : Env} {s : Sto}
end
section
variable {α β τ ρ : Type} {π : List Pt} {π' : τ → List Pt} {rest : MS} {kr : Kd} {e : Ec α} {er : Ec ρ} {u : UP} {ut : UT} {x : α} {vs : List Nat}
end
end Zm
set_option Elab.async false
set_option linter.all false
set_option maxRecDepth 100000
set_option autoImplicit false
/-! TL12: defs as values; a dict of one pair; sorted keys; list(range(..)). -/
namespace Zm
open PySem
section
variable {α β ρ : Type} {π : List Pt} {m mf mk mv ma mb : M} {ms : List M} {k kr ka kb : Kd} {e : Ec α} {er : Ec ρ} {tf : G D} {tbl : List (Str × Fn)}
end
section
variable {α β ρ : Type} {π : List Pt} {m mf mk mv ma mb : M} {k kr ka kb : Kd} {e : Ec α} {er : Ec ρ} {ta tb : G Int} {tv : G α}
end
end Zm
namespace Zm
open PySem
end Zm
namespace Zm
open PySem
section
variable {ρ : Type} {tbl : List (Str × Fn)} {a : Str} {m0 : Fn} {t0 : G ρ} {tg : Str → G ρ}
end
end Zm
set_option Elab.async false
set_option linter.all false
set_option maxRecDepth 100000
set_option autoImplicit false
/-! TL13: a pair as a tuple of like things. -/
namespace Zm
open PySem
section
variable {α : Type} {π : List Pt} {m : M} {k : Kd} {e : Ec α}
end
section
variable {α : Type} {π : List Pt} {rest : MS} {τ : Type} {π' : τ → List Pt} {k : Kd} {e : Ec α}
end
end Zm
set_option Elab.async false
set_option linter.all false
set_option maxRecDepth 100000
set_option autoImplicit false
/-! TL14: enumerate of a zip. -/
namespace Zm
open PySem
section
variable {α β : Type} {π : List Pt} {ma mb : M} {e : Ec α} {ea : Ec β}
end
end Zm
namespace Zm
open PySem
section
variable {α τ ρ : Type} {π : List Pt} {π' : τ → List Pt} {ma mb mc md : M} {rest : MS} {kr ka kb kc kd : Kd} {e : Ec α} {er : Ec ρ}
end
end Zm
namespace Zm
open PySem
section
variable {α : Type} {π : List Pt} {m : M} {e : Ec α}
end
end Zm
set_option Elab.async false
set_option linter.all false
set_option maxRecDepth 100000
set_option autoImplicit false
/-! TL15: late rules. -/
namespace Zm
open PySem
section
variable {α β : Type} {ka : Kd} {e : Ec α} {ea : Ec β} {d : D}
end
end Zm
set_option Elab.async false
set_option linter.all false
set_option maxRecDepth 100000
set_option autoImplicit false
/-! TL16: late rules: name *= e. -/
namespace Zm
open PySem
section
variable {ρ τ : Type} {π : List Pt} {π' : τ → List Pt} {rest : MS} {kr : Kd} {er : Ec ρ} {m : M} {k kc : Kd}
end
end Zm
set_option Elab.async false
set_option linter.all false
set_option maxRecDepth 100000
set_option autoImplicit false
/-! TL17: late rules: min of three. -/
namespace Zm
open PySem
section
variable {ka kb kc : Kd} {d d' d2 : D}
end
end Zm
set_option Elab.async false
set_option linter.all false
set_option maxRecDepth 100000
set_option autoImplicit false
/-! TL18: late rules: tuple(reversed(..)), list(reversed(..)). -/
namespace Zm
open PySem
section
variable {α : Type} {ka : Kd} {e : Ec α} {d : D}
end
end Zm
set_option Elab.async false
set_option linter.all false
set_option maxRecDepth 100000
set_option autoImplicit false
/-! TL19: late rules: return (number, own list); a, b = what holds nothing frozen. -/
namespace Zm
open PySem
section
variable {ρ τ α : Type} {π : List Pt} {π' : τ → List Pt} {rest : MS} {kr : Kd} {er : Ec ρ} {m : M} {k : Kd} {e : Ec α} {msk : List Bool}
end
end Zm
set_option Elab.async false
set_option linter.all false
set_option maxRecDepth 100000
set_option autoImplicit false
/-! TL20: late rules: a name becomes a new list of what is frozen. -/
namespace Zm
open PySem
section
variable {ρ τ α : Type} {π : List Pt} {π' : τ → List Pt} {rest : MS} {kr : Kd} {er : Ec ρ} {m : M} {e : Ec α} {msk : List Bool} {i : Nat}
end
end Zm
set_option Elab.async false
set_option linter.all false
set_option maxRecDepth 100000
set_option autoImplicit false
/-! TL21: late rules: sorted(d) of pair keys. -/
namespace Zm
open PySem
section
variable {β : Type} {k : Kd} {ev : Ec β} {d : D}
end
end Zm
set_option Elab.async false
set_option linter.all false
set_option maxRecDepth 100000
set_option autoImplicit false
/-! TL22: late rules: x[j][k] += e. -/
namespace Zm
open PySem
section
variable {ρ τ : Type} {π : List Pt} {π' : τ → List Pt} {rest : MS} {kr kj kk k : Kd} {er : Ec ρ} {mj mk m : M}
end
end Zm
set_option Elab.async false
set_option linter.all false
set_option maxRecDepth 100000
set_option autoImplicit false
/-! TL23: late rules: name = f(a, xs.pop(e)), f a def as a value; sorted(xs, reverse=True). -/
namespace Zm
open PySem
section
variable {α η ρ τ : Type} {π : List Pt} {π' : τ → List Pt} {rest : MS} {kr kk kd kh k : Kd} {er : Ec ρ} {e : Ec α} {eh : Ec η} {vh : η} {me : M} {tbl : List (Str × Fn)} {msk : List Bool}
end
section
variable {ka : Kd} {d : D}
end
end Zm
set_option Elab.async false
set_option linter.all false
set_option maxRecDepth 100000
set_option autoImplicit false
/-! TL24: late rules: the least of a list of lists. -/
namespace Zm
open PySem
@[irreducible] def minLLT (xs : List (List Int)) : G (List Int) := fun s => match xs with
  | x :: xs => .ok (minLL x xs) s
  | [] => .bad
section
variable {α β ρ τ : Type} {π : List Pt} {π' : τ → List Pt} {rest : MS} {kr k : Kd} {er : Ec ρ} {e : Ec α} {ea : Ec β} {m : M} {t : G β} {msk : List Bool}
end
end Zm
set_option Elab.async false
set_option linter.all false
set_option maxRecDepth 100000
set_option autoImplicit false
/-! TL25: late rules: a tuple so many times. -/
namespace Zm
open PySem
section
variable {α : Type} {e : Ec α} {ka kb : Kd} {d d' : D}
@[irreducible] def repsG (xs : List α) (k : Int) : G (List α) := fun s => if k = 1 then .bad else repsT xs k s
theorem x_repsG [Pn e] {xs : List α} {j : Int} (h : Rp ka (eT e) xs d) (h' : Rp kb eI j d') : OkE gMul [d, d'] .any (eT e) (repsG xs j) := fun s => by
  unfold repsG
  by_cases z : j = 1
  · rw [if_pos z]; trivial
  · rw [if_neg z]
    have := x_reps h h' s
    obtain ⟨ds, e1, _⟩ := h.tup
    have e2 := h'.int
    subst e1 e2
    have e3 : gMulT s [.tup ds, .int j] = gMul s [.tup ds, .int j] := by
      show (if j = 1 then some (D.tup ds) else gMul s [.tup ds, .int j]) = _
      rw [if_neg z]
    rw [e3] at this
    exact this
end
section
variable {α β ρ τ : Type} {π : List Pt} {π' : τ → List Pt} {rest : MS} {kr k kb : Kd} {er : Ec ρ} {e : Ec α} {m mi : M} {t : G α} {msk : List Bool}
end
theorem te_nonX {π : List Pt} : TP π (mC .non) .fro eX D.non := fun σ s M => ⟨_, rfl, rfl, rfl⟩
end Zm
set_option Elab.async false
set_option linter.all false
set_option maxRecDepth 100000
set_option autoImplicit false
/-! TL26: xs[j] = F(box, xs[j]). -/
namespace Zm
open PySem
section
variable {ρ τ : Type} {π : List Pt} {π' : τ → List Pt} {rest : MS} {kr : Kd} {er : Ec ρ} {fn : Fn}
end
end Zm
set_option Elab.async false
set_option linter.all false
set_option maxRecDepth 100000
set_option autoImplicit false
/-! TL27: sorted(a tuple of numbers). -/
namespace Zm
open PySem
end Zm
set_option Elab.async false
set_option linter.all false
set_option maxRecDepth 100000
set_option autoImplicit false
/-! TL28: an empty dict as anything; repr of such data; lists of texts that a machine tells. -/
namespace Zm
open PySem
section
variable {π : List Pt} {k ka : Kd} {α : Type} {e : Ec α} {x : α} {d : D}
theorem te_dicX : TP π (mDic false) .own eX (.dic false false [] []) := fun σ s M => ⟨_, rfl, rfl, rfl⟩
@[irreducible] def reprZ (a : D) : G Str := fun s => match gReprZ s [a] with
  | some (.str z) => .ok z s
  | _ => .bad
theorem x_reprZ (h : Rp ka e x d) : OkE gReprZ [d] .pl eS (reprZ (e.f x)) := fun s => by
  have : gReprZ s [e.f x] = gReprZ s [d] := by rw [← h.1]; simp only [gReprZ, pz_fz]
  unfold reprZ
  rw [this]
  cases gReprZ s [d] with
  | none => trivial
  | some z => cases z with
    | str b => exact ⟨_, rfl, rfl, rfl⟩
    | _ => trivial
end
end Zm
set_option linter.all false
set_option autoImplicit false
set_option maxRecDepth 100000
/-! GTZ: what repr tells where empty dicts may stand. -/
namespace Zm
open PySem PySem.PyData
def ROz (d : D) (k B : Nat) : Prop := ∃ x, pz d = some x ∧ x.showable = true ∧ x.depth ≤ k ∧ x.shown.length ≤ B ∧ sok x.shown
theorem ROz.mono {d : D} {k B k' B' : Nat} (h : ROz d k B) (h1 : k ≤ k') (h2 : B ≤ B') : ROz d k' B' := by
  obtain ⟨x, a, b, e, f, g⟩ := h
  exact ⟨x, a, b, by omega, by omega, g⟩
theorem RO.z {d : D} {k B : Nat} (h : RO d k B) : ROz d k B := by
  obtain ⟨x, a, b, _, e, f, g⟩ := h
  exact ⟨x, pz_pd a, b, e, f, g⟩
theorem roz_dic {o t : Bool} {vs : List D} : ROz (.dic o t [] vs) 1 2 := ⟨.dict [], rfl, rfl, by decide, by decide +kernel, by unfold sok; decide +kernel⟩
theorem reprZ_T {d : D} {k B : Nat} (h : ROz d k B) (hk : k ≤ 60) (hB : B ≤ 1000000) : ∃ z, sok z ∧ ∀ s, reprZ d s = .ok z s := by
  obtain ⟨x, a, b, e, f, g⟩ := h
  refine ⟨x.shown, g, fun s => ?_⟩
  unfold reprZ gReprZ
  simp only [a, Option.bind_some]
  rw [if_pos ⟨b, by omega, Nat.le_trans f (Nat.le_trans hB szM)⟩]
end Zm
set_option Elab.async false
set_option linter.all false
set_option maxRecDepth 100000
set_option autoImplicit false
/-! TL29: lists of pairs of numbers that a machine tells. -/
namespace Zm
open PySem
end Zm
set_option Elab.async false
set_option linter.all false
set_option maxRecDepth 100000
set_option maxHeartbeats 4000000
set_option autoImplicit false
namespace Zm
open PySem
def g__law_well (x0 : (List Int)) (x1 : Int) : G Nat := fun s => match f__law_well [.ro x0, .int x1] s with
  | .ok (.box r) s => .ok r s
  | .ex x s => .ex x s
  | _ => .bad
theorem tf__law_well {x0 : (List Int)} {x1 : Int} {d_0 : D} {d_1 : D} (h_0 : Rp .any eRo x0 d_0) (h_1 : Rp .any eI x1 d_1) (s : Sto) : Rf .pl eBx (g__law_well x0 x1 s) (f__law_well [d_0, d_1] s) := by
  rw [h_0.ro]; rw [h_1.int]
  unfold g__law_well
  cases f__law_well [.ro x0, .int x1] s with
  | ok d s1 => cases d <;> first | exact ⟨_, rfl, rfl, rfl⟩ | trivial
  | ex x s1 => exact rfl
  | bad => trivial
def g__law_dip (x0 : Nat) (x1 : Int) : G Int := fun s => match f__law_dip [.box x0, .int x1] s with
  | .ok (.int r) s => .ok r s
  | .ex x s => .ex x s
  | _ => .bad
theorem tf__law_dip {x0 : Nat} {x1 : Int} {d_0 : D} {d_1 : D} (h_0 : Rp .any eBx x0 d_0) (h_1 : Rp .any eI x1 d_1) (s : Sto) : Rf .pl eI (g__law_dip x0 x1 s) (f__law_dip [d_0, d_1] s) := by
  rw [h_0.box]; rw [h_1.int]
  unfold g__law_dip
  cases f__law_dip [.box x0, .int x1] s with
  | ok d s1 => cases d <;> first | exact ⟨_, rfl, rfl, rfl⟩ | trivial
  | ex x s1 => exact rfl
  | bad => trivial
/-- _law_hall -/
def g__law_hall (well : Nat) (counters : Int) (customers : Int) (wide : Int) : G (List (List Int)) := fnT (τ := Unit) (eb (g__law_dip well (3 : Int)) fun lean => (eb (bd (g__law_dip well customers) fun y6 => (pr ((1 : Int) + y6))) fun many => (lt ([] : (List (List Int))) fun found => (sq (τ := ((List (List Int)))) (eb (bd (bd (g__law_dip well counters) fun y10 => (pr ((1 : Int) + y10))) rangeT) fun xs => forT (fun k (v11 : ((List (List Int)))) => (lt ([] : (List Int)) fun row => (sq (τ := ((List Int))) (eb (rangeT many) fun xs => forT (fun spot (v13 : ((List Int))) => (eb (bd (bd (g__law_dip well (4 : Int)) fun y36 => (bd (g__law_dip well (12 : Int)) fun y37 => (bd (g__law_dip well wide) fun y38 => (pr [y36, y37, y38])))) fun y43 => (bd (g__law_dip well ((1 : Int) + lean)) fun y44 => (ixT y43 y44))) fun y45 => apB v13 y45 fun row1 => (nxB row1))) xs row) fun (v13 : ((List Int))) => (apB v11 v13 fun found1 => (nxB found1))))) xs found) fun (v11 : ((List (List Int)))) => (rtB v11)))))
theorem tf__law_hall {well : Nat} {counters : Int} {customers : Int} {wide : Int} {d_0 : D} {d_1 : D} {d_2 : D} {d_3 : D} (h_0 : Rp .any eBx well d_0) (h_1 : Rp .any eI counters d_1) (h_2 : Rp .any eI customers d_2) (h_3 : Rp .any eI wide d_3) (s : Sto) : Rf .pl (eT (eT eI)) (g__law_hall well counters customers wide s) (f__law_hall [d_0, d_1, d_2, d_3] s) := fn_ok (π' := fun _ : Unit => nosP 10) rfl (mt_cons h_0.plain (mt_cons h_1.plain (mt_cons h_2.plain (mt_cons h_3.plain (mt_nos 6))))) (ts_setPlE (i := 4) (te_call (ta_P (te_varP 0) fun d1 r1 => (ta_P te_int fun d2 r2 => (ta_nil (fun s => tf__law_dip r1.any r2.any s))))) fun lean => (at_ [.vr .pl eBx well, .vr .pl eI counters, .vr .pl eI customers, .vr .pl eI wide, .vr .pl eI lean, .no, .no, .no, .no, .no] (ts_setPlE (i := 5) (te_op (ta_P te_int fun d5 r5 => (ta_E (te_call (ta_P (te_varP 0) fun d3 r3 => (ta_P (te_varP 2) fun d4 r4 => (ta_nil (fun s => tf__law_dip r3.any r4.any s))))) fun y6 d6 r6 => (ta_nil (ok_p (x_addI r5 r6)))))) fun many => (at_ [.vr .pl eBx well, .vr .pl eI counters, .vr .pl eI customers, .vr .pl eI wide, .vr .pl eI lean, .vr .pl eI many, .no, .no, .no, .no] (ts_setP (i := 6) (tp_op (pa_nil (x_lstO (RpL.nil (k := .own) (e := (eT eI)))))) fun found => (at_ [.vr .pl eBx well, .vr .pl eI counters, .vr .pl eI customers, .vr .pl eI wide, .vr .pl eI lean, .vr .pl eI many, .vr .own (eL (eT eI)) found, .no, .no, .no] (ts_sq (π' := (fun (v11 : (List (List Int))) => [.vr .pl eBx well, .vr .pl eI counters, .vr .pl eI customers, .vr .pl eI wide, .vr .pl eI lean, .vr .pl eI many, .vr .own (eL (eT eI)) v11, .no, .no, .no])) (ts_forP (v0 := found) (fun (v11 : (List (List Int))) => [.vr .pl eBx well, .vr .pl eI counters, .vr .pl eI customers, .vr .pl eI wide, .vr .pl eI lean, .vr .pl eI many, .vr .own (eL (eT eI)) v11, .no, .no, .no]) (ti_r1 (te_op (ta_P te_int fun d9 r9 => (ta_E (te_call (ta_P (te_varP 0) fun d7 r7 => (ta_P (te_varP 1) fun d8 r8 => (ta_nil (fun s => tf__law_dip r7.any r8.any s))))) fun y10 d10 r10 => (ta_nil (ok_p (x_addI r9 r10))))))) (wk_eq (wk_eq (wk_eq (wk_eq (wk_eq (wk_eq (wk_eq (wk_no (wk_no (wk_no wk_nil)))))))))) (fun k (v11 : ((List (List Int)))) => ⟨[.vr .pl eBx well, .vr .pl eI counters, .vr .pl eI customers, .vr .pl eI wide, .vr .pl eI lean, .vr .pl eI many, .vr .own (eL (eT eI)) v11, .vr .pl eI k, .no, .no], (tb_nmP (i := 7)), (ts_setP (i := 8) (tp_op (pa_nil (x_lstO (RpL.nil (k := .own) (e := eI))))) fun row => (at_ [.vr .pl eBx well, .vr .pl eI counters, .vr .pl eI customers, .vr .pl eI wide, .vr .pl eI lean, .vr .pl eI many, .vr .own (eL (eT eI)) v11, .vr .pl eI k, .vr .own (eL eI) row, .no] (ts_sq (π' := (fun (v13 : (List Int)) => [.vr .pl eBx well, .vr .pl eI counters, .vr .pl eI customers, .vr .pl eI wide, .vr .pl eI lean, .vr .pl eI many, .vr .own (eL (eT eI)) v11, .vr .pl eI k, .vr .own (eL eI) v13, .no])) (ts_forP (v0 := row) (fun (v13 : (List Int)) => [.vr .pl eBx well, .vr .pl eI counters, .vr .pl eI customers, .vr .pl eI wide, .vr .pl eI lean, .vr .pl eI many, .vr .own (eL (eT eI)) v11, .vr .pl eI k, .vr .own (eL eI) v13, .no]) (ti_r1p (te_varP 5)) (wk_eq (wk_eq (wk_eq (wk_eq (wk_eq (wk_eq (wk_eq (wk_eq (wk_eq (wk_no wk_nil)))))))))) (fun spot (v13 : ((List Int))) => ⟨[.vr .pl eBx well, .vr .pl eI counters, .vr .pl eI customers, .vr .pl eI wide, .vr .pl eI lean, .vr .pl eI many, .vr .own (eL (eT eI)) v11, .vr .pl eI k, .vr .own (eL eI) v13, .vr .pl eI spot], (tb_nmP (i := 9)), (ts_one (ts_appE 8 (((te_op (ta_E (te_op (ta_E (te_call (ta_P (te_varP 0) fun d30 r30 => (ta_P te_int fun d31 r31 => (ta_nil (fun s => tf__law_dip r30.any r31.any s))))) fun y36 d36 r36 => (ta_E (te_call (ta_P (te_varP 0) fun d32 r32 => (ta_P te_int fun d33 r33 => (ta_nil (fun s => tf__law_dip r32.any r33.any s))))) fun y37 d37 r37 => (ta_E (te_call (ta_P (te_varP 0) fun d34 r34 => (ta_P (te_varP 3) fun d35 r35 => (ta_nil (fun s => tf__law_dip r34.any r35.any s))))) fun y38 d38 r38 => (ta_nil (ok_p (x_lstP (RpL.cons r36 (RpL.cons r37 (RpL.cons r38 RpL.nil)))))))))) fun y43 d43 r43 => (ta_E (te_call (ta_P (te_varP 0) fun d41 r41 => (ta_P (tp_op (pa te_int fun d39 r39 => (pa (te_varP 4) fun d40 r40 => (pa_nil (x_addI r39 r40))))) fun d42 r42 => (ta_nil (fun s => tf__law_dip r41.any r42.any s))))) fun y44 d44 r44 => (ta_nil (x_ixL r43 r44)))))).plain).own fun row1 => (at_ [.vr .pl eBx well, .vr .pl eI counters, .vr .pl eI customers, .vr .pl eI wide, .vr .pl eI lean, .vr .pl eI many, .vr .own (eL (eT eI)) v11, .vr .pl eI k, .vr .own (eL eI) row1, .vr .pl eI spot] (ts_nil (v := row1) (wk_eq (wk_eq (wk_eq (wk_eq (wk_eq (wk_eq (wk_eq (wk_eq (wk_eq (wk_no wk_nil))))))))))))))⟩)) fun (v13 : ((List Int))) => (ts_one (ts_appP 6 (((tp_op (pa (te_var 8) fun d47 r47 => (pa_nil (x_tupL r47))))).plain).own fun found1 => (at_ [.vr .pl eBx well, .vr .pl eI counters, .vr .pl eI customers, .vr .pl eI wide, .vr .pl eI lean, .vr .pl eI many, .vr .own (eL (eT eI)) found1, .vr .pl eI k, .vr .own (eL eI) v13, .no] (ts_nil (v := found1) (wk_eq (wk_eq (wk_eq (wk_eq (wk_eq (wk_eq (wk_eq (wk_no (wk_no (wk_no wk_nil)))))))))))))))))⟩)) fun (v11 : ((List (List Int)))) => (ts_one (ts_retP ((tp_op (pa (te_var 6) fun d49 r49 => (pa_nil (x_tupL r49))))).plain)))))))))
def g_is_hall (x0 : D) : G Bool := fun s => match f_is_hall [fz x0] s with
  | .ok (.bl r) s => .ok r s
  | .ex x s => .ex x s
  | _ => .bad
theorem tf_is_hall {x0 : D} {d_0 : D} (h_0 : Rp .fro eX x0 d_0) (s : Sto) : Rf .pl eB (g_is_hall x0 s) (f_is_hall [d_0] s) := by
  rw [h_0.froX]
  unfold g_is_hall
  cases f_is_hall [fz x0] s with
  | ok d s1 => cases d <;> first | exact ⟨_, rfl, rfl, rfl⟩ | trivial
  | ex x s1 => exact rfl
  | bad => trivial
@[irreducible] def g__law_alike_8dc4 (x0 : D) (x1 : D) : G Bool := fun s => match f__law_alike_8dc4 [fz x0, fz x1] s with
  | .ok (.bl r) s => .ok r s
  | .ex x s => .ex x s
  | _ => .bad
@[irreducible] def g__law_alike (x0 : D) (x1 : D) : G Bool := fun s => match f__law_alike [fz x0, fz x1] s with
  | .ok (.bl r) s => .ok r s
  | .ex x s => .ex x s
  | _ => .bad
end Zm
set_option linter.all false
set_option autoImplicit false
set_option maxRecDepth 100000
namespace Zm
open PySem
--@ _law_dip
def Well (s : Sto) (n C : Nat) : Prop := ∃ a b c : Int, s[n]? = some [.int a, .int b, .int c] ∧ 0 ≤ a ∧ 0 ≤ b ∧ b < 2 ^ 140 ∧ 0 ≤ c ∧ c ≤ C
theorem Well.mono {s : Sto} {n C C' : Nat} (h : Well s n C) (hc : C ≤ C') : Well s n C' := by
  obtain ⟨a, b, c, e, h1, h2, h3, h4, h5⟩ := h
  exact ⟨a, b, c, e, h1, h2, h3, h4, by omega⟩
theorem ix_box {s : Sto} {n : Nat} {xs : List D} {i : Int} {d : D} (h : s[n]? = some xs) (e : L2.atI xs i = some d) : gIx s [.box n, .int i] = some d := by
  show (s[n]?).bind _ = _
  rw [h]; exact e
theorem at3_0 {x y z : D} : L2.atI [x, y, z] 0 = some x := rfl
theorem at3_1 {x y z : D} : L2.atI [x, y, z] 1 = some y := rfl
theorem at3_2 {x y z : D} : L2.atI [x, y, z] 2 = some z := rfl
theorem sm_lt {i : Int} (h1 : -(2 ^ 250) < i) (h2 : i < 2 ^ 250) : sm i = true := by
  refine sm_of (Nat.lt_of_lt_of_le (m := 2 ^ 250) (by omega) (Nat.pow_le_pow_right (by decide) (by decide)))
theorem pow_s (s : Sto) (x k : Int) (h0 : 0 ≤ k) (hk : k ≤ 1000) (h1 : -(2 ^ 250) < x) (h2 : x < 2 ^ 250) : gPow s [.int x, .int k] = some (.int (x ^ k.toNat)) := by
  simp only [gPow]
  rw [if_pos ⟨h0, hk, sm_lt h1 h2⟩]
theorem p10 (s : Sto) (k : Int) (h0 : 0 ≤ k) (hk : k ≤ 1000) : gPow s [.int 10, .int k] = some (.int (10 ^ k.toNat)) := pow_s s 10 k h0 hk (by decide) (by decide)
theorem mul_s (s : Sto) (x y : Int) (h1 : -(2 ^ 250) < x) (h2 : x < 2 ^ 250) (h3 : -(2 ^ 250) < y) (h4 : y < 2 ^ 250) : gMul s [.int x, .int y] = some (.int (x * y)) := by
  simp only [gMul]
  rw [if_pos ⟨sm_lt h1 h2, sm_lt h3 h4⟩]
theorem div_s (s : Sto) (x y : Int) (h : 0 < y) (h' : y < 2 ^ 250) : gDiv s [.int x, .int y] = some (.int (x / y)) := by
  simp only [gDiv]
  rw [if_pos ⟨h, sm_lt (by omega) h'⟩]
theorem dip_ok {s : Sto} {n C : Nat} {w : Int} (hw : Well s n C) (hC : C < 2 ^ 100) (h1 : 0 < w) (h2 : w < 2 ^ 100) :
    ∃ r s', f__law_dip [.box n, .int w] s = .ok (.int r) s' ∧ 0 ≤ r ∧ r < w ∧ Well s' n (C + 1) := by
  obtain ⟨a, b, c, e, ha, hb, hb2, hc, hc2⟩ := hw
  have hn : n < s.length := (List.getElem?_eq_some_iff.mp e).1
  have i0 := ix_box e (at3_0)
  have i1 := ix_box e (at3_1)
  have i2 := ix_box e (at3_2)
  by_cases h0 : 0 < a
  · refine ⟨a % w, s.set n [.int (a / w), .int b, .int c], ?_, Int.emod_nonneg _ (by omega), Int.emod_lt_of_pos _ h1, a / w, b, c, by simp [hn], Int.ediv_nonneg ha (by omega), hb, hb2, hc, by omega⟩
    have d1 := div_s s a w h1 (by omega)
    simp [f__law_dip, mkFn, i0, h0, h1, mSetD, mSt, e, d1, uSet, L2.ixN, mRetV]
  · have a0 : a = 0 := by omega
    subst a0
    obtain ⟨s1, hs⟩ : ∃ s1, s.set n [.int 0, .int b, .int (c + 1)] = s1 := ⟨_, rfl⟩
    have e1 : s1[n]? = some [.int 0, .int b, .int (c + 1)] := by rw [← hs]; simp [hn]
    have j1 := ix_box e1 (at3_1)
    have j2 := ix_box e1 (at3_2)
    have q1 := mul_s s1 49979687 (c + 1) (by decide) (by decide) (by omega) (by omega)
    have q2 := pow_s s1 (b + 49979687 * (c + 1)) 3 (by decide) (by decide) (by omega) (by omega)
    have q3 := mul_s s1 160481183 (c + 1) (by decide) (by decide) (by omega) (by omega)
    obtain ⟨m1, hm1⟩ : ∃ m, (b + 49979687 * (c + 1)) ^ 3 % 100000000000000000000000000000000000133 = m := ⟨_, rfl⟩
    have m1a : 0 ≤ m1 := hm1 ▸ Int.emod_nonneg _ (by decide)
    have m1b : m1 < 100000000000000000000000000000000000133 := hm1 ▸ Int.emod_lt_of_pos _ (by decide)
    have q4 := pow_s s1 (m1 + 160481183 * (c + 1)) 3 (by decide) (by decide) (by omega) (by omega)
    obtain ⟨m2, hm2⟩ : ∃ m, (m1 + 160481183 * (c + 1)) ^ 3 % 100000000000000000000000000000000069 = m := ⟨_, rfl⟩
    have q5 := div_s s1 m2 131071 (by decide) (by decide)
    refine ⟨m2 / 131071 % w, s1, ?_, Int.emod_nonneg _ (by omega), Int.emod_lt_of_pos _ h1, 0, b, c + 1, e1, by omega, hb, hb2, by omega, by omega⟩
    simp [f__law_dip, mkFn, i0, i1, i2, h1, mSetD, mSt, e, uSet, L2.ixN, mRetV, hs, j1, j2, p10, q1, q2, q3, q4, q5, hm1, hm2]
--@ loops
theorem lc_map {tg : Tg} {m : M} {σ : Env} {s : Sto} (g : D → D) : ∀ (ds acc : List D), (∀ d ∈ ds, ∃ σ1, tg.bind d σ = some σ1 ∧ m σ1 s = .ok (g d) s) → acc.length + ds.length ≤ sizeLine →
    lcR tg tTrue m σ ds acc s = .ok (.lst true (acc ++ ds.map g)) s
  | [], acc, _, _ => by simp [lcR]
  | d :: ds, acc, h, hl => by
    obtain ⟨σ1, e1, e2⟩ := h d (by simp)
    rw [List.length_cons] at hl
    unfold lcR
    simp only [e1, tTrue, e2, if_true]
    rw [if_pos (by omega), lc_map g ds (acc ++ [g d]) (fun d hd => h d (List.mem_cons_of_mem _ hd)) (by simp; omega)]
    simp
theorem mLc_map {src : Src} {tg : Tg} {vs : List Nat} {m : M} {σ : Env} {s s' : Sto} {ds : List D} (g : D → D) (h : src σ s = .ok ds s') (hw : tg.within vs = true) (hm : ∀ d ∈ ds, ∃ σ1, tg.bind d (wipeE (fzE σ) vs) = some σ1 ∧ m σ1 s' = .ok (g d) s') (hl : ds.length ≤ 1000000) :
    mLc src tg vs tTrue m σ s = .ok (.lst true (ds.map g)) s' := by
  have := lc_map (tg := tg) (m := m) g ds [] hm (by simpa using Nat.le_trans hl szl)
  simp only [mLc, h, R.bind_ok, hw, if_true, this, List.nil_append]
theorem seq_ok {a b : MS} {σ σ1 : Env} {s s1 : Sto} {r : RS} (h : a σ s = .nx σ1 s1) (h2 : b σ1 s1 = r) : mSeq a b σ s = r := by simp only [mSeq, h, RS.then_nx, h2]
theorem mkFn_rt {np ns : Nat} {body : MS} {ds : List D} {s s' : Sto} {d : D} (hl : ds.length = np) (h : body (ds.map some ++ List.replicate (ns - np) none) s = .rt d s') : mkFn np ns body ds s = .ok d s' := by
  simp only [mkFn, if_pos hl, h]
--@ _law_well
theorem sl3 : 3 ≤ sizeLine := by decide
theorem well_ok {ns : List Int} {k : Int} (h0 : 0 ≤ k) (hk : k < 1000) (s : Sto) : ∃ n s', f__law_well [.ro ns, .int k] s = .ok (.box n) s' ∧ Well s' n 0 := by
  have q1 : ∀ s, gMul s [.int 13171, .int k] = some (.int (13171 * k)) := fun s => mul_s s 13171 k (by decide) (by decide) (by omega) (by omega)
  have key : ∀ cell : Int, ∃ a : Int, (if cell < 0 then -cell else cell) - 1000000000000000000 = a := fun c => ⟨_, rfl⟩
  by_cases h : k < ns.length
  · have e : L2.atI ns k = some (ns[k.toNat]'(by omega)) := by
      unfold L2.atI L2.ixN
      rw [if_pos h0, if_pos h]; simp
    generalize ns[k.toNat]'(by omega) = cell at e
    obtain ⟨a, ha⟩ := key cell
    refine ⟨s.length, s ++ [[.int (if 0 < a then a else 0), .int (cell % 10000000000000000000000000000000000043 + 13171 * k), .int 0]], ?_, ?_⟩
    · simp [f__law_well, mkFn, h, mSetD, gIx, e, mBox, p10, q1, ha, sl3]
    · refine ⟨_, _, _, by simp; exact ⟨rfl, rfl, rfl⟩, ?_, ?_, ?_, by decide, by decide⟩
      · split <;> omega
      · have := Int.emod_nonneg cell (b := 10000000000000000000000000000000000043) (by decide); omega
      · have := Int.emod_lt_of_pos cell (b := 10000000000000000000000000000000000043) (by decide); omega
  · refine ⟨s.length, s ++ [[.int 0, .int (13171 * k), .int 0]], ?_, _, _, _, by simp; exact ⟨rfl, rfl, rfl⟩, ?_, ?_, ?_, by decide, by decide⟩
    · simp [f__law_well, mkFn, h, mSetD, gIx, mBox, p10, q1, sl3]
    · decide
    · omega
    · omega
--@ _law_hall
def rowD (r : List Int) : D := .tup (r.map D.int)
def hallD (h : List (List Int)) : D := .tup (h.map rowD)
def Nn (r : List Int) : Prop := ∀ x ∈ r, 0 ≤ x
@[simp] theorem fz_rows : ∀ h : List (List Int), fzs (h.map rowD) = h.map rowD
  | [] => rfl
  | r :: h => by simp [fz_rows h, rowD]
@[simp] theorem noF_rows : ∀ h : List (List Int), noFs (h.map rowD) = true
  | [] => rfl
  | r :: h => by simp [noF_rows h, rowD]
@[simp] theorem plain_rows : ∀ h : List (List Int), plains (h.map rowD) = true
  | [] => rfl
  | r :: h => by simp [plain_rows h, rowD]
@[simp] theorem fz_hall (h : List (List Int)) : fz (hallD h) = hallD h := by simp [hallD, fz_rows]
@[simp] theorem noF_hall (h : List (List Int)) : noF (hallD h) = true := by simp [hallD, noF_rows]
structure HallOK (h : List (List Int)) (m : Nat) : Prop where
  l1 : 1 ≤ h.length
  l8 : h.length ≤ 8
  m1 : 1 ≤ m
  m8 : m ≤ 8
  row : ∀ r ∈ h, r.length = m ∧ Nn r
theorem Nn.snoc {r : List Int} {x : Int} (h : Nn r) (hx : 0 ≤ x) : Nn (r ++ [x]) := fun y hy => by
  rcases List.mem_append.mp hy with z | z
  · exact h y z
  · simp at z; omega
theorem setD_ok {msk : List Bool} {i : Nat} {m : M} {σ : Env} {s s' : Sto} {d : D} (h : m σ s = .ok d s') (hn : noF d = true) (hl : i < σ.length) : mSetD msk i m σ s = .nx (σ.set i (some d)) s' := by
  unfold mSetD
  simp [h, hn, hl]
theorem szb {n : Nat} (h : n ≤ 1000000) : n ≤ sizeLine := Nat.le_trans h szl
theorem gLst_ok {s : Sto} {ds : List D} (h : ds.length ≤ 1000000) : gLst s ds = some (.lst true ds) := by unfold Zm.gLst; rw [if_pos (szb h)]
theorem gIx_l {s : Sto} {o : Bool} {xs : List D} {i : Int} : gIx s [.lst o xs, .int i] = L2.atI xs i := rfl
--@ _law_times
structure DayOK (t : List Int) (m : Nat) : Prop where
  len : t.length = m
  nn : Nn t
  up : t.Pairwise (· ≤ ·)
--@ is_whole is_amount is_row is_hall need_hall
theorem amount_int (i : Int) (s : Sto) : f_is_amount [.int i] s = .ok (.bl (decide (0 ≤ i))) s := rfl
theorem toBls_true : ∀ n : Nat, toBls (List.replicate n (.bl true)) = some (List.replicate n true)
  | 0 => rfl
  | n + 1 => by simp [List.replicate_succ, toBls, toBls_true n]
theorem map_const {α β : Type} (b : β) : ∀ l : List α, l.map (fun _ => b) = List.replicate l.length b
  | [] => rfl
  | x :: l => by simp [List.replicate_succ, map_const b l]
theorem gAll_true {s : Sto} {o : Bool} (n : Nat) : gAll s [.lst o (List.replicate n (.bl true))] = some (.bl true) := by
  simp [gAll, toBls_true]
@[simp] theorem fz_row (r : List Int) : fz (rowD r) = rowD r := by simp [rowD]
theorem items_row (r : List Int) : itemsOf (rowD r) = some (r.map D.int) := by simp [itemsOf, rowD]
theorem items_hall (h : List (List Int)) : itemsOf (hallD h) = some (h.map rowD) := by simp [itemsOf, hallD]
theorem iSeq_ok {m : M} {σ : Env} {s s' : Sto} {d : D} {ds : List D} (h : m σ s = .ok d s') (hd : itemsOf d = some ds) : iSeq m σ s = .ok ds s' := by
  simp only [iSeq, h, R.bind_ok]
  cases d <;> simp_all [itemsOf]
theorem row_ok {r : List Int} {m : Nat} (hl : r.length = m) (hn : Nn r) (hz : r.length ≤ 1000000) (s : Sto) : f_is_row [rowD r, .int (m : Nat)] s = .ok (.bl true) s := by
  have key : f_is_row_c1 [some (rowD r), some (.int (m : Nat)), none] s = .ok (.lst true (List.replicate r.length (.bl true))) s := by
    have := mLc_map (src := iSeq (mVar 0)) (tg := .nm 2) (vs := [2]) (m := mCall f_is_amount [mVar 2]) (σ := [some (rowD r), some (.int (m : Nat)), none]) (s := s) (s' := s) (ds := r.map D.int) (fun _ => .bl true) (iSeq_ok (by simp) (items_row r)) rfl (fun d hd => by
      obtain ⟨x, hx, rfl⟩ := List.mem_map.mp hd
      exact ⟨_, rfl, by simp [amount_int, hn x hx]⟩) (by simpa using hz)
    rwa [map_const, List.length_map] at this
  refine mkFn_rt rfl ?_
  have e1 : gLen s [rowD r] = some (.int (m : Nat)) := by simp [rowD, hl]
  have e2 : gIsi s [rowD r, .ty "tuple"] = some (.bl true) := by simp [rowD]
  simp only [mRet, mAnd, mOp, mArgs, mVar, mC, List.map_cons, List.map_nil, List.cons_append, List.nil_append, List.getElem?_cons_zero, List.getElem?_cons_succ, fz, fz_row, R.bind_ok, R.of_some, R.to_ok, e1, e2, eq_t (Cmp.int _) (Cmp.int _), show List.replicate (3 - 2) (none : Option D) = [none] from rfl, key, gAll_true]
theorem gIx_h {s : Sto} {h : List (List Int)} {r : List Int} (e : h.head? = some r) : gIx s [hallD h, .int 0] = some (rowD r) := by
  cases h with
  | nil => cases e
  | cons x h =>
    have : x = r := by simpa using e
    subst this
    exact (show gIx s [hallD (x :: h), .int 0] = L2.atI (rowD x :: h.map rowD) 0 from rfl).trans (atI_zero.trans rfl)
theorem hall_is {h : List (List Int)} {m : Nat} (H : HallOK h m) (s : Sto) : f_is_hall [hallD h] s = .ok (.bl true) s := by
  obtain ⟨r0, e0⟩ : ∃ r, h.head? = some r := by
    cases h with
    | nil => have := H.l1; simp at this
    | cons x h => exact ⟨x, rfl⟩
  have hr0 : r0 ∈ h := List.mem_of_head? e0
  have hm := (H.row r0 hr0).1
  have g0 : gIx s [hallD h, .int 0] = some (rowD r0) := gIx_h e0
  have g1 : gLen s [rowD r0] = some (.int (m : Nat)) := by simp [rowD, hm]
  have g2 : gIsi s [hallD h, .ty "tuple"] = some (.bl true) := by simp [hallD]
  have g3 : gIsi s [rowD r0, .ty "tuple"] = some (.bl true) := by simp [rowD]
  have g4 : gLen s [hallD h] = some (.int (h.length : Nat)) := by simp [hallD]
  have key : f_is_hall_c1 [some (hallD h), none] s = .ok (.lst true (List.replicate h.length (.bl true))) s := by
    have := mLc_map (src := iSeq (mVar 0)) (tg := .nm 1) (vs := [1]) (m := mCall f_is_row [mVar 1, mOp gLen [mOp gIx [mVar 0, mC (.int 0)]]]) (σ := [some (hallD h), none]) (s := s) (s' := s) (ds := h.map rowD) (fun _ => .bl true) (iSeq_ok (by simp) (items_hall h)) rfl (fun d hd => by
      obtain ⟨r, hr, rfl⟩ := List.mem_map.mp hd
      refine ⟨_, rfl, ?_⟩
      have := row_ok (H.row r hr).1 (H.row r hr).2 (by have := (H.row r hr).1; have := H.m8; omega) s
      simp [-gLen, g0, g1, this]) (by have := H.l8; rw [List.length_map]; omega)
    rwa [map_const, List.length_map] at this
  have c1 : gLe s [.int 1, .int (h.length : Nat)] = some (.bl true) := by have := H.l1; simp; omega
  have c2 : gLe s [.int (h.length : Nat), .int 8] = some (.bl true) := by have := H.l8; simp; omega
  have c3 : gLe s [.int 1, .int (m : Nat)] = some (.bl true) := by have := H.m1; simp; omega
  have c4 : gLe s [.int (m : Nat), .int 8] = some (.bl true) := by have := H.m8; simp; omega
  refine mkFn_rt rfl ?_
  simp [-gLen, -gLe, -gIsi, mChain, g0, g1, g2, g3, g4, c1, c2, c3, c4, key, gAll_true]
--@ are_times need_day
--@ left_at leavings_of leavings
def leftFrom (free : Int) : List Int → List Int → List Int
  | a :: row, t :: ts => (max free t + a) :: leftFrom (max free t + a) row ts
  | _, _ => []
def leftAt (row ts : List Int) : List Int := leftFrom 0 row ts
def lolD (o o' : Bool) (h : List (List Int)) : D := .lst o (h.map fun r => .lst o' (r.map D.int))
@[simp] theorem fz_lol (o o' : Bool) (h : List (List Int)) : fz (lolD o o' h) = lolD false false h := by
  unfold lolD
  rw [fz, fzs_eq, List.map_map]
  congr 1
  exact List.map_congr_left fun r _ => by simp
theorem HallOK.r6 {h : List (List Int)} {m : Nat} (H : HallOK h m) : ∀ r ∈ h, r.length ≤ 1000000 := fun r hr => by have := (H.row r hr).1; have := H.m8; omega
--@ last
--@ waits
end Zm
set_option linter.all false
set_option autoImplicit false
set_option maxRecDepth 100000
/-! GS: what the shared typed programs hand back. -/
namespace Zm
open PySem
--@ draws
instance : Dr Well := ⟨fun h hc => h.mono hc⟩
theorem dip_gets {n : Nat} {w : Int} (h1 : 0 < w) (h2 : w < 2 ^ 100) : Gets Well n 1 (g__law_dip n w) (fun r => 0 ≤ r ∧ r < w) := fun s C hw hc => by
  obtain ⟨r, s', e, r0, rw_, w'⟩ := dip_ok hw (show C < 2 ^ 100 by omega) h1 h2
  exact ⟨r, s', by unfold g__law_dip; rw [e], ⟨r0, rw_⟩, w'⟩
theorem well_gets {ns : List Int} {k : Int} (h0 : 0 ≤ k) (hk : k < 1000) (s : Sto) : ∃ n s', g__law_well ns k s = .ok n s' ∧ Well s' n 0 := by
  obtain ⟨n, s', e, w⟩ := well_ok (ns := ns) h0 hk s
  exact ⟨n, s', by unfold g__law_well; rw [e], w⟩
--@ halls and days
theorem ix_gets {W : DS} [Dr W] {α : Type} {n k : Nat} {xs : List α} {r : Int} {P : α → Prop} (h0 : 0 ≤ r) (h3 : r < xs.length) (h : ∀ x ∈ xs, P x) : Gets W n k (ixT xs r) P := fun s C w hc => by
  obtain ⟨x, e, _, m⟩ := ix_any (s := s) h0 h3
  exact ⟨x, s, e, h x m, Dr.mono w (by omega)⟩
theorem range_gets {W : DS} [Dr W] {n k : Nat} {j : Int} (h0 : 0 ≤ j) (h1 : j ≤ 1000000) : Gets W n k (rangeT j) (fun xs => xs.length = j.toNat) := gets_eq (fun s => range_int (by omega) h1) (by simp)
theorem one_gets {n : Nat} {w : Int} (h1 : 0 < w) (h2 : w < 2 ^ 100) : Gets Well n 1 (bd (g__law_dip n w) fun y => pr (1 + y)) (fun m => 1 ≤ m ∧ m ≤ w) :=
  gets_bd (dip_gets h1 h2) fun y hy => gets_pr ⟨by omega, by omega⟩
--@ judged
--@ leavings
end Zm
set_option linter.all false
set_option autoImplicit false
set_option maxRecDepth 100000
/-! GD: draws of the other kinds; houses, halls by them. -/
namespace Zm
open PySem
theorem powC {k : Nat} (h : k ≤ 1000) (s : Sto) : powT 10 (k : Int) s = .ok (10 ^ k) s := pow10_ok h
/-- a hall whose minutes are not too great -/
def Low (b : Int) (h : List (List Int)) : Prop := ∀ r ∈ h, ∀ x ∈ r, x < b
end Zm
set_option linter.all false
set_option autoImplicit false
set_option maxRecDepth 100000
namespace Zm
open PySem
def diffs (a b : List Int) : List Int := List.zipWith (fun x y => y - x) a b
def overL : List (List Int) → List (List Int) → List Int
  | a :: as, b :: bs => diffs a b ++ overL as bs
  | _, _ => []
/-! the plain law of leavings -/
inductive Btw (c : Int) : List Int → List Int → Prop
  | nil : Btw c [] []
  | cons {a b : Int} {as bs : List Int} : a ≤ b → b ≤ a + c → Btw c as bs → Btw c (a :: as) (b :: bs)
theorem Btw.len {c : Int} {as bs : List Int} (h : Btw c as bs) : as.length = bs.length := by induction h <;> simp_all
inductive BtwL (c : Int) : List (List Int) → List (List Int) → Prop
  | nil : BtwL c [] []
  | cons {a b : List Int} {as bs : List (List Int)} : Btw c a b → BtwL c as bs → BtwL c (a :: as) (b :: bs)
theorem Btw.diffs {c : Int} {a b : List Int} (h : Btw c a b) : ∀ x ∈ diffs a b, 0 ≤ x ∧ x ≤ c := by
  induction h with
  | nil => intro x hx; simp [Zm.diffs] at hx
  | cons h1 h2 _ ih =>
    intro x hx
    simp only [Zm.diffs, List.zipWith_cons_cons, List.mem_cons] at hx
    rcases hx with rfl | hx
    · omega
    · exact ih x hx
theorem BtwL.over {c : Int} {as bs : List (List Int)} (h : BtwL c as bs) : ∀ x ∈ overL as bs, 0 ≤ x ∧ x ≤ c := by
  induction h with
  | nil => intro x hx; simp [overL] at hx
  | cons h1 _ ih =>
    intro x hx
    simp only [overL, List.mem_append] at hx
    rcases hx with hx | hx
    · exact h1.diffs x hx
    · exact ih x hx
/-! only what is ahead counts -/
/-- the times at which those come who come to the last of h -/
def inTo : List (List Int) → List Int → List Int
  | [], ts => ts
  | r :: h, ts => inTo h (leftAt r ts)
/-! all later -/
/-! the later of two days -/
/-! between two who leave -/
/-! more minutes at one cell -/
end Zm
set_option linter.all false
set_option autoImplicit false
/-! LPP: ways over cells, worths, the greatest: plain Lean, no program in sight. -/
namespace Lpp
/-- a way from a cell to a cell, of that worth -/
inductive Way (w : Nat → Nat → Int) : Nat → Nat → Nat → Nat → Int → Prop
  | one (i k : Nat) : Way w i k i k (w i k)
  | down {i k j l : Nat} {W : Int} : Way w i k j l W → Way w i k (j + 1) l (W + w (j + 1) l)
  | right {i k j l : Nat} {W : Int} : Way w i k j l W → Way w i k j (l + 1) (W + w j (l + 1))
section
variable {w v : Nat → Nat → Int} {i k j l n m : Nat} {W : Int}
theorem Way.le (h : Way w i k j l W) : i ≤ j ∧ k ≤ l := by induction h <;> omega
/-- the greatest worth -/
structure Top (w : Nat → Nat → Int) (i k j l : Nat) (G : Int) : Prop where
  is : Way w i k j l G
  le : ∀ W, Way w i k j l W → W ≤ G
theorem Top.one {G G' : Int} (h : Top w i k j l G) (h' : Top w i k j l G') : G = G' := by
  have := h.le _ h'.is; have := h'.le _ h.is; omega
/-- the last step of a way -/
theorem Way.cases_last (h : Way w i k j l W) : (i = j ∧ k = l ∧ W = w j l) ∨ (∃ j' U, j = j' + 1 ∧ Way w i k j' l U ∧ W = U + w j l) ∨ (∃ l' U, l = l' + 1 ∧ Way w i k j l' U ∧ W = U + w j l) := by
  cases h with
  | one => exact .inl ⟨rfl, rfl, rfl⟩
  | down h => exact .inr (.inl ⟨_, _, rfl, h, rfl⟩)
  | right h => exact .inr (.inr ⟨_, _, rfl, h, rfl⟩)
/-- the table from a first column on: X is the greatest of all ways from (0, f), f from F on, with what those come with -/
structure Lv (w : Nat → Nat → Int) (T : Nat → Int) (j l : Nat) (X : Int) : Prop where
  is : ∃ f W, Way w 0 f j l W ∧ X = T f + W
  le : ∀ f W, Way w 0 f j l W → T f + W ≤ X
theorem Lv.one {T : Nat → Int} {X Y : Int} (h : Lv w T j l X) (h' : Lv w T j l Y) : X = Y := by
  obtain ⟨f, W, a, rfl⟩ := h.is
  obtain ⟨g, V, b, rfl⟩ := h'.is
  have := h.le _ _ b; have := h'.le _ _ a; omega
theorem Lv.first {T : Nat → Int} : Lv w T 0 0 (T 0 + w 0 0) := by
  refine ⟨⟨0, _, .one 0 0, rfl⟩, fun f W h => ?_⟩
  have := h.le
  rcases h.cases_last with ⟨_, e, rfl⟩ | ⟨_, _, e, _⟩ | ⟨_, _, e, _⟩
  · rw [e]; omega
  · omega
  · omega
end
end Lpp
set_option linter.all false
set_option autoImplicit false
namespace Zm
open PySem Lpp
/-! LQ: what leavings are by ways -/
def at2 (h : List (List Int)) (j l : Nat) : Int := (h.getD j []).getD l 0
end Zm
set_option linter.all false
set_option autoImplicit false
set_option maxRecDepth 100000
/-! GH: held_by. -/
namespace Zm
open PySem
/-- a table of so many rows, so many in each, none below nought -/
structure Tab (L : List (List Int)) (n m : Nat) : Prop where
  rows : L.length = n
  row : ∀ r ∈ L, r.length = m ∧ Nn r
theorem Tab.at {L : List (List Int)} {n m j l : Nat} (h : Tab L n m) (hj : j < n) (hl : l < m) : ∃ r, L[j]? = some r ∧ r[l]? = some (at2 L j l) ∧ 0 ≤ at2 L j l := by
  have hlen := h.rows
  have e : L[j]? = some L[j] := List.getElem?_eq_getElem (by omega)
  obtain ⟨rl, rn⟩ := h.row _ (List.getElem_mem (show j < L.length by omega))
  have e2 : L[j][l]? = some L[j][l] := List.getElem?_eq_getElem (by omega)
  have e3 : at2 L j l = L[j][l] := by unfold at2; rw [List.getD_eq_getElem?_getD, List.getD_eq_getElem?_getD, e]; simp [e2]
  exact ⟨L[j], e, by rw [e3]; exact e2, by rw [e3]; exact rn _ (List.getElem_mem _)⟩
theorem Tab.ix {L : List (List Int)} {n m j l : Nat} (h : Tab L n m) (hj : j < n) (hl : l < m) (s : Sto) : bd (ixT L (j : Int)) (fun y => ixT y (l : Int)) s = .ok (at2 L j l) s := by
  obtain ⟨r, e1, e2, _⟩ := h.at hj hl
  rw [bd_ok (ix_get e1)]; exact ix_get e2
end Zm
set_option linter.all false
set_option autoImplicit false
/-! MV: minutes moved between two rows: plain. -/
namespace Mv
def ps (a : Nat → Int) : Nat → Int
  | 0 => 0
  | k + 1 => ps a k + a k
/-- the greatest worth from the first to the k-th, of two rows -/
def gw (a b : Nat → Int) : Nat → Int
  | 0 => 0
  | k + 1 => max (gw a b k) (ps a (k + 1)) + b k
/-- a way that changes over at c -/
def val (a b : Nat → Int) (p q c : Nat) : Int := ps a (c + 1) - ps a p + (ps b (q + 1) - ps b c)
def Dom (m : Nat) (a b a' b' : Nat → Int) : Prop := ∀ p q c, p ≤ c → c ≤ q → q < m → ∃ c', p ≤ c' ∧ c' ≤ q ∧ val a b p q c ≤ val a' b' p q c'
theorem Dom.trans {m : Nat} {a b a' b' a2 b2 : Nat → Int} (h : Dom m a b a' b') (h' : Dom m a' b' a2 b2) : Dom m a b a2 b2 := fun p q c h1 h2 h3 => by
  obtain ⟨c', e1, e2, e3⟩ := h p q c h1 h2 h3
  obtain ⟨d, f1, f2, f3⟩ := h' p q c' e1 e2 h3
  exact ⟨d, f1, f2, Int.le_trans e3 f3⟩
theorem ps_congr {a a' : Nat → Int} : ∀ {k : Nat}, (∀ c, c < k → a c = a' c) → ps a k = ps a' k
  | 0, _ => rfl
  | k + 1, h => by simp only [ps]; rw [ps_congr fun c hc => h c (by omega), h k (by omega)]
theorem Dom.congr {m : Nat} {a b a' b' : Nat → Int} (h : ∀ c, c < m → a c = a' c ∧ b c = b' c) : Dom m a b a' b' := fun p q c h1 h2 h3 => by
  refine ⟨c, h1, h2, ?_⟩
  unfold val
  rw [ps_congr (k := c + 1) fun d hd => (h d (by omega)).1, ps_congr (k := p) fun d hd => (h d (by omega)).1, ps_congr (k := q + 1) fun d hd => (h d (by omega)).2, ps_congr (k := c) fun d hd => (h d (by omega)).2]
  omega
/-- gw is the greatest of all ways from the first -/
theorem gw_le {a b : Nat → Int} : ∀ {q c : Nat}, c ≤ q → val a b 0 q c ≤ gw a b (q + 1)
  | 0, c, h => by
    have : c = 0 := by omega
    subst this
    simp only [val, gw, ps]; omega
  | q + 1, c, h => by
    simp only [gw]
    by_cases e : c = q + 1
    · subst e; simp only [val, ps]; omega
    · have ih := gw_le (a := a) (b := b) (q := q) (c := c) (by omega)
      have h1 : val a b 0 (q + 1) c = val a b 0 q c + b (q + 1) := by simp only [val, ps]; omega
      simp only [gw] at ih
      rw [h1]; omega
theorem gw_is {a b : Nat → Int} (h : 0 ≤ a 0) : ∀ (q : Nat), ∃ c, c ≤ q ∧ gw a b (q + 1) = val a b 0 q c
  | 0 => ⟨0, Nat.le_refl _, by simp only [gw, val, ps]; omega⟩
  | q + 1 => by
    obtain ⟨c, h1, h2⟩ := gw_is (a := a) (b := b) h q
    by_cases e : gw a b (q + 1) ≤ ps a (q + 2)
    · refine ⟨q + 1, Nat.le_refl _, ?_⟩
      have : gw a b (q + 1 + 1) = max (gw a b (q + 1)) (ps a (q + 2)) + b (q + 1) := rfl
      rw [this]
      simp only [val, ps] at e ⊢; omega
    · refine ⟨c, by omega, ?_⟩
      have e1 : gw a b (q + 1 + 1) = max (gw a b (q + 1)) (ps a (q + 2)) + b (q + 1) := rfl
      have e2 : val a b 0 (q + 1) c = val a b 0 q c + b (q + 1) := by simp only [val, ps]; omega
      rw [e1, e2]; omega
theorem Dom.gw {m : Nat} {a b a' b' : Nat → Int} (h : Dom m a b a' b') (h0 : 0 ≤ a 0) {q : Nat} (hq : q < m) : gw a b (q + 1) ≤ gw a' b' (q + 1) := by
  obtain ⟨c, c1, c2⟩ := gw_is (b := b) h0 q
  obtain ⟨c', d1, d2, d3⟩ := h 0 q c (by omega) c1 hq
  have := gw_le (a := a') (b := b') d2
  omega
/-! one minute moved -/
def lead (a b : Nat → Int) (c : Nat) : Int := ps a (c + 1) - ps b c
/-- the first one at whom the lead is greatest -/
structure First (a b : Nat → Int) (m k : Nat) : Prop where
  lt : k < m
  ge : ∀ c, c < m → lead a b c ≤ lead a b k
  first : ∀ c, c < k → lead a b c < lead a b k
/-! rows of a wished total -/
def rb (W : Nat → Int) (k : Nat) (T : Int) : Int := W (k + 1) - max (W k) T
def fa (l : List (Int × Int)) (c : Nat) : Int := (l.getD c (0, 0)).1
/-- how the greatest worths and the sums of so many go together -/
structure Lace (W both : Nat → Int) (m : Nat) : Prop where
  z : W 0 = 0
  up : ∀ c, c < m → W c ≤ W (c + 1)
  s1 : ∀ c, c < m → ps both c - W c ≤ ps both (c + 1) - W (c + 1)
  s2 : ∀ c, c < m → ps both (c + 1) - W (c + 1) ≤ W c
def Eqv (m : Nat) (a b a' b' : Nat → Int) : Prop := Dom m a b a' b' ∧ Dom m a' b' a b
theorem Eqv.symm {m : Nat} {a b a' b' : Nat → Int} (h : Eqv m a b a' b') : Eqv m a' b' a b := ⟨h.2, h.1⟩
theorem Eqv.trans {m : Nat} {a b a' b' a2 b2 : Nat → Int} (h : Eqv m a b a' b') (h' : Eqv m a' b' a2 b2) : Eqv m a b a2 b2 := ⟨h.1.trans h'.1, h'.2.trans h.2⟩
end Mv
set_option linter.all false
set_option autoImplicit false
set_option maxRecDepth 100000
/-! GM: moves, typed. -/
namespace Zm
open PySem Lpp Mv
def rf (h : List (List Int)) (i : Nat) : Nat → Int := fun c => at2 h i c
def lst (f : Nat → Int) (m : Nat) : List Int := (List.range m).map f
@[simp] theorem lst_len {f : Nat → Int} {m : Nat} : (lst f m).length = m := by simp [lst]
theorem lst_get {f : Nat → Int} {m c : Nat} (h : c < m) : (lst f m)[c]? = some (f c) := by simp [lst, h]
section
variable {h : List (List Int)} {m i : Nat} (H : HallOK h m) (hi : i + 1 < h.length)
include H hi
end
end Zm
set_option linter.all false
set_option autoImplicit false
set_option maxRecDepth 100000
/-! P06: the plain law. -/
namespace Zm
open PySem
/-! where the row goes, told of a part -/
section
variable {L : List (List Int)} {t : List Int} {n m : Nat} (h : Tab L n m) (hn : Nn t) (ht : t.length = m)
include h hn ht
end
/-! noughts -/
/-! all at once -/
end Zm
set_option linter.all false
set_option autoImplicit false
set_option maxRecDepth 100000
/-! GU: moves that nobody sees. -/
namespace Zm
open PySem Lpp Mv
/-! two rows: their ways -/
/-! cut between customers -/
def cutH (f b : Nat) (h : List (List Int)) : List (List Int) := h.map fun r => (r.take b).drop f
/-- nobody outside sees a difference, on whatever day, of customers next to one another -/
def Un (m : Nat) (h h' : List (List Int)) : Prop := ∀ f b, f < b → b ≤ m → ∀ t, DayOK t (b - f) → inTo (cutH f b h) t = inTo (cutH f b h') t
theorem Un.trans {m : Nat} {h h' h2 : List (List Int)} (a : Un m h h') (b : Un m h' h2) : Un m h h2 := fun f c h1 h2 t ht => (a f c h1 h2 t ht).trans (b f c h1 h2 t ht)
theorem Un.symm {m : Nat} {h h' : List (List Int)} (a : Un m h h') : Un m h' h := fun f c h1 h2 t ht => (a f c h1 h2 t ht).symm
section
variable {h : List (List Int)} {m i : Nat} (H : HallOK h m) (hi : i + 1 < h.length) {T : Int} (h1 : ps (rf h i) m + ps (rf h (i + 1)) m - gw (rf h i) (rf h (i + 1)) m ≤ T) (h2 : T ≤ gw (rf h i) (rf h (i + 1)) m)
include H hi h1 h2
end
end Zm
set_option linter.all false
set_option autoImplicit false
/-! MV2: two rows read from the end; what is as before is so from the end. -/
namespace Mv
def rv (m : Nat) (f : Nat → Int) : Nat → Int := fun c => f (m - 1 - c)
end Mv
set_option linter.all false
set_option autoImplicit false
set_option maxRecDepth 100000
/-! GV: the law's own greatest worths, in a dict. -/
namespace Zm
open PySem Lpp Mv
/-! ### dicts as rows of pairs -/
section
variable {κ β : Type} [DecidableEq κ]
/-- a row of pairs by numbers -/
def asc (key : Nat → κ) (n : Nat) (g : Nat → β) : List (κ × β) := (List.range n).map fun j => (key j, g j)
@[simp] theorem asc_len {key : Nat → κ} {n : Nat} {g : Nat → β} : (asc key n g).length = n := by simp [asc]
theorem asc_succ {key : Nat → κ} {n : Nat} {g : Nat → β} : asc key (n + 1) g = asc key n g ++ [(key n, g n)] := by simp [asc, List.range_succ]
end
/-! ### a line's going through a row -/
def nw (old r : Nat → Int) : Nat → Int
  | 0 => max (old 0) 0 + r 0
  | j + 1 => max (old (j + 1)) (nw old r j) + r (j + 1)
def lw (w : Nat → Nat → Int) (f : Nat) : Nat → Nat → Int
  | 0 => fun _ => 0
  | t + 1 => nw (lw w f t) (fun j => w t (f + j))
/-! ### two rows -/
/-! ### as those next to one another leave -/
end Zm
set_option linter.all false
set_option autoImplicit false
set_option maxRecDepth 100000
/-! GX: halls of the third kind of draws; how many minutes may be moved at the most. -/
namespace Zm
open PySem Lpp Mv
--@ minutes and halls of the third kind of draws
end Zm
set_option linter.all false
set_option autoImplicit false
set_option maxRecDepth 100000
/-! R02a: data of any kind: what repr tells. -/
namespace Zm
open PySem PySem.PyData
/-- data: numbers to K, texts, lists and tuples, to a depth -/
inductive Dt (K : Int) : Nat → D → Prop
  | non {n : Nat} : Dt K n .non
  | bl {n : Nat} {b : Bool} : Dt K n (.bl b)
  | int {n : Nat} {i : Int} : -K ≤ i → i ≤ K → Dt K n (.int i)
  | str {n : Nat} {z : Str} : sok z → z.length ≤ 60 → Dt K n (.str z)
  | dic {n : Nat} : Dt K (n + 1) (.dic false false [] [])
  | tup {n : Nat} {ds : List D} : (∀ d ∈ ds, Dt K n d) → Dt K (n + 1) (.tup ds)
  | lst {n : Nat} {ds : List D} : (∀ d ∈ ds, Dt K n d) → Dt K (n + 1) (.lst false ds)
theorem fzs_all {ds : List D} (h : ∀ d ∈ ds, fz d = d) : fzs ds = ds := by rw [fzs_eq]; exact (List.map_congr_left h).trans (List.map_id' ds)
theorem Dt.fz {K : Int} : ∀ {n : Nat} {d : D}, Dt K n d → Zm.fz d = d
  | _, _, .non => rfl
  | _, _, .bl => rfl
  | _, _, .int _ _ => rfl
  | _, _, .str _ _ => rfl
  | _, _, .dic => rfl
  | _, _, .tup h => by show D.tup (fzs _) = _; rw [fzs_all fun d hd => (h d hd).fz]
  | _, _, .lst h => by show D.lst false (fzs _) = _; rw [fzs_all fun d hd => (h d hd).fz]
theorem Dt.up {K K' : Int} (hK : K ≤ K') : ∀ {n m : Nat} {d : D}, Dt K n d → n ≤ m → Dt K' m d
  | _, _, _, .non, _ => .non
  | _, _, _, .bl, _ => .bl
  | _, _, _, .int a b, _ => .int (by omega) (by omega)
  | _, _, _, .str a b, _ => .str a b
  | _, m + 1, _, .dic, _ => .dic
  | _, m + 1, _, .tup h, l => .tup fun d hd => (h d hd).up hK (by omega)
  | _, m + 1, _, .lst h, l => .lst fun d hd => (h d hd).up hK (by omega)
mutual
/-- how long its text is, at the most -/
def wt : D → Nat
  | .tup ds => wts ds + 4
  | .lst _ ds => wts ds + 4
  | _ => 700
def wts : List D → Nat
  | [] => 0
  | d :: ds => wt d + 2 + wts ds
end
theorem wts_app : ∀ (a b : List D), wts (a ++ b) = wts a + wts b
  | [], b => by simp [wts]
  | d :: a, b => by rw [List.cons_append, wts, wts, wts_app a b]; omega
theorem wts_mem : ∀ {ds : List D} {d : D}, d ∈ ds → wt d + 2 ≤ wts ds
  | e :: ds, d, h => by
    rcases List.mem_cons.mp h with rfl | h
    · rw [wts]; omega
    · have := wts_mem h; rw [wts]; omega
def tsum : List Str → Nat
  | [] => 0
  | t :: ts => t.length + 2 + tsum ts
theorem from_sum : ∀ (ts : List Str) (k : Nat) (acc : Str), (∀ t ∈ ts, sok t) → sok acc → (textFrom k acc ts).length ≤ acc.length + tsum ts ∧ sok (textFrom k acc ts)
  | [], k, acc, _, ha => ⟨by simp [textFrom], ha⟩
  | t :: ts, k, acc, h, ha => by
    have h0 := h t (by simp)
    have s2 : sok (acc ++ (if k > 0 then ", " else "" : String) ++ t) := by
      refine sok_app (sok_app ha ?_) h0
      split
      · exact sok_of ", "
      · exact sok_of ""
    have e : (acc ++ (if k > 0 then ", " else "" : String) ++ t).length ≤ acc.length + 2 + t.length := by
      rw [len_app, len_app]
      have : (((if k > 0 then ", " else "" : String) : Str)).length ≤ 2 := by split <;> decide
      omega
    obtain ⟨a, b⟩ := from_sum ts (k + 1) _ (fun t ht => h t (by simp [ht])) s2
    refine ⟨?_, b⟩
    show (textFrom (k + 1) _ ts).length ≤ _
    rw [tsum]
    omega
theorem join_sum : ∀ (ts : List Str), (∀ t ∈ ts, sok t) → (Str.join ", " ts).length ≤ tsum ts ∧ sok (Str.join ", " ts)
  | [], h => ⟨by show (Str.ofString "").length ≤ _; rw [show (Str.ofString "").length = 0 by decide]; omega, sok_of ""⟩
  | [x], h => ⟨by show x.length ≤ _; simp [tsum], h x (by simp)⟩
  | x :: y :: r, h => by
    have h0 := h x (by simp)
    obtain ⟨a, b⟩ := join_sum (y :: r) fun t ht => h t (by simp [ht])
    have e : Str.join ", " (x :: y :: r) = x ++ ", " ++ Str.join ", " (y :: r) := rfl
    rw [e]
    refine ⟨?_, sok_app (sok_app h0 (sok_of ", ")) b⟩
    rw [len_app, len_app]
    have e1 : ((", " : String) : Str).length = 2 := by decide
    rw [e1, tsum]
    omega
theorem list_sum {ts : List Str} (h : ∀ t ∈ ts, sok t) : (listText ts).length ≤ tsum ts + 2 ∧ sok (listText ts) := by
  obtain ⟨a, b⟩ := from_sum ts 0 "[" h (sok_of "[")
  unfold listText
  refine ⟨?_, sok_app b (sok_of "]")⟩
  rw [len_app]
  have e1 : (("[" : String) : Str).length = 1 := by decide
  have e2 : (("]" : String) : Str).length = 1 := by decide
  rw [e1] at a; rw [e2]; omega
theorem tup_sum {ts : List Str} (h : ∀ t ∈ ts, sok t) : (tupleText ts).length ≤ tsum ts + 3 ∧ sok (tupleText ts) := by
  obtain ⟨a, b⟩ := join_sum ts h
  unfold tupleText
  refine ⟨?_, sok_app (sok_app (sok_of "(") b) (by split; exact sok_of ",)"; exact sok_of ")")⟩
  rw [len_app, len_app]
  have e1 : (("(" : String) : Str).length = 1 := by decide
  have e2 : (((if (ts.length == 1) = true then ",)" else ")" : String)) : Str).length ≤ 2 := by split <;> decide
  rw [e1]; omega
theorem roz_allS : ∀ {ds : List D} {k : Nat}, (∀ d ∈ ds, ROz d k (wt d)) → ∃ xs, pzs ds = some xs ∧ showableAll xs = true ∧ depthAll xs ≤ k ∧ tsum (shownAll xs) ≤ wts ds ∧ ∀ t ∈ shownAll xs, sok t
  | [], k, _ => ⟨[], rfl, rfl, by simp [depthAll], by simp [shownAll, tsum], by simp [shownAll]⟩
  | d :: ds, k, h => by
    obtain ⟨x, a, b, e, f, g⟩ := h d (by simp)
    obtain ⟨xs, a2, b2, e2, f2, g2⟩ := roz_allS (ds := ds) fun d hd => h d (by simp [hd])
    refine ⟨x :: xs, by rw [pzs, a, a2], by simp [showableAll, b, b2], by simp only [depthAll]; omega, by rw [shownAll, tsum, wts]; omega, fun t ht => ?_⟩
    rw [shownAll, List.mem_cons] at ht
    rcases ht with rfl | ht
    · exact g
    · exact g2 t ht
theorem str_len02 (i : Int) (h : -10 ^ 50 < i) (h2 : i < 10 ^ 50) : (Str.ofString (toString i)).length ≤ 51 := by
  by_cases z : 0 ≤ i
  · have := PyProof.Rows.toString_length_le z (by decide) h2; omega
  · rw [PyProof.Rows.len_text_neg (by omega)]
    have a := PyProof.Rows.toString_length_le (v := 0 - i) (by omega) (k := 50) (by decide) (by omega)
    omega
theorem chr02 (ch : Char) : ch.toNat < 0x110000 := by
  have h := ch.valid
  show ch.val.toNat < 0x110000
  rcases h with h | h
  · omega
  · exact h.2
theorem reprChar_sok02 {q c : Nat} (hq : q < 0x110000) (hc : c < 0x110000) : ∀ x ∈ PySem.Builtin.Str.reprChar q c, x < 0x110000 := by
  have hex : ∀ w : Nat, ∀ x ∈ List.replicate (w - ((Nat.toDigits 16 c).map Char.toNat).length) 48 ++ (Nat.toDigits 16 c).map Char.toNat, x < 0x110000 := fun w x hx => by
    rcases List.mem_append.mp hx with h | h
    · rw [(List.mem_replicate.mp h).2]; decide
    · obtain ⟨ch, _, rfl⟩ := List.mem_map.mp h
      exact chr02 ch
  intro x hx
  unfold PySem.Builtin.Str.reprChar at hx
  dsimp only at hx
  repeat' split at hx
  all_goals first
    | (simp only [List.mem_cons, List.not_mem_nil, or_false] at hx; rcases hx with rfl | rfl <;> omega)
    | (simp only [List.mem_cons, List.not_mem_nil, or_false] at hx; subst hx; omega)
    | (rcases List.mem_append.mp hx with h | h
       · simp only [List.mem_cons, List.not_mem_nil, or_false] at h; rcases h with rfl | rfl <;> decide
       · exact hex _ x h)
theorem foldl_sok02 {q : Nat} (hq : q < 0x110000) : ∀ (l : List Nat) (acc : Array Nat), (∀ c ∈ l, c < 0x110000) → (∀ c ∈ acc.toList, c < 0x110000) →
    ∀ c ∈ (l.foldl (fun out c => out ++ (PySem.Builtin.Str.reprChar q c).toArray) acc).toList, c < 0x110000
  | [], acc, _, h => h
  | c :: r, acc, h, h2 => by
    refine foldl_sok02 hq r _ (fun d hd => h d (List.mem_cons_of_mem _ hd)) fun x hx => ?_
    simp only [Array.toList_append, List.mem_append] at hx
    rcases hx with hx | hx
    · exact h2 x hx
    · exact reprChar_sok02 hq (h c (List.mem_cons_self ..)) x hx
theorem sok_iff02 {x : Str} : sok x ↔ ∀ c ∈ x.cps.toList, c < 0x110000 := by
  unfold sok PyData.strOk
  rw [← Array.all_toList, List.all_eq_true]
  constructor
  · intro h c hc; simpa using h c hc
  · intro h c hc; simpa using h c hc
theorem sok_repr02 {x : Str} (h : sok x) : sok (reprText x) := by
  rw [sok_iff02] at h ⊢
  have hq : reprQuote x < 0x110000 := by unfold reprQuote; split <;> decide
  intro c hc
  unfold reprText at hc
  simp only [Array.toList_push, List.mem_append, List.mem_singleton] at hc
  rcases hc with hc | rfl
  · rw [← Array.foldl_toList] at hc
    exact foldl_sok02 hq _ _ h (by simpa using hq) c hc
  · exact hq
theorem roz_str02 {z : Str} {n : Nat} (h : sok z) (hn : z.length ≤ n) : ROz (.str z) 0 (10 * n + 2) := by
  refine ⟨.str z, rfl, by simp [showable], by simp [depth], ?_, sok_repr02 h⟩
  have := StrLaws.reprText_len z (fun c hc => by
    have := (sok_iff02.mp h) c hc
    have e : (16 : Nat) ^ 8 = 4294967296 := by decide
    omega)
  show (reprText z).length ≤ _
  omega
theorem Dt.roz {K : Int} (hK : K < 10 ^ 50) : ∀ {n : Nat} {d : D}, Dt K n d → ROz d n (wt d)
  | _, _, .non => ro_non.z.mono (by omega) (by show 4 ≤ 700; decide)
  | _, _, .bl => ro_bl.z.mono (by omega) (by show 5 ≤ 700; decide)
  | n, .int i, .int a b => by
    refine ⟨.int i, rfl, ?_, by simp [depth], ?_, sok_of _⟩
    · unfold showable
      rw [decide_eq_true_eq]
      by_cases z : i.natAbs = 0
      · rw [z]; decide
      · refine (Nat.log2_lt z).mpr ?_
        have h1 : i.natAbs < 10 ^ 50 := by omega
        exact Nat.lt_of_lt_of_le h1 (Nat.le_trans (show (10 : Nat) ^ 50 ≤ 2 ^ 170 by decide) (Nat.pow_le_pow_right (by decide) (by decide)))
    · have := str_len02 i (by omega) (by omega)
      show (Str.ofString (toString i)).length ≤ 700
      omega
  | _, _, .str a b => (roz_str02 a b).mono (by omega) (by show _ ≤ 700; omega)
  | _, _, .dic => roz_dic.mono (by omega) (by show 2 ≤ 700; decide)
  | _, _, .tup h => by
    obtain ⟨xs, a, b, e, f, g⟩ := roz_allS fun d hd => (h d hd).roz hK
    obtain ⟨p, q⟩ := tup_sum g
    exact ⟨.tuple xs, by rw [pz, a]; rfl, by simpa [showable] using b, by simp only [depth]; omega, by rw [wt]; show (tupleText _).length ≤ _; omega, by unfold shown; exact q⟩
  | _, _, .lst h => by
    obtain ⟨xs, a, b, e, f, g⟩ := roz_allS fun d hd => (h d hd).roz hK
    obtain ⟨p, q⟩ := list_sum g
    exact ⟨.list xs, by rw [pz, a]; rfl, by simpa [showable] using b, by simp only [depth]; omega, by rw [wt]; show (listText _).length ≤ _; omega, by unfold shown; exact q⟩
end Zm
set_option linter.all false
set_option autoImplicit false
set_option maxRecDepth 100000
/-! GXT (GXH beside GJ10): things that are no halls, no numbers. -/
namespace Zm
open PySem
/-- no number to count by -/
def NoAm (d : D) : Prop := ∀ s, f_is_amount [d] s = .ok (.bl false) s
/-- no hall -/
def NoHa (d : D) : Prop := ∀ s, f_is_hall [d] s = .ok (.bl false) s
theorem noAm_non : NoAm .non := fun s => by simp [f_is_amount, f_is_whole, mkFn, mAnd, mNot]
theorem noAm_bl (b : Bool) : NoAm (.bl b) := fun s => by simp [f_is_amount, f_is_whole, mkFn, mAnd, mNot]
theorem noAm_str (b : Str) : NoAm (.str b) := fun s => by simp [f_is_amount, f_is_whole, mkFn, mAnd, mNot]
theorem noAm_tup (b : List D) : NoAm (.tup b) := fun s => by simp [f_is_amount, f_is_whole, mkFn, mAnd, mNot]
theorem noAm_lst (o : Bool) (b : List D) : NoAm (.lst o b) := fun s => by simp [f_is_amount, f_is_whole, mkFn, mAnd, mNot]
/-! ### rows, halls -/
theorem all_bl {α : Type} {s : Sto} {o : Bool} (p : α → Bool) (l : List α) : gAll s [.lst o (l.map fun x => .bl (p x))] = some (.bl (l.all p)) := by
  have : l.map (fun x => D.bl (p x)) = (l.map p).map D.bl := by simp
  simp only [gAll, this, toBls_map, Option.bind_some]
  simp
theorem row_is {ds : List D} {m : Nat} (p : D → Bool) (hf : fzs ds = ds) (hp : ∀ d ∈ ds, fz d = d ∧ ∀ s, f_is_amount [d] s = .ok (.bl (p d)) s) (hl : ds.length ≤ 1000000) (s : Sto) : f_is_row [.tup ds, .int (m : Nat)] s = .ok (.bl (decide (ds.length = m) && ds.all p)) s := by
  have key : f_is_row_c1 [some (.tup ds), some (.int (m : Nat)), none] s = .ok (.lst true (ds.map fun d => .bl (p d))) s :=
    mLc_map (src := iSeq (mVar 0)) (tg := .nm 2) (vs := [2]) (m := mCall f_is_amount [mVar 2]) (σ := [some (.tup ds), some (.int (m : Nat)), none]) (s := s) (s' := s) (ds := ds) (fun d => .bl (p d)) (iSeq_ok (d := .tup ds) (by simp [hf]) (by simp [itemsOf, hf])) rfl (fun d hd => by
      obtain ⟨a, b⟩ := hp d hd
      exact ⟨_, rfl, by simp [a, b]⟩) hl
  have e1 : gLen s [.tup ds] = some (.int (ds.length : Nat)) := by simp
  have e2 : gIsi s [.tup ds, .ty "tuple"] = some (.bl true) := by simp
  refine mkFn_rt rfl ?_
  by_cases z : ds.length = m
  · subst z
    simp only [mRet, mAnd, mOp, mArgs, mVar, mC, List.map_cons, List.map_nil, List.cons_append, List.nil_append, List.getElem?_cons_zero, List.getElem?_cons_succ, fz, hf, R.bind_ok, R.of_some, R.to_ok, e1, e2, eq_t (Cmp.int _) (Cmp.int _), show List.replicate (3 - 2) (none : Option D) = [none] from rfl, key, all_bl, decide_true, Bool.true_and]
  · simp only [mRet, mAnd, mOp, mArgs, mVar, mC, List.map_cons, List.map_nil, List.cons_append, List.nil_append, List.getElem?_cons_zero, List.getElem?_cons_succ, fz, hf, R.bind_ok, R.of_some, R.to_ok, e1, e2, eq_f (Cmp.int _) (Cmp.int _) (show (PyData.int (ds.length : Nat)) ≠ .int (m : Nat) from fun y => z (by injection y with y; omega)), decide_eq_false z, Bool.false_and]
theorem hall_is2 {ds r0 : List D} (q : D → Bool) (hf : fzs ds = ds) (h0 : ds.head? = some (.tup r0)) (l8 : ds.length ≤ 8) (hp : ∀ d ∈ ds, fz d = d ∧ ∀ s, f_is_row [d, .int (r0.length : Nat)] s = .ok (.bl (q d)) s) (hq : ds.all q = false) : NoHa (.tup ds) := fun s => by
  have l1 : 1 ≤ ds.length := by
    cases ds with
    | nil => cases h0
    | cons x y => simp
  have g0 : gIx s [.tup ds, .int 0] = some (.tup r0) := by
    show L2.atI ds 0 = _
    rw [atI_zero, ← List.head?_eq_getElem?, h0]
  have f0 : fz (.tup r0) = .tup r0 := (hp _ (List.mem_of_head? h0)).1
  have fr : fzs r0 = r0 := by simpa using f0
  have g1 : gLen s [.tup r0] = some (.int (r0.length : Nat)) := by simp
  have g2 : gIsi s [.tup ds, .ty "tuple"] = some (.bl true) := by simp
  have g3 : gIsi s [.tup r0, .ty "tuple"] = some (.bl true) := by simp
  have g4 : gLen s [.tup ds] = some (.int (ds.length : Nat)) := by simp
  have key : f_is_hall_c1 [some (.tup ds), none] s = .ok (.lst true (ds.map fun d => .bl (q d))) s :=
    mLc_map (src := iSeq (mVar 0)) (tg := .nm 1) (vs := [1]) (m := mCall f_is_row [mVar 1, mOp gLen [mOp gIx [mVar 0, mC (.int 0)]]]) (σ := [some (.tup ds), none]) (s := s) (s' := s) (ds := ds) (fun d => .bl (q d)) (iSeq_ok (d := .tup ds) (by simp [hf]) (by simp [itemsOf, hf])) rfl (fun d hd => by
      obtain ⟨a, b⟩ := hp d hd
      refine ⟨_, rfl, ?_⟩
      simp [-gLen, hf, g0, g1, a, b]) (by omega)
  have c1 : gLe s [.int 1, .int (ds.length : Nat)] = some (.bl true) := by simp; omega
  have c2 : gLe s [.int (ds.length : Nat), .int 8] = some (.bl true) := by simp; omega
  refine mkFn_rt rfl ?_
  by_cases z1 : 1 ≤ r0.length
  · have c3 : gLe s [.int 1, .int (r0.length : Nat)] = some (.bl true) := by simp; omega
    by_cases z2 : r0.length ≤ 8
    · have c4 : gLe s [.int (r0.length : Nat), .int 8] = some (.bl true) := by simp; omega
      simp [-gLen, -gLe, -gIsi, mChain, hf, g0, g1, g2, g3, g4, c1, c2, c3, c4, key, all_bl, hq]
    · have c4 : gLe s [.int (r0.length : Nat), .int 8] = some (.bl false) := by simp; omega
      simp [-gLen, -gLe, -gIsi, mChain, hf, g0, g1, g2, g3, g4, c1, c2, c3, c4]
  · have c3 : gLe s [.int 1, .int (r0.length : Nat)] = some (.bl false) := by simp; omega
    simp [-gLen, -gLe, -gIsi, mChain, hf, g0, g1, g2, g3, g4, c1, c2, c3]
theorem noHa_wide {ds r0 : List D} (hf : fzs ds = ds) (h0 : ds.head? = some (.tup r0)) (l8 : ds.length ≤ 8) (hz : r0.length = 0 ∨ 8 < r0.length) : NoHa (.tup ds) := fun s => by
  have l1 : 1 ≤ ds.length := by
    cases ds with
    | nil => cases h0
    | cons x y => simp
  have g0 : gIx s [.tup ds, .int 0] = some (.tup r0) := by
    show L2.atI ds 0 = _
    rw [atI_zero, ← List.head?_eq_getElem?, h0]
  have g1 : gLen s [.tup r0] = some (.int (r0.length : Nat)) := by simp
  have g2 : gIsi s [.tup ds, .ty "tuple"] = some (.bl true) := by simp
  have g3 : gIsi s [.tup r0, .ty "tuple"] = some (.bl true) := by simp
  have g4 : gLen s [.tup ds] = some (.int (ds.length : Nat)) := by simp
  have c1 : gLe s [.int 1, .int (ds.length : Nat)] = some (.bl true) := by simp; omega
  have c2 : gLe s [.int (ds.length : Nat), .int 8] = some (.bl true) := by simp; omega
  refine mkFn_rt rfl ?_
  by_cases z1 : 1 ≤ r0.length
  · have c3 : gLe s [.int 1, .int (r0.length : Nat)] = some (.bl true) := by simp; omega
    have c4 : gLe s [.int (r0.length : Nat), .int 8] = some (.bl false) := by simp; omega
    simp [-gLen, -gLe, -gIsi, mChain, hf, g0, g1, g2, g3, g4, c1, c2, c3, c4]
  · have c3 : gLe s [.int 1, .int (r0.length : Nat)] = some (.bl false) := by simp; omega
    simp [-gLen, -gLe, -gIsi, mChain, hf, g0, g1, g2, g3, g4, c1, c2, c3]
theorem noHa_head {ds : List D} {d0 : D} (hf : fzs ds = ds) (h0 : ds.head? = some d0) (l8 : ds.length ≤ 8) (hz : gIsi [] [d0, .ty "tuple"] = some (.bl false)) : NoHa (.tup ds) := fun s => by
  have l1 : 1 ≤ ds.length := by
    cases ds with
    | nil => cases h0
    | cons x y => simp
  have g0 : gIx s [.tup ds, .int 0] = some d0 := by
    show L2.atI ds 0 = _
    rw [atI_zero, ← List.head?_eq_getElem?, h0]
  have g2 : gIsi s [.tup ds, .ty "tuple"] = some (.bl true) := by simp
  have g3 : gIsi s [d0, .ty "tuple"] = some (.bl false) := hz
  have g4 : gLen s [.tup ds] = some (.int (ds.length : Nat)) := by simp
  have c1 : gLe s [.int 1, .int (ds.length : Nat)] = some (.bl true) := by simp; omega
  have c2 : gLe s [.int (ds.length : Nat), .int 8] = some (.bl true) := by simp; omega
  refine mkFn_rt rfl ?_
  simp [-gLen, -gLe, -gIsi, mChain, hf, g0, g2, g3, g4, c1, c2]
theorem noHa_tall {ds : List D} (hf : fzs ds = ds) (hz : ds.length = 0 ∨ 8 < ds.length) : NoHa (.tup ds) := fun s => by
  have g2 : gIsi s [.tup ds, .ty "tuple"] = some (.bl true) := by simp
  have g4 : gLen s [.tup ds] = some (.int (ds.length : Nat)) := by simp
  refine mkFn_rt rfl ?_
  by_cases z1 : 1 ≤ ds.length
  · have c3 : gLe s [.int 1, .int (ds.length : Nat)] = some (.bl true) := by simp; omega
    have c4 : gLe s [.int (ds.length : Nat), .int 8] = some (.bl false) := by simp; omega
    simp [-gLen, -gLe, -gIsi, mChain, hf, g2, g4, c3, c4]
  · have c3 : gLe s [.int 1, .int (ds.length : Nat)] = some (.bl false) := by simp; omega
    simp [-gLen, -gLe, -gIsi, mChain, hf, g2, g4, c3]
theorem noHa_other {d : D} (hf : fz d = d) (hz : gIsi [] [d, .ty "tuple"] = some (.bl false)) : NoHa d := fun s => by
  have g2 : gIsi s [d, .ty "tuple"] = some (.bl false) := hz
  refine mkFn_rt rfl ?_
  simp [-gLen, -gLe, -gIsi, mChain, hf, g2]
/-! ### what must be -/
/-! ### kinds of things -/
def A0 (d : D) : Prop := d = .non ∨ (∃ b, d = .bl b) ∨ (∃ i : Int, d = .int i ∧ -1 ≤ i ∧ i < 10 ^ 39) ∨ d = .str "0" ∨ d = .str "1" ∨ d = .str ""
def A1 (d : D) : Prop := A0 d ∨ ∃ ds, (d = .tup ds ∨ d = .lst false ds) ∧ ds.length ≤ 8 ∧ ∀ x ∈ ds, A0 x
def A2 (N : Nat) (d : D) : Prop := A0 d ∨ ∃ ds, (d = .tup ds ∨ d = .lst false ds) ∧ ds.length ≤ N ∧ ∀ x ∈ ds, A1 x
theorem A0.fz {d : D} (h : A0 d) : fz d = d := by
  rcases h with rfl | ⟨b, rfl⟩ | ⟨i, rfl, _⟩ | rfl | rfl | rfl <;> rfl
theorem fzs_id {ds : List D} (h : ∀ x ∈ ds, Zm.fz x = x) : fzs ds = ds := by rw [fzs_eq]; exact (List.map_congr_left h).trans (List.map_id' ds)
theorem A1.fz {d : D} (h : A1 d) : Zm.fz d = d := by
  rcases h with h | ⟨ds, rfl | rfl, _, h⟩
  · exact h.fz
  · show D.tup (fzs ds) = _; rw [fzs_id fun x hx => (h x hx).fz]
  · show D.lst false (fzs ds) = _; rw [fzs_id fun x hx => (h x hx).fz]
theorem A2.fz {N : Nat} {d : D} (h : A2 N d) : Zm.fz d = d := by
  rcases h with h | ⟨ds, rfl | rfl, _, h⟩
  · exact h.fz
  · show D.tup (fzs ds) = _; rw [fzs_id fun x hx => (h x hx).fz]
  · show D.lst false (fzs ds) = _; rw [fzs_id fun x hx => (h x hx).fz]
theorem A2.mono {N N' : Nat} {d : D} (h : A2 N d) (hn : N ≤ N') : A2 N' d := by
  rcases h with h | ⟨ds, e, l, h⟩
  · exact .inl h
  · exact .inr ⟨ds, e, by omega, h⟩
/-! numbers -/
def amtd : D → Bool
  | .int i => decide (0 ≤ i)
  | _ => false
theorem amtd_ints : ∀ {ds : List D}, (∀ x ∈ ds, amtd x = true) → ∃ t : List Int, ds = t.map D.int ∧ Nn t
  | [], _ => ⟨[], rfl, fun x hx => by cases hx⟩
  | d :: ds, h => by
    obtain ⟨t, rfl, ht⟩ := amtd_ints (ds := ds) fun x hx => h x (List.mem_cons_of_mem _ hx)
    have h0 := h d List.mem_cons_self
    cases d <;> simp only [amtd, Bool.false_eq_true] at h0
    rename_i i
    exact ⟨i :: t, rfl, fun x hx => by
      rcases List.mem_cons.mp hx with rfl | hx
      · exact of_decide_eq_true h0
      · exact ht x hx⟩
/-! halls -/
def rowq (m : Nat) : D → Bool
  | .tup ds => decide (ds.length = m) && ds.all amtd
  | _ => false
end Zm
set_option Elab.async false
set_option linter.all false
set_option maxRecDepth 100000
set_option maxHeartbeats 4000000
set_option autoImplicit false
namespace Zm
open PySem
def g__law_bent (x0 : Nat) (x1 : D) : G D := fun s => match f__law_bent [.box x0, fz x1] s with
  | .ok r s => .ok (fz r) s
  | .ex x s => .ex x s
  | _ => .bad
theorem tf__law_bent {x0 : Nat} {x1 : D} {d_0 : D} {d_1 : D} (h_0 : Rp .any eBx x0 d_0) (h_1 : Rp .fro eX x1 d_1) (s : Sto) : Rf .any eX (g__law_bent x0 x1 s) (f__law_bent [d_0, d_1] s) := by
  rw [h_0.box]; rw [h_1.froX]
  unfold g__law_bent
  cases f__law_bent [.box x0, fz x1] s with
  | ok d s1 => exact ⟨_, rfl, (fz_fz d).symm, trivial⟩
  | ex x s1 => exact rfl
  | bad => trivial
def g__law_is_hall (x0 : D) : G Bool := fun s => match f__law_is_hall [fz x0] s with
  | .ok (.bl r) s => .ok r s
  | .ex x s => .ex x s
  | _ => .bad
theorem tf__law_is_hall {x0 : D} {d_0 : D} (h_0 : Rp .fro eX x0 d_0) (s : Sto) : Rf .pl eB (g__law_is_hall x0 s) (f__law_is_hall [d_0] s) := by
  rw [h_0.froX]
  unfold g__law_is_hall
  cases f__law_is_hall [fz x0] s with
  | ok d s1 => cases d <;> first | exact ⟨_, rfl, rfl, rfl⟩ | trivial
  | ex x s1 => exact rfl
  | bad => trivial
/-- law -/
def g_law (script : (List Int)) : G Bool := fnT (τ := Unit) (eb (bd (bd (repsT [[(0 : Int)]] (8 : Int)) fun x => pr ((eT (eT eI)).f x)) fun y31 => (bd (bd (repsT [[(0 : Int)]] (9 : Int)) fun x => pr ((eT (eT eI)).f x)) fun y32 => (pr [D.non, (eI.f (0 : Int)), (eB.f true), (eS.f ("" : Str)), (eS.f ("0" : Str)), ((eT eI).f ([] : (List Int))), ((eL eX).f ([] : (List D))), (D.dic false false [] []), ((eT (eT eI)).f [([] : (List Int))]), ((eP (eT eI) (eT eI)).f (([] : (List Int)), ([] : (List Int)))), ((eL eX).f [((eT eI).f [(0 : Int)])]), ((eT (eT eI)).f [[(0 : Int)]]), ((eT (eL eX)).f [[(eI.f (0 : Int))]]), y31, y32]))) fun whats => (eb (bd (bd (bd (bd (repsT [(0 : Int)] (8 : Int)) fun y68 => (pr [y68])) fun x => pr ((eT (eT eI)).f x)) fun y89 => (bd (bd (bd (repsT [(0 : Int)] (9 : Int)) fun y72 => (pr [y72])) fun x => pr ((eT (eT eI)).f x)) fun y90 => (pr [y89, y90, ((eP (eP eI eI) (eT eI)).f (((0 : Int), (1 : Int)), [(0 : Int)])), ((eP (eT eI) (eP eI eI)).f ([(0 : Int)], ((0 : Int), (1 : Int)))), ((eT (eT eB)).f [[true]]), ((eT (eT (eO eI))).f [[none]]), ((eT eI).f [(0 : Int)]), ((eT eS).f [("0" : Str)])]))) fun y98 => (catT whats y98)) fun whats1 => (eb (bd (bd (bd (bd (bd (repsT [(0 : Int)] (8 : Int)) fun y126 => (pr [y126])) fun y127 => (repsT y127 (8 : Int))) fun x => pr ((eT (eT eI)).f x)) fun y142 => (bd (bd (bd (bd (powT (10 : Int) (40 : Int)) fun y140 => (pr [y140])) fun y141 => (pr [y141])) fun x => pr ((eT (eT eI)).f x)) fun y146 => (pr [y142, ((eT (eT eI)).f [[(-(1 : Int))]]), ((eT (eT eS)).f [[("0" : Str)]]), ((eP (eT eI) (eL eX)).f ([(0 : Int)], [(eI.f (0 : Int))])), y146]))) fun y148 => (catT whats1 y148)) fun whats2 => (sq (τ := (Unit)) (eb (rangeT (max (1 : Int) (min (4 : Int) (script.length : Int)))) fun xs => forT (fun k (v154 : (Unit)) => (eb (g__law_well script k) fun well => (lt whats2 fun some1 => (sq (τ := ((List D))) (eb (rangeT (8 : Int)) fun xs => forT (fun turn (v158 : ((List D))) => (eb (bd (powT (10 : Int) (12 : Int)) fun y165 => (g__law_hall well (8 : Int) (8 : Int) y165)) fun desks => (eb (g__law_bent well ((eT (eT eI)).f desks)) fun bent => (eb (bd (bd (g__law_bent well bent) fun y177 => (pr [((eT (eT eI)).f desks), bent, y177])) fun y179 => (catT v158 y179)) fun some2 => (nxB some2))))) xs some1) fun (v158 : ((List D))) => (sq (τ := (Unit)) (forT (fun what (v180 : (Unit)) => (eb (reprZ (eX.f what)) fun text => (eb (g__law_is_hall what) fun due => (ifB (orG (bd (bd (g_is_hall what) fun y191 => (reprZ (eB.f y191))) fun y193 => (bd (reprZ (eB.f due)) fun y194 => (neX (eS.f y193) (eS.f y194)))) (orG (bd (g_is_hall what) fun y188 => (pr (!decide (y188 = due)))) (bd (reprZ (eX.f what)) fun y185 => (neX (eS.f y185) (eS.f text))))) (rtB false) (nxB ()))))) v158 ()) fun (v180 : (Unit)) => (nxB ())))))) xs ()) fun (v154 : (Unit)) => (rtB true)))))
theorem tf_law {script : (List Int)} {d_0 : D} (h_0 : Rp .any eRo script d_0) (s : Sto) : Rf .pl eB (g_law script s) (f_law [d_0] s) := fn_ok (π' := fun _ : Unit => nosP 11) rfl (mt_cons h_0.plain (mt_nos 10)) (ts_setAE (i := 1) (te_op (ta_P (te_nonX).any fun d18 r18 => (ta_P ((TP.asXp te_int)).any fun d19 r19 => (ta_P ((TP.asXp te_bl)).any fun d20 r20 => (ta_P ((TP.asXp te_str)).any fun d21 r21 => (ta_P ((TP.asXp te_str)).any fun d22 r22 => (ta_P ((TP.asXp ((tp_op (pa_nil (x_tup (RpL.nil (k := .pl) (e := eI)))))).plain)).any fun d23 r23 => (ta_P ((TP.asX (tp_op (pa_nil (x_lstO (RpL.nil (k := .own) (e := eX))))))).any fun d24 r24 => (ta_P (te_dicX).any fun d25 r25 => (ta_P ((TP.asXp ((tp_op (pa ((tp_op (pa_nil (x_tup (RpL.nil (k := .pl) (e := eI)))))).plain fun d1 r1 => (pa_nil (x_tup (RpL.cons r1 RpL.nil)))))).plain)).any fun d26 r26 => (ta_P ((TP.asXp ((tp_op (pa ((tp_op (pa_nil (x_tup (RpL.nil (k := .pl) (e := eI)))))).plain fun d2 r2 => (pa ((tp_op (pa_nil (x_tup (RpL.nil (k := .pl) (e := eI)))))).plain fun d3 r3 => (pa_nil (x_pair r2 r3)))))).plain)).any fun d27 r27 => (ta_P ((TP.asX (tp_op (pa ((TP.asXp ((tp_op (pa te_int fun d4 r4 => (pa_nil (x_tup (RpL.cons r4 RpL.nil)))))).plain)).any fun d5 r5 => (pa_nil (x_lstA (RpL.cons r5 RpL.nil))))))).any fun d28 r28 => (ta_P ((TP.asXp ((tp_op (pa ((tp_op (pa te_int fun d6 r6 => (pa_nil (x_tup (RpL.cons r6 RpL.nil)))))).plain fun d7 r7 => (pa_nil (x_tup (RpL.cons r7 RpL.nil)))))).plain)).any fun d29 r29 => (ta_P ((TP.asX (tp_op (pa (tp_op (pa ((TP.asXp te_int)).any fun d8 r8 => (pa_nil (x_lstA (RpL.cons r8 RpL.nil))))) fun d9 r9 => (pa_nil (x_tup (RpL.cons r9 RpL.nil))))))).any fun d30 r30 => (ta_E ((TE.asXp ((te_op (ta_P ((tp_op (pa ((tp_op (pa te_int fun d10 r10 => (pa_nil (x_tup (RpL.cons r10 RpL.nil)))))).plain fun d11 r11 => (pa_nil (x_tup (RpL.cons r11 RpL.nil)))))).plain fun d12 r12 => (ta_P te_int fun d13 r13 => (ta_nil (x_reps r12 r13)))))).plain)).any fun y31 d31 r31 => (ta_E ((TE.asXp ((te_op (ta_P ((tp_op (pa ((tp_op (pa te_int fun d14 r14 => (pa_nil (x_tup (RpL.cons r14 RpL.nil)))))).plain fun d15 r15 => (pa_nil (x_tup (RpL.cons r15 RpL.nil)))))).plain fun d16 r16 => (ta_P te_int fun d17 r17 => (ta_nil (x_reps r16 r17)))))).plain)).any fun y32 d32 r32 => (ta_nil (ok_p (x_lstA (RpL.cons r18 (RpL.cons r19 (RpL.cons r20 (RpL.cons r21 (RpL.cons r22 (RpL.cons r23 (RpL.cons r24 (RpL.cons r25 (RpL.cons r26 (RpL.cons r27 (RpL.cons r28 (RpL.cons r29 (RpL.cons r30 (RpL.cons r31 (RpL.cons r32 RpL.nil)))))))))))))))))))))))))))))))))) fun whats => (at_ [.vr .pl eRo script, .vr .any (eL eX) whats, .no, .no, .no, .no, .no, .no, .no, .no, .no] (ts_setAE (i := 1) (te_op (ta_P (te_var 1) fun d97 r97 => (ta_E (te_op (ta_E ((TE.asXp ((te_op (ta_E ((te_op (ta_P ((tp_op (pa te_int fun d65 r65 => (pa_nil (x_tup (RpL.cons r65 RpL.nil)))))).plain fun d66 r66 => (ta_P te_int fun d67 r67 => (ta_nil (x_reps r66 r67)))))).plain fun y68 d68 r68 => (ta_nil (ok_p (x_tup (RpL.cons r68 RpL.nil))))))).plain)).any fun y89 d89 r89 => (ta_E ((TE.asXp ((te_op (ta_E ((te_op (ta_P ((tp_op (pa te_int fun d69 r69 => (pa_nil (x_tup (RpL.cons r69 RpL.nil)))))).plain fun d70 r70 => (ta_P te_int fun d71 r71 => (ta_nil (x_reps r70 r71)))))).plain fun y72 d72 r72 => (ta_nil (ok_p (x_tup (RpL.cons r72 RpL.nil))))))).plain)).any fun y90 d90 r90 => (ta_P ((TP.asXp ((tp_op (pa ((tp_op (pa te_int fun d73 r73 => (pa te_int fun d74 r74 => (pa_nil (x_pair r73 r74)))))).plain fun d76 r76 => (pa ((tp_op (pa te_int fun d75 r75 => (pa_nil (x_tup (RpL.cons r75 RpL.nil)))))).plain fun d77 r77 => (pa_nil (x_pair r76 r77)))))).plain)).any fun d91 r91 => (ta_P ((TP.asXp ((tp_op (pa ((tp_op (pa te_int fun d78 r78 => (pa_nil (x_tup (RpL.cons r78 RpL.nil)))))).plain fun d81 r81 => (pa ((tp_op (pa te_int fun d79 r79 => (pa te_int fun d80 r80 => (pa_nil (x_pair r79 r80)))))).plain fun d82 r82 => (pa_nil (x_pair r81 r82)))))).plain)).any fun d92 r92 => (ta_P ((TP.asXp ((tp_op (pa ((tp_op (pa te_bl fun d83 r83 => (pa_nil (x_tup (RpL.cons r83 RpL.nil)))))).plain fun d84 r84 => (pa_nil (x_tup (RpL.cons r84 RpL.nil)))))).plain)).any fun d93 r93 => (ta_P ((TP.asXp ((tp_op (pa ((tp_op (pa (te_none).plain fun d85 r85 => (pa_nil (x_tup (RpL.cons r85 RpL.nil)))))).plain fun d86 r86 => (pa_nil (x_tup (RpL.cons r86 RpL.nil)))))).plain)).any fun d94 r94 => (ta_P ((TP.asXp ((tp_op (pa te_int fun d87 r87 => (pa_nil (x_tup (RpL.cons r87 RpL.nil)))))).plain)).any fun d95 r95 => (ta_P ((TP.asXp ((tp_op (pa te_str fun d88 r88 => (pa_nil (x_tup (RpL.cons r88 RpL.nil)))))).plain)).any fun d96 r96 => (ta_nil (ok_p (x_lstA (RpL.cons r89 (RpL.cons r90 (RpL.cons r91 (RpL.cons r92 (RpL.cons r93 (RpL.cons r94 (RpL.cons r95 (RpL.cons r96 RpL.nil)))))))))))))))))))) fun y98 d98 r98 => (ta_nil (x_catL r97 r98))))) fun whats1 => (at_ [.vr .pl eRo script, .vr .any (eL eX) whats1, .no, .no, .no, .no, .no, .no, .no, .no, .no] (ts_setAE (i := 1) (te_op (ta_P (te_var 1) fun d147 r147 => (ta_E (te_op (ta_E ((TE.asXp ((te_op (ta_E ((te_op (ta_E ((te_op (ta_P ((tp_op (pa te_int fun d123 r123 => (pa_nil (x_tup (RpL.cons r123 RpL.nil)))))).plain fun d124 r124 => (ta_P te_int fun d125 r125 => (ta_nil (x_reps r124 r125)))))).plain fun y126 d126 r126 => (ta_nil (ok_p (x_tup (RpL.cons r126 RpL.nil))))))).plain fun y127 d127 r127 => (ta_P te_int fun d128 r128 => (ta_nil (x_reps r127 r128)))))).plain)).any fun y142 d142 r142 => (ta_P ((TP.asXp ((tp_op (pa ((tp_op (pa (tp_op (pa te_int fun d129 r129 => (pa_nil (x_neg r129)))) fun d130 r130 => (pa_nil (x_tup (RpL.cons r130 RpL.nil)))))).plain fun d131 r131 => (pa_nil (x_tup (RpL.cons r131 RpL.nil)))))).plain)).any fun d143 r143 => (ta_P ((TP.asXp ((tp_op (pa ((tp_op (pa te_str fun d132 r132 => (pa_nil (x_tup (RpL.cons r132 RpL.nil)))))).plain fun d133 r133 => (pa_nil (x_tup (RpL.cons r133 RpL.nil)))))).plain)).any fun d144 r144 => (ta_P ((TP.asX (tp_op (pa ((tp_op (pa te_int fun d134 r134 => (pa_nil (x_tup (RpL.cons r134 RpL.nil)))))).plain fun d136 r136 => (pa (tp_op (pa ((TP.asXp te_int)).any fun d135 r135 => (pa_nil (x_lstA (RpL.cons r135 RpL.nil))))) fun d137 r137 => (pa_nil (x_pair r136 r137))))))).any fun d145 r145 => (ta_E ((TE.asXp ((te_op (ta_E ((te_op (ta_E (te_op (ta_P te_int fun d138 r138 => (ta_P te_int fun d139 r139 => (ta_nil (x_pow r138 r139))))) fun y140 d140 r140 => (ta_nil (ok_p (x_tup (RpL.cons r140 RpL.nil))))))).plain fun y141 d141 r141 => (ta_nil (ok_p (x_tup (RpL.cons r141 RpL.nil))))))).plain)).any fun y146 d146 r146 => (ta_nil (ok_p (x_lstA (RpL.cons r142 (RpL.cons r143 (RpL.cons r144 (RpL.cons r145 (RpL.cons r146 RpL.nil)))))))))))))) fun y148 d148 r148 => (ta_nil (x_catL r147 r148))))) fun whats2 => (at_ [.vr .pl eRo script, .vr .any (eL eX) whats2, .no, .no, .no, .no, .no, .no, .no, .no, .no] (ts_sq (π' := (fun (v154 : Unit) => [.vr .pl eRo script, .vr .any (eL eX) whats2, .no, .no, .no, .no, .no, .no, .no, .no, .no])) (ts_forP (v0 := ()) (fun (v154 : Unit) => [.vr .pl eRo script, .vr .any (eL eX) whats2, .no, .no, .no, .no, .no, .no, .no, .no, .no]) (ti_r1p (tp_op (pa te_int fun d152 r152 => (pa (tp_op (pa te_int fun d150 r150 => (pa (tp_op (pa (te_varP 0) fun d149 r149 => (pa_nil (x_lenR r149)))) fun d151 r151 => (pa_nil (x_min2 r150 r151))))) fun d153 r153 => (pa_nil (x_max2 r152 r153)))))) (wk_eq (wk_eq (wk_no (wk_no (wk_no (wk_no (wk_no (wk_no (wk_no (wk_no (wk_no wk_nil))))))))))) (fun k (v154 : (Unit)) => ⟨[.vr .pl eRo script, .vr .any (eL eX) whats2, .vr .pl eI k, .no, .no, .no, .no, .no, .no, .no, .no], (tb_nmP (i := 2)), (ts_setPlE (i := 3) (te_call (ta_P (te_varP 0) fun d156 r156 => (ta_P (te_varP 2) fun d157 r157 => (ta_nil (fun s => tf__law_well r156.any r157.any s))))) fun well => (at_ [.vr .pl eRo script, .vr .any (eL eX) whats2, .vr .pl eI k, .vr .pl eBx well, .no, .no, .no, .no, .no, .no, .no] (ts_setAP (i := 4) (te_var 1) fun some1 => (at_ [.vr .pl eRo script, .vr .any (eL eX) whats2, .vr .pl eI k, .vr .pl eBx well, .vr .any (eL eX) some1, .no, .no, .no, .no, .no, .no] (ts_sq (π' := (fun (v158 : (List D)) => [.vr .pl eRo script, .vr .any (eL eX) whats2, .vr .pl eI k, .vr .pl eBx well, .vr .any (eL eX) v158, .no, .no, .no, .no, .no, .no])) (ts_forP (v0 := some1) (fun (v158 : (List D)) => [.vr .pl eRo script, .vr .any (eL eX) whats2, .vr .pl eI k, .vr .pl eBx well, .vr .any (eL eX) v158, .no, .no, .no, .no, .no, .no]) (ti_r1p te_int) (wk_eq (wk_eq (wk_eq (wk_eq (wk_eq (wk_no (wk_no (wk_no (wk_no (wk_no (wk_no wk_nil))))))))))) (fun turn (v158 : ((List D))) => ⟨[.vr .pl eRo script, .vr .any (eL eX) whats2, .vr .pl eI k, .vr .pl eBx well, .vr .any (eL eX) v158, .vr .pl eI turn, .no, .no, .no, .no, .no], (tb_nmP (i := 5)), (ts_setPlE (i := 6) (te_call (ta_P (te_varP 3) fun d162 r162 => (ta_P te_int fun d163 r163 => (ta_P te_int fun d164 r164 => (ta_E (te_op (ta_P te_int fun d160 r160 => (ta_P te_int fun d161 r161 => (ta_nil (x_pow r160 r161))))) fun y165 d165 r165 => (ta_nil (fun s => tf__law_hall r162.any r163.any r164.any r165.any s))))))) fun desks => (at_ [.vr .pl eRo script, .vr .any (eL eX) whats2, .vr .pl eI k, .vr .pl eBx well, .vr .any (eL eX) v158, .vr .pl eI turn, .vr .pl (eT (eT eI)) desks, .no, .no, .no, .no] (ts_setAE (i := 7) (te_call (ta_P (te_varP 3) fun d166 r166 => (ta_P (TP.asXp (te_varP 6)) fun d167 r167 => (ta_nil (fun s => tf__law_bent r166.any r167 s))))) fun bent => (at_ [.vr .pl eRo script, .vr .any (eL eX) whats2, .vr .pl eI k, .vr .pl eBx well, .vr .any (eL eX) v158, .vr .pl eI turn, .vr .pl (eT (eT eI)) desks, .vr .any eX bent, .no, .no, .no] (ts_one (ts_setAE (i := 4) (te_op (ta_P (te_var 4) fun d178 r178 => (ta_E (te_op (ta_P ((TP.asXp (te_varP 6))).any fun d175 r175 => (ta_P ((te_var 7)).any fun d176 r176 => (ta_E ((te_call (ta_P (te_varP 3) fun d173 r173 => (ta_P (te_var 7) fun d174 r174 => (ta_nil (fun s => tf__law_bent r173.any r174 s)))))).any fun y177 d177 r177 => (ta_nil (ok_p (x_lstA (RpL.cons r175 (RpL.cons r176 (RpL.cons r177 RpL.nil)))))))))) fun y179 d179 r179 => (ta_nil (x_catL r178 r179))))) fun some2 => (at_ [.vr .pl eRo script, .vr .any (eL eX) whats2, .vr .pl eI k, .vr .pl eBx well, .vr .any (eL eX) some2, .vr .pl eI turn, .vr .pl (eT (eT eI)) desks, .vr .any eX bent, .no, .no, .no] (ts_nil (v := some2) (wk_eq (wk_eq (wk_eq (wk_eq (wk_eq (wk_no (wk_no (wk_no (wk_no (wk_no (wk_no wk_nil)))))))))))))))))))⟩)) fun (v158 : ((List D))) => (ts_one (ts_sq (π' := (fun (v180 : Unit) => [.vr .pl eRo script, .vr .any (eL eX) whats2, .vr .pl eI k, .vr .pl eBx well, .vr .any (eL eX) v158, .no, .no, .no, .no, .no, .no])) (ts_for (v0 := ()) (fun (v180 : Unit) => [.vr .pl eRo script, .vr .any (eL eX) whats2, .vr .pl eI k, .vr .pl eBx well, .vr .any (eL eX) v158, .no, .no, .no, .no, .no, .no]) (tip_seq (it_L (te_var 4))) (wk_eq (wk_eq (wk_eq (wk_eq (wk_eq (wk_no (wk_no (wk_no (wk_no (wk_no (wk_no wk_nil))))))))))) (fun what (v180 : (Unit)) => ⟨[.vr .pl eRo script, .vr .any (eL eX) whats2, .vr .pl eI k, .vr .pl eBx well, .vr .any (eL eX) v158, .no, .no, .no, .vr .fro eX what, .no, .no], (tb_nm (i := 8)), (ts_setPlE (i := 9) (te_op (ta_P (te_var 8) fun d182 r182 => (ta_nil (x_reprZ r182)))) fun text => (at_ [.vr .pl eRo script, .vr .any (eL eX) whats2, .vr .pl eI k, .vr .pl eBx well, .vr .any (eL eX) v158, .no, .no, .no, .vr .fro eX what, .vr .pl eS text, .no] (ts_setPlE (i := 10) (te_call (ta_P (te_var 8) fun d183 r183 => (ta_nil (fun s => tf__law_is_hall r183 s)))) fun due => (at_ [.vr .pl eRo script, .vr .any (eL eX) whats2, .vr .pl eI k, .vr .pl eBx well, .vr .any (eL eX) v158, .no, .no, .no, .vr .fro eX what, .vr .pl eS text, .vr .pl eB due] (ts_one (ts_ifD (tc_or (tc_V (te_op (ta_E (te_op (ta_E (te_call (ta_P (te_var 8) fun d190 r190 => (ta_nil (fun s => tf_is_hall r190 s)))) fun y191 d191 r191 => (ta_nil (x_reprZ r191)))) fun y193 d193 r193 => (ta_E (te_op (ta_P (te_varP 10) fun d192 r192 => (ta_nil (x_reprZ r192)))) fun y194 d194 r194 => (ta_nil (x_neX r193 r194)))))) (tc_or (tc_V (te_op (ta_E (te_callK (ta_P (te_var 8) fun d187 r187 => (ta_nil (fun s => tf_is_hall r187 s)))) fun y188 d188 r188 => (ta_P (te_varP 10) fun d189 r189 => (ta_nil (ok_p (x_ne (e := eB) r188 r189))))))) (tc_V (te_op (ta_E (te_op (ta_P (te_var 8) fun d184 r184 => (ta_nil (x_reprZ r184)))) fun y185 d185 r185 => (ta_P (te_varP 9) fun d186 r186 => (ta_nil (x_neX r185 r186)))))))) (ts_retP te_bl) (ts_skip (ts_nil (v := ()) (wk_eq (wk_eq (wk_eq (wk_eq (wk_eq (wk_no (wk_no (wk_no (wk_no (wk_no (wk_no wk_nil)))))))))))))))))))⟩)) fun (v180 : (Unit)) => (ts_nil (v := ()) (wk_eq (wk_eq (wk_no (wk_no (wk_no (wk_no (wk_no (wk_no (wk_no (wk_no (wk_no wk_nil)))))))))))))))))))⟩)) fun (v154 : (Unit)) => (ts_one (ts_retP te_bl)))))))))
end Zm
set_option linter.all false
set_option autoImplicit false
set_option maxRecDepth 100000
set_option maxHeartbeats 2000000
/-! R02b: whether anything is a hall: the program's looks and the law's own agree on all data. -/
namespace Zm
open PySem Lpp
theorem lc_filt02 {tg : Tg} {t : T} {m : M} {σ : Env} {s : Sto} (p : D → Bool) (g : D → D) : ∀ (ds acc : List D), (∀ d ∈ ds, ∃ σ1, tg.bind d σ = some σ1 ∧ t σ1 s = .ok (p d) s ∧ (p d = true → m σ1 s = .ok (g d) s)) → acc.length + ds.length ≤ sizeLine →
    lcR tg t m σ ds acc s = .ok (.lst true (acc ++ (ds.filter p).map g)) s
  | [], acc, _, _ => by simp [lcR]
  | d :: ds, acc, h, hl => by
    obtain ⟨σ1, e1, e2, e3⟩ := h d (by simp)
    rw [List.length_cons] at hl
    unfold lcR
    cases z : p d with
    | true =>
      simp only [e1, e2, z, e3 z, if_true]
      rw [if_pos (by omega), lc_filt02 p g ds (acc ++ [g d]) (fun d hd => h d (List.mem_cons_of_mem _ hd)) (by simp; omega)]
      simp [z]
    | false =>
      simp only [e1, e2, z]
      rw [if_neg (by decide), lc_filt02 p g ds acc (fun d hd => h d (List.mem_cons_of_mem _ hd)) (by omega)]
      simp [z]
theorem mLc_filt02 {src : Src} {tg : Tg} {vs : List Nat} {t : T} {m : M} {σ : Env} {s s' : Sto} {ds : List D} (p : D → Bool) (g : D → D) (h : src σ s = .ok ds s') (hw : tg.within vs = true) (hm : ∀ d ∈ ds, ∃ σ1, tg.bind d (wipeE (fzE σ) vs) = some σ1 ∧ t σ1 s' = .ok (p d) s' ∧ (p d = true → m σ1 s' = .ok (g d) s')) (hl : ds.length ≤ 1000000) :
    mLc src tg vs t m σ s = .ok (.lst true ((ds.filter p).map g)) s' := by
  have := lc_filt02 (tg := tg) (t := t) (m := m) p g ds [] hm (by simpa using Nat.le_trans hl szl)
  simp only [mLc, h, R.bind_ok, hw, if_true, this, List.nil_append]
theorem len_wts : ∀ ds : List D, ds.length ≤ wts ds
  | [] => Nat.le_refl _
  | d :: ds => by have := len_wts ds; rw [wts, List.length_cons]; omega
theorem amtd_Dt {K : Int} {n : Nat} {d : D} (h : Dt K n d) (s : Sto) : f_is_amount [d] s = .ok (.bl (amtd d)) s := by
  cases h with
  | non => exact noAm_non s
  | bl => exact noAm_bl _ s
  | int a b => exact amount_int _ s
  | str a b => exact noAm_str _ s
  | dic => simp [f_is_amount, f_is_whole, mkFn, mAnd, mNot, amtd]
  | tup h => exact noAm_tup _ s
  | lst h => exact noAm_lst _ _ s
theorem not_tup {K : Int} {n : Nat} {d : D} (h : Dt K n d) : (∃ ds, d = .tup ds) ∨ gIsi [] [d, .ty "tuple"] = some (.bl false) := by
  cases h with
  | tup h => exact .inl ⟨_, rfl⟩
  | _ => right; simp
theorem row_Dt {K : Int} {n : Nat} {d : D} (h : Dt K n d) (hw : wt d ≤ 900000) (m : Nat) (s : Sto) : f_is_row [d, .int (m : Nat)] s = .ok (.bl (rowq m d)) s := by
  have hf := h.fz
  have oth : rowq m d = false → gIsi [] [d, .ty "tuple"] = some (.bl false) → f_is_row [d, .int (m : Nat)] s = .ok (.bl (rowq m d)) s := fun hr hz => by
    have g2 : gIsi s [d, .ty "tuple"] = some (.bl false) := hz
    rw [hr]
    refine mkFn_rt rfl ?_
    simp [-gIsi, hf, g2]
  cases h with
  | @tup n ds h =>
    have := len_wts ds
    rw [wt] at hw
    exact row_is amtd (fzs_all fun x hx => (h x hx).fz) (fun x hx => ⟨(h x hx).fz, fun s => amtd_Dt (h x hx) s⟩) (by omega) s
  | _ => exact oth rfl (by simp)
/-- as the law looks at a row -/
def rowL (L : Nat) : D → Bool
  | .tup es => decide (1 ≤ es.length) && decide (es.length ≤ 8) && decide (es.length = L) && es.all amtd
  | _ => false
def rl : List D → Nat
  | .tup r :: _ => r.length
  | _ => 0
def lawB : D → Bool
  | .tup ds => decide (1 ≤ ds.length) && decide (ds.length ≤ 8) && ds.all (rowL (rl ds))
  | _ => false
theorem rows_hall : ∀ {L : Nat} {l : List D}, (∀ x ∈ l, rowL L x = true) → ∃ hh : List (List Int), l = hh.map rowD ∧ ∀ r ∈ hh, r.length = L ∧ Nn r := by
  intro L l
  induction l with
  | nil => exact fun _ => ⟨[], rfl, fun r hr => by cases hr⟩
  | cons x l ih =>
    intro hl
    obtain ⟨hh, e, hr⟩ := ih fun y hy => hl y (List.mem_cons_of_mem _ hy)
    have hx := hl x List.mem_cons_self
    cases x <;> simp only [rowL, Bool.false_eq_true] at hx
    rename_i xs
    simp only [Bool.and_eq_true, decide_eq_true_eq, List.all_eq_true] at hx
    obtain ⟨t, e2, ht⟩ := amtd_ints hx.2
    refine ⟨t :: hh, by rw [e, e2]; rfl, fun r hr2 => ?_⟩
    rcases List.mem_cons.mp hr2 with rfl | hr2
    · exact ⟨by have := hx.1.2; rw [e2, List.length_map] at this; exact this, ht⟩
    · exact hr r hr2
theorem lawB_hall {d : D} (h : lawB d = true) : ∃ hh m, d = hallD hh ∧ HallOK hh m := by
  cases d <;> simp only [lawB, Bool.false_eq_true] at h
  rename_i ds
  simp only [Bool.and_eq_true, decide_eq_true_eq, List.all_eq_true] at h
  obtain ⟨⟨h1, h8⟩, hr⟩ := h
  obtain ⟨hh, e, q⟩ := rows_hall hr
  have lh : ds.length = hh.length := by rw [e, List.length_map]
  have b : 1 ≤ rl ds ∧ rl ds ≤ 8 := by
    cases ds with
    | nil => simp at h1
    | cons x l =>
      have := hr x List.mem_cons_self
      cases x <;> simp only [rowL, Bool.false_eq_true] at this
      simp only [Bool.and_eq_true, decide_eq_true_eq] at this
      show 1 ≤ List.length _ ∧ List.length _ ≤ 8
      exact this.1.1
  exact ⟨hh, rl ds, by rw [e]; rfl, ⟨by omega, by omega, b.1, b.2, q⟩⟩
theorem rowL_q {L : Nat} {d : D} (hL : 1 ≤ L) (h8 : L ≤ 8) : rowL L d = rowq L d := by
  cases d <;> simp only [rowL, rowq]
  rename_i ds
  by_cases z : ds.length = L
  · have a : decide (1 ≤ ds.length) = true := by simp; omega
    have b : decide (ds.length ≤ 8) = true := by simp; omega
    rw [a, b]; simp
  · simp [z]
theorem hall_no {K : Int} {n : Nat} {d : D} (h : Dt K n d) (hw : wt d ≤ 900000) (hb : lawB d = false) : NoHa d := by
  have hf := h.fz
  rcases not_tup h with ⟨ds, rfl⟩ | z
  · have h2 : ∀ x ∈ ds, ∃ n, Dt K n x := by
      cases h with
      | tup h => exact fun x hx => ⟨_, h x hx⟩
    have hfs : fzs ds = ds := fzs_all fun x hx => (h2 x hx).choose_spec.fz
    have w2 : ∀ x ∈ ds, wt x ≤ 900000 := fun x hx => by have := wts_mem hx; rw [wt] at hw; omega
    by_cases z : ds.length = 0 ∨ 8 < ds.length
    · exact noHa_tall hfs z
    · obtain ⟨d0, tl, rfl⟩ : ∃ d0 tl, ds = d0 :: tl := by
        cases ds with
        | nil => simp at z
        | cons x y => exact ⟨x, y, rfl⟩
      obtain ⟨n0, hd0⟩ := h2 d0 (by simp)
      rcases not_tup hd0 with ⟨r0, rfl⟩ | z1
      · by_cases z2 : r0.length = 0 ∨ 8 < r0.length
        · exact noHa_wide (r0 := r0) hfs rfl (by omega) z2
        · refine hall_is2 (r0 := r0) (rowq r0.length) hfs rfl (by omega) (fun x hx => ⟨(h2 x hx).choose_spec.fz, fun s => row_Dt (h2 x hx).choose_spec (w2 x hx) _ s⟩) ?_
          have : lawB (.tup (.tup r0 :: tl)) = (decide (1 ≤ (D.tup r0 :: tl).length) && decide ((D.tup r0 :: tl).length ≤ 8) && (D.tup r0 :: tl).all (rowL r0.length)) := rfl
          rw [this, decide_eq_true (by omega), decide_eq_true (by omega), Bool.true_and, Bool.true_and] at hb
          rw [← hb]
          congr 1
          funext x
          exact (rowL_q (by omega) (by omega)).symm
      · exact noHa_head hfs rfl (by omega) z1
  · exact noHa_other hf z
theorem prog_is {K : Int} {n : Nat} {d : D} (h : Dt K n d) (hw : wt d ≤ 900000) (s : Sto) : f_is_hall [d] s = .ok (.bl (lawB d)) s := by
  cases q : lawB d with
  | true =>
    obtain ⟨hh, m, rfl, H⟩ := lawB_hall q
    exact hall_is H s
  | false => exact hall_no h hw q s
/-! ### the law's own -/
theorem step_L {K : Int} {n : Nat} {d : D} (h : Dt K n d) (hw : wt d ≤ 900000) {ds r0 : List D} (h0 : ds.head? = some (.tup r0)) (hf : fzs ds = ds) (hr : fzs r0 = r0) (s : Sto) :
    f__law_is_hall_b2 [some (.tup ds), some d, none] s = if rowL r0.length d = true then .nx [some (.tup ds), some d, none] s else .rt (.bl false) s := by
  have fd := h.fz
  have g0 : gIx s [.tup ds, .int 0] = some (.tup r0) := by
    show L2.atI ds 0 = _
    rw [atI_zero, ← List.head?_eq_getElem?, h0]
  have g1 : gLen s [.tup r0] = some (.int (r0.length : Nat)) := by simp
  rcases not_tup h with ⟨es, rfl⟩ | z
  · have h2 : ∀ x ∈ es, ∃ n, Dt K n x := by
      cases h with
      | tup h => exact fun x hx => ⟨_, h x hx⟩
    have fe : fzs es = es := fzs_all fun x hx => (h2 x hx).choose_spec.fz
    have le := len_wts es
    rw [wt] at hw
    have g2 : gIsi s [.tup es, .ty "tuple"] = some (.bl true) := by simp
    have g3 : gLen s [.tup es] = some (.int (es.length : Nat)) := by simp
    by_cases c1 : es.length < 1
    · have a : gLt s [.int (es.length : Nat), .int 1] = some (.bl true) := by simp; omega
      have e : rowL r0.length (.tup es) = false := by simp only [rowL]; rw [decide_eq_false (by omega : ¬ 1 ≤ es.length)]; simp
      rw [e]
      simp [-gIsi, -gLen, -gLt, f__law_is_hall_b2, mSeq, mIf, tOr, tNot, mVar, mOp, mArgs, mC, mRet, hf, fe, g2, g3, a]
    have a : gLt s [.int (es.length : Nat), .int 1] = some (.bl false) := by simp; omega
    by_cases c2 : 8 < es.length
    · have b : gGt s [.int (es.length : Nat), .int 8] = some (.bl true) := by simp; omega
      have e : rowL r0.length (.tup es) = false := by simp only [rowL]; rw [decide_eq_false (by omega : ¬ es.length ≤ 8)]; simp
      rw [e]
      simp [-gIsi, -gLen, -gLt, -gGt, f__law_is_hall_b2, mSeq, mIf, tOr, tNot, mVar, mOp, mArgs, mC, mRet, hf, fe, g2, g3, a, b]
    have b : gGt s [.int (es.length : Nat), .int 8] = some (.bl false) := by simp; omega
    by_cases c3 : es.length = r0.length
    · have c : gNe s [.int (es.length : Nat), .int (r0.length : Nat)] = some (.bl false) := by rw [c3]; exact ne_f (Cmp.int _) (Cmp.int _)
      have key : f__law_is_hall_c1 [some (.tup ds), some (.tup es), none] s = .ok (.lst true ((es.filter fun d => !amtd d).map fun d => d)) s :=
        mLc_filt02 (src := iSeq (mVar 1)) (tg := .nm 2) (vs := [2]) (t := (tOr (tNot (tV (mOp gIsi [(mVar 2), (mC (.ty "int"))]))) (tOr (tV (mOp gIsi [(mVar 2), (mC (.ty "bool"))])) (tV (mOp gLt [(mVar 2), (mC (.int 0))]))))) (m := mVar 2) (σ := [some (.tup ds), some (.tup es), none]) (s := s) (s' := s) (ds := es) (fun d => !amtd d) (fun d => d) (iSeq_ok (d := .tup es) (by simp [fe]) (by simp [itemsOf, fe])) rfl (fun d hd => by
          obtain ⟨n, hd⟩ := h2 d hd
          have fd := hd.fz
          refine ⟨_, rfl, ?_, fun _ => by simp [fd]⟩
          cases hd with
          | int p q =>
            simp only [tOr, tNot, tV, mOp, mArgs, mVar, mC, amtd]
            simp
            rw [Bool.eq_iff_iff]; simp
          | _ => simp [amtd]) (by omega)
      rw [List.map_id'] at key
      have l0 : gLst s [] = some (.lst true []) := gLst_ok (by simp)
      have ne : ∀ o, gNeN s [.lst true (es.filter fun d => !amtd d), .lst o []] = some (.bl (!(es.filter fun d => !amtd d).isEmpty)) := fun o => rfl
      have e : rowL r0.length (.tup es) = es.all amtd := by
        simp only [rowL]; rw [decide_eq_true (by omega : 1 ≤ es.length), decide_eq_true (by omega : es.length ≤ 8), decide_eq_true c3]; simp
      have em : (es.filter fun d => !amtd d).isEmpty = es.all amtd := by
        rw [Bool.eq_iff_iff, List.isEmpty_iff, List.filter_eq_nil_iff, List.all_eq_true]
        constructor
        · intro h x hx; simpa using h x hx
        · intro h x hx; simpa using h x hx
      rw [e]
      cases q : es.all amtd with
      | true =>
        rw [q] at em
        simp [-gIsi, -gLen, -gLt, -gGt, f__law_is_hall_b2, mSeq, mIf, tOr, tNot, mVar, mOp, mArgs, mC, mRet, mNil, hf, fe, hr, g0, g1, g2, g3, a, b, c, key, l0, ne, em]
      | false =>
        rw [q] at em
        simp [-gIsi, -gLen, -gLt, -gGt, f__law_is_hall_b2, mSeq, mIf, tOr, tNot, mVar, mOp, mArgs, mC, mRet, mNil, hf, fe, hr, g0, g1, g2, g3, a, b, c, key, l0, ne, em]
    · have c : gNe s [.int (es.length : Nat), .int (r0.length : Nat)] = some (.bl true) := ne_t (Cmp.int _) (Cmp.int _) (fun q => c3 (by injection q with q; omega))
      have e : rowL r0.length (.tup es) = false := by simp only [rowL]; rw [decide_eq_false c3]; simp
      rw [e]
      simp [-gIsi, -gLen, -gLt, -gGt, f__law_is_hall_b2, mSeq, mIf, tOr, tNot, mVar, mOp, mArgs, mC, mRet, hf, fe, hr, g0, g1, g2, g3, a, b, c]
  · have g2 : gIsi s [d, .ty "tuple"] = some (.bl false) := z
    have e : rowL r0.length d = false := by cases d <;> first | rfl | simp at z
    rw [e]
    simp [-gIsi, f__law_is_hall_b2, mSeq, mIf, tOr, tNot, mVar, mOp, mArgs, mC, mRet, fd, g2]
theorem loop_L {K : Int} {ds r0 : List D} (h0 : ds.head? = some (.tup r0)) (hf : fzs ds = ds) (hr : fzs r0 = r0) (s : Sto) : ∀ (l : List D) (o : Option D), (∀ x ∈ l, (∃ n, Dt K n x) ∧ wt x ≤ 900000) →
    (l.all (rowL r0.length) = true → ∃ o', forR (.nm 1) f__law_is_hall_b2 l [some (.tup ds), o, none] s = .nx [some (.tup ds), o', none] s) ∧ (l.all (rowL r0.length) = false → forR (.nm 1) f__law_is_hall_b2 l [some (.tup ds), o, none] s = .rt (.bl false) s)
  | [], o, _ => ⟨fun _ => ⟨o, rfl⟩, fun h => by simp at h⟩
  | d :: l, o, h => by
    obtain ⟨⟨n, hd⟩, hw⟩ := h d (by simp)
    have st := step_L hd hw h0 hf hr s
    have ih := loop_L h0 hf hr s l (some d) fun x hx => h x (by simp [hx])
    have e : forR (.nm 1) f__law_is_hall_b2 (d :: l) [some (.tup ds), o, none] s = (match f__law_is_hall_b2 [some (.tup ds), some d, none] s with
      | .nx σ2 s2 => forR (.nm 1) f__law_is_hall_b2 l σ2 s2
      | .ct σ2 s2 => forR (.nm 1) f__law_is_hall_b2 l σ2 s2
      | .bk σ2 s2 => .nx σ2 s2
      | r => r) := rfl
    rw [e, st]
    cases q : rowL r0.length d with
    | true =>
      simp only [if_true, List.all_cons, q, Bool.true_and]
      exact ih
    | false =>
      simp only [Bool.false_eq_true, if_false, List.all_cons, q, Bool.false_and]
      exact ⟨fun h => (by cases h), fun _ => trivial⟩
theorem law_is {K : Int} {n : Nat} {d : D} (h : Dt K n d) (hw : wt d ≤ 900000) (s : Sto) : f__law_is_hall [d] s = .ok (.bl (lawB d)) s := by
  have fd := h.fz
  rcases not_tup h with ⟨ds, rfl⟩ | z
  · have h2 : ∀ x ∈ ds, ∃ n, Dt K n x := by
      cases h with
      | tup h => exact fun x hx => ⟨_, h x hx⟩
    have fe : fzs ds = ds := fzs_all fun x hx => (h2 x hx).choose_spec.fz
    have w2 : ∀ x ∈ ds, wt x ≤ 900000 := fun x hx => by have := wts_mem hx; rw [wt] at hw; omega
    have g2 : gIsi s [.tup ds, .ty "tuple"] = some (.bl true) := by simp
    have g3 : gLen s [.tup ds] = some (.int (ds.length : Nat)) := by simp
    by_cases c1 : ds.length < 1
    · have a : gLt s [.int (ds.length : Nat), .int 1] = some (.bl true) := by simp; omega
      have e : lawB (.tup ds) = false := by simp only [lawB]; rw [decide_eq_false (by omega : ¬ 1 ≤ ds.length)]; simp
      rw [e]
      refine mkFn_rt rfl ?_
      simp [-gIsi, -gLen, -gLt, mSeq, mIf, tOr, tNot, mVar, mOp, mArgs, mC, mRet, fe, g2, g3, a]
    have a : gLt s [.int (ds.length : Nat), .int 1] = some (.bl false) := by simp; omega
    by_cases c2 : 8 < ds.length
    · have b : gGt s [.int (ds.length : Nat), .int 8] = some (.bl true) := by simp; omega
      have e : lawB (.tup ds) = false := by simp only [lawB]; rw [decide_eq_false (by omega : ¬ ds.length ≤ 8)]; simp
      rw [e]
      refine mkFn_rt rfl ?_
      simp [-gIsi, -gLen, -gLt, -gGt, mSeq, mIf, tOr, tNot, mVar, mOp, mArgs, mC, mRet, fe, g2, g3, a, b]
    have b : gGt s [.int (ds.length : Nat), .int 8] = some (.bl false) := by simp; omega
    have q1 : mIf (tOr (tNot (tV (mOp gIsi [(mVar 0), (mC (.ty "tuple"))]))) (tOr (tV (mOp gLt [(mOp gLen [(mVar 0)]), (mC (.int 1))])) (tV (mOp gGt [(mOp gLen [(mVar 0)]), (mC (.int 8))])))) (mRet (mC (.bl false))) mNil [some (.tup ds), none, none] s = .nx [some (.tup ds), none, none] s := by
      simp [-gIsi, -gLen, -gLt, -gGt, mIf, tOr, tNot, mVar, mOp, mArgs, mC, mRet, mNil, fe, g2, g3, a, b]
    have e : lawB (.tup ds) = ds.all (rowL (rl ds)) := by
      simp only [lawB]; rw [decide_eq_true (by omega : 1 ≤ ds.length), decide_eq_true (by omega : ds.length ≤ 8)]; simp
    rw [e]
    have src : iSeq (mVar 0) (restr [true] [some (.tup ds), none, none]) s = .ok ds s := iSeq_ok (d := .tup ds) (by simp [restr, fe]) (by simp [itemsOf, fe])
    have frz : frzE [true] [some (.tup ds), none, none] = [some (.tup ds), none, none] := by simp [frzE, fe]
    have q2 : mFor [true] (iSeq (mVar 0)) (.nm 1) f__law_is_hall_b2 [some (.tup ds), none, none] s = forR (.nm 1) f__law_is_hall_b2 ds [some (.tup ds), none, none] s := by
      unfold mFor
      rw [src, R.to_ok, frz]
    obtain ⟨d0, tl, rfl⟩ : ∃ d0 tl, ds = d0 :: tl := by
      cases ds with
      | nil => simp at c1
      | cons x y => exact ⟨x, y, rfl⟩
    obtain ⟨n0, hd0⟩ := h2 d0 (by simp)
    rcases not_tup hd0 with ⟨r0, rfl⟩ | z1
    · have fr : fzs r0 = r0 := by
        have := hd0.fz
        simpa using this
      obtain ⟨p1, p2⟩ := loop_L (K := K) (ds := .tup r0 :: tl) (r0 := r0) rfl fe fr s (.tup r0 :: tl) none fun x hx => ⟨h2 x hx, w2 x hx⟩
      have er : rl (.tup r0 :: tl) = r0.length := rfl
      rw [er]
      cases q : (D.tup r0 :: tl).all (rowL r0.length) with
      | true =>
        obtain ⟨o', p⟩ := p1 q
        exact mkFn_rt rfl (seq_ok q1 (seq_ok (q2.trans p) (by simp [mRet, mC])))
      | false =>
        refine mkFn_rt rfl (seq_ok q1 ?_)
        simp only [mSeq, q2, p2 q, RS.then_rt]
    · have e2 : (d0 :: tl).all (rowL (rl (d0 :: tl))) = false := by
        have : rowL (rl (d0 :: tl)) d0 = false := by cases d0 <;> first | rfl | simp at z1
        simp [this]
      rw [e2]
      have fd0 := hd0.fz
      have g4 : gIsi s [d0, .ty "tuple"] = some (.bl false) := z1
      refine mkFn_rt rfl (seq_ok q1 ?_)
      have st : f__law_is_hall_b2 [some (.tup (d0 :: tl)), some d0, none] s = .rt (.bl false) s := by
        simp [-gIsi, f__law_is_hall_b2, mSeq, mIf, tOr, tNot, mVar, mOp, mArgs, mC, mRet, fd0, g4]
      have e3 : forR (.nm 1) f__law_is_hall_b2 (d0 :: tl) [some (.tup (d0 :: tl)), none, none] s = (match f__law_is_hall_b2 [some (.tup (d0 :: tl)), some d0, none] s with
        | .nx σ2 s2 => forR (.nm 1) f__law_is_hall_b2 tl σ2 s2
        | .ct σ2 s2 => forR (.nm 1) f__law_is_hall_b2 tl σ2 s2
        | .bk σ2 s2 => .nx σ2 s2
        | r => r) := rfl
      simp only [mSeq, q2, e3, st, RS.then_rt]
  · have g2 : gIsi s [d, .ty "tuple"] = some (.bl false) := z
    have e : lawB d = false := by cases d <;> first | rfl | simp at z
    rw [e]
    refine mkFn_rt rfl ?_
    simp [-gIsi, mSeq, mIf, tOr, tNot, mVar, mOp, mArgs, mC, mRet, fd, g2]
end Zm
set_option linter.all false
set_option autoImplicit false
set_option maxRecDepth 100000
set_option maxHeartbeats 4000000
/-! R02c: a thing with one thing otherwise. -/
namespace Zm
open PySem Lpp
def oddB : List D := [.non, .bl true, .bl false, .int 0, .int 1, .int (-1), .str "", .str "0", .tup [], .lst true [], .dic true false [] [], .tup [.int 0], .lst true [.int 0], .tup [.tup [.int 0]], .tup [.int 1, .int 2], .tup [.bl true], .str "1 2"]
def oddI (i : Int) : List D := [.int (i + 1), .int (-1), .bl true, .non, .str (toString i), .tup [.int i], .int 999999999999, .int (0 - i), .lst true [.int i]]
def b2i (b : Bool) : Int := if b = true then 1 else 0
def oddT (b : Bool) : List D := [.int (b2i b + 1), .int (-1), .bl true, .non, .str (if b = true then "True" else "False"), .tup [.bl b], .int 999999999999, .int (0 - b2i b), .lst true [.bl b]]
def oddL : D → List D
  | .int i => oddI i
  | .bl b => oddT b
  | _ => oddB
theorem szN {n : Nat} (h : n ≤ 1000) : n ≤ sizeLine := Nat.le_trans h (by decide)
theorem pow12 (s : Sto) : gPow s [.int 10, .int 12] = some (.int 1000000000000) := by
  show (if 0 ≤ (12 : Int) ∧ (12 : Int) ≤ 1000 ∧ sm 10 = true then some (D.int (10 ^ (12 : Int).toNat)) else none) = _
  rw [if_pos ⟨by decide, by decide, by unfold sm; exact decide_eq_true (Nat.lt_of_lt_of_le (show (10 : Int).natAbs < 2 ^ 4 by decide) (Nat.pow_le_pow_right (by decide) (by decide)))⟩]
  rfl
theorem oddB_ok (σ : Env) (s : Sto) : mOp gLst [(mC .non), (mC (.bl true)), (mC (.bl false)), (mC (.int 0)), (mC (.int 1)), (mOp gNeg [(mC (.int 1))]), (mC (.str "")), (mC (.str "0")), (mOp gTup []), (mOp gLst []), (mDic false), (mOp gTup [(mC (.int 0))]), (mOp gLst [(mC (.int 0))]), (mOp gTup [(mOp gTup [(mC (.int 0))])]), (mOp gTup [(mC (.int 1)), (mC (.int 2))]), (mOp gTup [(mC (.bl true))]), (mC (.str "1 2"))] σ s = .ok (.lst true oddB) s := by
  have t : ∀ ds : List D, ds.length ≤ 1000 → gTup s ds = some (.tup ds) := fun ds h => by unfold Zm.gTup; rw [if_pos (szN h)]
  have l : ∀ ds : List D, ds.length ≤ 1000 → gLst s ds = some (.lst true ds) := fun ds h => by unfold Zm.gLst; rw [if_pos (szN h)]
  simp [mOp, mArgs, mC, mDic, t, l, oddB]
theorem oddI_ok {σ : Env} {i : Int} (h1 : σ[1]? = some (some (.int i))) (hi : sm i = true) (s : Sto) : mOp gLst [(mOp gAddB [(mVar 1), (mC (.int 1))]), (mOp gNeg [(mC (.int 1))]), (mC (.bl true)), (mC .non), (mOp gStrB [(mVar 1)]), (mOp gTup [(mVar 1)]), (mOp gSubB [(mOp gPow [(mC (.int 10)), (mC (.int 12))]), (mC (.int 1))]), (mOp gSubB [(mC (.int 0)), (mVar 1)]), (mOp gLst [(mVar 1)])] σ s = .ok (.lst true (oddI i)) s := by
  have t : ∀ ds : List D, ds.length ≤ 1000 → gTup s ds = some (.tup ds) := fun ds h => by unfold Zm.gTup; rw [if_pos (szN h)]
  have l : ∀ ds : List D, ds.length ≤ 1000 → gLst s ds = some (.lst true ds) := fun ds h => by unfold Zm.gLst; rw [if_pos (szN h)]
  have a : gAddB s [.int i, .int 1] = some (.int (i + 1)) := rfl
  have b : gStrB s [.int i] = some (.str (toString i)) := if_pos hi
  have p : gPow s [.int 10, .int 12] = some (.int 1000000000000) := pow12 s
  have c : gSubB s [.int 1000000000000, .int 1] = some (.int 999999999999) := rfl
  have d : gSubB s [.int 0, .int i] = some (.int (0 - i)) := rfl
  simp [mOp, mArgs, mC, mVar, h1, t, l, oddI, a, b, p, c, d]
theorem oddT_ok {σ : Env} {b : Bool} (h1 : σ[1]? = some (some (.bl b))) (s : Sto) : mOp gLst [(mOp gAddB [(mVar 1), (mC (.int 1))]), (mOp gNeg [(mC (.int 1))]), (mC (.bl true)), (mC .non), (mOp gStrB [(mVar 1)]), (mOp gTup [(mVar 1)]), (mOp gSubB [(mOp gPow [(mC (.int 10)), (mC (.int 12))]), (mC (.int 1))]), (mOp gSubB [(mC (.int 0)), (mVar 1)]), (mOp gLst [(mVar 1)])] σ s = .ok (.lst true (oddT b)) s := by
  have t : ∀ ds : List D, ds.length ≤ 1000 → gTup s ds = some (.tup ds) := fun ds h => by unfold Zm.gTup; rw [if_pos (szN h)]
  have l : ∀ ds : List D, ds.length ≤ 1000 → gLst s ds = some (.lst true ds) := fun ds h => by unfold Zm.gLst; rw [if_pos (szN h)]
  have a : gAddB s [.bl b, .int 1] = some (.int (b2i b + 1)) := rfl
  have e : gStrB s [.bl b] = some (.str (if b = true then "True" else "False")) := rfl
  have p : gPow s [.int 10, .int 12] = some (.int 1000000000000) := pow12 s
  have c : gSubB s [.int 1000000000000, .int 1] = some (.int 999999999999) := rfl
  have d : gSubB s [.int 0, .bl b] = some (.int (0 - b2i b)) := rfl
  simp [mOp, mArgs, mC, mVar, h1, t, l, oddT, a, e, p, c, d]
/-- what is put in the place of a thing that is no list and no tuple -/
theorem odd_end {n : Nat} {d : D} {L : List D} {s : Sto} {C : Nat} (hL : L.length ≤ 1000) (h0 : 0 < L.length) (hw : Well s n C) (hC : C < 2 ^ 90) :
    ∃ x s', mRet (mOp gIx [(mVar 2), (mCall f__law_dip [(mVar 0), (mOp gLen [(mVar 2)])])]) [some (.box n), some d, some (.lst true L)] s = .rt (fz x) s' ∧ x ∈ L ∧ Well s' n (C + 1) := by
  obtain ⟨r, s', e, r0, rw_, w'⟩ := dip_ok hw (show C < 2 ^ 100 by omega) (w := (L.length : Int)) (by omega) (by omega)
  obtain ⟨k, rfl⟩ := Int.eq_ofNat_of_zero_le r0
  have hk : k < L.length := by omega
  refine ⟨L[k], s', ?_, List.getElem_mem hk, w'⟩
  have l1 : gLen s [.lst false (fzs L)] = some (.int (L.length : Nat)) := by simp [fzs_eq]
  have g : gIx s' [.lst false (fzs L), .int (k : Nat)] = some (fz L[k]) := by
    rw [gIx_l, fzs_eq]
    simp [L2.atI, L2.ixN, hk]
  simp [-gLen, mRet, mOp, mArgs, mVar, l1, e, g]
theorem odd_ok {K : Int} {m n : Nat} {d : D} (hd : Dt K m d) (hK : K < 10 ^ 30) (ht : (∀ ds, d ≠ .tup ds) ∧ ∀ o ds, d ≠ .lst o ds) {s : Sto} {C : Nat} (hw : Well s n C) (hC : C < 2 ^ 90) :
    ∃ x s', f__law_odd [.box n, d] s = .ok (fz x) s' ∧ x ∈ oddL d ∧ Well s' n (C + 1) := by
  have q1 : mSetD [] 2 (mOp gLst [(mC .non), (mC (.bl true)), (mC (.bl false)), (mC (.int 0)), (mC (.int 1)), (mOp gNeg [(mC (.int 1))]), (mC (.str "")), (mC (.str "0")), (mOp gTup []), (mOp gLst []), (mDic false), (mOp gTup [(mC (.int 0))]), (mOp gLst [(mC (.int 0))]), (mOp gTup [(mOp gTup [(mC (.int 0))])]), (mOp gTup [(mC (.int 1)), (mC (.int 2))]), (mOp gTup [(mC (.bl true))]), (mC (.str "1 2"))]) [some (.box n), some d, none] s = .nx [some (.box n), some d, some (.lst true oddB)] s := by
    rw [setD_ok (oddB_ok _ s) (by decide) (by simp)]; rfl
  have fd := hd.fz
  have no : (∀ i, d ≠ .int i) → (∀ b, d ≠ .bl b) → ∃ x s', f__law_odd [.box n, d] s = .ok (fz x) s' ∧ x ∈ oddL d ∧ Well s' n (C + 1) := fun h1 h2 => by
    obtain ⟨x, s', e, hx, w⟩ := odd_end (d := d) (L := oddB) (by simp [oddB]) (by simp [oddB]) hw hC
    have g : gIsi s [d, .ty "int"] = some (.bl false) := by
      cases hd with
      | non => simp
      | bl => exact absurd rfl (h2 _)
      | int a b => exact absurd rfl (h1 _)
      | str a b => simp
      | dic => simp
      | tup h => exact absurd rfl (ht.1 _)
      | lst h => exact absurd rfl (ht.2 _ _)
    refine ⟨x, s', mkFn_rt rfl (seq_ok q1 (seq_ok ?_ e)), ?_, w⟩
    · simp [-gIsi, mIf, tV, mOp, mArgs, mVar, mC, mNil, fd, g]
    · have : oddL d = oddB := by cases d <;> first | rfl | exact absurd rfl (h1 _) | exact absurd rfl (h2 _)
      rw [this]; exact hx
  cases hd with
  | int a b =>
    rename_i i
    obtain ⟨x, s', e, hx, w⟩ := odd_end (d := .int i) (L := oddI i) (by simp [oddI]) (by simp [oddI]) hw hC
    have hi : sm i = true := by unfold sm; exact decide_eq_true (by omega)
    have g : gIsi s [.int i, .ty "int"] = some (.bl true) := by simp
    refine ⟨x, s', mkFn_rt rfl (seq_ok q1 (seq_ok (σ1 := [some (.box n), some (.int i), some (.lst true (oddI i))]) (s1 := s) ?_ e)), hx, w⟩
    have q2 := setD_ok (msk := [false, true]) (i := 2) (σ := [some (.box n), some (.int i), some (.lst true oddB)]) (oddI_ok (σ := [some (.box n), some (.int i), some (.lst true oddB)]) rfl hi s) (by simp [oddI]) (by simp)
    simp only [mIf, tV, mOp, mArgs, mVar, mC] at *
    simp [-gIsi, g]
    exact q2
  | bl =>
    rename_i b
    obtain ⟨x, s', e, hx, w⟩ := odd_end (d := .bl b) (L := oddT b) (by simp [oddT]) (by simp [oddT]) hw hC
    have g : gIsi s [.bl b, .ty "int"] = some (.bl true) := by simp
    refine ⟨x, s', mkFn_rt rfl (seq_ok q1 (seq_ok (σ1 := [some (.box n), some (.bl b), some (.lst true (oddT b))]) (s1 := s) ?_ e)), hx, w⟩
    have q2 := setD_ok (msk := [false, true]) (i := 2) (σ := [some (.box n), some (.bl b), some (.lst true oddB)]) (oddT_ok (σ := [some (.box n), some (.bl b), some (.lst true oddB)]) rfl s) (by simp [oddT]) (by simp)
    simp only [mIf, tV, mOp, mArgs, mVar, mC] at *
    simp [-gIsi, g]
    exact q2
  | non => exact no (fun _ h => by cases h) (fun _ h => by cases h)
  | str a b => exact no (fun _ h => by cases h) (fun _ h => by cases h)
  | dic => exact no (fun _ h => by cases h) (fun _ h => by cases h)
  | tup h => exact absurd rfl (ht.1 _)
  | lst h => exact absurd rfl (ht.2 _ _)
theorem dt_i {K : Int} {n : Nat} {i : Int} (h1 : -K ≤ i) (h2 : i ≤ K) : Dt K n (.int i) := .int h1 h2
theorem odd_dt {K : Int} {m : Nat} {d : D} (hd : Dt K m d) (h12 : 10 ^ 12 ≤ K) (hK : K < 10 ^ 30) : ∀ x ∈ oddL d, Dt (K + 1) 2 (fz x) ∧ wt (fz x) ≤ 2000 := by
  have base : ∀ x ∈ oddB, Dt (K + 1) 2 (fz x) ∧ wt (fz x) ≤ 2000 := fun x hx => by
    simp only [oddB, List.mem_cons, List.not_mem_nil, or_false] at hx
    have z0 : Dt (K + 1) 0 (.int 0) := dt_i (by omega) (by omega)
    have t0 : ∀ {k : Nat} {a : D}, Dt (K + 1) k a → ∀ d ∈ [a], Dt (K + 1) k d := fun h d hd => by
      simp only [List.mem_singleton] at hd; subst hd; exact h
    rcases hx with rfl | rfl | rfl | rfl | rfl | rfl | rfl | rfl | rfl | rfl | rfl | rfl | rfl | rfl | rfl | rfl | rfl
    · exact ⟨.non, by decide⟩
    · exact ⟨.bl, by decide⟩
    · exact ⟨.bl, by decide⟩
    · exact ⟨dt_i (by omega) (by omega), by simp [wt]⟩
    · exact ⟨dt_i (by omega) (by omega), by simp [wt]⟩
    · exact ⟨dt_i (by omega) (by omega), by simp [wt]⟩
    · exact ⟨.str (sok_of "") (by decide), by simp [wt]⟩
    · exact ⟨.str (sok_of "0") (by decide), by simp [wt]⟩
    · exact ⟨.tup (fun d hd => by simp at hd), by decide⟩
    · exact ⟨.lst (fun d hd => by simp [fzs] at hd), by decide⟩
    · exact ⟨.dic, by decide⟩
    · exact ⟨.tup (t0 (dt_i (by omega) (by omega))), by decide⟩
    · exact ⟨.lst (t0 (dt_i (by omega) (by omega))), by decide⟩
    · exact ⟨.tup (t0 (.tup (t0 z0))), by decide⟩
    · refine ⟨.tup fun d hd => ?_, by decide⟩
      simp only [fzs, fz, List.mem_cons, List.not_mem_nil, or_false] at hd
      rcases hd with rfl | rfl
      · exact dt_i (by omega) (by omega)
      · exact dt_i (by omega) (by omega)
    · exact ⟨.tup (t0 .bl), by decide⟩
    · exact ⟨.str (sok_of "1 2") (by decide), by simp [wt]⟩
  have t0 : ∀ {k : Nat} {a : D}, Dt (K + 1) k a → ∀ d ∈ [a], Dt (K + 1) k d := fun h d hd => by
    simp only [List.mem_singleton] at hd; subst hd; exact h
  cases hd with
  | int a b =>
    rename_i i
    intro x hx
    simp only [oddL, oddI, List.mem_cons, List.not_mem_nil, or_false] at hx
    rcases hx with rfl | rfl | rfl | rfl | rfl | rfl | rfl | rfl | rfl
    · exact ⟨dt_i (by omega) (by omega), by simp [wt]⟩
    · exact ⟨dt_i (by omega) (by omega), by simp [wt]⟩
    · exact ⟨.bl, by decide⟩
    · exact ⟨.non, by decide⟩
    · exact ⟨.str (sok_of _) (Nat.le_trans (str_len02 i (by omega) (by omega)) (by decide)), by simp [wt]⟩
    · exact ⟨.tup (t0 (dt_i (by omega) (by omega))), by simp [wt, wts]⟩
    · exact ⟨dt_i (by omega) (by omega), by simp [wt]⟩
    · exact ⟨dt_i (by omega) (by omega), by simp [wt]⟩
    · exact ⟨.lst (t0 (dt_i (by omega) (by omega))), by simp [wt, wts]⟩
  | bl =>
    rename_i b
    intro x hx
    have b01 : 0 ≤ b2i b ∧ b2i b ≤ 1 := by cases b <;> decide
    simp only [oddL, oddT, List.mem_cons, List.not_mem_nil, or_false] at hx
    rcases hx with rfl | rfl | rfl | rfl | rfl | rfl | rfl | rfl | rfl
    · exact ⟨dt_i (by omega) (by omega), by simp [wt]⟩
    · exact ⟨dt_i (by omega) (by omega), by simp [wt]⟩
    · exact ⟨.bl, by decide⟩
    · exact ⟨.non, by decide⟩
    · refine ⟨.str ?_ ?_, by simp [wt]⟩
      · cases b
        · exact sok_of "False"
        · exact sok_of "True"
      · cases b <;> decide
    · exact ⟨.tup (t0 .bl), by simp [wt, wts]⟩
    · exact ⟨dt_i (by omega) (by omega), by simp [wt]⟩
    · exact ⟨dt_i (by omega) (by omega), by simp [wt]⟩
    · exact ⟨.lst (t0 .bl), by simp [wt, wts]⟩
  | non => exact base
  | str a b => exact base
  | dic => exact base
  | tup h => exact base
  | lst h => exact base
end Zm
set_option linter.all false
set_option autoImplicit false
set_option maxRecDepth 100000
set_option maxHeartbeats 4000000
/-! R02d: bent, however deep. -/
namespace Zm
open PySem Lpp
theorem wts_set : ∀ {ds : List D} {j : Nat} (x : D) (h : j < ds.length), wts (ds.set j x) + wt ds[j] = wts ds + wt x
  | d :: ds, 0, x, h => by simp [wts]; omega
  | d :: ds, j + 1, x, h => by
    have := wts_set (ds := ds) (j := j) x (by simpa using h)
    simp only [List.set_cons_succ, List.getElem_cons_succ, wts]; omega
theorem wts_cut (ds : List D) (a : Nat) : wts (ds.take a) + wts (ds.drop a) = wts ds := by rw [← wts_app, List.take_append_drop]
theorem wts_rev : ∀ ds : List D, wts ds.reverse = wts ds
  | [] => rfl
  | d :: ds => by rw [List.reverse_cons, wts_app, wts_rev ds]; simp [wts]; omega
theorem eq_bl (s : Sto) (a b : Bool) : gEq s [.bl a, .bl b] = some (.bl (a == b)) := by cases a <;> cases b <;> rfl
/-- a list that is owned, one thing more in it -/
theorem app_any {n : Nat} {d1 : D} {L : List D} {o3 o4 : Option D} {m : M} {x : D} {s s' : Sto} (hl : L.length < sizeLine) (fx : fz x = x)
    (h1 : m [some (.box n), some d1, some (.lst true L), o3, o4] s = .ok x s') (h2 : m (restr [true] [some (.box n), some d1, some (.lst true L), o3, o4]) s = .ok x s') :
    mUpd uApp [true] 2 [m] [some (.box n), some d1, some (.lst true L), o3, o4] s = .nx [some (.box n), some d1, some (.lst true (L ++ [x])), o3, o4] s' := by
  have fr : frzE [true] [some (.box n), some d1, some (.lst true L), o3, o4] = [some (.box n), some d1, some (.lst true L), o3, o4] := by simp [frzE]
  unfold mUpd
  simp only [List.getElem?_cons_zero, List.getElem?_cons_succ, mArgs, h1, R.bind_ok, R.to_ok]
  by_cases z : noFs [x] = true
  · rw [if_pos z]
    simp [uApp, hl]
  · rw [if_neg z]
    unfold mUpdF
    rw [fr]
    simp only [List.getElem?_cons_zero, List.getElem?_cons_succ, mArgs, h2, R.bind_ok, R.to_ok]
    simp [uApp, hl, fzs, fx]
section
variable {K : Int} (h12 : 10 ^ 12 ≤ K) (hK : K < 10 ^ 30)
include h12 hK
theorem bent_end {b : Nat} {d : D} {L : List D} {sp wy : Int} {m C : Nat} {s : Sto} (hL : ∀ e ∈ L, Dt (K + 1) m e) (fd : fz d = d) (hi : ∃ z, gIsi [] [d, .ty "tuple"] = some (.bl z)) (hw : Well s b C) (hC : C < 2 ^ 90) :
    ∃ x s', mRet (mIfE (tV (mOp gEq [(mOp gIsi [(mVar 1), (mC (.ty "tuple"))]), (mOp gGt [(mCall f__law_dip [(mVar 0), (mC (.int 12))]), (mC (.int 0))])])) (mOp gTuple [(mVar 2)]) (mVar 2)) [some (.box b), some d, some (.lst true L), some (.int sp), some (.int wy)] s = .rt x s' ∧ Dt (K + 1) (m + 1) x ∧ wt x = wts L + 4 ∧ Well s' b (C + 1) := by
  obtain ⟨r, s', e, r0, rw_, w'⟩ := dip_ok hw (show C < 2 ^ 100 by omega) (w := 12) (by omega) (by omega)
  obtain ⟨z, hz⟩ := hi
  have g1 : gIsi s [d, .ty "tuple"] = some (.bl z) := hz
  have fL : fzs L = L := fzs_all fun e he => (hL e he).fz
  have gt : gTuple s' [.lst false L] = some (.tup L) := by simp [gTuple]
  have g2 : gGt s' [.int r, .int 0] = some (.bl (decide (0 < r))) := by simp
  have g3 := eq_bl s' z (decide (0 < r))
  cases q : (z == decide (0 < r)) with
  | true =>
    rw [q] at g3
    refine ⟨.tup L, s', ?_, .tup hL, rfl, w'⟩
    simp [-gIsi, -gGt, mRet, mIfE, mVar, mOp, mArgs, mC, fd, fL, g1, e, g2, g3, gt]
  | false =>
    rw [q] at g3
    refine ⟨.lst false L, s', ?_, .lst hL, rfl, w'⟩
    simp [-gIsi, -gGt, mRet, mIfE, mVar, mOp, mArgs, mC, fd, fL, g1, e, g2, g3, gt]
theorem bent_ok {b : Nat} : ∀ (n : Nat) {k : Nat} (hk : n + 1 ≤ k) {d : D} (hd : Dt K n d) (hw : wt d ≤ 200000) {s : Sto} {C : Nat} (w : Well s b C) (hC : C + 4 * n + 4 ≤ 2 ^ 90),
    ∃ x s', f__law_bent_r k [.box b, d] s = .ok x s' ∧ Dt (K + 1) (n + 2) x ∧ wt x ≤ 2 * wt d + 3000 ∧ Well s' b (C + 4 * n + 4) := by
  intro n
  induction n with
  | zero =>
    intro k hk d hd hw s C w hC
    obtain ⟨k, rfl⟩ : ∃ j, k = j + 1 := ⟨k - 1, by omega⟩
    have ht : (∀ ds, d ≠ .tup ds) ∧ ∀ o ds, d ≠ .lst o ds := by
      cases hd <;> exact ⟨fun _ h => (by cases h), fun _ _ h => (by cases h)⟩
    obtain ⟨x, s', e, hx, w'⟩ := odd_ok (n := b) hd hK ht w (by omega)
    obtain ⟨dx, wx⟩ := odd_dt hd h12 hK x hx
    have fd := hd.fz
    have g : gIsi2 s [d, .tup [.ty "list", .ty "tuple"]] = some (.bl false) := by cases hd <;> simp
    have t : ∀ ds : List D, ds.length ≤ 1000 → gTup s ds = some (.tup ds) := fun ds h => by unfold Zm.gTup; rw [if_pos (szN h)]
    refine ⟨Zm.fz x, s', ?_, dx, by omega, Dr.mono w' (by omega)⟩
    show f__law_bent_body (f__law_bent_r k) [.box b, d] s = _
    refine mkFn_rt rfl ?_
    simp [-gIsi2, mSeq, mIf, tNot, mRet, mVar, mOp, mArgs, mC, fd, t, g, e]
  | succ m ih =>
    intro k hk d hd hw s C w hC
    obtain ⟨k, rfl⟩ : ∃ j, k = j + 1 := ⟨k - 1, by omega⟩
    have fd := hd.fz
    have t : ∀ ds : List D, ds.length ≤ 1000 → gTup s ds = some (.tup ds) := fun ds h => by unfold Zm.gTup; rw [if_pos (szN h)]
    by_cases ht : (∀ ds, d ≠ .tup ds) ∧ ∀ o ds, d ≠ .lst o ds
    · obtain ⟨x, s', e, hx, w'⟩ := odd_ok (n := b) hd hK ht w (by omega)
      obtain ⟨dx, wx⟩ := odd_dt hd h12 hK x hx
      have g : gIsi2 s [d, .tup [.ty "list", .ty "tuple"]] = some (.bl false) := by
        cases hd with
        | tup h => exact absurd rfl (ht.1 _)
        | lst h => exact absurd rfl (ht.2 _ _)
        | _ => simp
      refine ⟨Zm.fz x, s', ?_, dx.up (Int.le_refl _) (by omega), by omega, Dr.mono w' (by omega)⟩
      show f__law_bent_body (f__law_bent_r k) [.box b, d] s = _
      refine mkFn_rt rfl ?_
      simp [-gIsi2, mSeq, mIf, tNot, mRet, mVar, mOp, mArgs, mC, fd, t, g, e]
    · obtain ⟨ds, hds, g, gl, gi, wd⟩ : ∃ ds : List D, (∀ e ∈ ds, Dt K m e) ∧ gIsi2 s [d, .tup [.ty "list", .ty "tuple"]] = some (.bl true) ∧ gList s [d] = some (.lst true ds) ∧ (∃ z, gIsi [] [d, .ty "tuple"] = some (.bl z)) ∧ wt d = wts ds + 4 := by
        cases hd with
        | tup h => exact ⟨_, h, by simp, by simp [gList], ⟨true, by simp⟩, rfl⟩
        | lst h => exact ⟨_, h, by simp, by simp [gList], ⟨false, by simp⟩, rfl⟩
        | non => exact absurd ⟨fun _ h => (by cases h), fun _ _ h => (by cases h)⟩ ht
        | bl => exact absurd ⟨fun _ h => (by cases h), fun _ _ h => (by cases h)⟩ ht
        | int a b => exact absurd ⟨fun _ h => (by cases h), fun _ _ h => (by cases h)⟩ ht
        | str a b => exact absurd ⟨fun _ h => (by cases h), fun _ _ h => (by cases h)⟩ ht
        | dic => exact absurd ⟨fun _ h => (by cases h), fun _ _ h => (by cases h)⟩ ht
      have fds : fzs ds = ds := fzs_all fun e he => (hds e he).fz
      have lw := len_wts ds
      have up1 : ∀ e ∈ ds, Dt (K + 1) (m + 2) e := fun e he => (hds e he).up (by omega) (by omega)
      have q0 : mIf (tNot (tV (mOp gIsi2 [(mVar 1), (mOp gTup [(mC (.ty "list")), (mC (.ty "tuple"))])]))) (mRet (mCall f__law_odd [(mVar 0), (mVar 1)])) mNil [some (.box b), some d, none, none, none] s = .nx [some (.box b), some d, none, none, none] s := by
        simp [-gIsi2, mIf, tNot, mRet, mNil, mVar, mOp, mArgs, mC, fd, t, g]
      have q1 : mSetT [false, true] 2 (mOp gList [(mVar 1)]) [some (.box b), some d, none, none, none] s = .nx [some (.box b), some d, some (.lst true ds), none, none] s := by
        unfold mSetT
        simp [restr, frzE, mOp, mArgs, mVar, fd, gl, fds]
      obtain ⟨sp, s1, e1, sp0, spw, w1⟩ := dip_ok w (show C < 2 ^ 100 by omega) (w := (ds.length : Int) + 1) (by omega) (by omega)
      obtain ⟨sN, rfl⟩ := Int.eq_ofNat_of_zero_le sp0
      have ad : gAdd s [.int (ds.length : Nat), .int 1] = some (.int ((ds.length : Int) + 1)) := rfl
      have gln : gLen s [.lst false ds] = some (.int (ds.length : Nat)) := by simp
      have q2 : mSetD [true, false, true] 3 (mCall f__law_dip [(mVar 0), (mOp gAdd [(mOp gLen [(mVar 2)]), (mC (.int 1))])]) [some (.box b), some d, some (.lst true ds), none, none] s = .nx [some (.box b), some d, some (.lst true ds), some (.int (sN : Nat)), none] s1 := by
        rw [setD_ok (d := .int (sN : Nat)) (s' := s1) (by simp [-gAdd, -gLen, mOp, mArgs, mVar, mC, fds, gln, ad, e1]) rfl (by simp)]; rfl
      obtain ⟨wy, s2, e2, wy0, wyw, w2⟩ := dip_ok w1 (show C + 1 < 2 ^ 100 by omega) (w := 8) (by omega) (by omega)
      have q3 : mSetD [true] 4 (mCall f__law_dip [(mVar 0), (mC (.int 8))]) [some (.box b), some d, some (.lst true ds), some (.int (sN : Nat)), none] s1 = .nx [some (.box b), some d, some (.lst true ds), some (.int (sN : Nat)), some (.int wy)] s2 := by
        rw [setD_ok (d := .int wy) (s' := s2) (by simp [mVar, mC, e2]) rfl (by simp)]; rfl
      have glt : gLt s2 [.int (sN : Nat), .int (ds.length : Nat)] = some (.bl (decide (sN < ds.length))) := by simp
      have gln2 : gLen s2 [.lst false ds] = some (.int (ds.length : Nat)) := by simp
      have ggt : gGt s2 [.int wy, .int 2] = some (.bl (decide (2 < wy))) := by simp
      have glt3 : gLt s2 [.int wy, .int 3] = some (.bl (decide (wy < 3))) := by simp
      obtain ⟨L, s3, q4, hL, wL, w3⟩ : ∃ L s3, mIf (tAnd (tV (mOp gLt [(mVar 3), (mOp gLen [(mVar 2)])])) (tV (mOp gGt [(mVar 4), (mC (.int 2))]))) (mStC (f__law_bent_r k) 2 0 3) (mIf (tV (mOp gLt [(mVar 4), (mC (.int 3))])) (mSetT [false, false, true, true, true] 2 (mOp gIx [(mOp gLst [(mOp gAdd [(mOp gSl01 [(mVar 2), (mVar 3)]), (mOp gSl10 [(mVar 2), (mOp gAdd [(mVar 3), (mC (.int 1))])])]), (mOp gAdd [(mOp gSl01 [(mVar 2), (mOp gAdd [(mVar 3), (mC (.int 1))])]), (mOp gSl10 [(mVar 2), (mVar 3)])]), (mOp gRevS [(mVar 2)])]), (mVar 4)])) (mUpd uApp [true] 2 [(mCall f__law_odd [(mVar 0), (mC .non)])])) [some (.box b), some d, some (.lst true ds), some (.int (sN : Nat)), some (.int wy)] s2 = .nx [some (.box b), some d, some (.lst true L), some (.int (sN : Nat)), some (.int wy)] s3 ∧ (∀ e ∈ L, Dt (K + 1) (m + 2) e) ∧ wts L + 4 ≤ 2 * wt d + 3000 ∧ Well s3 b (C + 2 + 4 * m + 4) := by
        by_cases cA : sN < ds.length ∧ 2 < wy
        · obtain ⟨x, s3, e3, dx, wx, w3⟩ := ih (k := k) (by omega) (hds _ (List.getElem_mem cA.1)) (by have := wts_mem (List.getElem_mem cA.1); omega) w2 (by omega)
          have fx := dx.fz
          have ix : L2.ixN ds.length (sN : Int) = some sN := by simp [L2.ixN, cA.1]
          have fe := (hds _ (List.getElem_mem cA.1)).fz
          refine ⟨ds.set sN x, s3, ?_, fun e he => ?_, ?_, Dr.mono w3 (by omega)⟩
          · have cA1 : decide (sN < ds.length) = true := decide_eq_true cA.1
            have cA2 : decide (2 < wy) = true := decide_eq_true cA.2
            rw [cA1] at glt
            rw [cA2] at ggt
            simp [-gLt, -gGt, -gLen, mIf, tAnd, mVar, mOp, mArgs, mC, fds, gln2, glt, ggt, mStC, ix, cA.1, fe, e3, fx]
          · rcases List.mem_or_eq_of_mem_set he with h | rfl
            · exact up1 e h
            · exact dx
          · have a := wts_set x cA.1
            have c := wts_mem (List.getElem_mem cA.1)
            omega
        · have cAB : (decide (sN < ds.length) && decide (2 < wy)) = false := by
            rw [Bool.and_eq_false_iff, decide_eq_false_iff_not, decide_eq_false_iff_not]
            by_cases z : sN < ds.length
            · exact .inr fun h => cA ⟨z, h⟩
            · exact .inl z
          have tA : ∀ σ : Env, σ = [some (.box b), some d, some (.lst true ds), some (.int (sN : Nat)), some (.int wy)] → (tAnd (tV (mOp gLt [(mVar 3), (mOp gLen [(mVar 2)])])) (tV (mOp gGt [(mVar 4), (mC (.int 2))]))) σ s2 = .ok false s2 := fun σ hσ => by
            subst hσ
            by_cases z : sN < ds.length
            · have z2 : ¬ 2 < wy := fun h => cA ⟨z, h⟩
              rw [decide_eq_true z] at glt
              rw [decide_eq_false z2] at ggt
              simp [-gLt, -gGt, -gLen, tAnd, mVar, mOp, mArgs, mC, fds, gln2, glt, ggt]
            · rw [decide_eq_false z] at glt
              simp [-gLt, -gGt, -gLen, tAnd, mVar, mOp, mArgs, mC, fds, gln2, glt, ggt]
          by_cases cB : wy < 3
          · have sl1 : ∀ a : Nat, gSl01 s2 [.lst false ds, .int (a : Nat)] = some (.lst true (ds.take a)) := fun a => by
              show some (D.lst true (cutD _ _ _)) = _
              rw [cut_to]
            have sl2 : ∀ a : Nat, gSl10 s2 [.lst false ds, .int (a : Nat)] = some (.lst true (ds.drop a)) := fun a => by
              show some (D.lst true (cutD _ _ _)) = _
              rw [cut_from]
            have rv : gRevS s2 [.lst false ds] = some (.lst true ds.reverse) := by simp [gRevS]
            have ad1 : gAdd s2 [.int (sN : Nat), .int 1] = some (.int ((sN : Int) + 1)) := rfl
            have sl1' : gSl01 s2 [.lst false ds, .int ((sN : Int) + 1)] = some (.lst true (ds.take (sN + 1))) := sl1 (sN + 1)
            have sl2' : gSl10 s2 [.lst false ds, .int ((sN : Int) + 1)] = some (.lst true (ds.drop (sN + 1))) := sl2 (sN + 1)
            have cat : ∀ x y : List D, x.length + y.length ≤ 600000 → gAdd s2 [.lst true x, .lst true y] = some (.lst true (x ++ y)) := fun x y h => by
              show (if _ then _ else _) = _
              rw [if_pos (Nat.le_trans h (by decide))]
            have l3 : ∀ x y z : D, gLst s2 [x, y, z] = some (.lst true [x, y, z]) := fun x y z => by unfold Zm.gLst; rw [if_pos (szN (by simp))]
            obtain ⟨L, gx, hL, wL⟩ : ∃ L, gIx s2 [.lst true [.lst true (ds.take sN ++ ds.drop (sN + 1)), .lst true (ds.take (sN + 1) ++ ds.drop sN), .lst true ds.reverse], .int wy] = some (.lst true L) ∧ (∀ e ∈ L, e ∈ ds) ∧ wts L ≤ 2 * wts ds := by
              have : wy = 0 ∨ wy = 1 ∨ wy = 2 := by omega
              rcases this with rfl | rfl | rfl
              · refine ⟨_, by rw [gIx_l]; rfl, fun e he => ?_, ?_⟩
                · rcases List.mem_append.mp he with h | h
                  · exact List.mem_of_mem_take h
                  · exact List.mem_of_mem_drop h
                · rw [wts_app]
                  have a := wts_cut ds sN
                  have c := wts_cut ds (sN + 1)
                  omega
              · refine ⟨_, by rw [gIx_l]; rfl, fun e he => ?_, ?_⟩
                · rcases List.mem_append.mp he with h | h
                  · exact List.mem_of_mem_take h
                  · exact List.mem_of_mem_drop h
                · rw [wts_app]
                  have a := wts_cut ds sN
                  have c := wts_cut ds (sN + 1)
                  omega
              · exact ⟨_, by rw [gIx_l]; rfl, fun e he => List.mem_reverse.mp he, by rw [wts_rev]; omega⟩
            have fL : fzs L = L := fzs_all fun e he => (hds e (hL e he)).fz
            refine ⟨L, s2, ?_, fun e he => up1 e (hL e he), by omega, Dr.mono w2 (by omega)⟩
            have c1 := cat (ds.take sN) (ds.drop (sN + 1)) (by simp; omega)
            have c2 := cat (ds.take (sN + 1)) (ds.drop sN) (by simp; omega)
            have cB2 : decide (wy < 3) = true := decide_eq_true cB
            rw [cB2] at glt3
            have tB := tA _ rfl
            unfold mIf
            rw [tB]
            simp only [R.to_ok, Bool.false_eq_true, if_false]
            have e5 : (tV (mOp gLt [(mVar 4), (mC (.int 3))])) [some (.box b), some d, some (.lst true ds), some (.int (sN : Nat)), some (.int wy)] s2 = .ok true s2 := by
              simp [-gLt, mVar, mOp, mArgs, mC, glt3]
            rw [e5]
            simp only [R.to_ok, if_true]
            unfold mSetT
            simp [-gAdd, restr, frzE, mOp, mArgs, mVar, mC, fd, fds, sl1, sl2, sl1', sl2', rv, ad1, c1, c2, l3, gx, fL]
          · obtain ⟨x, s3, e3, hx, w3⟩ := odd_ok (n := b) (K := K) (m := 0) (d := .non) .non hK ⟨fun _ h => (by cases h), fun _ _ h => (by cases h)⟩ w2 (by omega)
            obtain ⟨dx, wx⟩ := odd_dt (m := 0) (.non : Dt K 0 .non) h12 hK x hx
            have fx := dx.fz
            have cB2 : decide (wy < 3) = false := decide_eq_false cB
            rw [cB2] at glt3
            have tB := tA _ rfl
            have ap := app_any (n := b) (d1 := d) (L := ds) (o3 := some (.int (sN : Nat))) (o4 := some (.int wy)) (m := mCall f__law_odd [(mVar 0), (mC .non)]) (x := Zm.fz x) (s := s2) (s' := s3) (Nat.lt_of_le_of_lt (show ds.length ≤ 200000 by omega) (by decide)) fx (by simp [mVar, mC, e3]) (by simp [restr, mVar, mC, e3])
            refine ⟨ds ++ [Zm.fz x], s3, ?_, fun e he => ?_, ?_, Dr.mono w3 (by omega)⟩
            · unfold mIf
              rw [tB]
              simp only [R.to_ok, Bool.false_eq_true, if_false]
              have e5 : (tV (mOp gLt [(mVar 4), (mC (.int 3))])) [some (.box b), some d, some (.lst true ds), some (.int (sN : Nat)), some (.int wy)] s2 = .ok false s2 := by
                simp [-gLt, mVar, mOp, mArgs, mC, glt3]
              rw [e5]
              simp only [R.to_ok, Bool.false_eq_true, if_false]
              exact ap
            · rcases List.mem_append.mp he with h | h
              · exact up1 e h
              · simp only [List.mem_singleton] at h
                subst h
                exact dx.up (Int.le_refl _) (by omega)
            · rw [wts_app]
              simp only [wts]
              omega
      obtain ⟨x, s4, q5, dx, wx, w4⟩ := bent_end h12 hK (b := b) (d := d) (L := L) (sp := (sN : Nat)) (wy := wy) hL fd gi w3 (by omega)
      refine ⟨x, s4, ?_, dx, by omega, Dr.mono w4 (by omega)⟩
      show f__law_bent_body (f__law_bent_r k) [.box b, d] s = _
      exact mkFn_rt rfl (seq_ok q0 (seq_ok q1 (seq_ok q2 (seq_ok q3 (seq_ok q4 q5)))))
end
end Zm
set_option linter.all false
set_option autoImplicit false
set_option maxRecDepth 100000
/-! GSB: draws, with bounds; what repr tells of halls and days. -/
namespace Zm
open PySem
theorem sortB_gets {n : Nat} {lean B : Int} {t : G (List Int)} (ht : Gets Well n 3 t fun l => l.length = 3 ∧ ∀ x ∈ l, 0 ≤ x ∧ x < B) (h0 : 0 ≤ lean) (h1 : lean < 3) :
    Gets Well n 4 (bd t fun l => bd (g__law_dip n (1 + lean)) fun y => ixT l y) (fun x => 0 ≤ x ∧ x < B) :=
  gets_bd ht fun l hl => gets_bd (dip_gets (by omega) (by omega)) fun z hz => ix_gets hz.1 (by omega) hl.2
theorem hallB_gets {n : Nat} {a b w : Int} (ha : 1 ≤ a) (ha8 : a ≤ 8) (hb : 1 ≤ b) (hb8 : b ≤ 8) (h1 : 0 < w) (h2 : w ≤ 10 ^ 20) :
    Gets Well n 1000 (g__law_hall n a b w) (fun h => ∃ m, HallOK h m ∧ Low (10 ^ 20) h) := by
  unfold g__law_hall
  refine gets_fn (gb_eb (dip_gets (by decide) (by decide)) fun lean hlean => gb_eb (one_gets (by omega) (by omega)) fun many hm => ?_)
  refine gb_lt (gb_sq (k := 900) (P1 := fun h : List (List Int) => ∃ m, HallOK h m ∧ Low (10 ^ 20) h) ?_ fun h hh => gb_rt hh)
  refine gb_eb (k := 1) (P1 := fun xs => 1 ≤ xs.length ∧ xs.length ≤ 8) (gets_bd (f := rangeT) (one_gets (by omega) (by omega)) fun c hc => gets_eq (fun s => range_int (by omega) (by omega)) (by simp; omega)) fun xs hx => ?_
  refine gb_forN (fun i (h : List (List Int)) => h.length = i ∧ (∀ r ∈ h, r.length = many.toNat ∧ Nn r) ∧ Low (10 ^ 20) h) 50 8 hx.2 ⟨rfl, by simp, by simp [Low]⟩ (fun i hi h ⟨hl, hr, hw⟩ => ?_) fun h ⟨hl, hr, hw⟩ => ⟨many.toNat, ⟨by omega, by omega, by omega, by omega, hr⟩, hw⟩
  refine gb_lt (gb_sq (k := 40) (P1 := fun r : List Int => r.length = many.toNat ∧ Nn r ∧ ∀ x ∈ r, x < 10 ^ 20) ?_ fun r ⟨r1, r2, r3⟩ => gb_ap (by omega) (gb_nx ⟨by simp [hl], fun q hq => ?_, fun q hq => ?_⟩))
  · refine gb_eb (k := 0) (range_gets (by omega) (by omega)) fun ys hy => ?_
    refine gb_forN (fun i (r : List Int) => r.length = i ∧ Nn r ∧ ∀ x ∈ r, x < 10 ^ 20) 4 8 (by omega) ⟨rfl, by simp [Nn], by simp⟩ (fun i hi r ⟨rl, rn, rb⟩ => ?_) fun r ⟨h1, h2, h3⟩ => ⟨by omega, h2, h3⟩
    refine gb_eb (sortB_gets (B := 10 ^ 20) (gets_bd (dip_gets (by decide) (by decide)) fun x hx => gets_bd (dip_gets (by decide) (by decide)) fun y hy => gets_bd (dip_gets h1 (by omega)) fun z hz => gets_pr ⟨rfl, by simp; omega⟩) hlean.1 hlean.2) fun x hx => gb_ap (by omega) (gb_nx ⟨by simp [rl], rn.snoc hx.1, fun y hy => ?_⟩)
    rcases List.mem_append.mp hy with z | z
    · exact rb y z
    · simp at z; omega
  · rcases List.mem_append.mp hq with z | z
    · exact hr q z
    · simp at z; subst z; exact ⟨r1, r2⟩
  · rcases List.mem_append.mp hq with z | z
    · exact hw q z
    · simp at z; subst z; exact r3
end Zm
set_option linter.all false
set_option autoImplicit false
set_option maxRecDepth 100000
set_option maxHeartbeats 4000000
/-! R02: halls judged: the law, as it is typed. -/
namespace Zm
open PySem Lpp
theorem repsB02 {α : Type} {x : α} {m : Nat} (h1 : 1 ≤ m) (h2 : m ≤ 1000) (s : Sto) : repsT [x] (m : Int) s = .ok (List.replicate m x) s := by
  unfold repsT
  by_cases z : (m : Int) = 1
  · obtain rfl : m = 1 := by omega
    rw [if_pos (by omega)]; rfl
  · rw [if_neg z, if_pos ⟨by simp, by omega, by omega, by simp⟩, Int.toNat_natCast]
    congr 1
    induction m with
    | zero => rfl
    | succ n ih => clear ih; simp [List.flatten_replicate_singleton]
theorem reps8 {α : Type} {x : α} (s : Sto) : repsT [x] (8 : Int) s = .ok (List.replicate 8 x) s := repsB02 (m := 8) (by decide) (by decide) s
theorem reps9' {α : Type} {x : α} (s : Sto) : repsT [x] (9 : Int) s = .ok (List.replicate 9 x) s := repsB02 (m := 9) (by decide) (by decide) s
/-- good data, by a look -/
def okD : Nat → D → Bool
  | _, .non => true
  | _, .bl _ => true
  | _, .int i => decide (-10 ^ 45 ≤ i) && decide (i ≤ 10 ^ 45)
  | _, .str z => PyData.strOk z && decide (z.length ≤ 60)
  | n + 1, .dic false false [] [] => true
  | n + 1, .tup ds => ds.all (okD n)
  | n + 1, .lst false ds => ds.all (okD n)
  | _, _ => false
theorem okD_dt : ∀ {n : Nat} {d : D}, okD n d = true → Dt (10 ^ 45) n d := by
  intro n
  induction n with
  | zero =>
    intro d h
    cases d with
    | non => exact .non
    | bl b => exact .bl
    | int i =>
      simp only [okD, Bool.and_eq_true, decide_eq_true_eq] at h
      exact .int h.1 h.2
    | str z =>
      simp only [okD, Bool.and_eq_true, decide_eq_true_eq] at h
      exact .str h.1 h.2
    | _ => simp [okD] at h
  | succ n ih =>
    intro d h
    cases d with
    | non => exact .non
    | bl b => exact .bl
    | int i =>
      simp only [okD, Bool.and_eq_true, decide_eq_true_eq] at h
      exact .int h.1 h.2
    | str z =>
      simp only [okD, Bool.and_eq_true, decide_eq_true_eq] at h
      exact .str h.1 h.2
    | dic o t ks vs => cases o <;> cases t <;> cases ks <;> cases vs <;> first | exact .dic | (simp [okD] at h)
    | tup ds =>
      simp only [okD, List.all_eq_true] at h
      exact .tup fun d hd => ih (h d hd)
    | lst o ds =>
      cases o
      · simp only [okD, List.all_eq_true] at h
        exact .lst fun d hd => ih (h d hd)
      · simp [okD] at h
    | _ => simp [okD] at h
/-- data that are looked at -/
def Gdd (d : D) : Prop := ∃ K n, K < 10 ^ 50 ∧ n ≤ 50 ∧ Dt K n d ∧ wt d ≤ 900000
def W1 : List D := [D.non, (eI.f (0 : Int)), (eB.f true), (eS.f ("" : Str)), (eS.f ("0" : Str)), ((eT eI).f ([] : (List Int))), ((eL eX).f ([] : (List D))), (D.dic false false [] []), ((eT (eT eI)).f [([] : (List Int))]), ((eP (eT eI) (eT eI)).f (([] : (List Int)), ([] : (List Int)))), ((eL eX).f [((eT eI).f [(0 : Int)])]), ((eT (eT eI)).f [[(0 : Int)]]), ((eT (eL eX)).f [[(eI.f (0 : Int))]]), ((eT (eT eI)).f (List.replicate 8 [(0 : Int)])), ((eT (eT eI)).f (List.replicate 9 [(0 : Int)]))]
def W2 : List D := [((eT (eT eI)).f [List.replicate 8 (0 : Int)]), ((eT (eT eI)).f [List.replicate 9 (0 : Int)]), ((eP (eP eI eI) (eT eI)).f (((0 : Int), (1 : Int)), [(0 : Int)])), ((eP (eT eI) (eP eI eI)).f ([(0 : Int)], ((0 : Int), (1 : Int)))), ((eT (eT eB)).f [[true]]), ((eT (eT (eO eI))).f [[none]]), ((eT eI).f [(0 : Int)]), ((eT eS).f [("0" : Str)])]
def W3 : List D := [((eT (eT eI)).f (List.replicate 8 (List.replicate 8 (0 : Int)))), ((eT (eT eI)).f [[(-(1 : Int))]]), ((eT (eT eS)).f [[("0" : Str)]]), ((eP (eT eI) (eL eX)).f ([(0 : Int)], [(eI.f (0 : Int))])), ((eT (eT eI)).f [[10 ^ 40]])]
theorem W_ok : ((W1 ++ W2) ++ W3).all (fun x => okD 5 x && decide (wt x ≤ 900000)) = true := by decide +kernel
theorem W_gd : ∀ x ∈ (W1 ++ W2) ++ W3, Gdd x := fun x hx => by
  have := List.all_eq_true.mp W_ok x hx
  simp only [Bool.and_eq_true, decide_eq_true_eq] at this
  exact ⟨10 ^ 45, 5, by decide, by decide, okD_dt this.1, this.2⟩
theorem bent_g {b n : Nat} {K : Int} {d : D} (h12 : 10 ^ 12 ≤ K) (hK : K < 10 ^ 30) (hd : Dt K n d) (hn : n ≤ 6) (hw : wt d ≤ 200000) : Gets Well b 40 (g__law_bent b d) (fun x => Dt (K + 1) (n + 2) x ∧ wt x ≤ 2 * wt d + 3000) := fun s C w hc => by
  obtain ⟨x, s', e, dx, wx, w'⟩ := bent_ok h12 hK (b := b) n (k := 8) (by omega) hd hw w (by omega)
  refine ⟨x, s', ?_, ⟨dx, wx⟩, Dr.mono w' (by omega)⟩
  have e' : f__law_bent [.box b, d] s = .ok x s' := e
  unfold g__law_bent
  rw [hd.fz, e']
  show R.ok (fz x) s' = _
  rw [dx.fz]
theorem wts_row : ∀ {l : List D} {B : Nat}, (∀ x ∈ l, wt x ≤ B) → wts l ≤ l.length * (B + 2)
  | [], B, _ => by simp [wts]
  | d :: l, B, h => by
    have a := h d (by simp)
    have b := wts_row (l := l) fun x hx => h x (by simp [hx])
    rw [wts, List.length_cons, Nat.succ_mul]; omega
theorem hall_dt {h : List (List Int)} {m : Nat} (H : HallOK h m) (L : Low (10 ^ 20) h) : Dt (10 ^ 20) 2 (hallD h) ∧ wt (hallD h) ≤ 60000 := by
  have l8 := H.l8; have m8 := H.m8
  constructor
  · refine .tup fun d hd => ?_
    obtain ⟨r, hr, rfl⟩ := List.mem_map.mp hd
    refine .tup fun e he => ?_
    obtain ⟨x, hx, rfl⟩ := List.mem_map.mp he
    have a := (H.row r hr).2 x hx
    have b := L r hr x hx
    exact .int (by omega) (by omega)
  · have rw_ : ∀ d ∈ h.map rowD, wt d ≤ 6000 := fun d hd => by
      obtain ⟨r, hr, rfl⟩ := List.mem_map.mp hd
      have := wts_row (l := r.map D.int) (B := 700) fun x hx => by
        obtain ⟨i, _, rfl⟩ := List.mem_map.mp hx
        exact Nat.le_refl _
      rw [List.length_map, (H.row r hr).1] at this
      have c : m * (700 + 2) ≤ 8 * 702 := Nat.mul_le_mul_right _ m8
      show wts (r.map D.int) + 4 ≤ _
      omega
    have := wts_row rw_
    rw [List.length_map] at this
    have c : h.length * (6000 + 2) ≤ 8 * 6002 := Nat.mul_le_mul_right _ l8
    show wts (h.map rowD) + 4 ≤ _
    omega
theorem look_is {d : D} (G : Gdd d) (s : Sto) : g_is_hall d s = .ok (lawB d) s ∧ g__law_is_hall d s = .ok (lawB d) s := by
  obtain ⟨K, n, hK, hn, hd, hw⟩ := G
  constructor
  · unfold g_is_hall
    rw [hd.fz, prog_is hd hw s]
  · unfold g__law_is_hall
    rw [hd.fz, law_is hd hw s]
theorem law_gets (ns : List Int) : Gets W0t 0 0 (g_law ns) (fun z => z = true) := by
  have p40 : ∀ s : Sto, powT 10 (40 : Int) s = .ok (10 ^ 40) s := fun s => powC (k := 40) (by decide) s
  have p12 : ∀ s : Sto, powT 10 (12 : Int) s = .ok (10 ^ 12) s := fun s => powC (k := 12) (by decide) s
  unfold g_law
  refine gets_fn (gb_ebE (x := W1) (fun s => ?_) (gb_ebE (x := W1 ++ W2) (fun s => ?_) (gb_ebE (x := (W1 ++ W2) ++ W3) (fun s => ?_) ?_)))
  · rw [bd_ok (a := (eT (eT eI)).f (List.replicate 8 [(0 : Int)])) (s' := s) (by rw [bd_ok (reps8 s)]; rfl), bd_ok (a := (eT (eT eI)).f (List.replicate 9 [(0 : Int)])) (s' := s) (by rw [bd_ok (reps9' s)]; rfl)]
    rfl
  · rw [bd_ok (a := W2) (s' := s)]
    · exact cat_ok (by simp [W1, W2])
    · rw [bd_ok (a := (eT (eT eI)).f [List.replicate 8 (0 : Int)]) (s' := s) (by rw [bd_ok (a := [List.replicate 8 (0 : Int)]) (s' := s) (by rw [bd_ok (reps8 s)]; rfl)]; rfl), bd_ok (a := (eT (eT eI)).f [List.replicate 9 (0 : Int)]) (s' := s) (by rw [bd_ok (a := [List.replicate 9 (0 : Int)]) (s' := s) (by rw [bd_ok (reps9' s)]; rfl)]; rfl)]
      rfl
  · rw [bd_ok (a := W3) (s' := s)]
    · exact cat_ok (by simp [W1, W2, W3])
    · rw [bd_ok (a := (eT (eT eI)).f (List.replicate 8 (List.replicate 8 (0 : Int)))) (s' := s) (by rw [bd_ok (a := List.replicate 8 (List.replicate 8 (0 : Int))) (s' := s) (by rw [bd_ok (a := [List.replicate 8 (0 : Int)]) (s' := s) (by rw [bd_ok (reps8 s)]; rfl)]; exact reps8 s)]; rfl), bd_ok (a := (eT (eT eI)).f [[10 ^ 40]]) (s' := s) (by rw [bd_ok (a := [[10 ^ 40]]) (s' := s) (by rw [bd_ok (a := [10 ^ 40]) (s' := s) (by rw [bd_ok (p40 s)]; rfl)]; rfl)]; rfl)]
      rfl
  have WG := W_gd
  have wl : ((W1 ++ W2) ++ W3).length = 28 := rfl
  generalize (W1 ++ W2) ++ W3 = W at WG wl ⊢
  refine gb_sq (k := 0) (P1 := fun _ => True) (gb_ebE (fun s => range_int (by omega) (by omega)) (gb_forN (fun _ _ => True) 0 4 (by simp; omega) trivial (fun i hi v _ => ?_) fun _ _ => trivial)) fun _ _ => gb_rt rfl
  rw [irg_len] at hi
  rw [show (irg (max 1 (min 4 (ns.length : Int))).toNat)[i]'(by simpa using hi) = (i : Int) by simp [irg]]
  refine gb_new (W := Well) (K := 10000) (fun s => well_gets (by omega) (by omega) s) fun n => ?_
  refine gb_lt (gb_sq (k := 9000) (P1 := fun v : List D => v.length ≤ 52 ∧ ∀ x ∈ v, Gdd x) (gb_ebE (x := irg 8) (fun s => range_ok (n := 8) (by decide)) (gb_forN (fun j v => v.length = 28 + 3 * j ∧ ∀ x ∈ v, Gdd x) 1100 8 (by simp) ⟨wl, WG⟩ (fun j hj v ⟨vl, vg⟩ => ?_) fun v hv => ?_)) fun v ⟨vl, vg⟩ => ?_)
  · rw [irg_len] at hj
    refine gb_eb (k := 1000) (P1 := fun h => ∃ m, HallOK h m ∧ Low (10 ^ 20) h) (gets_bdE (x := (10 ^ 12 : Int)) p12 (hallB_gets (by decide) (by decide) (by decide) (by decide) (by decide) (by decide))) fun h ⟨m, H, L⟩ => ?_
    obtain ⟨dh, wh⟩ : Dt (10 ^ 20) 2 ((eT (eT eI)).f h) ∧ wt ((eT (eT eI)).f h) ≤ 60000 := hall_dt H L
    refine gb_eb (k := 40) (bent_g (n := 2) (by decide) (by decide) dh (by decide) (by omega)) fun x ⟨dx, wx⟩ => ?_
    refine gb_eb (k := 40) (P1 := fun w : List D => w.length = 28 + 3 * (j + 1) ∧ ∀ x ∈ w, Gdd x) (gets_bd (k := 40) (P := fun w : List D => w.length = 3 ∧ ∀ x ∈ w, Gdd x) (gets_bd (k := 40) (bent_g (n := 4) (by decide) (by decide) dx (by decide) (by omega)) fun y ⟨dy, wy⟩ => gets_pr ⟨rfl, fun z hz => ?_⟩) fun w hw => gets_eq (fun s => cat_ok (by have := hw.1; omega)) ⟨by rw [List.length_append, hw.1]; omega, fun z hz => ?_⟩) fun w hw => gb_nx hw
    · simp only [List.mem_cons, List.not_mem_nil, or_false] at hz
      rcases hz with rfl | rfl | rfl
      · exact ⟨_, 2, by decide, by decide, dh, Nat.le_trans wh (by decide)⟩
      · exact ⟨_, 4, by decide, by decide, dx, by omega⟩
      · exact ⟨_, 6, by decide, by decide, dy, by omega⟩
    · rcases List.mem_append.mp hz with q | q
      · exact vg z q
      · exact hw.2 z q
  · rw [irg_len] at hv
    exact ⟨by omega, hv.2⟩
  refine gb_sq (k := 0) (P1 := fun _ => True) (gb_forN (fun _ _ => True) 0 52 vl trivial (fun j hj u _ => ?_) fun _ _ => trivial) fun _ _ => gb_nx trivial
  have G := vg _ (List.getElem_mem hj)
  generalize v[j] = x at G ⊢
  have lk := look_is G
  obtain ⟨K, m, hK, hm, hd, hw⟩ := G
  have ef : eX.f x = x := hd.fz
  obtain ⟨z, zs, ze⟩ := reprZ_T (hd.roz hK) (by omega) (by omega)
  obtain ⟨t, ts, te⟩ := reprZ_T (d := eB.f (lawB x)) (k := 0) (B := 5) ro_bl.z (by decide) (by decide)
  rw [ef]
  refine gb_ebE ze (gb_ebE (fun s => (lk s).2) (gb_ifF (fun s => ?_) (gb_nx trivial)))
  rw [orG_ff (z := false) (s1 := s) (s' := s)]
  · rw [bd_ok (a := t) (s' := s) (by rw [bd_ok (lk s).1]; exact te s), bd_ok (te s)]
    exact ne_str ts s
  · rw [orG_ff (z := false) (s1 := s) (s' := s)]
    · rw [bd_ok (lk s).1]
      show R.ok (!decide _) s = _
      rw [decide_eq_true rfl]; rfl
    · rw [bd_ok (ze s)]; exact ne_str zs s
theorem law_good : ∀ ns : List Int, ns.length ≤ 63 → ∃ s, f_law [.ro ns] [] = .ok (.bl true) s := good_of (fun ns s => tf_law (rp_ro ns) s) law_gets
end Zm
set_option Elab.async false
set_option linter.all false
set_option maxRecDepth 100000
set_option autoImplicit false
namespace Zm
open PySem PySem.Spec PyProof.Rows L2
theorem all_mk {P : Program} {w : World} {K : PySem.W.Frag} {h : Heap} {mg : Str → Option Value} {fa : Addr} {f0 : Addr} {od0 an0 : Option Addr} {sl0 : Array (Option Value)} {oc0 kV0 dc0 pm0 cd0 ct0 : Value} {f1 : Addr} {od1 an1 : Option Addr} {sl1 : Array (Option Value)} {oc1 kV1 dc1 pm1 cd1 ct1 : Value} {f2 : Addr} {od2 an2 : Option Addr} {sl2 : Array (Option Value)} {oc2 kV2 dc2 pm2 cd2 ct2 : Value} {f3 : Addr} {od3 an3 : Option Addr} {sl3 : Array (Option Value)} {oc3 kV3 dc3 pm3 cd3 ct3 : Value} {f4 : Addr} {od4 an4 : Option Addr} {sl4 : Array (Option Value)} {oc4 kV4 dc4 pm4 cd4 ct4 : Value} {f5 : Addr} {od5 an5 : Option Addr} {sl5 : Array (Option Value)} {oc5 kV5 dc5 pm5 cd5 ct5 : Value} {f6 : Addr} {od6 an6 : Option Addr} {sl6 : Array (Option Value)} {oc6 kV6 dc6 pm6 cd6 ct6 : Value} {f7 : Addr} {od7 an7 : Option Addr} {sl7 : Array (Option Value)} {oc7 kV7 dc7 pm7 cd7 ct7 : Value} {f8 : Addr} {od8 an8 : Option Addr} {sl8 : Array (Option Value)} {oc8 kV8 dc8 pm8 cd8 ct8 : Value} {f9 : Addr} {od9 an9 : Option Addr} {sl9 : Array (Option Value)} {oc9 kV9 dc9 pm9 cd9 ct9 : Value} {f10 : Addr} {od10 an10 : Option Addr} {sl10 : Array (Option Value)} {oc10 kV10 dc10 pm10 cd10 ct10 : Value} {t_MOST_COUNTERS : Tok} {t_MOST_CUSTOMERS : Tok} (X : K.In h) (G : h.Ns mainGlobals mg) (hfa : mg "law" = some (.ref fa))
    (a0 : PySem.W.nsIn K mainGlobals "_law_well" = some (some (.ref f0))) (l0 : K.lookup f0 = some ⟨oc0, od0, .func (PySem.W.fnOf "_law_well" "_law_well" (defArgs (kst 8)) (defBody (kst 8)) (defScope (kst 8)) .none kV0 dc0 pm0 an0 cd0 ct0), sl0⟩) (c0 : PySem.W.codeIn K cd0 "_law_well" = true) (k0 : PySem.W.keepIn K (.ref f0) = true)
    (a1 : PySem.W.nsIn K mainGlobals "_law_dip" = some (some (.ref f1))) (l1 : K.lookup f1 = some ⟨oc1, od1, .func (PySem.W.fnOf "_law_dip" "_law_dip" (defArgs (kst 9)) (defBody (kst 9)) (defScope (kst 9)) .none kV1 dc1 pm1 an1 cd1 ct1), sl1⟩) (c1 : PySem.W.codeIn K cd1 "_law_dip" = true) (k1 : PySem.W.keepIn K (.ref f1) = true)
    (a2 : PySem.W.nsIn K mainGlobals "_law_hall" = some (some (.ref f2))) (l2 : K.lookup f2 = some ⟨oc2, od2, .func (PySem.W.fnOf "_law_hall" "_law_hall" (defArgs (kst 10)) (defBody (kst 10)) (defScope (kst 10)) .none kV2 dc2 pm2 an2 cd2 ct2), sl2⟩) (c2 : PySem.W.codeIn K cd2 "_law_hall" = true) (k2 : PySem.W.keepIn K (.ref f2) = true)
    (a3 : PySem.W.nsIn K mainGlobals "_law_odd" = some (some (.ref f3))) (l3 : K.lookup f3 = some ⟨oc3, od3, .func (PySem.W.fnOf "_law_odd" "_law_odd" (defArgs (kst 12)) (defBody (kst 12)) (defScope (kst 12)) .none kV3 dc3 pm3 an3 cd3 ct3), sl3⟩) (c3 : PySem.W.codeIn K cd3 "_law_odd" = true) (k3 : PySem.W.keepIn K (.ref f3) = true)
    (a4 : PySem.W.nsIn K mainGlobals "_law_bent" = some (some (.ref f4))) (l4 : K.lookup f4 = some ⟨oc4, od4, .func (PySem.W.fnOf "_law_bent" "_law_bent" (defArgs (kst 13)) (defBody (kst 13)) (defScope (kst 13)) .none kV4 dc4 pm4 an4 cd4 ct4), sl4⟩) (c4 : PySem.W.codeIn K cd4 "_law_bent" = true) (k4 : PySem.W.keepIn K (.ref f4) = true)
    (a5 : PySem.W.nsIn K mainGlobals "_law_is_hall" = some (some (.ref f5))) (l5 : K.lookup f5 = some ⟨oc5, od5, .func (PySem.W.fnOf "_law_is_hall" "_law_is_hall" (defArgs (kst 11)) (defBody (kst 11)) (defScope (kst 11)) .none kV5 dc5 pm5 an5 cd5 ct5), sl5⟩) (c5 : PySem.W.codeIn K cd5 "_law_is_hall" = true) (k5 : PySem.W.keepIn K (.ref f5) = true)
    (a6 : PySem.W.nsIn K mainGlobals "is_whole" = some (some (.ref f6))) (l6 : K.lookup f6 = some ⟨oc6, od6, .func (PySem.W.fnOf "is_whole" "is_whole" (defArgs (kst 3)) (defBody (kst 3)) (defScope (kst 3)) .none kV6 dc6 pm6 an6 cd6 ct6), sl6⟩) (c6 : PySem.W.codeIn K cd6 "is_whole" = true) (k6 : PySem.W.keepIn K (.ref f6) = true)
    (a7 : PySem.W.nsIn K mainGlobals "is_amount" = some (some (.ref f7))) (l7 : K.lookup f7 = some ⟨oc7, od7, .func (PySem.W.fnOf "is_amount" "is_amount" (defArgs (kst 4)) (defBody (kst 4)) (defScope (kst 4)) .none kV7 dc7 pm7 an7 cd7 ct7), sl7⟩) (c7 : PySem.W.codeIn K cd7 "is_amount" = true) (k7 : PySem.W.keepIn K (.ref f7) = true)
    (a8 : PySem.W.nsIn K mainGlobals "is_row" = some (some (.ref f8))) (l8 : K.lookup f8 = some ⟨oc8, od8, .func (PySem.W.fnOf "is_row" "is_row" (defArgs (kst 5)) (defBody (kst 5)) (defScope (kst 5)) .none kV8 dc8 pm8 an8 cd8 ct8), sl8⟩) (c8 : PySem.W.codeIn K cd8 "is_row" = true) (k8 : PySem.W.keepIn K (.ref f8) = true)
    (a9 : PySem.W.nsIn K mainGlobals "is_hall" = some (some (.ref f9))) (l9 : K.lookup f9 = some ⟨oc9, od9, .func (PySem.W.fnOf "is_hall" "is_hall" (defArgs (kst 6)) (defBody (kst 6)) (defScope (kst 6)) .none kV9 dc9 pm9 an9 cd9 ct9), sl9⟩) (c9 : PySem.W.codeIn K cd9 "is_hall" = true) (k9 : PySem.W.keepIn K (.ref f9) = true)
    (a10 : PySem.W.nsIn K mainGlobals "law" = some (some (.ref f10))) (l10 : K.lookup f10 = some ⟨oc10, od10, .func (PySem.W.fnOf "law" "law" (defArgs (kst 14)) (defBody (kst 14)) (defScope (kst 14)) .none kV10 dc10 pm10 an10 cd10 ct10), sl10⟩) (c10 : PySem.W.codeIn K cd10 "law" = true) (k10 : PySem.W.keepIn K (.ref f10) = true)
    (z_abs : PySem.W.nsIn K mainGlobals "abs" = some none)
    (z_all : PySem.W.nsIn K mainGlobals "all" = some none)
    (z_bool : PySem.W.nsIn K mainGlobals "bool" = some none)
    (z_int : PySem.W.nsIn K mainGlobals "int" = some none)
    (z_isinstance : PySem.W.nsIn K mainGlobals "isinstance" = some none)
    (z_len : PySem.W.nsIn K mainGlobals "len" = some none)
    (z_list : PySem.W.nsIn K mainGlobals "list" = some none)
    (z_max : PySem.W.nsIn K mainGlobals "max" = some none)
    (z_min : PySem.W.nsIn K mainGlobals "min" = some none)
    (z_range : PySem.W.nsIn K mainGlobals "range" = some none)
    (z_repr : PySem.W.nsIn K mainGlobals "repr" = some none)
    (z_str : PySem.W.nsIn K mainGlobals "str" = some none)
    (z_tuple : PySem.W.nsIn K mainGlobals "tuple" = some none)
    (q_MOST_COUNTERS : PySem.W.nsIn K mainGlobals "MOST_COUNTERS" = some (some (.int 8 t_MOST_COUNTERS)))
    (q_MOST_CUSTOMERS : PySem.W.nsIn K mainGlobals "MOST_CUSTOMERS" = some (some (.int 8 t_MOST_CUSTOMERS))) :
    ∃ fd : FuncData, (∀ (s : Shared) (u : Value), BindsTo s fd ⟨[u], []⟩ [("script", u)]) ∧ ∀ base : Heap, K.In base → base.Ns mainGlobals mg → FnG P w K mg base 12 fa fd ["script"] (spF K mg f_law) := by
  have e := hfa.symm.trans (PySem.W.mg_of X G a10)
  cases e
  have T : Txt K mg := ⟨⟨f0, _, PySem.W.mg_of X G a0, fun_mk (st := kst 8) l0 c0 k0⟩, ⟨f1, _, PySem.W.mg_of X G a1, fun_mk (st := kst 9) l1 c1 k1⟩, ⟨f2, _, PySem.W.mg_of X G a2, fun_mk (st := kst 10) l2 c2 k2⟩, ⟨f3, _, PySem.W.mg_of X G a3, fun_mk (st := kst 12) l3 c3 k3⟩, ⟨f4, _, PySem.W.mg_of X G a4, fun_mk (st := kst 13) l4 c4 k4⟩, ⟨f5, _, PySem.W.mg_of X G a5, fun_mk (st := kst 11) l5 c5 k5⟩, ⟨f6, _, PySem.W.mg_of X G a6, fun_mk (st := kst 3) l6 c6 k6⟩, ⟨f7, _, PySem.W.mg_of X G a7, fun_mk (st := kst 4) l7 c7 k7⟩, ⟨f8, _, PySem.W.mg_of X G a8, fun_mk (st := kst 5) l8 c8 k8⟩, ⟨f9, _, PySem.W.mg_of X G a9, fun_mk (st := kst 6) l9 c9 k9⟩, PySem.W.mg_none_of X G z_abs, PySem.W.mg_none_of X G z_all, PySem.W.mg_none_of X G z_bool, PySem.W.mg_none_of X G z_int, PySem.W.mg_none_of X G z_isinstance, PySem.W.mg_none_of X G z_len, PySem.W.mg_none_of X G z_list, PySem.W.mg_none_of X G z_max, PySem.W.mg_none_of X G z_min, PySem.W.mg_none_of X G z_range, PySem.W.mg_none_of X G z_repr, PySem.W.mg_none_of X G z_str, PySem.W.mg_none_of X G z_tuple, ⟨t_MOST_COUNTERS, PySem.W.mg_of X G q_MOST_COUNTERS⟩, ⟨t_MOST_CUSTOMERS, PySem.W.mg_of X G q_MOST_CUSTOMERS⟩⟩
  exact ⟨_, fun s v => .of_eq rfl, fun base _ _ => ok_law T (fun_mk (st := kst 14) l10 c10 k10)⟩
end Zm
open PySem PySem.W PyProof.Rows
set_option maxHeartbeats 0 in
theorem PySem.Challenge.cw_movedminutes_k02_halls_judged_holds : PySem.Challenge.rw_movedminutes_k02_halls_judged.Holds := by
  w_on; o_law; k_head; (case hw => w_witness2)
  k_fill
  refine Zm.walk_ofG (l := PySem.Challenge.rw_movedminutes_k02_halls_judged) (n := 63) (k := 12) (x := "script") (m := Zm.f_law) rfl (by decide) rfl ⟨rfl, by decide, by decide⟩ (fun w h Y => PySem.W.kIn_of Y) ?F Zm.law_good
  case F =>
    intro w mg fa h KX G hmg
    refine' Zm.all_mk KX G hmg ?a0 ?l0 ?c0 ?k0 ?a1 ?l1 ?c1 ?k1 ?a2 ?l2 ?c2 ?k2 ?a3 ?l3 ?c3 ?k3 ?a4 ?l4 ?c4 ?k4 ?a5 ?l5 ?c5 ?k5 ?a6 ?l6 ?c6 ?k6 ?a7 ?l7 ?c7 ?k7 ?a8 ?l8 ?c8 ?k8 ?a9 ?l9 ?c9 ?k9 ?a10 ?l10 ?c10 ?k10 ?z_abs ?z_all ?z_bool ?z_int ?z_isinstance ?z_len ?z_list ?z_max ?z_min ?z_range ?z_repr ?z_str ?z_tuple ?q_MOST_COUNTERS ?q_MOST_CUSTOMERS
    (case a0 => k_is)
    (case l0 => k_is)
    (case c0 => k_is)
    (case k0 => k_is)
    (case a1 => k_is)
    (case l1 => k_is)
    (case c1 => k_is)
    (case k1 => k_is)
    (case a2 => k_is)
    (case l2 => k_is)
    (case c2 => k_is)
    (case k2 => k_is)
    (case a3 => k_is)
    (case l3 => k_is)
    (case c3 => k_is)
    (case k3 => k_is)
    (case a4 => k_is)
    (case l4 => k_is)
    (case c4 => k_is)
    (case k4 => k_is)
    (case a5 => k_is)
    (case l5 => k_is)
    (case c5 => k_is)
    (case k5 => k_is)
    (case a6 => k_is)
    (case l6 => k_is)
    (case c6 => k_is)
    (case k6 => k_is)
    (case a7 => k_is)
    (case l7 => k_is)
    (case c7 => k_is)
    (case k7 => k_is)
    (case a8 => k_is)
    (case l8 => k_is)
    (case c8 => k_is)
    (case k8 => k_is)
    (case a9 => k_is)
    (case l9 => k_is)
    (case c9 => k_is)
    (case k9 => k_is)
    (case a10 => k_is)
    (case l10 => k_is)
    (case c10 => k_is)
    (case k10 => k_is)
    (case z_abs => k_is)
    (case z_all => k_is)
    (case z_bool => k_is)
    (case z_int => k_is)
    (case z_isinstance => k_is)
    (case z_len => k_is)
    (case z_list => k_is)
    (case z_max => k_is)
    (case z_min => k_is)
    (case z_range => k_is)
    (case z_repr => k_is)
    (case z_str => k_is)
    (case z_tuple => k_is)
    (case q_MOST_COUNTERS => k_is)
    (case q_MOST_CUSTOMERS => k_is)
