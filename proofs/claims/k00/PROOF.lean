import PyProof.Rows.All
import Wide.All
import OpenK.AllK
import Wide.FinOn
import HandS.ForMost
import HandS.Codes
import HandS.Flow
import HandS.Conv
import KE.KDictKeyed
import HandS.TupAny
import HandS.Wide
import HandS.Deep
import HandS.IsInst
import HandS.TupLe
import HandS.Zip
import HandS.Style
import HandS.Strs
import HandS.SetFor
import HandS.Sort
import KE.SortData
import KE.GoesMore
import KE.GoesEnum
import KE.KDictPairs
import KE.KDictSum
import KE.SortKeyHeap
import HandS.SortKw
import HandS.Defaults
import HandS.HeadHook2
import HandS.TupSets
import HandS.HeadEnd
import PySem.Challenge.RW_halvedlays_k00_across_dots_parts_and_cut
import KE.KStateDown
import HandS.Ends
import HandS.Head0
import HandS.Head1
import HandS.Head2
import HandS.HeadHook1
set_option Elab.async false
set_option linter.all false
set_option maxRecDepth 100000
set_option maxHeartbeats 0
/-! HlA: data that stay (tuples, locked lists), heaps that grow, locking and unlocking a list. -/
namespace HL
open PySem PySem.Spec PyProof.Rows L2
abbrev Dt := PyData
/-- the program, the world, the written part -/
structure Bs where
  P : Program
  w : World
  K : PySem.W.Frag
abbrev bs (X : Cx) : Bs := ⟨X.prog, X.w, X.K⟩
/-! ### keys -/
mutual
def keyOf : Dt → Option NestedKey
  | .none => some .none
  | .bool b => some (.num (if b then 1 else 0))
  | .int i => some (.num i)
  | .str x => some (.text x)
  | .tuple ds => (keysOf ds).map .tup
  | .list _ => none
  | .dict _ => none
def keysOf : List Dt → Option (List NestedKey)
  | [] => some []
  | d :: ds => (keyOf d).bind fun k => (keysOf ds).map (k :: ·)
end
/-- a dict keyed by tuples: its entries (key, where the key's tuple stands, value), in order -/
def DctO (P : Program) (w : World) (a : Addr) (raw : List (NestedKey × Addr × V)) : HO := .ext fun h => (a == sysModules) = false ∧ raw.length ≤ sizeLine ∧
  ∃ xs : List (NestedKey × Addr × Value), Paired (fun (p : NestedKey × Addr × V) (q : NestedKey × Addr × Value) => p.1 = q.1 ∧ p.2.1 = q.2.1 ∧ RelV p.2.2 q.2.2) raw xs ∧
    ∃ o es ep, h.get? a = some o ∧ o.ExactDict ∧ o.data = .dict es ep ∧ es.toList = xs.map (entryOfKey (nestedKind P w)) ∧ (xs.map (·.1)).Nodup
/-- a tuple at a, of an object that has no dict -/
def Tq (K : PySem.W.Frag) (H : Hp) (a : Addr) (xs : List V) : Prop := (∃ o, H a = some (.frz o (.tup xs)) ∧ o.dict = none) ∨
  ∃ (o : Obj) (its : Array Value) (n : Nat), K.lookup a = some o ∧ o.cls = .type "tuple" ∧ o.dict = none ∧ o.data = .seq its n ∧ its.size ≤ sizeLine ∧ Vals xs its.toList
theorem Tq.sq {K : PySem.W.Frag} {H : Hp} {a : Addr} {xs : List V} (h : Tq K H a xs) : SqT K H a xs := by
  rcases h with ⟨o, e, _⟩ | ⟨o, its, n, e1, e2, _, e3, e4, e5⟩
  · exact .inl (.inr ⟨o, e⟩)
  · exact .inr ⟨o, its, n, e1, e2, e3, e4, e5⟩
/-! ### data that stay -/
mutual
inductive Pd (B : Bs) (H : Hp) : V → Dt → Prop
  | non : Pd B H .non .none
  | bl (b : Bool) : Pd B H (.bl b) (.bool b)
  | int (i : Int) : Pd B H (.int i) (.int i)
  | str (x : Str) : Pd B H (.str x) (.str x)
  | lst {a : Addr} {o : Obj} {xs : List V} {ds : List Dt} : H a = some (.frz o (.lst xs)) → PdA B H xs ds → Pd B H (.ref a) (.list ds)
  | tup {a : Addr} {xs : List V} {ds : List Dt} : Tq B.K H a xs → PdA B H xs ds → Pd B H (.ref a) (.tuple ds)
  | dct {a : Addr} {o : Obj} {raw : List (NestedKey × Addr × V)} {kvs : List (Dt × Dt)} : H a = some (.frz o (DctO B.P B.w a raw)) → PdD B H raw kvs → Pd B H (.ref a) (.dict kvs)
inductive PdA (B : Bs) (H : Hp) : List V → List Dt → Prop
  | nil : PdA B H [] []
  | cons {v : V} {vs : List V} {d : Dt} {ds : List Dt} : Pd B H v d → PdA B H vs ds → PdA B H (v :: vs) (d :: ds)
inductive PdD (B : Bs) (H : Hp) : List (NestedKey × Addr × V) → List (Dt × Dt) → Prop
  | nil : PdD B H [] []
  | cons {k : NestedKey} {b : Addr} {v : V} {rs : List (NestedKey × Addr × V)} {kd vd : Dt} {kvs : List (Dt × Dt)} : keyOf kd = some k ∧ k.depth ≤ 8 → Pd B H (.ref b) kd → Pd B H v vd → PdD B H rs kvs → PdD B H ((k, b, v) :: rs) ((kd, vd) :: kvs)
end
/-- what stays -/
structure Pers (H H' : Hp) : Prop where
  tup : ∀ a xs, H a = some (.tup xs) → H' a = some (.tup xs)
  frz : ∀ a o u, H a = some (.frz o u) → H' a = some (.frz o u)
theorem Pers.refl {H : Hp} : Pers H H := ⟨fun _ _ e => e, fun _ _ _ e => e⟩
theorem Pers.trans {H1 H2 H3 : Hp} (a : Pers H1 H2) (b : Pers H2 H3) : Pers H1 H3 := ⟨fun x xs e => b.tup x xs (a.tup x xs e), fun x o u e => b.frz x o u (a.frz x o u e)⟩
theorem Pers.rdT {H H' : Hp} (p : Pers H H') {a : Addr} {xs : List V} (r : Rd H a (.tup xs)) : Rd H' a (.tup xs) := by
  rcases r with e | ⟨o, e⟩
  · exact .inl (p.tup _ _ e)
  · exact .inr ⟨o, p.frz _ _ _ e⟩
theorem Pers.tq {K : PySem.W.Frag} {H H' : Hp} (p : Pers H H') {a : Addr} {xs : List V} (r : Tq K H a xs) : Tq K H' a xs := r.imp (fun ⟨o, e, d⟩ => ⟨o, p.frz _ _ _ e, d⟩) id
theorem Pers.sqT {K : PySem.W.Frag} {H H' : Hp} (p : Pers H H') {a : Addr} {xs : List V} (r : SqT K H a xs) : SqT K H' a xs := r.imp p.rdT id
section
variable {K : Bs} {H H' : Hp}
mutual
theorem Pd.pers (p : Pers H H') : ∀ {v : V} {d : Dt}, Pd K H v d → Pd K H' v d
  | _, _, .non => .non
  | _, _, .bl _ => .bl _
  | _, _, .int _ => .int _
  | _, _, .str _ => .str _
  | _, _, .lst e a => .lst (p.frz _ _ _ e) (PdA.pers p a)
  | _, _, .tup e a => .tup (p.tq e) (PdA.pers p a)
  | _, _, .dct e a => .dct (p.frz _ _ _ e) (PdD.pers p a)
theorem PdA.pers (p : Pers H H') : ∀ {vs : List V} {ds : List Dt}, PdA K H vs ds → PdA K H' vs ds
  | _, _, .nil => .nil
  | _, _, .cons a b => .cons (Pd.pers p a) (PdA.pers p b)
theorem PdD.pers (p : Pers H H') : ∀ {vs : List (NestedKey × Addr × V)} {ds : List (Dt × Dt)}, PdD K H vs ds → PdD K H' vs ds
  | _, _, .nil => .nil
  | _, _, .cons e a b c => .cons e (Pd.pers p a) (Pd.pers p b) (PdD.pers p c)
end
mutual
theorem Pd.dp : ∀ {v : V} {d : Dt}, Pd K H v d → d.canLay0 = true → Dp K.K H v d
  | _, _, .non, _ => .non
  | _, _, .bl _, _ => .bl _
  | _, _, .int _, _ => .int _
  | _, _, .str _, _ => .str _
  | _, _, .lst e a, c => .lst (.inl (.inr ⟨_, e⟩)) (PdA.dp a (by simpa [PyData.canLay0] using c))
  | _, _, .tup e a, c => .tup e.sq (PdA.dp a (by simpa [PyData.canLay0] using c))
  | _, _, .dct e a, c => by simp [PyData.canLay0] at c
theorem PdA.dp : ∀ {vs : List V} {ds : List Dt}, PdA K H vs ds → PyData.canLayAll0 ds = true → DpAll K.K H vs ds
  | _, _, .nil, _ => .nil
  | _, _, .cons a b, c => by
    rw [PyData.canLayAll0, Bool.and_eq_true] at c
    exact .cons (Pd.dp a c.1) (PdA.dp b c.2)
end
theorem PdA.length : ∀ {vs : List V} {ds : List Dt}, PdA K H vs ds → vs.length = ds.length
  | _, _, .nil => rfl
  | _, _, .cons _ b => congrArg (· + 1) (PdA.length b)
theorem PdA.append : ∀ {vs ws : List V} {ds es : List Dt}, PdA K H vs ds → PdA K H ws es → PdA K H (vs ++ ws) (ds ++ es)
  | _, _, _, _, .nil, b => b
  | _, _, _, _, .cons x a, b => .cons x (PdA.append a b)
theorem PdA.take : ∀ (n : Nat) {vs : List V} {ds : List Dt}, PdA K H vs ds → PdA K H (vs.take n) (ds.take n)
  | 0, _, _, _ => .nil
  | _ + 1, _, _, .nil => .nil
  | n + 1, _, _, .cons x a => .cons x (PdA.take n a)
theorem PdA.drop : ∀ (n : Nat) {vs : List V} {ds : List Dt}, PdA K H vs ds → PdA K H (vs.drop n) (ds.drop n)
  | 0, _, _, a => a
  | _ + 1, _, _, .nil => .nil
  | n + 1, _, _, .cons x a => PdA.drop n a
theorem PdA.get : ∀ {i : Nat} {vs : List V} {ds : List Dt} {d : Dt}, PdA K H vs ds → ds[i]? = some d → ∃ v, vs[i]? = some v ∧ Pd K H v d
  | _, _, _, _, .nil, e => by simp at e
  | 0, _, _, _, .cons x a, e => by simp at e; subst e; exact ⟨_, rfl, x⟩
  | i + 1, _, _, _, .cons x a, e => by
    obtain ⟨v, e1, h⟩ := PdA.get (i := i) a (by simpa using e)
    exact ⟨v, by simpa using e1, h⟩
theorem PdA.get' {i : Nat} {vs : List V} {ds : List Dt} {v : V} (h : PdA K H vs ds) (e : vs[i]? = some v) : ∃ d, ds[i]? = some d ∧ Pd K H v d := by
  obtain ⟨hi, _⟩ := List.getElem?_eq_some_iff.mp e
  rw [h.length] at hi
  obtain ⟨v', e1, q⟩ := h.get (List.getElem?_eq_getElem hi)
  rw [e] at e1; cases e1
  exact ⟨_, List.getElem?_eq_getElem hi, q⟩
theorem PdA.set (i : Nat) {v : V} {d : Dt} (q : Pd K H v d) : ∀ {i : Nat} {vs : List V} {ds : List Dt}, PdA K H vs ds → PdA K H (vs.set i v) (ds.set i d)
  | _, _, _, .nil => .nil
  | 0, _, _, .cons x a => .cons q a
  | i + 1, _, _, .cons x a => .cons x (PdA.set i q a)
theorem PdA.dropLast {vs : List V} {ds : List Dt} (h : PdA K H vs ds) : PdA K H vs.dropLast ds.dropLast := by
  rw [List.dropLast_eq_take, List.dropLast_eq_take, h.length]
  exact h.take _
theorem PdA.reverse : ∀ {vs : List V} {ds : List Dt}, PdA K H vs ds → PdA K H vs.reverse ds.reverse
  | _, _, .nil => .nil
  | _, _, .cons x a => by
    rw [List.reverse_cons, List.reverse_cons]
    exact (PdA.reverse a).append (.cons x .nil)
theorem PdA.flat : ∀ {vs : List (List V)} {ds : List (List Dt)}, Paired (PdA K H) vs ds → PdA K H vs.flatten ds.flatten
  | _, _, .nil => .nil
  | _, _, .cons x a => by
    rw [List.flatten_cons, List.flatten_cons]
    exact x.append (PdA.flat a)
theorem PdA.split : ∀ {vs : List V} {ds es : List Dt}, PdA K H vs (ds ++ es) → ∃ us ws, vs = us ++ ws ∧ PdA K H us ds ∧ PdA K H ws es
  | vs, [], es, h => ⟨[], vs, rfl, .nil, h⟩
  | _, d :: ds, es, .cons x a => by
    obtain ⟨us, ws, rfl, h1, h2⟩ := PdA.split a
    exact ⟨_ :: us, ws, rfl, .cons x h1, h2⟩
theorem Pd.intI {v : V} {i : Int} (h : Pd K H v (.int i)) : v = .int i := by cases h; rfl
theorem Pd.blI {v : V} {b : Bool} (h : Pd K H v (.bool b)) : v = .bl b := by cases h; rfl
theorem Pd.strI {v : V} {x : Str} (h : Pd K H v (.str x)) : v = .str x := by cases h; rfl
theorem Pd.nonI {v : V} (h : Pd K H v .none) : v = .non := by cases h; rfl
theorem Pd.tupQ {v : V} {ds : List Dt} (h : Pd K H v (.tuple ds)) : ∃ a xs, v = .ref a ∧ Tq K.K H a xs ∧ PdA K H xs ds := by
  cases h with
  | tup e a => exact ⟨_, _, rfl, e, a⟩
theorem Pd.tupI {v : V} {ds : List Dt} (h : Pd K H v (.tuple ds)) : ∃ a xs, v = .ref a ∧ SqT K.K H a xs ∧ PdA K H xs ds := by
  obtain ⟨a, xs, e, t, p⟩ := h.tupQ
  exact ⟨a, xs, e, t.sq, p⟩
theorem Pd.lstI {v : V} {ds : List Dt} (h : Pd K H v (.list ds)) : ∃ a o xs, v = .ref a ∧ H a = some (.frz o (.lst xs)) ∧ SqL K.K H a xs ∧ PdA K H xs ds := by
  cases h with
  | lst e a => exact ⟨_, _, _, rfl, e, .inl (.inr ⟨_, e⟩), a⟩
theorem PdA.ints : ∀ {is : List Int} {vs : List V}, PdA K H vs (is.map .int) → vs = is.map V.int
  | [], _, h => by cases h; rfl
  | i :: is, _, h => by
    cases h with
    | cons a b => rw [a.intI, PdA.ints b]; rfl
theorem PdA.bls : ∀ {is : List Bool} {vs : List V}, PdA K H vs (is.map .bool) → vs = is.map V.bl
  | [], _, h => by cases h; rfl
  | i :: is, _, h => by
    cases h with
    | cons a b => rw [a.blI, PdA.bls b]; rfl
theorem PdA.strs : ∀ {is : List Str} {vs : List V}, PdA K H vs (is.map .str) → vs = is.map V.str
  | [], _, h => by cases h; rfl
  | i :: is, _, h => by
    cases h with
    | cons a b => rw [a.strI, PdA.strs b]; rfl
theorem PdA.ofInts : ∀ (is : List Int), PdA K H (is.map V.int) (is.map .int)
  | [] => .nil
  | i :: is => .cons (.int i) (PdA.ofInts is)
theorem PdA.ofStrs : ∀ (is : List Str), PdA K H (is.map V.str) (is.map .str)
  | [] => .nil
  | i :: is => .cons (.str i) (PdA.ofStrs is)
end
/-! ### data without a list -/
mutual
def lf : Dt → Bool
  | .none => true
  | .bool _ => true
  | .int _ => true
  | .str _ => true
  | .list _ => false
  | .tuple ds => lfA ds
  | .dict _ => false
def lfA : List Dt → Bool
  | [] => true
  | d :: ds => lf d && lfA ds
end
/-- H' has all tuples of H, and what is locked but lists -/
structure PersT (H H' : Hp) : Prop where
  tup : ∀ a xs, H a = some (.tup xs) → H' a = some (.tup xs)
  frz : ∀ a o xs, H a = some (.frz o (.tup xs)) → H' a = some (.frz o (.tup xs))
mutual
theorem Pd.lfT {K : Bs} {H H' : Hp} (p : PersT H H') : ∀ {v : V} {d : Dt}, Pd K H v d → lf d = true → Pd K H' v d
  | _, _, .non, _ => .non
  | _, _, .bl _, _ => .bl _
  | _, _, .int _, _ => .int _
  | _, _, .str _, _ => .str _
  | _, _, .lst e a, c => by simp [lf] at c
  | _, _, .tup t a, c => by
    refine .tup ?_ (PdA.lfT p a (by simpa [lf] using c))
    rcases t with ⟨o, t, d⟩ | t
    · exact .inl ⟨o, p.frz _ _ _ t, d⟩
    · exact .inr t
  | _, _, .dct e a, c => by simp [lf] at c
theorem PdA.lfT {K : Bs} {H H' : Hp} (p : PersT H H') : ∀ {vs : List V} {ds : List Dt}, PdA K H vs ds → lfA ds = true → PdA K H' vs ds
  | _, _, .nil, _ => .nil
  | _, _, .cons a b, e => by
    rw [lfA, Bool.and_eq_true] at e
    exact .cons (Pd.lfT p a e.1) (PdA.lfT p b e.2)
end
/-! ### heaps that grow, but for what stands at T -/
structure Ext (T : Option Addr) (H H' : Hp) : Prop extends Pers H H' where
  keep : ∀ a o, H a = some o → some a ≠ T → H' a = some o
theorem Ext.refl {T : Option Addr} {H : Hp} : Ext T H H := ⟨Pers.refl, fun _ _ e _ => e⟩
theorem Ext.trans {T : Option Addr} {H1 H2 H3 : Hp} (a : Ext T H1 H2) (b : Ext T H2 H3) : Ext T H1 H3 := ⟨a.toPers.trans b.toPers, fun x o e n => b.keep x o (a.keep x o e n) n⟩
theorem Ext.of {H H' : Hp} (h : ∀ a o, H a = some o → H' a = some o) {T : Option Addr} : Ext T H H' := ⟨⟨fun a xs e => h a _ e, fun a o u e => h a _ e⟩, fun a o e _ => h a o e⟩
theorem Ext.any {H H' : Hp} (e : Ext none H H') {T : Option Addr} : Ext T H H' := .of fun a o q => e.keep a o q (by simp)
theorem Ext.new {H : Hp} {p : Addr} {o : HO} (n : H p = none) {T : Option Addr} : Ext T H (upd H p o) := .of fun a u e => by rw [upd_ne (ne_of_none e n)]; exact e
/-! ### locking a list, unlocking it -/
section
variable {X : Cx} {pins : List (Addr × Obj)} {σ : L2.St} {H : Hp} {s : Shared} {a : Addr}
theorem HOk.swap {P : Program} {w : World} {h : Heap} {u u' : HO} (x : HOk P w H h) (ha : H a = some u) (n1 : ∀ y, u ≠ .own y) (n2 : ∀ xs, u ≠ .tup xs) (new : ObjOk P w (upd H a u') h a u') : HOk P w (upd H a u') h := fun b o e => by
  by_cases hb : b = a
  · subst hb; rw [upd_same] at e; cases e; exact new
  · rw [upd_ne hb] at e
    refine (x b o e).stay (fun _ _ _ q => q) (fun c q => ?_) fun c xs q => ?_
    · rw [upd_ne (fun z => by subst z; rw [ha] at q; exact n1 _ (Option.some.inj q))]; exact q
    · rw [upd_ne (fun z => by subst z; rw [ha] at q; exact n2 _ (Option.some.inj q))]; exact q
theorem Inv.swap {u u' : HO} (I : Inv X pins σ H s) (ha : H a = some u) (n1 : ∀ y, u ≠ .own y) (n2 : ∀ xs, u ≠ .tup xs) (n3 : ∀ ps, u ≠ .tbl ps) (n4 : (∀ o z, u ≠ .frz o z) ∨ X.H_0 a = none) (new : ObjOk X.prog X.w (upd H a u') s.heap a u') :
    Inv X pins σ (upd H a u') s := by
  have ne : ∀ b, H b = none → b ≠ a := fun b e z => by subst z; rw [ha] at e; cases e
  refine ⟨I.ok, I.os, I.bare, ⟨I.base.keep, I.base.slot, fun b o e n hx => ?_, I.base.there, fun b xs e => ?_, fun b o z e => ?_, fun b ps e => ?_⟩, I.loc, I.cell, ?_, fun x c e => ?_, fun p hp => ?_, HOk.swap I.hok ha n1 n2 new, I.len⟩
  · have q := I.base.free b o e n hx
    rw [upd_ne (ne b q)]; exact q
  · have q := I.base.tups b xs e
    rw [upd_ne (fun z => by subst z; rw [ha] at q; exact n2 _ (Option.some.inj q))]; exact q
  · have q := I.base.frzs b o z e
    rw [upd_ne (fun z => by
      subst z
      rcases n4 with n4 | n4
      · rw [ha] at q; exact n4 _ _ (Option.some.inj q)
      · rw [n4] at e; cases e)]; exact q
  · obtain ⟨m, q⟩ := I.base.tbls b ps e
    refine ⟨m, ?_⟩
    rw [upd_ne (fun z => by subst z; rw [ha] at q; exact n3 _ (Option.some.inj q))]; exact q
  · rw [upd_ne (ne _ I.free)]; exact I.free
  · rw [upd_ne (ne _ (I.freeC x c e))]; exact I.freeC x c e
  · obtain ⟨e, n, r⟩ := I.pin p hp
    exact ⟨e, by rw [upd_ne (ne _ n)]; exact n, r⟩
/-- what may be locked -/
inductive Lk : HO → Prop
  | lst (xs : List V) : Lk (.lst xs)
  | dK (kvs : List (Key × V)) : Lk (.dK kvs)
  | ext (φ : Heap → Prop) : Lk (.ext φ)
theorem Lk.there {P : Program} {w : World} {h : Heap} {u : HO} (l : Lk u) (x : ObjOk P w H h a u) : ∃ o, h.get? a = some o := by
  cases l with
  | lst xs => obtain ⟨_, _, _, _, e⟩ := x; exact ⟨_, e⟩
  | dK kvs => obtain ⟨_, _, _, _, o, _, _, e, _⟩ := x; exact ⟨o, e⟩
  | ext φ => obtain ⟨_, e, _⟩ := x; exact e
/-- what is so of an object that may be locked does not hang on the rest -/
theorem Lk.move {P : Program} {w : World} {h : Heap} {u : HO} {H' : Hp} (l : Lk u) (x : ObjOk P w H h a u) : ObjOk P w H' h a u := by
  cases l with
  | lst xs => exact x
  | dK kvs => exact x
  | ext φ => exact x
theorem Inv.lock {u : HO} (l : Lk u) (I : Inv X pins σ H s) (ha : H a = some u) : ∃ o, Inv X pins σ (upd H a (.frz o u)) s := by
  obtain ⟨o, e⟩ := l.there (I.hok a _ ha)
  refine ⟨o, HL.Inv.swap I ha ?_ ?_ ?_ (.inl ?_) ⟨e, l.move (I.hok a _ ha)⟩⟩ <;> (cases l <;> simp)
theorem Inv.unlock {u : HO} {o : Obj} (l : Lk u) (I : Inv X pins σ H s) (ha : H a = some (.frz o u)) (h0 : X.H_0 a = none) : Inv X pins σ (upd H a u) s := by
  obtain ⟨_, q⟩ := I.hok a _ ha
  exact HL.Inv.swap I ha (by simp) (by simp) (by simp) (.inr h0) (l.move q)
end
/-- a tuple just laid -/
def tupO (us : List Value) : Obj := { cls := .type "tuple", data := .seq us.toArray }
theorem Inv.tnew {X : Cx} {pins : List (Addr × Obj)} {σ : L2.St} {H : Hp} {s : Shared} {xs : List V} {us : List Value} {t' : Nat} (I : Inv X pins σ H s) (r : Vals xs us) (z : xs.length ≤ sizeLine) :
    Inv X pins σ (upd H s.heap.objs.size (.frz (tupO us) (.tup xs))) { s with heap := s.heap.push (tupO us), toks := t' } :=
  I.laid (fun _ _ e => Heap.get?_push_of_some _ e) (Nat.le_refl _) ⟨Heap.get?_push_size _ rfl, z, us, r, ⟨_, Heap.get?_push_size _ rfl, rfl, _, rfl⟩⟩
theorem Pd.tnew {B : Bs} {H : Hp} {p : Addr} {xs : List V} {ds : List Dt} {us : List Value} (hp : H p = none) (pa : PdA B H xs ds) : Ext none H (upd H p (.frz (tupO us) (.tup xs))) ∧ Pd B (upd H p (.frz (tupO us) (.tup xs))) (.ref p) (.tuple ds) := by
  have x : Ext none H (upd H p (.frz (tupO us) (.tup xs))) := .new hp
  exact ⟨x, .tup (.inl ⟨_, upd_same, rfl⟩) (pa.pers x.toPers)⟩
/-- a weaker reading -/
theorem PE.imp {X : Cx} {e : Expr} {t t' : TE} (h : PE X e t) (i : ∀ σ H Q, t' σ H Q → t σ H Q) : PE X e t' := ⟨fun pins s σ H Q I q => h.run pins s σ H Q I (i σ H Q q)⟩
theorem PT.imp {X : Cx} {e : Expr} {t t' : TT} (h : PT X e t) (i : ∀ σ H Q, t' σ H Q → t σ H Q) : PT X e t' := ⟨fun pins s σ H Q I q => h.run pins s σ H Q I (i σ H Q q)⟩
theorem PA.imp {X : Cx} {e : List Expr} {t t' : TA} (h : PA X e t) (i : ∀ σ H Q, t' σ H Q → t σ H Q) : PA X e t' := ⟨fun pos pins s σ H Q I q => h.run pos pins s σ H Q I (i σ H Q q)⟩
theorem PS.imp {X : Cx} {e : Stmt} {t t' : TS} (h : PS X e t) (i : ∀ D σ H, t' D σ H → t D σ H) : PS X e t' := ⟨fun pins s σ H D I q => h.run pins s σ H D I (i D σ H q)⟩
theorem PSs.imp {X : Cx} {e : List Stmt} {t t' : TS} (h : PSs X e t) (i : ∀ D σ H, t' D σ H → t D σ H) : PSs X e t' := ⟨fun pins s σ H D I q => h.run pins s σ H D I (i D σ H q)⟩
theorem PI.imp {X : Cx} {tg e : Expr} {t t' : TI} (h : PI X tg e t) (i : ∀ σ H Q, t' σ H Q → t σ H Q) : PI X tg e t' := ⟨fun pins s σ H Q I q => h.run pins s σ H Q I (i σ H Q q)⟩
end HL

/-! HlB: expressions over data: readings tD (a datum that stays), tN (a new list), tB' (a test), tA' (arguments); rules. -/
namespace HL
open PySem PySem.Spec PyProof.Rows L2
abbrev DS := List (Option Dt)
abbrev Ti := List Int
abbrev Ev := DS → Ti → Option (Dt × Ti)
abbrev EvN := DS → Ti → Option (List Dt × Ti)
abbrev EvB := DS → Ti → Option (Bool × Ti)
/-- the slots hold data that stay -/
structure SD (K : Bs) (H : Hp) (σ : L2.St) (st : DS) : Prop where
  len : st.length = σ.length
  pd : ∀ (i : Nat) d, st[i]? = some (some d) → ∃ v, σ[i]? = some (some v) ∧ Pd K H v d
/-- the draws' list: where it stands, what it holds -/
def TN : Option Nat → L2.St → Hp → Option Addr → Ti → Prop
  | none, _, _, T, t => T = none ∧ t = []
  | some i, σ, H, T, t => ∃ a, T = some a ∧ σ[i]? = some (some (.ref a)) ∧ H a = some (.lst (t.map V.int))
theorem SD.pers {K : Bs} {H H' : Hp} {σ : L2.St} {st : DS} (h : SD K H σ st) (p : Pers H H') : SD K H' σ st := ⟨h.len, fun i d e => let ⟨v, e1, q⟩ := h.pd i d e; ⟨v, e1, q.pers p⟩⟩
theorem TN.ext0 {k : Option Nat} {σ : L2.St} {H H' : Hp} {T : Option Addr} {t : Ti} (h : TN k σ H T t) (e : Ext none H H') : TN k σ H' T t := by
  cases k with
  | none => exact h
  | some i =>
    obtain ⟨a, e1, e2, e3⟩ := h
    exact ⟨a, e1, e2, e.keep _ _ e3 (by simp)⟩
/-! ### readings -/
def tD (k : Option Nat) (K : Bs) (ev : Ev) : TE := fun σ H Q => ∃ st t T r, SD K H σ st ∧ TN k σ H T t ∧ ev st t = some r ∧
  ∀ v H', Ext T H H' → TN k σ H' T r.2 → Pd K H' v r.1 → Q v H'
def tN (k : Option Nat) (K : Bs) (ev : EvN) : TE := fun σ H Q => ∃ st t T r, SD K H σ st ∧ TN k σ H T t ∧ ev st t = some r ∧
  ∀ p xs H', Ext T H H' → H p = none → TN k σ H' T r.2 → H' p = some (.lst xs) → PdA K H' xs r.1 → Q (.ref p) H'
def tBo (k : Option Nat) (K : Bs) (ev : EvB) : TT := fun σ H Q => ∃ st t T r, SD K H σ st ∧ TN k σ H T t ∧ ev st t = some r ∧
  ∀ H', Ext T H H' → TN k σ H' T r.2 → Q r.1 H'
def tAr (k : Option Nat) (K : Bs) (ev : EvN) : TA := fun σ H Q => ∃ st t T r, SD K H σ st ∧ TN k σ H T t ∧ ev st t = some r ∧
  ∀ vs H', Ext T H H' → TN k σ H' T r.2 → PdA K H' vs r.1 → Q vs H'
abbrev PX (k : Option Nat) (X : Cx) (e : Expr) (ev : Ev) : Prop := PE X e (tD k (bs X) ev)
abbrev PN (k : Option Nat) (X : Cx) (e : Expr) (ev : EvN) : Prop := PE X e (tN k (bs X) ev)
abbrev BX (k : Option Nat) (X : Cx) (e : Expr) (ev : EvB) : Prop := PT X e (tBo k (bs X) ev)
abbrev AX (k : Option Nat) (X : Cx) (es : List Expr) (ev : EvN) : Prop := PA X es (tAr k (bs X) ev)
section
variable {X : Cx} {k : Option Nat} {a b c e : Expr} {es : List Expr} {pos p : Pos} {x : Str}
/-! ### slots, constants -/
def xV (i : Nat) : Ev := fun st t => (st[i]?).bind fun o => o.map fun d => (d, t)
def xC (d : Dt) : Ev := fun _ t => some (d, t)
theorem xV_some {i : Nat} {st : DS} {t : Ti} {r : Dt × Ti} (h : xV i st t = some r) : st[i]? = some (some r.1) ∧ r.2 = t := by
  unfold xV at h
  cases e : st[i]? with
  | none => rw [e] at h; cases h
  | some o =>
    rw [e] at h
    cases o with
    | none => cases h
    | some d => cases h; exact ⟨rfl, rfl⟩
theorem px_v (i : Nat) (hN : X.N[i]? = some x := by rfl) (hv : Vis X.env.scope x := by first | exact Or.inl rfl | exact Or.inr (Or.inl rfl) | exact Or.inr (Or.inr rfl)) (hd : (x == ("__debug__" : Str)) = false := by decide)
    (hcd : (x == ("__classdict__" : Str)) = false := by decide) : PX k X (.Name x pos) (xV i) := PE.imp (pe_var hN hv hd hcd) fun σ H Q ⟨st, t, T, r, sd, tn, e, q⟩ => by
  obtain ⟨e1, e2⟩ := xV_some e
  obtain ⟨v, e3, pd⟩ := sd.pd i _ e1
  exact ⟨v, e3, q v H .refl (e2 ▸ tn) pd⟩
theorem px_c {v : V} {d : Dt} (h : PE X e (tC v)) (hp : ∀ H, Pd (bs X) H v d) : PX k X e (xC d) := PE.imp h fun σ H Q ⟨st, t, T, r, sd, tn, e, q⟩ => by
  cases e
  exact q v H .refl tn (hp H)
theorem px_int {i j} : PX k X (.Constant (.int i) j pos) (xC (.int i)) := px_c pe_int fun _ => .int i
theorem px_bl {i j} : PX k X (.Constant (.bool i) j pos) (xC (.bool i)) := px_c pe_bl fun _ => .bl i
theorem px_non {j} : PX k X (.Constant .none j pos) (xC .none) := px_c pe_non fun _ => .non
theorem px_str {i j} : PX k X (.Constant (.str i) j pos) (xC (.str i)) := px_c pe_str fun _ => .str i
/-- a name of the module that holds a datum -/
structure GD (K : Bs) (mg : Str → Option Value) (x : Str) (d : Dt) : Prop where
  ex : ∃ u v, mg x = some u ∧ RelV v u ∧ ∀ H, Pd K H v d
theorem px_g {d : Dt} (g : GD (bs X) X.mg x d) (hg : Gl X x := by rfl) (hd : (x == ("__debug__" : Str)) = false := by decide) : PX k X (.Name x pos) (xC d) := by
  obtain ⟨u, v, hm, r, hp⟩ := g.ex
  exact px_c (pe_glob hg hm r hd) hp
/-! ### a new list is locked -/
theorem px_n {ev : EvN} (h : PN k X e ev) : PX k X e (fun st t => (ev st t).map fun r => (.list r.1, r.2)) := ⟨fun pins s σ H Q I ⟨st, t, T, r, sd, tn, e, q⟩ => by
  obtain ⟨r', e', er⟩ := Option.map_eq_some_iff.mp e
  subst er
  refine thn (h.run pins s σ H (fun v H' => ∃ p xs, v = .ref p ∧ H p = none ∧ H' p = some (.lst xs) ∧ Ext T H H' ∧ TN k σ H' T r'.2 ∧ PdA (bs X) H' xs r'.1) I ⟨st, t, T, r', sd, tn, e', fun p xs H' x n tn' hp pa => ⟨p, xs, rfl, n, hp, x, tn', pa⟩⟩) ?_
  rintro u s1 ⟨v, H1, I1, rv, p, xs, rfl, n, hp, x, tn', pa⟩
  obtain ⟨o, I2⟩ := Inv.lock (.lst _) I1 hp
  have pr : Pers H1 (upd H1 p (.frz o (.lst xs))) := ⟨fun a ys z => by rw [upd_ne (ne_of z hp (by simp))]; exact z, fun a o' u z => by rw [upd_ne (ne_of z hp (by simp))]; exact z⟩
  refine ⟨.ref p, _, I2, rv, q _ _ ⟨x.toPers.trans pr, fun a o' z hT => ?_⟩ ?_ (.lst upd_same (pa.pers pr))⟩
  · rw [upd_ne (ne_of_none z n)]
    exact x.keep a o' z hT
  · cases k with
    | none => exact tn'
    | some i =>
      obtain ⟨a, e1, e2, e3⟩ := tn'
      obtain ⟨a', e1', e2', e3'⟩ := tn
      rw [e1] at e1'; cases e1'
      exact ⟨a, e1, e2, by rw [upd_ne (ne_of_none e3' n)]; exact e3⟩⟩
/-! ### operators -/
def OpD (X : Cx) (g : Value → Value → Sem Value) (f : Dt → Dt → Option Dt) : Prop :=
  OpR X g fun x y H Q => ∃ d e r, Pd (bs X) H x d ∧ Pd (bs X) H y e ∧ f d e = some r ∧ ∀ v H', Ext none H H' → Pd (bs X) H' v r → Q v H'
def UnD (X : Cx) (g : Value → Sem Value) (f : Dt → Option Dt) : Prop :=
  UnR X g fun x H Q => ∃ d r, Pd (bs X) H x d ∧ f d = some r ∧ ∀ v H', Ext none H H' → Pd (bs X) H' v r → Q v H'
def x1 (f : Dt → Option Dt) (ea : Ev) : Ev := fun st t => (ea st t).bind fun a => (f a.1).map fun r => (r, a.2)
def x2 (f : Dt → Dt → Option Dt) (ea eb : Ev) : Ev := fun st t => (ea st t).bind fun a => (eb st a.2).bind fun b => (f a.1 b.1).map fun r => (r, b.2)
theorem t2 {K : Bs} {σ : L2.St} {H : Hp} {f : Dt → Dt → Option Dt} {ea eb : Ev} {Q : VK} (h : tD k K (x2 f ea eb) σ H Q) :
    tD k K ea σ H fun x H1 => tD k K eb σ H1 fun y H2 => ∃ d e r, Pd K H2 x d ∧ Pd K H2 y e ∧ f d e = some r ∧ ∀ v H', Ext none H2 H' → Pd K H' v r → Q v H' := by
  obtain ⟨st, t, T, r, sd, tn, e, q⟩ := h
  obtain ⟨a, e1, e⟩ := Option.bind_eq_some_iff.mp e
  obtain ⟨b, e2, e⟩ := Option.bind_eq_some_iff.mp e
  obtain ⟨r', e3, e⟩ := Option.map_eq_some_iff.mp e
  subst e
  exact ⟨st, t, T, a, sd, tn, e1, fun v H1 x1 n1 p1 => ⟨st, a.2, T, b, sd.pers x1.toPers, n1, e2, fun w H2 x2 n2 p2 => ⟨a.1, b.1, r', p1.pers x2.toPers, p2, e3, fun z H3 x3 p3 => q z H3 (x1.trans (x2.trans x3.any)) (n2.ext0 x3) p3⟩⟩⟩
theorem t1 {K : Bs} {σ : L2.St} {H : Hp} {f : Dt → Option Dt} {ea : Ev} {Q : VK} (h : tD k K (x1 f ea) σ H Q) :
    tD k K ea σ H fun x H1 => ∃ d r, Pd K H1 x d ∧ f d = some r ∧ ∀ v H', Ext none H1 H' → Pd K H' v r → Q v H' := by
  obtain ⟨st, t, T, r, sd, tn, e, q⟩ := h
  obtain ⟨a, e1, e⟩ := Option.bind_eq_some_iff.mp e
  obtain ⟨r', e3, e⟩ := Option.map_eq_some_iff.mp e
  subst e
  exact ⟨st, t, T, a, sd, tn, e1, fun v H1 x1 n1 p1 => ⟨a.1, r', p1, e3, fun z H3 x3 p3 => q z H3 (x1.trans x3.any) (n1.ext0 x3) p3⟩⟩
variable {ea eb ec : Ev}
theorem px_op {op : Operator} {f : Dt → Dt → Option Dt} (ho : OpD X (binaryOp op) f) (ha : PX k X a ea) (hb : PX k X b eb) : PX k X (.BinOp a op b pos) (x2 f ea eb) :=
  PE.imp (pe_op ho ha hb) fun _ _ _ h => t2 h
theorem px_un {op : UnaryOp} {f : Dt → Option Dt} (ho : UnD X (unaryOp op) f) (ha : PX k X a ea) : PX k X (.UnaryOp op a pos) (x1 f ea) :=
  PE.imp (pe_un ho ha) fun _ _ _ h => t1 h
theorem px_cmp {op : CmpOp} {f : Dt → Dt → Option Dt} (ho : OpD X (compareOp op) f) (ha : PX k X a ea) (hb : PX k X b eb) (hm : behindInMarks op b = false := by first | exact nomark _ | rfl) : PX k X (.Compare a [op] [b] pos) (x2 f ea eb) :=
  PE.imp (pe_cmpR ho ha hb hm) fun _ _ _ h => t2 h
/-- a chain -/
def xCh (f g : Dt → Dt → Option Dt) (ea eb ec : Ev) : Ev := fun st t => (ea st t).bind fun a => (eb st a.2).bind fun b => (f a.1 b.1).bind fun r => match r with
  | .bool true => (ec st b.2).bind fun c => (g b.1 c.1).map fun r => (r, c.2)
  | .bool false => some (.bool false, b.2)
  | _ => none
theorem tCh {K : Bs} {σ : L2.St} {H : Hp} {f g : Dt → Dt → Option Dt} {Q : VK} (h : tD k K (xCh f g ea eb ec) σ H Q) :
    tChain (fun x y H Q => ∃ d e r, Pd K H x d ∧ Pd K H y e ∧ f d e = some r ∧ ∀ v H', Ext none H H' → Pd K H' v r → Q v H') (fun x y H Q => ∃ d e r, Pd K H x d ∧ Pd K H y e ∧ g d e = some r ∧ ∀ v H', Ext none H H' → Pd K H' v r → Q v H')
      (tD k K ea) (tD k K eb) (tD k K ec) σ H Q := by
  obtain ⟨st, t, T, r, sd, tn, e, q⟩ := h
  obtain ⟨a, e1, e⟩ := Option.bind_eq_some_iff.mp e
  obtain ⟨b, e2, e⟩ := Option.bind_eq_some_iff.mp e
  obtain ⟨r', e3, e⟩ := Option.bind_eq_some_iff.mp e
  refine ⟨st, t, T, a, sd, tn, e1, fun v H1 x1 n1 p1 => ⟨st, a.2, T, b, sd.pers x1.toPers, n1, e2, fun w H2 x2 n2 p2 => ⟨a.1, b.1, r', p1.pers x2.toPers, p2, e3, fun z H3 x3 p3 => ?_⟩⟩⟩
  cases r' with
  | bool c =>
    cases c with
    | true =>
      obtain ⟨c, e4, e⟩ := Option.bind_eq_some_iff.mp e
      obtain ⟨r2, e5, e⟩ := Option.map_eq_some_iff.mp e
      subst e
      refine ⟨true, p3.blI, ?_⟩
      rw [if_pos rfl]
      exact ⟨st, b.2, T, c, (sd.pers x1.toPers).pers (x2.toPers.trans x3.toPers), n2.ext0 x3, e4, fun z2 H4 x4 n4 p4 => ⟨b.1, c.1, r2, (p2.pers x3.toPers).pers x4.toPers, p4, e5, fun z3 H5 x5 p5 => q z3 H5 (x1.trans (x2.trans (x3.any.trans (x4.trans x5.any)))) (n4.ext0 x5) p5⟩⟩
    | false =>
      cases e
      refine ⟨false, p3.blI, ?_⟩
      rw [if_neg (by simp)]
      exact q _ _ (x1.trans (x2.trans x3.any)) (n2.ext0 x3) (.bl false)
  | _ => cases e
theorem px_ch {op op' : CmpOp} {f g : Dt → Dt → Option Dt} (ho : OpD X (compareOp op) f) (ho' : OpD X (compareOp op') g) (ha : PX k X a ea) (hb : PX k X b eb) (hc : PX k X c ec) (hm : lastMarks [op, op'] [b, c] = false := by with_unfolding_all rfl) :
    PX k X (.Compare a [op, op'] [b, c] pos) (xCh f g ea eb ec) := PE.imp (pe_chain ho ho' ha hb hc hm) fun _ _ _ h => tCh h
/-! ### tests -/
def bV (ea : Ev) : EvB := fun st t => (ea st t).bind fun a => match a.1 with
  | .bool b => some (b, a.2)
  | _ => none
theorem tbV {K : Bs} {σ : L2.St} {H : Hp} {Q : Bool → Hp → Prop} (h : tBo k K (bV ea) σ H Q) : tD k K ea σ H fun x H1 => ∃ c, x = .bl c ∧ Q c H1 := by
  obtain ⟨st, t, T, r, sd, tn, e, q⟩ := h
  obtain ⟨a, e1, e⟩ := Option.bind_eq_some_iff.mp e
  obtain ⟨d, t'⟩ := a
  refine ⟨st, t, T, _, sd, tn, e1, fun v H1 x1 n1 p1 => ?_⟩
  cases d with
  | bool b => cases e; exact ⟨b, p1.blI, q H1 x1 n1⟩
  | _ => cases e
/-- a test that is a value (a call, a name ..) -/
theorem b_v (h : PX k X e ea) (he : ∀ whole, isTrue e X.env whole = (do let v ← whole; standAt e.pos; holding [v] (truthy v)) := by intro _; rfl) : BX k X e (bV ea) := PT.imp (pt_val h he) fun _ _ _ h => tbV h
theorem b_cmp {op : CmpOp} {f : Dt → Dt → Option Dt} (ho : OpD X (compareOp op) f) (ha : PX k X a ea) (hb : PX k X b eb) (hm : behindInMarks op b = false := by first | exact nomark _ | rfl) : BX k X (.Compare a [op] [b] pos) (bV (x2 f ea eb)) :=
  PT.imp (pt_cmpR ho ha hb hm) fun _ _ _ h => t2 (tbV h)
theorem b_ch {op op' : CmpOp} {f g : Dt → Dt → Option Dt} (ho : OpD X (compareOp op) f) (ho' : OpD X (compareOp op') g) (ha : PX k X a ea) (hb : PX k X b eb) (hc : PX k X c ec) (hm : lastMarks [op, op'] [b, c] = false := by with_unfolding_all rfl) :
    BX k X (.Compare a [op, op'] [b, c] pos) (bV (xCh f g ea eb ec)) := PT.imp (pt_chain ho ho' ha hb hc hm) fun _ _ _ h => tCh (tbV h)
variable {ba bb bc : EvB}
def bAnd (ea eb : EvB) : EvB := fun st t => (ea st t).bind fun a => if a.1 = true then eb st a.2 else some (false, a.2)
def bOr (ea eb : EvB) : EvB := fun st t => (ea st t).bind fun a => if a.1 = true then some (true, a.2) else eb st a.2
def bNot (ea : EvB) : EvB := fun st t => (ea st t).map fun a => (!a.1, a.2)
theorem b_not (ha : BX k X a ba) : BX k X (.UnaryOp .Not a pos) (bNot ba) := PT.imp (pt_not ha) fun σ H Q ⟨st, t, T, r, sd, tn, e, q⟩ => by
  obtain ⟨a, e1, e⟩ := Option.map_eq_some_iff.mp e
  subst e
  exact ⟨st, t, T, a, sd, tn, e1, q⟩
abbrev WX (k : Option Nat) (X : Cx) (e : Expr) (ev : EvB) : Prop := PW X e (tBo k (bs X) ev)
theorem PW.imp {t t' : TT} (h : PW X e t) (i : ∀ σ H Q, t' σ H Q → t σ H Q) : PW X e t' := ⟨fun w pins s σ H Q I q => h.run w pins s σ H Q I (i σ H Q q)⟩
theorem w_and1 (ha : BX k X a ba) : WX k X (.BoolOp .And [a] pos) ba := pw_and1 ha
theorem w_or1 (ha : BX k X a ba) : WX k X (.BoolOp .Or [a] pos) ba := pw_or1 ha
theorem tAnd' {K : Bs} {σ : L2.St} {H : Hp} {Q : Bool → Hp → Prop} (h : tBo k K (bAnd ba bb) σ H Q) : tAnd (tBo k K ba) (tBo k K bb) σ H Q := by
  obtain ⟨st, t, T, r, sd, tn, e, q⟩ := h
  obtain ⟨a, e1, e⟩ := Option.bind_eq_some_iff.mp e
  refine ⟨st, t, T, a, sd, tn, e1, fun H1 x1 n1 => ?_⟩
  by_cases h : a.1 = true
  · rw [if_pos h] at e ⊢
    exact ⟨st, a.2, T, r, sd.pers x1.toPers, n1, e, fun H2 x2 n2 => q H2 (x1.trans x2) n2⟩
  · rw [if_neg h] at e ⊢
    cases e
    exact q H1 x1 n1
theorem tOr' {K : Bs} {σ : L2.St} {H : Hp} {Q : Bool → Hp → Prop} (h : tBo k K (bOr ba bb) σ H Q) : tOr (tBo k K ba) (tBo k K bb) σ H Q := by
  obtain ⟨st, t, T, r, sd, tn, e, q⟩ := h
  obtain ⟨a, e1, e⟩ := Option.bind_eq_some_iff.mp e
  refine ⟨st, t, T, a, sd, tn, e1, fun H1 x1 n1 => ?_⟩
  by_cases h : a.1 = true
  · rw [if_pos h] at e ⊢
    cases e
    exact q H1 x1 n1
  · rw [if_neg h] at e ⊢
    exact ⟨st, a.2, T, r, sd.pers x1.toPers, n1, e, fun H2 x2 n2 => q H2 (x1.trans x2) n2⟩
theorem w_and {rest : List Expr} (ha : BX k X a ba) (hb : WX k X (.BoolOp .And (b :: rest) pos) bb) : WX k X (.BoolOp .And (a :: b :: rest) pos) (bAnd ba bb) := HL.PW.imp (pw_and ha hb) fun _ _ _ h => tAnd' h
theorem w_or {rest : List Expr} (ha : BX k X a ba) (hb : WX k X (.BoolOp .Or (b :: rest) pos) bb) : WX k X (.BoolOp .Or (a :: b :: rest) pos) (bOr ba bb) := HL.PW.imp (pw_or ha hb) fun _ _ _ h => tOr' h
theorem b_w (h : WX k X e ba) : BX k X e ba := h.pt
/-- and, or, not as values -/
def xAnd (ea eb : Ev) : Ev := fun st t => (bV ea st t).bind fun a => if a.1 = true then eb st a.2 else some (.bool false, a.2)
def xOr (ea eb : Ev) : Ev := fun st t => (bV ea st t).bind fun a => if a.1 = true then some (.bool true, a.2) else eb st a.2
def xNot (ea : Ev) : Ev := fun st t => (bV ea st t).map fun a => (.bool !a.1, a.2)
theorem bV_some {st : DS} {t : Ti} {r : Bool × Ti} (h : bV ea st t = some r) : ea st t = some (.bool r.1, r.2) := by
  obtain ⟨a, e1, e⟩ := Option.bind_eq_some_iff.mp h
  obtain ⟨d, t'⟩ := a
  cases d with
  | bool b => cases e; exact e1
  | _ => cases e
theorem px_1 {op} (h : PX k X a ea) : PX k X (.BoolOp op [a] pos) ea := pe_one h
theorem px_and {rest : List Expr} (ha : PX k X a ea) (hb : PX k X (.BoolOp .And (b :: rest) pos) eb) : PX k X (.BoolOp .And (a :: b :: rest) pos) (xAnd ea eb) := PE.imp (pe_and ha hb) fun σ H Q ⟨st, t, T, r, sd, tn, e, q⟩ => by
  obtain ⟨a, e1, e⟩ := Option.bind_eq_some_iff.mp e
  refine ⟨st, t, T, _, sd, tn, bV_some e1, fun v H1 x1 n1 p1 => ⟨a.1, p1.blI, ?_⟩⟩
  by_cases h : a.1 = true
  · rw [if_pos h] at e ⊢
    exact ⟨st, a.2, T, r, sd.pers x1.toPers, n1, e, fun v H2 x2 n2 => q v H2 (x1.trans x2) n2⟩
  · rw [if_neg h] at e ⊢
    cases e
    exact q _ H1 x1 n1 (.bl false)
theorem px_or {rest : List Expr} (ha : PX k X a ea) (hb : PX k X (.BoolOp .Or (b :: rest) pos) eb) : PX k X (.BoolOp .Or (a :: b :: rest) pos) (xOr ea eb) := PE.imp (pe_or ha hb) fun σ H Q ⟨st, t, T, r, sd, tn, e, q⟩ => by
  obtain ⟨a, e1, e⟩ := Option.bind_eq_some_iff.mp e
  refine ⟨st, t, T, _, sd, tn, bV_some e1, fun v H1 x1 n1 p1 => ⟨a.1, p1.blI, ?_⟩⟩
  by_cases h : a.1 = true
  · rw [if_pos h] at e ⊢
    cases e
    exact q _ H1 x1 n1 (.bl true)
  · rw [if_neg h] at e ⊢
    exact ⟨st, a.2, T, r, sd.pers x1.toPers, n1, e, fun v H2 x2 n2 => q v H2 (x1.trans x2) n2⟩
theorem px_not (ha : PX k X a ea) : PX k X (.UnaryOp .Not a pos) (xNot ea) := PE.imp (pe_not ha) fun σ H Q ⟨st, t, T, r, sd, tn, e, q⟩ => by
  obtain ⟨a, e1, e⟩ := Option.map_eq_some_iff.mp e
  subst e
  exact ⟨st, t, T, _, sd, tn, bV_some e1, fun v H1 x1 n1 p1 => ⟨a.1, p1.blI, q _ H1 x1 n1 (.bl _)⟩⟩
def xIf (ec : EvB) (ea eb : Ev) : Ev := fun st t => (ec st t).bind fun c => if c.1 = true then ea st c.2 else eb st c.2
theorem px_if (hc : BX k X c bc) (ha : PX k X a ea) (hb : PX k X b eb) : PX k X (.IfExp c a b pos) (xIf bc ea eb) := PE.imp (pe_ifExp hc ha hb) fun σ H Q ⟨st, t, T, r, sd, tn, e, q⟩ => by
  obtain ⟨c, e1, e⟩ := Option.bind_eq_some_iff.mp e
  refine ⟨st, t, T, _, sd, tn, e1, fun H1 x1 n1 => ?_⟩
  by_cases h : c.1 = true
  · rw [if_pos h] at e ⊢
    exact ⟨st, c.2, T, r, sd.pers x1.toPers, n1, e, fun v H2 x2 n2 => q v H2 (x1.trans x2) n2⟩
  · rw [if_neg h] at e ⊢
    exact ⟨st, c.2, T, r, sd.pers x1.toPers, n1, e, fun v H2 x2 n2 => q v H2 (x1.trans x2) n2⟩
/-! ### arguments, displays -/
def aNil : EvN := fun _ t => some ([], t)
def aCons (ea : Ev) (er : EvN) : EvN := fun st t => (ea st t).bind fun a => (er st a.2).map fun r => (a.1 :: r.1, r.2)
theorem ax_nil : AX k X [] aNil := PA.imp pa_nil fun σ H Q ⟨st, t, T, r, sd, tn, e, q⟩ => by
  cases e
  exact q [] H .refl tn .nil
theorem ax_cons {er : EvN} (ha : PX k X e ea) (hr : AX k X es er) (hs : starEach (e :: es) X.env = (false, eval e X.env) :: starEach es X.env := by rfl) : AX k X (e :: es) (aCons ea er) := PA.imp (pa_cons ha hr hs) fun σ H Q ⟨st, t, T, r, sd, tn, e, q⟩ => by
  obtain ⟨a, e1, e⟩ := Option.bind_eq_some_iff.mp e
  obtain ⟨b, e2, e⟩ := Option.map_eq_some_iff.mp e
  subst e
  exact ⟨st, t, T, a, sd, tn, e1, fun v H1 x1 n1 p1 => ⟨st, a.2, T, b, sd.pers x1.toPers, n1, e2, fun vs H2 x2 n2 p2 => q _ H2 (x1.trans x2) n2 (.cons (p1.pers x2.toPers) p2)⟩⟩
def szOk (n : Nat) : Bool := decide (n ≤ 16777216)
theorem szOk_line {n : Nat} (h : szOk n = true) : n ≤ sizeLine := by rw [sizeLine_eq]; exact of_decide_eq_true h
def xTup (ev : EvN) : Ev := fun st t => (ev st t).bind fun r => if szOk r.1.length = true then some (.tuple r.1, r.2) else none
def nLst (ev : EvN) : EvN := fun st t => (ev st t).bind fun r => if szOk r.1.length = true then some r else none
theorem px_tup {er : EvN} {q} (h : AX k X es er) : PX k X (.Tuple es q pos) (xTup er) := ⟨fun pins s σ H Q I ⟨st, t, T, r, sd, tn, e, q⟩ => by
  obtain ⟨a, e1, e⟩ := Option.bind_eq_some_iff.mp e
  by_cases hz : szOk a.1.length = true
  · rw [if_pos hz] at e
    have er := Option.some.inj e
    subst er
    refine wpAny_Tuple_spliced (thn (h.run pos pins s σ H (fun vs H1 => Ext T H H1 ∧ TN k σ H1 T a.2 ∧ PdA (bs X) H1 vs a.1) I ⟨st, t, T, a, sd, tn, e1, fun vs H1 x1 n1 p1 => ⟨x1, n1, p1⟩⟩) fun us s1 ⟨xs, H1, I1, r, x1, n1, p1⟩ => ?_)
    have hl : xs.length ≤ sizeLine := by rw [p1.length]; exact szOk_line hz
    obtain ⟨x2, pd⟩ := Pd.tnew (us := us) I1.fresh p1
    exact ⟨by rw [← r.length]; exact hl, .ref s1.heap.objs.size, _, Inv.tnew I1 r hl, rfl, q _ _ (x1.trans x2.any) (n1.ext0 x2) pd⟩
  · rw [if_neg hz] at e; cases e⟩
/-- what is new behind is new ahead -/
theorem new_back {H H1 : Hp} {σ : L2.St} {T : Option Addr} {t : Ti} {p : Addr} (x1 : Ext T H H1) (n1 : TN k σ H1 T t) (hp : H1 p = none) : H p = none := by
  cases z : H p with
  | none => rfl
  | some o =>
    by_cases hT : some p = T
    · cases k with
      | none => rw [n1.1] at hT; cases hT
      | some i =>
        obtain ⟨a', e1', e2', e3'⟩ := n1
        rw [e1'] at hT; cases hT
        rw [hp] at e3'; cases e3'
    · have := x1.keep p o z hT
      rw [hp] at this; cases this
theorem pn_lst {er : EvN} (h : AX k X es er) : PN k X (.List es pos) (nLst er) := PE.imp (pe_lst h) fun σ H Q ⟨st, t, T, r, sd, tn, e, q⟩ => by
  obtain ⟨a, e1, e⟩ := Option.bind_eq_some_iff.mp e
  by_cases hz : szOk a.1.length = true
  · rw [if_pos hz] at e
    have ea := Option.some.inj e
    subst ea
    refine ⟨st, t, T, a, sd, tn, e1, fun vs H1 x1 n1 p1 => ⟨by rw [p1.length]; exact szOk_line hz, fun p hp => ?_⟩⟩
    have x2 : Ext none H1 (upd H1 p (.lst vs)) := .new hp
    exact q _ _ _ (x1.trans x2.any) (new_back x1 n1 hp) (n1.ext0 x2) upd_same (p1.pers x2.toPers)
  · rw [if_neg hz] at e; cases e
/-! ### calls of built-ins by data -/
def CallD (X : Cx) (f : Value) (m : List Dt → Option Dt) : Prop :=
  CallR X f fun vs H Q => ∃ ds r, PdA (bs X) H vs ds ∧ m ds = some r ∧ ∀ v H', Ext none H H' → Pd (bs X) H' v r → Q v H'
/-- .. that give a new list -/
def CallN (X : Cx) (f : Value) (m : List Dt → Option (List Dt)) : Prop :=
  CallR X f fun vs H Q => ∃ ds r, PdA (bs X) H vs ds ∧ m ds = some r ∧ ∀ p xs H', Ext none H H' → H p = none → H' p = some (.lst xs) → PdA (bs X) H' xs r → Q (.ref p) H'
def xCall (m : List Dt → Option Dt) (ev : EvN) : Ev := fun st t => (ev st t).bind fun a => (m a.1).map fun r => (r, a.2)
def nCall (m : List Dt → Option (List Dt)) (ev : EvN) : EvN := fun st t => (ev st t).bind fun a => (m a.1).map fun r => (r, a.2)
theorem tCallD {K : Bs} {σ : L2.St} {H : Hp} {m : List Dt → Option Dt} {ev : EvN} {Q : VK} (h : tD k K (xCall m ev) σ H Q) :
    tAr k K ev σ H fun vs H1 => ∃ ds r, PdA K H1 vs ds ∧ m ds = some r ∧ ∀ v H', Ext none H1 H' → Pd K H' v r → Q v H' := by
  obtain ⟨st, t, T, r, sd, tn, e, q⟩ := h
  obtain ⟨a, e1, e⟩ := Option.bind_eq_some_iff.mp e
  obtain ⟨r', e3, e⟩ := Option.map_eq_some_iff.mp e
  subst e
  exact ⟨st, t, T, a, sd, tn, e1, fun v H1 x1 n1 p1 => ⟨a.1, r', p1, e3, fun z H3 x3 p3 => q z H3 (x1.trans x3.any) (n1.ext0 x3) p3⟩⟩
theorem tCallN {K : Bs} {σ : L2.St} {H : Hp} {m : List Dt → Option (List Dt)} {ev : EvN} {Q : VK} (h : tN k K (nCall m ev) σ H Q) :
    tAr k K ev σ H fun vs H1 => ∃ ds r, PdA K H1 vs ds ∧ m ds = some r ∧ ∀ p xs H', Ext none H1 H' → H1 p = none → H' p = some (.lst xs) → PdA K H' xs r → Q (.ref p) H' := by
  obtain ⟨st, t, T, r, sd, tn, e, q⟩ := h
  obtain ⟨a, e1, e⟩ := Option.bind_eq_some_iff.mp e
  obtain ⟨r', e3, e⟩ := Option.map_eq_some_iff.mp e
  subst e
  exact ⟨st, t, T, a, sd, tn, e1, fun v H1 x1 n1 p1 => ⟨a.1, r', p1, e3, fun p xs H3 x3 hp h3 p3 => q p xs H3 (x1.trans x3.any) (new_back x1 n1 hp) (n1.ext0 x3) h3 p3⟩⟩
section
variable {id : String} {ev : EvN}
theorem px_b {m : List Dt → Option Dt} (hc : CallD X (.builtin id) m) (ha : AX k X (e :: es) ev) (hm : X.mg x = none) (hg : Gl X x := by rfl) (hv : bootBuiltins x = some (.builtin id) := by decide +kernel) (hn : x ≠ "__name__" := by decide) (hdb : (x == ("__debug__" : Str)) = false := by decide)
    (he : starEach (e :: es) X.env = (false, eval e X.env) :: starEach es X.env := by rfl) (hpl : (backTo pos (starEach es X.env)).any (·.1) = false := by rfl) : PX k X (.Call (.Name x p) (e :: es) [] pos) (xCall m ev) :=
  PE.imp (pe_callB hc hg hm hv ha hn hdb he hpl) fun _ _ _ h => tCallD h
theorem pn_b {m : List Dt → Option (List Dt)} (hc : CallN X (.builtin id) m) (ha : AX k X (e :: es) ev) (hm : X.mg x = none) (hg : Gl X x := by rfl) (hv : bootBuiltins x = some (.builtin id) := by decide +kernel) (hn : x ≠ "__name__" := by decide) (hdb : (x == ("__debug__" : Str)) = false := by decide)
    (he : starEach (e :: es) X.env = (false, eval e X.env) :: starEach es X.env := by rfl) (hpl : (backTo pos (starEach es X.env)).any (·.1) = false := by rfl) : PN k X (.Call (.Name x p) (e :: es) [] pos) (nCall m ev) :=
  PE.imp (pe_callB hc hg hm hv ha hn hdb he hpl) fun _ _ _ h => tCallN h
theorem px_ty {m : List Dt → Option Dt} (hc : CallD X (.type id) m) (ha : AX k X (e :: es) ev) (hm : X.mg x = none) (hg : Gl X x := by rfl) (hv : bootBuiltins x = some (.type id) := by decide +kernel) (hn : x ≠ "__name__" := by decide) (hdb : (x == ("__debug__" : Str)) = false := by decide)
    (he : starEach (e :: es) X.env = (false, eval e X.env) :: starEach es X.env := by rfl) (hpl : (backTo pos (starEach es X.env)).any (·.1) = false := by rfl) : PX k X (.Call (.Name x p) (e :: es) [] pos) (xCall m ev) :=
  PE.imp (pe_callTy hc hg hm hv ha hn hdb he hpl) fun _ _ _ h => tCallD h
theorem pn_ty {m : List Dt → Option (List Dt)} (hc : CallN X (.type id) m) (ha : AX k X (e :: es) ev) (hm : X.mg x = none) (hg : Gl X x := by rfl) (hv : bootBuiltins x = some (.type id) := by decide +kernel) (hn : x ≠ "__name__" := by decide) (hdb : (x == ("__debug__" : Str)) = false := by decide)
    (he : starEach (e :: es) X.env = (false, eval e X.env) :: starEach es X.env := by rfl) (hpl : (backTo pos (starEach es X.env)).any (·.1) = false := by rfl) : PN k X (.Call (.Name x p) (e :: es) [] pos) (nCall m ev) :=
  PE.imp (pe_callTy hc hg hm hv ha hn hdb he hpl) fun _ _ _ h => tCallN h
/-! ### calls of defs -/
/-- a def's promise by data -/
def spP (K : Bs) (n : Nat) (m : List Dt → Option Dt) : Sp := fun vs H Q _ => vs.length = n ∧ ∃ ds r, PdA K H vs ds ∧ m ds = some r ∧ ∀ v H', Ext none H H' → Pd K H' v r → Q v H'
/-- .. that gives a new list -/
def spN (K : Bs) (n : Nat) (m : List Dt → Option (List Dt)) : Sp := fun vs H Q _ => vs.length = n ∧ ∃ ds r, PdA K H vs ds ∧ m ds = some r ∧ ∀ p xs H', Ext none H H' → H p = none → H' p = some (.lst xs) → PdA K H' xs r → Q (.ref p) H'
/-- .. whose first argument is the draws' list -/
def spT (K : Bs) (n : Nat) (m : List Dt → Ti → Option (Dt × Ti)) : Sp := fun vs H Q _ => vs.length = n + 1 ∧ ∃ T ws ds t r, vs = .ref T :: ws ∧ H T = some (.lst (t.map V.int)) ∧ PdA K H ws ds ∧ m ds t = some r ∧
  ∀ v H', Ext (some T) H H' → H' T = some (.lst (r.2.map V.int)) → Pd K H' v r.1 → Q v H'
def spTN (K : Bs) (n : Nat) (m : List Dt → Ti → Option (List Dt × Ti)) : Sp := fun vs H Q _ => vs.length = n + 1 ∧ ∃ T ws ds t r, vs = .ref T :: ws ∧ H T = some (.lst (t.map V.int)) ∧ PdA K H ws ds ∧ m ds t = some r ∧
  ∀ p xs H', Ext (some T) H H' → H' T = some (.lst (r.2.map V.int)) → H p = none → H' p = some (.lst xs) → PdA K H' xs r.1 → Q (.ref p) H'
abbrev CP (P : Program) (w : World) (K : PySem.W.Frag) (mg : Str → Option Value) (base : Heap) (j : Nat) (x : Str) (n : Nat) (m : List Dt → Option Dt) : Prop := C8.Cal P w K mg base j x (spP ⟨P, w, K⟩ n m) []
abbrev CN (P : Program) (w : World) (K : PySem.W.Frag) (mg : Str → Option Value) (base : Heap) (j : Nat) (x : Str) (n : Nat) (m : List Dt → Option (List Dt)) : Prop := C8.Cal P w K mg base j x (spN ⟨P, w, K⟩ n m) []
abbrev CT (P : Program) (w : World) (K : PySem.W.Frag) (mg : Str → Option Value) (base : Heap) (j : Nat) (x : Str) (n : Nat) (m : List Dt → Ti → Option (Dt × Ti)) : Prop := C8.Cal P w K mg base j x (spT ⟨P, w, K⟩ n m) []
abbrev CTN (P : Program) (w : World) (K : PySem.W.Frag) (mg : Str → Option Value) (base : Heap) (j : Nat) (x : Str) (n : Nat) (m : List Dt → Ti → Option (List Dt × Ti)) : Prop := C8.Cal P w K mg base j x (spTN ⟨P, w, K⟩ n m) []
variable {i j n : Nat}
/-- arguments of the right number -/
def aLen (n : Nat) (ev : EvN) : EvN := fun st t => (ev st t).bind fun r => if r.1.length = n then some r else none
theorem aLen_some {st : DS} {t : Ti} {r : List Dt × Ti} (h : aLen n ev st t = some r) : ev st t = some r ∧ r.1.length = n := by
  obtain ⟨a, e1, e⟩ := Option.bind_eq_some_iff.mp h
  by_cases hn : a.1.length = n
  · rw [if_pos hn] at e; cases e; exact ⟨e1, hn⟩
  · rw [if_neg hn] at e; cases e
theorem px_call {m : List Dt → Option Dt} (c : CP X.prog X.w X.K X.mg X.base j x n m) (hr : Room i X.A) (ha : AX k X (e :: es) ev) (hk : j ≤ i := by decide) (hg : Gl X x := by rfl)
    (hdb : (x == ("__debug__" : Str)) = false := by decide) (he : starEach (e :: es) X.env = (false, eval e X.env) :: starEach es X.env := by rfl) (hpl : (backTo pos (starEach es X.env)).any (·.1) = false := by rfl) :
    PX k X (.Call (.Name x p) (e :: es) [] pos) (xCall m (aLen n ev)) := PE.imp (C8.pe_c c hr hk hg ha hdb he hpl) fun σ H Q ⟨st, t, T, r, sd, tn, e, q⟩ => by
  obtain ⟨a, e1, e⟩ := Option.bind_eq_some_iff.mp e
  obtain ⟨e1, hn⟩ := aLen_some e1
  obtain ⟨r', e3, e⟩ := Option.map_eq_some_iff.mp e
  subst e
  refine ⟨st, t, T, a, sd, tn, e1, fun v H1 x1 n1 p1 => ?_⟩
  show spP (bs X) n m (v ++ []) H1 Q E0
  rw [List.append_nil]
  exact ⟨by rw [p1.length]; exact hn, a.1, r', p1, e3, fun z H3 x3 p3 => q z H3 (x1.trans x3.any) (n1.ext0 x3) p3⟩
theorem pn_call {m : List Dt → Option (List Dt)} (c : CN X.prog X.w X.K X.mg X.base j x n m) (hr : Room i X.A) (ha : AX k X (e :: es) ev) (hk : j ≤ i := by decide) (hg : Gl X x := by rfl)
    (hdb : (x == ("__debug__" : Str)) = false := by decide) (he : starEach (e :: es) X.env = (false, eval e X.env) :: starEach es X.env := by rfl) (hpl : (backTo pos (starEach es X.env)).any (·.1) = false := by rfl) :
    PN k X (.Call (.Name x p) (e :: es) [] pos) (nCall m (aLen n ev)) := PE.imp (C8.pe_c c hr hk hg ha hdb he hpl) fun σ H Q ⟨st, t, T, r, sd, tn, e, q⟩ => by
  obtain ⟨a, e1, e⟩ := Option.bind_eq_some_iff.mp e
  obtain ⟨e1, hn⟩ := aLen_some e1
  obtain ⟨r', e3, e⟩ := Option.map_eq_some_iff.mp e
  subst e
  refine ⟨st, t, T, a, sd, tn, e1, fun v H1 x1 n1 p1 => ?_⟩
  show spN (bs X) n m (v ++ []) H1 Q E0
  rw [List.append_nil]
  exact ⟨by rw [p1.length]; exact hn, a.1, r', p1, e3, fun p xs H3 x3 hp h3 p3 => q p xs H3 (x1.trans x3.any) (new_back x1 n1 hp) (n1.ext0 x3) h3 p3⟩
/-- f(tin, ..) -/
def xCallT (m : List Dt → Ti → Option (Dt × Ti)) (ev : EvN) : Ev := fun st t => (ev st t).bind fun a => m a.1 a.2
def nCallT (m : List Dt → Ti → Option (List Dt × Ti)) (ev : EvN) : EvN := fun st t => (ev st t).bind fun a => m a.1 a.2
variable {y : Str} {py : Pos} {l : Nat}
theorem tnArgs {K : Bs} {σ : L2.St} {H : Hp} {Q : List V → Hp → Prop} {st : DS} {t : Ti} {T : Option Addr} {r : List Dt × Ti} (sd : SD K H σ st) (tn : TN (some l) σ H T t) (e : ev st t = some r)
    (h : ∀ a vs H', T = some a → H a = some (.lst (t.map V.int)) → Ext T H H' → H' a = some (.lst (r.2.map V.int)) → PdA K H' vs r.1 → Q (.ref a :: vs) H') : tCons (tVar l) (tAr (some l) K ev) σ H Q := by
  obtain ⟨a, e1, e2, e3⟩ := id tn
  refine ⟨.ref a, e2, st, t, T, r, sd, tn, e, fun vs H1 x1 n1 p1 => ?_⟩
  obtain ⟨a', e1', e2', e3'⟩ := n1
  rw [e1] at e1'; cases e1'
  exact h a vs H1 e1 e3 x1 e3' p1
theorem px_callT {m : List Dt → Ti → Option (Dt × Ti)} (c : CT X.prog X.w X.K X.mg X.base j x n m) (hr : Room i X.A) (l : Nat) (ha : AX (some l) X es ev) (hk : j ≤ i := by decide) (hg : Gl X x := by rfl)
    (hN : X.N[l]? = some y := by rfl) (hv : Vis X.env.scope y := by first | exact Or.inl rfl | exact Or.inr (Or.inl rfl) | exact Or.inr (Or.inr rfl)) (hd : (y == ("__debug__" : Str)) = false := by decide) (hcd : (y == ("__classdict__" : Str)) = false := by decide)
    (hdb : (x == ("__debug__" : Str)) = false := by decide) (he : starEach (.Name y py :: es) X.env = (false, eval (.Name y py) X.env) :: starEach es X.env := by rfl) (hpl : (backTo pos (starEach es X.env)).any (·.1) = false := by rfl) :
    PX (some l) X (.Call (.Name x p) (.Name y py :: es) [] pos) (xCallT m (aLen n ev)) := PE.imp (C8.pe_c c hr hk hg (pa_cons (pe_var hN hv hd hcd) ha he) hdb he hpl) fun σ H Q ⟨st, t, T, r, sd, tn, e, q⟩ => by
  obtain ⟨a, e1, e⟩ := Option.bind_eq_some_iff.mp e
  obtain ⟨e1, hn⟩ := aLen_some e1
  refine tnArgs (Q := fun vs H1 => spT (bs X) n m (vs ++ []) H1 Q E0) sd tn e1 fun b vs H1 eT e3 x1 e4 p1 => ?_
  rw [List.append_nil]
  refine ⟨by rw [List.length_cons, p1.length, hn], b, vs, a.1, a.2, r, rfl, e4, p1, e, fun z H3 x3 h3 p3 => q z H3 (x1.trans (eT ▸ x3)) ?_ p3⟩
  obtain ⟨b', f1, f2, f3⟩ := tn
  rw [eT] at f1; cases f1
  exact ⟨b, eT, f2, h3⟩
theorem pn_callT {m : List Dt → Ti → Option (List Dt × Ti)} (c : CTN X.prog X.w X.K X.mg X.base j x n m) (hr : Room i X.A) (l : Nat) (ha : AX (some l) X es ev) (hk : j ≤ i := by decide) (hg : Gl X x := by rfl)
    (hN : X.N[l]? = some y := by rfl) (hv : Vis X.env.scope y := by first | exact Or.inl rfl | exact Or.inr (Or.inl rfl) | exact Or.inr (Or.inr rfl)) (hd : (y == ("__debug__" : Str)) = false := by decide) (hcd : (y == ("__classdict__" : Str)) = false := by decide)
    (hdb : (x == ("__debug__" : Str)) = false := by decide) (he : starEach (.Name y py :: es) X.env = (false, eval (.Name y py) X.env) :: starEach es X.env := by rfl) (hpl : (backTo pos (starEach es X.env)).any (·.1) = false := by rfl) :
    PN (some l) X (.Call (.Name x p) (.Name y py :: es) [] pos) (nCallT m (aLen n ev)) := PE.imp (C8.pe_c c hr hk hg (pa_cons (pe_var hN hv hd hcd) ha he) hdb he hpl) fun σ H Q ⟨st, t, T, r, sd, tn, e, q⟩ => by
  obtain ⟨a, e1, e⟩ := Option.bind_eq_some_iff.mp e
  obtain ⟨e1, hn⟩ := aLen_some e1
  refine tnArgs (Q := fun vs H1 => spTN (bs X) n m (vs ++ []) H1 Q E0) sd tn e1 fun b vs H1 eT e3 x1 e4 p1 => ?_
  rw [List.append_nil]
  obtain ⟨b', f1, f2, f3⟩ := id tn
  rw [eT] at f1; cases f1
  refine ⟨by rw [List.length_cons, p1.length, hn], b, vs, a.1, a.2, r, rfl, e4, p1, e, fun p xs H3 x3 h3 hp h4 p3 => q p xs H3 (x1.trans (eT ▸ x3)) (new_back (k := some l) (t := a.2) x1 ⟨b, eT, f2, e4⟩ hp) ⟨b, eT, f2, h3⟩ h4 p3⟩
end
end
end HL

/-! HlC: what is walked, targets, comprehensions. -/
namespace HL
open PySem PySem.Spec PyProof.Rows L2
/-! ### what is walked -/
/-- a datum; (w) a tuple that is taken apart at once -/
def Pf (B : Bs) (H : Hp) : Bool → V → Dt → Prop
  | false, v, d => Pd B H v d
  | true, v, d => ∃ a xs ds, v = .ref a ∧ SqT B.K H a xs ∧ PdA B H xs ds ∧ d = .tuple ds
theorem Pf.tupI {B : Bs} {H : Hp} {w : Bool} {v : V} {ds : List Dt} (h : Pf B H w v (.tuple ds)) : ∃ a xs, v = .ref a ∧ SqT B.K H a xs ∧ PdA B H xs ds := by
  cases w with
  | false => exact Pd.tupI h
  | true =>
    obtain ⟨a, xs, es, e1, e2, e3, e4⟩ := h
    cases e4
    exact ⟨a, xs, e1, e2, e3⟩
/-- J walks the data ds, while what stayed at H0 stays -/
def ItOk (B : Bs) (H0 : Hp) (w : Bool) (J : It) (ds : List Dt) : Prop := ∀ (i : Nat) (H : Hp), Pers H0 H → (i < ds.length → J.go i H) ∧ (ds.length ≤ i → J.stop i H) ∧ ∀ x H', J.yld i H x H' → i < ds.length → ∃ d, ds[i]? = some d ∧ Ext none H H' ∧ Pf B H' w x d
def tIt (k : Option Nat) (B : Bs) (w : Bool) (ev : EvN) : TI := fun σ H R => ∃ st t T r, SD B H σ st ∧ TN k σ H T t ∧ ev st t = some r ∧
  ∀ J H', Ext T H H' → TN k σ H' T r.2 → ItOk B H' w J r.1 → R J H'
abbrev IX (k : Option Nat) (X : Cx) (w : Bool) (tg e : Expr) (ev : EvN) : Prop := PI X tg e (tIt k (bs X) w ev)
theorem PI.or {X : Cx} {tg e : Expr} {t t' : TI} (h : PI X tg e t) (h' : PI X tg e t') : PI X tg e (fun σ H R => t σ H R ∨ t' σ H R) := ⟨fun pins s σ H R I q => q.elim (h.run pins s σ H R I) (h'.run pins s σ H R I)⟩
/-- the items of a list or a tuple -/
def seqD : Dt → Option (List Dt)
  | .list ds => some ds
  | .tuple ds => some ds
  | _ => none
def nSeq (ea : Ev) : EvN := fun st t => (ea st t).bind fun a => (seqD a.1).map fun r => (r, a.2)
theorem itl_ok {B : Bs} {H0 : Hp} {a : Addr} {o : Obj} {xs : List V} {ds : List Dt} (e : H0 a = some (.frz o (.lst xs))) (p : PdA B H0 xs ds) : ItOk B H0 false (Itl B.K a) ds := fun i H pr => by
  have hq : SqL B.K H a xs := .inl (.inr ⟨o, pr.frz _ _ _ e⟩)
  refine ⟨fun hi => ?_, fun hi => ⟨xs, hq, by rw [p.length]; exact hi⟩, fun x H' y hi => ?_⟩
  · obtain ⟨v, ev, _⟩ := p.get (List.getElem?_eq_getElem hi)
    exact ⟨xs, v, hq, ev⟩
  · obtain ⟨eH, y⟩ := y
    subst eH
    obtain ⟨d, ed, q⟩ := p.get' (y xs hq)
    exact ⟨d, ed, .refl, q.pers pr⟩
theorem itt_ok {B : Bs} {H0 : Hp} {a : Addr} {xs : List V} {ds : List Dt} (e : SqT B.K H0 a xs) (p : PdA B H0 xs ds) : ItOk B H0 false (Itt B.K a) ds := fun i H pr => by
  have hq : SqT B.K H a xs := pr.sqT e
  refine ⟨fun hi => ?_, fun hi => ⟨xs, hq, by rw [p.length]; exact hi⟩, fun x H' y hi => ?_⟩
  · obtain ⟨v, ev, _⟩ := p.get (List.getElem?_eq_getElem hi)
    exact ⟨xs, v, hq, ev⟩
  · obtain ⟨eH, y⟩ := y
    subst eH
    obtain ⟨d, ed, q⟩ := p.get' (y xs hq)
    exact ⟨d, ed, .refl, q.pers pr⟩
section
variable {X : Cx} {k : Option Nat} {a b c e tg : Expr} {es : List Expr} {pos p : Pos} {x : Str} {ea eb : Ev}
theorem ix_seq (h : PX k X e ea) : IX k X false tg e (nSeq ea) := HL.PI.imp (HL.PI.or (pi_list h) (pi_tup h)) fun σ H R ⟨st, t, T, r, sd, tn, e, q⟩ => by
  obtain ⟨a, e1, e⟩ := Option.bind_eq_some_iff.mp e
  obtain ⟨r', e3, e⟩ := Option.map_eq_some_iff.mp e
  subst e
  obtain ⟨d, t'⟩ := a
  cases d with
  | list ds =>
    cases e3
    refine .inl ⟨st, t, T, _, sd, tn, e1, fun v H1 x1 n1 p1 => ?_⟩
    obtain ⟨a, o, xs, rfl, e, hq, pa⟩ := p1.lstI
    exact ⟨a, rfl, ⟨xs, hq⟩, q _ H1 x1 n1 (itl_ok e pa)⟩
  | tuple ds =>
    cases e3
    refine .inr ⟨st, t, T, _, sd, tn, e1, fun v H1 x1 n1 p1 => ?_⟩
    obtain ⟨a, xs, rfl, hq, pa⟩ := p1.tupI
    exact ⟨a, rfl, ⟨xs, hq⟩, q _ H1 x1 n1 (itt_ok hq pa)⟩
  | _ => cases e3
/-- range(j), range(i, j) -/
def rgD (lo : Int) (n : Nat) : List Dt := (List.range n).map fun (i : Nat) => .int (lo + (i : Int))
theorem rgD_length (lo : Int) (n : Nat) : (rgD lo n).length = n := by simp [rgD]
theorem itr_ok {B : Bs} {H0 : Hp} {lo : Int} {n : Nat} : ItOk B H0 false (Itr lo n) (rgD lo n) := fun i H pr => by
  refine ⟨fun hi => by rw [rgD_length] at hi; exact hi, fun hi => by rw [rgD_length] at hi; exact hi, fun x H' y hi => ?_⟩
  obtain ⟨e1, e2⟩ := y
  subst e1 e2
  rw [rgD_length] at hi
  exact ⟨.int (lo + i), by simp [rgD, hi], .refl, .int _⟩
def rg1 : List Dt → Option (List Dt)
  | [.int j] => if j.natAbs ≤ 2 ^ 61 then some (rgD 0 j.toNat) else none
  | _ => none
def rg2 : List Dt → Option (List Dt)
  | [.int i, .int j] => if i.natAbs ≤ 2 ^ 61 ∧ j.natAbs ≤ 2 ^ 61 then some (rgD i (j - i).toNat) else none
  | _ => none
theorem rg1_some {ds r : List Dt} (h : rg1 ds = some r) : ∃ j : Int, ds = [.int j] ∧ -(2 ^ 62) ≤ j ∧ j < 2 ^ 62 ∧ r = rgD 0 j.toNat := by
  unfold rg1 at h
  split at h
  · split at h
    · rename_i j hj; cases h; exact ⟨j, rfl, by omega, by omega, rfl⟩
    · cases h
  · cases h
theorem rg2_some {ds r : List Dt} (h : rg2 ds = some r) : ∃ i j : Int, ds = [.int i, .int j] ∧ (-(2 ^ 62) ≤ i ∧ i < 2 ^ 62 ∧ -(2 ^ 62) ≤ j ∧ j < 2 ^ 62) ∧ r = rgD i (j - i).toNat := by
  unfold rg2 at h
  split at h
  · split at h
    · rename_i i j hj; cases h; exact ⟨i, j, rfl, by omega, rfl⟩
    · cases h
  · cases h
theorem PdA.one {B : Bs} {H : Hp} {vs : List V} {i : Int} (h : PdA B H vs [.int i]) : vs = [.int i] := by
  cases h with
  | cons a b => cases b; rw [a.intI]
theorem PdA.two {B : Bs} {H : Hp} {vs : List V} {i j : Int} (h : PdA B H vs [.int i, .int j]) : vs = [.int i, .int j] := by
  cases h with
  | cons a b => rw [a.intI, PdA.one b]
theorem ix_r1 {ev : EvN} (ha : AX k X [a] ev) (hm : X.mg "range" = none) (hg : Gl X "range" := by rfl) (hs : starEach [a] X.env = [(false, eval a X.env)] := by rfl) : IX k X false tg (.Call (.Name "range" p) [a] [] pos) (nCall rg1 ev) :=
  HL.PI.imp (pi_range1 hg hm ha hs) fun σ H R ⟨st, t, T, r, sd, tn, e, q⟩ => by
  obtain ⟨a, e1, e⟩ := Option.bind_eq_some_iff.mp e
  obtain ⟨r', e3, e⟩ := Option.map_eq_some_iff.mp e
  subst e
  obtain ⟨j, ej, h1, h2, rfl⟩ := rg1_some e3
  refine ⟨st, t, T, a, sd, tn, e1, fun vs H1 x1 n1 p1 => ⟨j, ?_, h1, h2, q _ H1 x1 n1 itr_ok⟩⟩
  rw [ej] at p1
  exact p1.one
theorem ix_r2 {ev : EvN} (ha : AX k X [a, b] ev) (hm : X.mg "range" = none) (hg : Gl X "range" := by rfl) (hs : starEach [a, b] X.env = [(false, eval a X.env), (false, eval b X.env)] := by rfl) (hs2 : starEach [b] X.env = [(false, eval b X.env)] := by rfl) :
    IX k X false tg (.Call (.Name "range" p) [a, b] [] pos) (nCall rg2 ev) := HL.PI.imp (pi_range2 hg hm ha hs hs2) fun σ H R ⟨st, t, T, r, sd, tn, e, q⟩ => by
  obtain ⟨a, e1, e⟩ := Option.bind_eq_some_iff.mp e
  obtain ⟨r', e3, e⟩ := Option.map_eq_some_iff.mp e
  subst e
  obtain ⟨i, j, ej, hb, rfl⟩ := rg2_some e3
  refine ⟨st, t, T, a, sd, tn, e1, fun vs H1 x1 n1 p1 => ⟨i, j, ?_, hb, q _ H1 x1 n1 itr_ok⟩⟩
  rw [ej] at p1
  exact p1.two
/-- zip of two lists, of two tuples -/
def zipDD : List Dt → Option (List Dt)
  | [.list a, .list b] => some ((a.zip b).map fun p => .tuple [p.1, p.2])
  | [.tuple a, .tuple b] => some ((a.zip b).map fun p => .tuple [p.1, p.2])
  | _ => none
theorem zip_at {α β : Type} {a : List α} {b : List β} {i : Nat} {x : α} {y : β} (h1 : a[i]? = some x) (h2 : b[i]? = some y) : (a.zip b)[i]? = some (x, y) := by
  rw [List.getElem?_zip_eq_some]
  exact ⟨h1, h2⟩
theorem zip_pd {B : Bs} {H : Hp} {T : Addr} {x y : V} {d d' : Dt} (hT : H T = none) (p : Pd B H x d) (q : Pd B H y d') : Ext none H (upd H T (.tup [x, y])) ∧ Pf B (upd H T (.tup [x, y])) true (.ref T) (.tuple [d, d']) := by
  have e : Ext none H (upd H T (.tup [x, y])) := .new hT
  exact ⟨e, T, _, _, rfl, .inl (.inl upd_same), .cons (p.pers e.toPers) (.cons (q.pers e.toPers) .nil), rfl⟩
theorem itz_okL {B : Bs} {H0 : Hp} {a b : Addr} {o o' : Obj} {xs ys : List V} {ds es : List Dt} (e : H0 a = some (.frz o (.lst xs))) (p : PdA B H0 xs ds) (e' : H0 b = some (.frz o' (.lst ys))) (p' : PdA B H0 ys es) :
    ItOk B H0 true (Itz B.K a b) ((ds.zip es).map fun p => .tuple [p.1, p.2]) := fun i H pr => by
  have hq : SqL B.K H a xs := .inl (.inr ⟨o, pr.frz _ _ _ e⟩)
  have hq' : SqL B.K H b ys := .inl (.inr ⟨o', pr.frz _ _ _ e'⟩)
  rw [List.length_map, List.length_zip]
  refine ⟨fun hi => ?_, fun hi => ⟨xs, ys, hq, hq', by rw [p.length, p'.length]; omega⟩, fun x H' y hi => ?_⟩
  · obtain ⟨v, ev, _⟩ := p.get (List.getElem?_eq_getElem (show i < ds.length by omega))
    obtain ⟨v', ev', _⟩ := p'.get (List.getElem?_eq_getElem (show i < es.length by omega))
    exact ⟨xs, ys, v, v', hq, hq', ev, ev'⟩
  · obtain ⟨T, u, v, rfl, hT, rfl, f1, f2⟩ := y
    obtain ⟨d, ed, q⟩ := p.get' (f1 xs hq)
    obtain ⟨d', ed', q'⟩ := p'.get' (f2 ys hq')
    obtain ⟨x1, x2⟩ := zip_pd hT (q.pers pr) (q'.pers pr)
    exact ⟨.tuple [d, d'], by rw [List.getElem?_map, zip_at ed ed']; rfl, x1, x2⟩
theorem itz_okT {B : Bs} {H0 : Hp} {a b : Addr} {xs ys : List V} {ds es : List Dt} (e : SqT B.K H0 a xs) (p : PdA B H0 xs ds) (e' : SqT B.K H0 b ys) (p' : PdA B H0 ys es) :
    ItOk B H0 true (RZ.ItzT B.K a b) ((ds.zip es).map fun p => .tuple [p.1, p.2]) := fun i H pr => by
  have hq : SqT B.K H a xs := pr.sqT e
  have hq' : SqT B.K H b ys := pr.sqT e'
  rw [List.length_map, List.length_zip]
  refine ⟨fun hi => ?_, fun hi => ⟨xs, ys, hq, hq', by rw [p.length, p'.length]; omega⟩, fun x H' y hi => ?_⟩
  · obtain ⟨v, ev, _⟩ := p.get (List.getElem?_eq_getElem (show i < ds.length by omega))
    obtain ⟨v', ev', _⟩ := p'.get (List.getElem?_eq_getElem (show i < es.length by omega))
    exact ⟨xs, ys, v, v', hq, hq', ev, ev'⟩
  · obtain ⟨T, u, v, rfl, hT, rfl, f1, f2⟩ := y
    obtain ⟨d, ed, q⟩ := p.get' (f1 xs hq)
    obtain ⟨d', ed', q'⟩ := p'.get' (f2 ys hq')
    obtain ⟨x1, x2⟩ := zip_pd hT (q.pers pr) (q'.pers pr)
    exact ⟨.tuple [d, d'], by rw [List.getElem?_map, zip_at ed ed']; rfl, x1, x2⟩
theorem PdA.pair {B : Bs} {H : Hp} {vs : List V} {d e : Dt} (h : PdA B H vs [d, e]) : ∃ u v, vs = [u, v] ∧ Pd B H u d ∧ Pd B H v e := by
  cases h with
  | cons a b =>
    cases b with
    | cons b c => cases c; exact ⟨_, _, rfl, a, b⟩
theorem ix_zip {ev : EvN} {elts : List Expr} {kk : Nat} {tpos : Pos} (ha : AX k X [a, b] ev) (hm : X.mg "zip" = none) (hg : Gl X "zip" := by rfl) (hs : starEach [a, b] X.env = (false, eval a X.env) :: starEach [b] X.env := by rfl) (hpl : (backTo pos (starEach [b] X.env)).any (·.1) = false := by rfl) :
    IX k X true (.Tuple elts kk tpos) (.Call (.Name "zip" p) [a, b] [] pos) (nCall zipDD ev) := HL.PI.imp (RZ.pi_zipA hg hm ha hs hpl) fun σ H R ⟨st, t, T, r, sd, tn, e, q⟩ => by
  obtain ⟨a, e1, e⟩ := Option.bind_eq_some_iff.mp e
  obtain ⟨r', e3, e⟩ := Option.map_eq_some_iff.mp e
  subst e
  refine ⟨st, t, T, a, sd, tn, e1, fun vs H1 x1 n1 p1 => ?_⟩
  generalize a.1 = ds at e3 p1
  unfold zipDD at e3
  split at e3
  · cases e3
    obtain ⟨u, v, rfl, h1, h2⟩ := p1.pair
    obtain ⟨a1, o1, xs, rfl, f1, g1, pa1⟩ := h1.lstI
    obtain ⟨a2, o2, ys, rfl, f2, g2, pa2⟩ := h2.lstI
    exact ⟨a1, a2, xs, ys, rfl, .inl ⟨g1, g2, q _ H1 x1 n1 (itz_okL f1 pa1 f2 pa2)⟩⟩
  · cases e3
    obtain ⟨u, v, rfl, h1, h2⟩ := p1.pair
    obtain ⟨a1, xs, rfl, g1, pa1⟩ := h1.tupI
    obtain ⟨a2, ys, rfl, g2, pa2⟩ := h2.tupI
    exact ⟨a1, a2, xs, ys, rfl, .inr ⟨g1, g2, q _ H1 x1 n1 (itz_okT g1 pa1 g2 pa2)⟩⟩
  · cases e3
/-- the signs of a text -/
def strD : Dt → Option (List Dt)
  | .str z => some (z.cps.toList.map fun c => .str ⟨#[c]⟩)
  | _ => none
def nStr (ea : Ev) : EvN := fun st t => (ea st t).bind fun a => (strD a.1).map fun r => (r, a.2)
theorem its_ok {B : Bs} {H0 : Hp} {z : Str} : ItOk B H0 false (Its z) (z.cps.toList.map fun c => .str ⟨#[c]⟩) := fun i H pr => by
  rw [List.length_map, Array.length_toList]
  refine ⟨fun hi => hi, fun hi => hi, fun x H' y hi => ?_⟩
  obtain ⟨rfl, c, hc, rfl⟩ := y
  exact ⟨.str ⟨#[c]⟩, by simp [hc], .refl, .str _⟩
theorem ix_str (h : PX k X e ea) : IX k X false tg e (nStr ea) := HL.PI.imp (pi_str h) fun σ H R ⟨st, t, T, r, sd, tn, e, q⟩ => by
  obtain ⟨a, e1, e⟩ := Option.bind_eq_some_iff.mp e
  obtain ⟨r', e3, e⟩ := Option.map_eq_some_iff.mp e
  subst e
  obtain ⟨d, t'⟩ := a
  cases d with
  | str z =>
    cases e3
    exact ⟨st, t, T, _, sd, tn, e1, fun v H1 x1 n1 p1 => ⟨z, p1.strI, q _ H1 x1 n1 its_ok⟩⟩
  | _ => cases e3
end
/-! ### targets -/
inductive Tg where
  | nm (i : Nat)
  | tp (l : List Tg)
mutual
def Tg.slots : Tg → List Nat
  | .nm i => [i]
  | .tp l => slotsA l
def slotsA : List Tg → List Nat
  | [] => []
  | p :: l => p.slots ++ slotsA l
end
mutual
def setTg : Tg → Dt → DS → Option DS
  | .nm i, d, st => some (st.set i (some d))
  | .tp l, .tuple ds, st => setTgs l ds st
  | .tp _, _, _ => none
def setTgs : List Tg → List Dt → DS → Option DS
  | [], [], st => some st
  | p :: l, d :: ds, st => (setTg p d st).bind (setTgs l ds)
  | _, _, _ => none
end
/-- slots outside are as they were -/
structure Chg (ss : List Nat) (σ σ' : L2.St) : Prop where
  len : σ'.length = σ.length
  out : ∀ (j : Nat), j ∉ ss → σ'[j]? = σ[j]?
theorem Chg.trans {s1 s2 : List Nat} {a b c : L2.St} (h : Chg s1 a b) (h' : Chg s2 b c) : Chg (s1 ++ s2) a c := ⟨h'.len.trans h.len, fun j hj => by
  rw [List.mem_append, not_or] at hj
  rw [h'.out j hj.2, h.out j hj.1]⟩
def tG (B : Bs) (w : Bool) (p : Tg) : TG := fun v σ H Q => ∃ st d st', SD B H σ st ∧ Pf B H w v d ∧ setTg p d st = some st' ∧ ∀ σ', Chg p.slots σ σ' → SD B H σ' st' → Q σ' H
def tGs (B : Bs) (l : List Tg) : TGs := fun vs σ H Q => ∃ st ds st', SD B H σ st ∧ PdA B H vs ds ∧ setTgs l ds st = some st' ∧ ∀ σ', Chg (slotsA l) σ σ' → SD B H σ' st' → Q σ' H
theorem PG.imp {X : Cx} {e : Expr} {t t' : TG} (h : PG X e t) (i : ∀ v σ H Q, t' v σ H Q → t v σ H Q) : PG X e t' := ⟨fun pins s σ H v u Q I r q => h.run pins s σ H v u Q I r (i v σ H Q q)⟩
theorem PGs.imp {X : Cx} {e : List Expr} {t t' : TGs} (h : PGs X e t) (i : ∀ v σ H Q, t' v σ H Q → t v σ H Q) : PGs X e t' := ⟨fun pins s σ H v u Q I r q => h.run pins s σ H v u Q I r (i v σ H Q q)⟩
theorem SD.set {B : Bs} {H : Hp} {σ : L2.St} {st : DS} (sd : SD B H σ st) (i : Nat) {v : V} {d : Dt} (p : Pd B H v d) : SD B H (σ.set i (some v)) (st.set i (some d)) := ⟨by rw [List.length_set, List.length_set]; exact sd.len, fun j e h => by
  by_cases hj : i = j
  · subst hj
    have hl : i < st.length := by
      have := (List.getElem?_eq_some_iff.mp h).1
      rwa [List.length_set] at this
    rw [List.getElem?_set_self hl] at h
    cases h
    exact ⟨v, by rw [List.getElem?_set_self (by rw [← sd.len]; exact hl)], p⟩
  · rw [List.getElem?_set_ne hj] at h ⊢
    exact sd.pd j e h⟩
abbrev GX (X : Cx) (w : Bool) (tg : Expr) (p : Tg) : Prop := PG X tg (tG (bs X) w p)
abbrev GXs (X : Cx) (tg : List Expr) (p : List Tg) : Prop := PGs X tg (tGs (bs X) p)
section
variable {X : Cx} {x : Str} {pos : Pos} {e : Expr} {es : List Expr}
theorem gx_n (i : Nat) (hN : X.N.Nodup) (hi : X.N[i]? = some x := by rfl) (hx : Loc X.env.scope x := by first | exact Or.inl rfl | exact Or.inr rfl) (hf : X.fn x = true ∨ X.env.scope.names.lookup x = some .local := by first | exact .inl rfl | exact .inr rfl | assumption) : GX X false (.Name x pos) (.nm i) :=
  HL.PG.imp (pg_name hN hi hx hf) fun v σ H Q ⟨st, d, st', sd, p, e, q⟩ => by
  cases e
  refine q _ ⟨List.length_set, fun j hj => ?_⟩ (sd.set i p)
  rw [List.getElem?_set_ne (fun z => hj (by subst z; simp [Tg.slots]))]
theorem gxs_nil : GXs X [] [] := HL.PGs.imp pgs_nil fun vs σ H Q ⟨st, ds, st', sd, p, e, q⟩ => by
  cases ds with
  | nil => cases p; cases e; exact ⟨rfl, q σ ⟨rfl, fun _ _ => rfl⟩ sd⟩
  | cons d ds => simp [setTgs] at e
theorem gxs_cons {p : Tg} {l : List Tg} (h : GX X false e p) (hr : GXs X es l) (hs : (assignEach (e :: es) X.env).map (·.2) = assign e X.env :: (assignEach es X.env).map (·.2) := by rfl) : GXs X (e :: es) (p :: l) :=
  HL.PGs.imp (pgs_cons h hr hs) fun vs σ H Q ⟨st, ds, st', sd, pa, e, q⟩ => by
  cases ds with
  | nil => simp [setTgs] at e
  | cons d ds =>
    cases pa with
    | cons a b =>
      rw [setTgs] at e
      obtain ⟨st1, e1, e2⟩ := Option.bind_eq_some_iff.mp e
      exact ⟨_, _, rfl, st, d, st1, sd, a, e1, fun σ1 c1 sd1 => ⟨st1, ds, st', sd1, b, e2, fun σ2 c2 sd2 => q σ2 (c1.trans c2) sd2⟩⟩
theorem setTgs_len : ∀ {l : List Tg} {ds : List Dt} {st st' : DS}, setTgs l ds st = some st' → ds.length = l.length
  | [], [], _, _, _ => rfl
  | [], _ :: _, _, _, h => by simp [setTgs] at h
  | _ :: _, [], _, _, h => by simp [setTgs] at h
  | p :: l, d :: ds, st, st', h => by
    rw [setTgs] at h
    obtain ⟨st1, e1, e2⟩ := Option.bind_eq_some_iff.mp h
    rw [List.length_cons, List.length_cons, setTgs_len e2]
theorem gx_t {w : Bool} {l : List Tg} {q : Nat} {n : Nat} (hc : X.calm = true) (h : GXs X es l) (hl : l.length = n := by rfl) (hn : (assignEach es X.env).length = n := by rfl) (hst : (assignEach es X.env).findIdx? (·.1) = none := by rfl) : GX X w (.Tuple es q pos) (.tp l) :=
  HL.PG.imp (pg_tup hc h hn hst) fun v σ H Q ⟨st, d, st', sd, p, e, q⟩ => by
  cases d with
  | tuple ds =>
    obtain ⟨a, xs, rfl, hq, pa⟩ := p.tupI
    rw [setTg] at e
    exact ⟨a, xs, rfl, hq, by rw [pa.length, setTgs_len e]; exact hl, st, ds, st', sd, pa, e, q⟩
  | _ => simp [setTg] at e
end
/-! ### comprehensions -/
def wipeD (st : DS) : List Nat → DS
  | [] => st
  | v :: vs => (wipeD st vs).set v none
theorem wipeD_length (st : DS) : ∀ vs : List Nat, (wipeD st vs).length = st.length
  | [] => rfl
  | v :: vs => by unfold wipeD; rw [List.length_set, wipeD_length st vs]
theorem wipe_get {σ : L2.St} : ∀ {vs : List Nat} {j : Nat}, (wipe σ vs)[j]? = if j ∈ vs ∧ j < σ.length then some none else σ[j]?
  | [], j => by simp [wipe]
  | v :: vs, j => by
    unfold wipe
    by_cases h : v = j
    · subst h
      by_cases hl : v < σ.length
      · rw [List.getElem?_set_self (by rw [wipe_length]; exact hl)]
        simp [hl]
      · rw [List.getElem?_eq_none (by rw [List.length_set, wipe_length]; omega), if_neg (by simp [hl]), List.getElem?_eq_none (by omega)]
    · rw [List.getElem?_set_ne h, wipe_get]
      have : (j ∈ v :: vs) ↔ j ∈ vs := by simp [Ne.symm h]
      simp only [this]
theorem wipe_chg {σ σ' : L2.St} {ss vs : List Nat} (c : Chg ss (wipe σ vs) σ') (hs : ∀ i ∈ ss, i ∈ vs) : wipe σ' vs = wipe σ vs := by
  have hl : σ'.length = σ.length := by rw [c.len, wipe_length]
  refine List.ext_getElem? fun j => ?_
  rw [wipe_get, wipe_get, hl]
  by_cases h : j ∈ vs ∧ j < σ.length
  · rw [if_pos h, if_pos h]
  · rw [if_neg h, if_neg h]
    by_cases hj : j ∈ vs
    · have : ¬ j < σ.length := fun z => h ⟨hj, z⟩
      rw [List.getElem?_eq_none (by omega), List.getElem?_eq_none (by omega)]
    · rw [c.out j (fun z => hj (hs j z)), wipe_get, if_neg (fun z => hj z.1)]
theorem SD.wipe {B : Bs} {H : Hp} {σ : L2.St} {st : DS} (sd : SD B H σ st) : ∀ vs : List Nat, SD B H (wipe σ vs) (wipeD st vs)
  | [] => sd
  | v :: vs => by
    have ih := SD.wipe sd vs
    refine ⟨by unfold L2.wipe wipeD; rw [List.length_set, List.length_set]; exact ih.len, fun i d h => ?_⟩
    unfold wipeD at h
    unfold L2.wipe
    by_cases hv : v = i
    · subst hv
      by_cases hl : v < (wipeD st vs).length
      · rw [List.getElem?_set_self hl] at h; cases h
      · rw [List.getElem?_eq_none (by rw [List.length_set]; omega)] at h; cases h
    · rw [List.getElem?_set_ne hv] at h ⊢
      exact ih.pd i d h
def kOk (k : Option Nat) (ss : List Nat) : Bool := match k with
  | none => true
  | some l => !(ss.contains l)
theorem TN.chg {k : Option Nat} {ss : List Nat} {σ σ' : L2.St} {H : Hp} {T : Option Addr} {t : Ti} (h : TN k σ H T t) (o : kOk k ss = true) (c : ∀ j, j ∉ ss → σ'[j]? = σ[j]?) : TN k σ' H T t := by
  cases k with
  | none => exact h
  | some l =>
    obtain ⟨a, e1, e2, e3⟩ := h
    refine ⟨a, e1, ?_, e3⟩
    rw [c l (by simpa [kOk] using o)]
    exact e2
def lcGo (p : Tg) (cnd : EvB) (elt : Ev) : List Dt → DS → Ti → Option (List Dt × Ti)
  | [], _, t => some ([], t)
  | d :: ds, st, t => (setTg p d st).bind fun st1 => (cnd st1 t).bind fun c => if c.1 = true then (elt st1 c.2).bind fun e => (lcGo p cnd elt ds st e.2).map fun r => (e.1 :: r.1, r.2) else lcGo p cnd elt ds st c.2
def nLc (it : EvN) (p : Tg) (own : List Nat) (cnd : EvB) (elt : Ev) : EvN := fun st t => (it st t).bind fun r => if szOk r.1.length = true then lcGo p cnd elt r.1 (wipeD st own) r.2 else none
def bYes : EvB := fun _ t => some (true, t)
theorem pts_yes {X : Cx} {k : Option Nat} : PTs X [] (tBo k (bs X) bYes) := ⟨fun pins s σ H Q I ⟨st, t, T, r, sd, tn, e, q⟩ => by
  cases e
  exact pts_nil.run pins s σ H Q I (q H .refl tn)⟩
theorem pts_1 {X : Cx} {k : Option Nat} {c : Expr} {ev : EvB} (h : BX k X c ev) : PTs X [c] (tBo k (bs X) ev) := pts_one h
section
variable {X : Cx} {k : Option Nat} {elt tg iter : Expr} {ifs : List Expr} {scope : Scope} {own : List (Str × Nat)} {pos : Pos} {it : EvN} {p : Tg} {cnd : EvB} {ev : Ev}
theorem lc_read {B : Bs} {w : Bool} {σ : L2.St} {H : Hp} {Q : VK} (hs : (p.slots.all fun i => (own.map (·.2)).contains i) = true) (hk : kOk k (own.map (·.2)) = true) (h : tN k B (nLc it p (own.map (·.2)) cnd ev) σ H Q) :
    tLc (tIt k B w it) (tG B w p) (tBo k B cnd) (tD k B ev) (own.map (·.2)) σ H Q := by
  have hs' : ∀ i ∈ p.slots, i ∈ own.map (·.2) := fun i hi => by simpa using List.all_eq_true.mp hs i hi
  obtain ⟨st, t, T, r, sd, tn, e, q⟩ := h
  obtain ⟨⟨ds, t1⟩, e1, e⟩ := Option.bind_eq_some_iff.mp e
  by_cases hz : szOk ds.length = true
  case neg => simp only at e; rw [if_neg hz] at e; cases e
  simp only at e
  rw [if_pos hz] at e
  refine ⟨st, t, T, (ds, t1), sd, tn, e1, fun J H1 x1 n1 hJ D hD => ?_⟩
  have hDT : some D ≠ T := fun z => by
    cases k with
    | none => rw [tn.1] at z; cases z
    | some l =>
      obtain ⟨a, f1, f2, f3⟩ := n1
      rw [f1] at z; cases z
      rw [hD] at f3; cases f3
  have hline : ds.length ≤ sizeLine := szOk_line hz
  refine ⟨fun i m H2 => m = ds.length - i ∧ i ≤ ds.length ∧ ∃ acc accD t2 rest, H2 D = some (.lst acc) ∧ PdA B H2 acc accD ∧ Ext T H1 H2 ∧ TN k σ H2 T t2 ∧ lcGo p cnd ev (ds.drop i) (wipeD st (own.map (·.2))) t2 = some rest ∧ accD ++ rest.1 = r.1 ∧ rest.2 = r.2 ∧ accD.length ≤ i,
    ⟨ds.length, by simp, Nat.zero_le _, [], [], t1, r, upd_same, .nil, (Ext.new hD), n1.ext0 (.new hD), by simpa using e, rfl, rfl, Nat.le_refl _⟩, ?_⟩
  rintro i m H2 ⟨rfl, hi, acc, accD, t2, rest, hacc, pacc, x2, n2, go, e2, e3, hlen⟩
  obtain ⟨j1, j2, j3⟩ := hJ i H2 x2.toPers
  by_cases hlt : i < ds.length
  · refine .inr ⟨j1 hlt, fun H' => ∃ acc' accD' t' rest', H' D = some (.lst acc') ∧ PdA B H' acc' accD' ∧ Ext T H1 H' ∧ TN k σ H' T t' ∧ lcGo p cnd ev (ds.drop (i + 1)) (wipeD st (own.map (·.2))) t' = some rest' ∧ accD' ++ rest'.1 = r.1 ∧ rest'.2 = r.2 ∧ accD'.length ≤ i + 1,
      fun H' z => ⟨ds.length - (i + 1), by omega, rfl, hlt, z⟩, fun x H3 y => ?_⟩
    obtain ⟨d, ed, x3, pd⟩ := j3 x H3 y hlt
    have edrop : ds.drop i = d :: ds.drop (i + 1) := by
      rw [List.drop_eq_getElem_cons hlt]
      have : ds[i] = d := by rw [List.getElem?_eq_getElem hlt] at ed; exact Option.some.inj ed
      rw [this]
    rw [edrop, lcGo] at go
    obtain ⟨st1, g1, go⟩ := Option.bind_eq_some_iff.mp go
    obtain ⟨⟨cb, t3⟩, g2, go⟩ := Option.bind_eq_some_iff.mp go
    have x13 : Ext T H1 H3 := x2.trans x3.any
    have n3 : TN k σ H3 T t2 := n2.ext0 x3
    have sdw : SD B H3 (wipe σ (own.map (·.2))) (wipeD st (own.map (·.2))) := (sd.pers (x1.toPers.trans x13.toPers)).wipe _
    refine ⟨_, d, st1, sdw, pd, g1, fun σ2 c2 sd2 => ⟨wipe_chg c2 hs', ?_⟩⟩
    have nσ2 : ∀ {H' : Hp} {t' : Ti}, TN k σ H' T t' → TN k σ2 H' T t' := fun h => h.chg hk fun j hj => by
      rw [c2.out j (fun z => hj (hs' j z)), wipe_get, if_neg (fun z => hj z.1)]
    have nσ : ∀ {H' : Hp} {t' : Ti}, TN k σ2 H' T t' → TN k σ H' T t' := fun h => h.chg hk fun j hj => by
      rw [c2.out j (fun z => hj (hs' j z)), wipe_get, if_neg (fun z => hj z.1)]
    refine ⟨st1, t2, T, (cb, t3), sd2, nσ2 n3, g2, fun H4 x4 n4 => ?_⟩
    have x14 : Ext T H1 H4 := x13.trans x4
    have hacc3 : H3 D = some (.lst acc) := x3.keep _ _ hacc (by simp)
    have hacc4 : H4 D = some (.lst acc) := x4.keep _ _ hacc3 hDT
    cases cb with
    | false =>
      simp only [Bool.false_eq_true, if_false] at go ⊢
      exact ⟨acc, accD, t3, rest, hacc4, (pacc.pers x3.toPers).pers x4.toPers, x14, nσ n4, go, e2, e3, by omega⟩
    | true =>
      simp only [if_true] at go ⊢
      obtain ⟨⟨el, t4⟩, g3, go⟩ := Option.bind_eq_some_iff.mp go
      obtain ⟨rest', g4, go⟩ := Option.map_eq_some_iff.mp go
      subst go
      refine ⟨st1, t3, T, (el, t4), sd2.pers x4.toPers, n4, g3, fun v H5 x5 n5 p5 => ?_⟩
      have hacc5 : H5 D = some (.lst acc) := x5.keep _ _ hacc4 hDT
      have hne : ∀ {b : Addr} {o : HO}, H1 b = some o → b ≠ D := fun z => ne_of_none z hD
      have pu : Pers H5 (upd H5 D (.lst (acc ++ [v]))) := ⟨fun b ys z => by rw [upd_ne (ne_of z hacc5 (by simp))]; exact z, fun b o' u z => by rw [upd_ne (ne_of z hacc5 (by simp))]; exact z⟩
      have hal : acc.length < ds.length := by
        have h1 := pacc.length
        have h2 : i < ds.length := hlt
        omega
      refine ⟨acc, hacc5, Nat.lt_of_lt_of_le hal hline, acc ++ [v], accD ++ [el], t4, rest', upd_same, ?_, ⟨(x14.trans x5).toPers.trans pu, fun b o z hT => ?_⟩, ?_, g4, ?_, e3, ?_⟩
      · exact ((((pacc.pers x3.toPers).pers x4.toPers).pers x5.toPers).append (.cons p5 .nil)).pers pu
      · rw [upd_ne (hne z)]
        exact (x14.trans x5).keep b o z hT
      · have n5' := nσ n5
        cases k with
        | none => exact n5'
        | some l =>
          obtain ⟨a, f1, f2, f3⟩ := n5'
          exact ⟨a, f1, f2, by rw [upd_ne (fun z => hDT (by rw [← z]; exact f1.symm))]; exact f3⟩
      · rw [← e2]; simp
      · rw [List.length_append, List.length_singleton]; omega
  · have ei : i = ds.length := Nat.le_antisymm hi (Nat.le_of_not_lt hlt)
    rw [ei, List.drop_length, lcGo] at go
    have er := Option.some.inj go
    subst er
    refine .inl ⟨j2 (Nat.le_of_eq ei.symm), q D acc H2 (x1.trans x2) (new_back x1 n1 hD) (e3 ▸ n2) hacc ?_⟩
    rw [← e2]
    simpa using pacc
theorem pn_lc {w : Bool} (own : List (Str × Nat)) (hc : X.calm = true) (hN : X.N.Nodup) (hi : IX k X w tg iter it) (ok : BlkOk X.N X.env.scope scope own)
    (hg : ∀ (s : Shared) (H : Hp) (C : Addr) (cl : List (Str × Addr)) (fp : List Addr), GX (X.blk s H scope (compEnvC scope cl C X.env) fp) w tg p)
    (ht : ∀ (s : Shared) (H : Hp) (C : Addr) (cl : List (Str × Addr)) (fp : List Addr), PTs (X.blk s H scope (compEnvC scope cl C X.env) fp) ifs (tBo k (bs X) cnd))
    (he : ∀ (s : Shared) (H : Hp) (C : Addr) (cl : List (Str × Addr)) (fp : List Addr), PX k (X.blk s H scope (compEnvC scope cl C X.env) fp) elt ev)
    (hs : (p.slots.all fun i => (own.map (·.2)).contains i) = true := by rfl) (hk : kOk k (own.map (·.2)) = true := by rfl) (hf : ∀ x, foldedSetIterable iter X.env x = pure x := by intro _; rfl) :
    PN k X (.ListComp elt [⟨tg, iter, ifs, 0⟩] scope pos) (nLc it p (own.map (·.2)) cnd ev) :=
  PE.imp (pe_lc hc hN hi ok hg ht he hf) fun _ _ _ h => lc_read hs hk h
end
end HL

/-! HlD: statements over data. mu: the slots that hold a list (a dict) of the def's own, written by it. -/
namespace HL
open PySem PySem.Spec PyProof.Rows L2
inductive Out where
  | nx (st : DS) (t : Ti)
  | rt (d : Dt) (t : Ti)
  | bk (st : DS) (t : Ti)
  | ct (st : DS) (t : Ti)
abbrev Ex := DS → Ti → Option Out
/-- an own list, an own dict -/
inductive MtR (B : Bs) (H : Hp) (a : Addr) : HO → Dt → Prop
  | lst {xs : List V} {ds : List Dt} : PdA B H xs ds → MtR B H a (.lst xs) (.list ds)
  | dct {raw : List (NestedKey × Addr × V)} {kvs : List (Dt × Dt)} : PdD B H raw kvs → MtR B H a (DctO B.P B.w a raw) (.dict kvs)
theorem MtR.lk {B : Bs} {H : Hp} {a : Addr} {u : HO} {d : Dt} (h : MtR B H a u d) : Lk u := by
  cases h with
  | lst _ => exact .lst _
  | dct _ => exact .ext _
theorem MtR.pers {B : Bs} {H H' : Hp} {a : Addr} {u : HO} {d : Dt} (h : MtR B H a u d) (p : Pers H H') : MtR B H' a u d := by
  cases h with
  | lst q => exact .lst (q.pers p)
  | dct q => exact .dct (q.pers p)
theorem MtR.pd {B : Bs} {H : Hp} {a : Addr} {u : HO} {d : Dt} {o : Obj} (h : MtR B H a u d) (e : H a = some (.frz o u)) : Pd B H (.ref a) d := by
  cases h with
  | lst q => exact .lst e q
  | dct q => exact .dct e q
theorem Lk.ntup {u : HO} (l : Lk u) : ∀ xs, u ≠ .tup xs := by intro xs; cases l <;> simp
theorem Lk.nfrz {u : HO} (l : Lk u) : ∀ o z, u ≠ .frz o z := by intro o z; cases l <;> simp
structure SM (B : Bs) (H0 H : Hp) (σ : L2.St) (st : DS) (mu : List Nat) (T : Option Addr) : Prop where
  len : st.length = σ.length
  pd : ∀ (i : Nat) d, i ∉ mu → st[i]? = some (some d) → ∃ v, σ[i]? = some (some v) ∧ Pd B H v d
  mt : ∀ (i : Nat) d, i ∈ mu → st[i]? = some (some d) → ∃ a u, σ[i]? = some (some (.ref a)) ∧ H a = some u ∧ MtR B H a u d ∧ H0 a = none ∧ some a ≠ T
  ap : ∀ (i j : Nat) di dj a, i ∈ mu → j ∈ mu → st[i]? = some (some di) → st[j]? = some (some dj) → σ[i]? = some (some (.ref a)) → σ[j]? = some (some (.ref a)) → i = j
section
variable {B : Bs} {H0 H H' : Hp} {σ : L2.St} {st : DS} {mu : List Nat} {T : Option Addr} {k : Option Nat} {t : Ti} {i : Nat}
theorem SM.ext (s : SM B H0 H σ st mu T) (x : Ext T H H') : SM B H0 H' σ st mu T := ⟨s.len, fun i d h e => let ⟨v, e1, q⟩ := s.pd i d h e; ⟨v, e1, q.pers x.toPers⟩,
  fun i d h e => let ⟨a, u, e1, e2, q, n, hT⟩ := s.mt i d h e; ⟨a, u, e1, x.keep _ _ e2 hT, q.pers x.toPers, n, hT⟩, s.ap⟩
theorem SM.sd (s : SM B H0 H σ st [] T) : SD B H σ st := ⟨s.len, fun i d e => s.pd i d (by simp) e⟩
theorem SM.of (s : SD B H σ st) : SM B H0 H σ st [] T := ⟨s.len, fun i d _ e => s.pd i d e, fun i d h => by simp at h, fun i j di dj a h => by simp at h⟩
theorem set_none {i j : Nat} {d : Dt} (h : (st.set i none)[j]? = some (some d)) : j ≠ i ∧ st[j]? = some (some d) := by
  by_cases hj : i = j
  · subst hj
    by_cases hl : i < st.length
    · rw [List.getElem?_set_self hl] at h; cases h
    · rw [List.getElem?_eq_none (by rw [List.length_set]; omega)] at h; cases h
  · rw [List.getElem?_set_ne hj] at h
    exact ⟨Ne.symm hj, h⟩
theorem SM.hide (s : SM B H0 H σ st (i :: mu) T) : SM B H0 H σ (st.set i none) mu T := ⟨by rw [List.length_set]; exact s.len, fun j d h e => by
    obtain ⟨n, e⟩ := set_none e
    exact s.pd j d (by simp [n, h]) e, fun j d h e => by
    obtain ⟨n, e⟩ := set_none e
    exact s.mt j d (by simp [h]) e, fun a b da db c ha hb ea eb => by
    obtain ⟨n, ea⟩ := set_none ea
    obtain ⟨n', eb⟩ := set_none eb
    exact s.ap a b da db c (by simp [ha]) (by simp [hb]) ea eb⟩
theorem TN.T0 (n : TN k σ H T t) : ∀ p, H p = none → some p ≠ T := fun p hp z => by
  cases k with
  | none => rw [n.1] at z; cases z
  | some l =>
    obtain ⟨a, f1, f2, f3⟩ := n
    rw [f1] at z; cases z
    rw [hp] at f3; cases f3
end
/-! ### expressions within statements -/
def tE (k : Option Nat) (mu : List Nat) (X : Cx) (ev : Ev) : TE := fun σ H Q => ∃ st t T r, SM (bs X) X.H_0 H σ st mu T ∧ TN k σ H T t ∧ ev st t = some r ∧
  ∀ v H', Ext T H H' → TN k σ H' T r.2 → Pd (bs X) H' v r.1 → Q v H'
def tEN (k : Option Nat) (mu : List Nat) (X : Cx) (ev : EvN) : TE := fun σ H Q => ∃ st t T r, SM (bs X) X.H_0 H σ st mu T ∧ TN k σ H T t ∧ ev st t = some r ∧
  ∀ p xs H', Ext T H H' → H p = none → TN k σ H' T r.2 → H' p = some (.lst xs) → PdA (bs X) H' xs r.1 → Q (.ref p) H'
def tEB (k : Option Nat) (mu : List Nat) (X : Cx) (ev : EvB) : TT := fun σ H Q => ∃ st t T r, SM (bs X) X.H_0 H σ st mu T ∧ TN k σ H T t ∧ ev st t = some r ∧
  ∀ H', Ext T H H' → TN k σ H' T r.2 → Q r.1 H'
abbrev EM (k : Option Nat) (mu : List Nat) (X : Cx) (e : Expr) (ev : Ev) : Prop := PE X e (tE k mu X ev)
abbrev NM (k : Option Nat) (mu : List Nat) (X : Cx) (e : Expr) (ev : EvN) : Prop := PE X e (tEN k mu X ev)
abbrev BM (k : Option Nat) (mu : List Nat) (X : Cx) (e : Expr) (ev : EvB) : Prop := PT X e (tEB k mu X ev)
def hE {α : Type} (i : Nat) (ev : DS → Ti → Option α) : DS → Ti → Option α := fun st t => ev (st.set i none) t
mutual
/-- no list within -/
def nol : Dt → Bool
  | .none => true
  | .bool _ => true
  | .int _ => true
  | .str _ => true
  | .list _ => false
  | .tuple ds => nolA ds
  | .dict ps => nolD ps
def nolA : List Dt → Bool
  | [] => true
  | d :: ds => nol d && nolA ds
def nolD : List (Dt × Dt) → Bool
  | [] => true
  | (k, d) :: ds => nol k && (nol d && nolD ds)
end
mutual
/-- no dict within -/
def nod : Dt → Bool
  | .none => true
  | .bool _ => true
  | .int _ => true
  | .str _ => true
  | .list ds => nodA ds
  | .tuple ds => nodA ds
  | .dict _ => false
def nodA : List Dt → Bool
  | [] => true
  | d :: ds => nod d && nodA ds
end
structure PersL (H H' : Hp) : Prop extends PersT H H' where
  ext : ∀ a o φ, H a = some (.frz o (.ext φ)) → H' a = some (.frz o (.ext φ))
structure PersK (H H' : Hp) : Prop extends PersT H H' where
  lst : ∀ a o xs, H a = some (.frz o (.lst xs)) → H' a = some (.frz o (.lst xs))
mutual
theorem Pd.nolT {K : Bs} {H H' : Hp} (p : PersL H H') : ∀ {v : V} {d : Dt}, Pd K H v d → nol d = true → Pd K H' v d
  | _, _, .non, _ => .non
  | _, _, .bl _, _ => .bl _
  | _, _, .int _, _ => .int _
  | _, _, .str _, _ => .str _
  | _, _, .lst e a, c => by simp [nol] at c
  | _, _, .tup t a, c => by
    refine .tup ?_ (PdA.nolT p a (by simpa [nol] using c))
    rcases t with ⟨o, t, d⟩ | t
    · exact .inl ⟨o, p.frz _ _ _ t, d⟩
    · exact .inr t
  | _, _, .dct e a, c => .dct (p.ext _ _ _ e) (PdD.nolT p a (by simpa [nol] using c))
theorem PdA.nolT {K : Bs} {H H' : Hp} (p : PersL H H') : ∀ {vs : List V} {ds : List Dt}, PdA K H vs ds → nolA ds = true → PdA K H' vs ds
  | _, _, .nil, _ => .nil
  | _, _, .cons a b, e => by
    rw [nolA, Bool.and_eq_true] at e
    exact .cons (Pd.nolT p a e.1) (PdA.nolT p b e.2)
theorem PdD.nolT {K : Bs} {H H' : Hp} (p : PersL H H') : ∀ {vs : List (NestedKey × Addr × V)} {ds : List (Dt × Dt)}, PdD K H vs ds → nolD ds = true → PdD K H' vs ds
  | _, _, .nil, _ => .nil
  | _, _, .cons k a b c, e => by
    rw [nolD, Bool.and_eq_true, Bool.and_eq_true] at e
    exact .cons k (Pd.nolT p a e.1) (Pd.nolT p b e.2.1) (PdD.nolT p c e.2.2)
end
mutual
theorem Pd.nodT {K : Bs} {H H' : Hp} (p : PersK H H') : ∀ {v : V} {d : Dt}, Pd K H v d → nod d = true → Pd K H' v d
  | _, _, .non, _ => .non
  | _, _, .bl _, _ => .bl _
  | _, _, .int _, _ => .int _
  | _, _, .str _, _ => .str _
  | _, _, .lst e a, c => .lst (p.lst _ _ _ e) (PdA.nodT p a (by simpa [nod] using c))
  | _, _, .tup t a, c => by
    refine .tup ?_ (PdA.nodT p a (by simpa [nod] using c))
    rcases t with ⟨o, t, d⟩ | t
    · exact .inl ⟨o, p.frz _ _ _ t, d⟩
    · exact .inr t
  | _, _, .dct e a, c => by simp [nod] at c
theorem PdA.nodT {K : Bs} {H H' : Hp} (p : PersK H H') : ∀ {vs : List V} {ds : List Dt}, PdA K H vs ds → nodA ds = true → PdA K H' vs ds
  | _, _, .nil, _ => .nil
  | _, _, .cons a b, e => by
    rw [nodA, Bool.and_eq_true] at e
    exact .cons (Pd.nodT p a e.1) (PdA.nodT p b e.2)
end
/-- what may stay when the own object of the slot is unlocked -/
def okE (o : Option (Option Dt)) (d : Dt) : Bool := match o with
  | some (some (.list _)) => nol d
  | some (some (.dict _)) => nod d
  | some (some _) => false
  | _ => true
def okN (o : Option (Option Dt)) (ds : List Dt) : Bool := match o with
  | some (some (.list _)) => nolA ds
  | some (some (.dict _)) => nodA ds
  | some (some _) => false
  | _ => true
def lE (i : Nat) (ev : Ev) : Ev := fun st t => (ev st t).bind fun r => if okE st[i]? r.1 = true then some r else none
def lN (i : Nat) (en : EvN) : EvN := fun st t => (en st t).bind fun r => if okN st[i]? r.1 = true then some r else none
section
variable {X : Cx} {k : Option Nat} {mu : List Nat} {e : Expr} {ev : Ev} {en : EvN} {eb : EvB}
theorem em0 (h : PX k X e ev) : EM k [] X e ev := PE.imp h fun σ H Q ⟨st, t, T, r, sm, tn, e, q⟩ => ⟨st, t, T, r, sm.sd, tn, e, q⟩
theorem nm0 (h : PN k X e en) : NM k [] X e en := PE.imp h fun σ H Q ⟨st, t, T, r, sm, tn, e, q⟩ => ⟨st, t, T, r, sm.sd, tn, e, q⟩
theorem bm0 (h : BX k X e eb) : BM k [] X e eb := PT.imp h fun σ H Q ⟨st, t, T, r, sm, tn, e, q⟩ => ⟨st, t, T, r, sm.sd, tn, e, q⟩
theorem em_h (i : Nat) (h : EM k mu X e ev) : EM k (i :: mu) X e (hE i ev) := PE.imp h fun σ H Q ⟨st, t, T, r, sm, tn, e, q⟩ => ⟨_, t, T, r, sm.hide, tn, e, q⟩
theorem nm_h (i : Nat) (h : NM k mu X e en) : NM k (i :: mu) X e (hE i en) := PE.imp h fun σ H Q ⟨st, t, T, r, sm, tn, e, q⟩ => ⟨_, t, T, r, sm.hide, tn, e, q⟩
theorem bm_h (i : Nat) (h : BM k mu X e eb) : BM k (i :: mu) X e (hE i eb) := PT.imp h fun σ H Q ⟨st, t, T, r, sm, tn, e, q⟩ => ⟨_, t, T, r, sm.hide, tn, e, q⟩
/-- the slot's own object is locked -/
theorem SM.lock {B : Bs} {H0 H : Hp} {σ : L2.St} {st : DS} {T : Option Addr} {i : Nat} {a : Addr} {u : HO} {d : Dt} {o : Obj} (s : SM B H0 H σ st (i :: mu) T) (hi : i ∉ mu) (es : st[i]? = some (some d)) (eσ : σ[i]? = some (some (.ref a))) (hu : H a = some u) (m : MtR B H a u d) :
    SM B H0 (upd H a (.frz o u)) σ st mu T := by
  have pr : Pers H (upd H a (.frz o u)) := ⟨fun b ys z => by rw [upd_ne (ne_of z hu (fun q => m.lk.ntup _ q.symm))]; exact z, fun b o' w z => by rw [upd_ne (ne_of z hu (fun q => m.lk.nfrz _ _ q.symm))]; exact z⟩
  refine ⟨s.len, fun j d' h e => ?_, fun j d' h e => ?_, fun x y dx dy c hx hy => s.ap x y dx dy c (by simp [hx]) (by simp [hy])⟩
  · by_cases hj : j = i
    · subst hj
      rw [es] at e; cases e
      exact ⟨_, eσ, (m.pers pr).pd upd_same⟩
    · obtain ⟨v, e1, q⟩ := s.pd j d' (by simp [hj, h]) e
      exact ⟨v, e1, q.pers pr⟩
  · obtain ⟨b, w, e1, e2, q, n, hT⟩ := s.mt j d' (by simp [h]) e
    have hba : b ≠ a := fun z => by
      subst z
      have := s.ap i j d d' b (by simp) (by simp [h]) es e eσ e1
      subst this
      exact hi h
    exact ⟨b, w, e1, by rw [upd_ne hba]; exact e2, q.pers pr, n, hT⟩
/-- locking and unlocking around -/
theorem around {B : Bs} {H H' : Hp} {T : Option Addr} {a : Addr} {u : HO} {o : Obj} (l : Lk u) (hu : H a = some u) (x : Ext T (upd H a (.frz o u)) H') : H' a = some (.frz o u) ∧ Ext T H (upd H' a u) ∧ PersT H' (upd H' a u) := by
  have e1 := x.frz a o u upd_same
  refine ⟨e1, ⟨⟨fun b ys z => ?_, fun b o' w z => ?_⟩, fun b w z hT => ?_⟩, ⟨fun b ys z => ?_, fun b o' ys z => ?_⟩⟩
  · have n : b ≠ a := ne_of z hu (fun q => l.ntup _ q.symm)
    rw [upd_ne n]; exact x.tup b ys (by rw [upd_ne n]; exact z)
  · have n : b ≠ a := ne_of z hu (fun q => l.nfrz _ _ q.symm)
    rw [upd_ne n]; exact x.frz b o' w (by rw [upd_ne n]; exact z)
  · by_cases n : b = a
    · subst n; rw [upd_same, ← z, hu]
    · rw [upd_ne n]; exact x.keep b w (by rw [upd_ne n]; exact z) hT
  · rw [upd_ne (ne_of z e1 (by simp))]; exact z
  · rw [upd_ne (ne_of z e1 (fun q => by cases l <;> simp at q))]; exact z
theorem TN.upd {k : Option Nat} {σ : L2.St} {H : Hp} {T : Option Addr} {t : Ti} {a : Addr} {u : HO} (h : TN k σ H T t) (hT : some a ≠ T) : TN k σ (upd H a u) T t := by
  cases k with
  | none => exact h
  | some l =>
    obtain ⟨b, f1, f2, f3⟩ := h
    exact ⟨b, f1, f2, by rw [upd_ne (fun z => hT (by rw [f1, z]))]; exact f3⟩
theorem unbound {B : Bs} {H0 H : Hp} {σ : L2.St} {st : DS} {T : Option Addr} {i : Nat} (s : SM B H0 H σ st (i :: mu) T) (h : ∀ d, st[i]? ≠ some (some d)) : SM B H0 H σ st mu T := ⟨s.len, fun j d hj e => s.pd j d (by
    simp only [List.mem_cons, not_or]
    exact ⟨fun z => by subst z; exact h d e, hj⟩) e, fun j d hj e => s.mt j d (by simp [hj]) e, fun x y dx dy c hx hy => s.ap x y dx dy c (by simp [hx]) (by simp [hy])⟩
theorem pers_L {H' : Hp} {a : Addr} {o : Obj} {xs : List V} (e1 : H' a = some (.frz o (.lst xs))) (f : PersT H' (upd H' a (.lst xs))) : PersL H' (upd H' a (.lst xs)) := ⟨f, fun b o' φ z => by
  rw [upd_ne (fun y => by subst y; rw [e1] at z; cases z)]; exact z⟩
theorem pers_K {H' : Hp} {a : Addr} {o : Obj} {φ : Heap → Prop} (e1 : H' a = some (.frz o (.ext φ))) (f : PersT H' (upd H' a (.ext φ))) : PersK H' (upd H' a (.ext φ)) := ⟨f, fun b o' xs z => by
  rw [upd_ne (fun y => by subst y; rw [e1] at z; cases z)]; exact z⟩
theorem ok_pd {B : Bs} {H H1 : Hp} {a : Addr} {u : HO} {o : Obj} {d r : Dt} {st : DS} {i : Nat} {v : V} (m : MtR B H a u d) (es : st[i]? = some (some d)) (f1 : H1 a = some (.frz o u)) (f3 : PersT H1 (upd H1 a u)) (hl : okE st[i]? r = true) (p : Pd B H1 v r) : Pd B (upd H1 a u) v r := by
  rw [es] at hl
  cases m with
  | lst _ => exact p.nolT (pers_L f1 f3) hl
  | dct _ => exact p.nodT (pers_K f1 f3) hl
theorem ok_pda {B : Bs} {H H1 : Hp} {a : Addr} {u : HO} {o : Obj} {d : Dt} {r : List Dt} {st : DS} {i : Nat} {v : List V} (m : MtR B H a u d) (es : st[i]? = some (some d)) (f1 : H1 a = some (.frz o u)) (f3 : PersT H1 (upd H1 a u)) (hl : okN st[i]? r = true) (p : PdA B H1 v r) : PdA B (upd H1 a u) v r := by
  rw [es] at hl
  cases m with
  | lst _ => exact p.nolT (pers_L f1 f3) hl
  | dct _ => exact p.nodT (pers_K f1 f3) hl
theorem em_b (i : Nat) (hi : i ∉ mu) (h : EM k mu X e ev) : EM k (i :: mu) X e (lE i ev) := ⟨fun pins s σ H Q I ⟨st, t, T, r, sm, tn, e, q⟩ => by
  obtain ⟨r', e1, e⟩ := Option.bind_eq_some_iff.mp e
  by_cases hl : okE st[i]? r'.1 = true
  case neg => rw [if_neg hl] at e; cases e
  rw [if_pos hl] at e
  have er := Option.some.inj e
  subst er
  by_cases hb : ∃ d, st[i]? = some (some d)
  · obtain ⟨d, es⟩ := hb
    obtain ⟨a, u, eσ, hu, m, h0, hT⟩ := sm.mt i d (by simp) es
    obtain ⟨o, I1⟩ := Inv.lock m.lk I hu
    have sm1 : SM (bs X) X.H_0 (upd H a (.frz o u)) σ st mu T := sm.lock hi es eσ hu m
    refine thn (h.run pins s σ _ (fun v H' => Ext T (upd H a (.frz o u)) H' ∧ TN k σ H' T r'.2 ∧ Pd (bs X) H' v r'.1) I1 ⟨st, t, T, r', sm1, tn.upd hT, e1, fun v H' x n p => ⟨x, n, p⟩⟩) ?_
    rintro w s1 ⟨v, H1, I2, rv, x, n, p⟩
    obtain ⟨f1, f2, f3⟩ := around (B := bs X) m.lk hu x
    exact ⟨v, _, Inv.unlock m.lk I2 f1 h0, rv, q v _ f2 (n.upd hT) (ok_pd m es f1 f3 hl p)⟩
  · exact h.run pins s σ H Q I ⟨st, t, T, r', unbound sm (fun d z => hb ⟨d, z⟩), tn, e1, q⟩⟩
theorem nm_b (i : Nat) (hi : i ∉ mu) (h : NM k mu X e en) : NM k (i :: mu) X e (lN i en) := ⟨fun pins s σ H Q I ⟨st, t, T, r, sm, tn, e, q⟩ => by
  obtain ⟨r', e1, e⟩ := Option.bind_eq_some_iff.mp e
  by_cases hl : okN st[i]? r'.1 = true
  case neg => rw [if_neg hl] at e; cases e
  rw [if_pos hl] at e
  have er := Option.some.inj e
  subst er
  by_cases hb : ∃ d, st[i]? = some (some d)
  · obtain ⟨d, es⟩ := hb
    obtain ⟨a, u, eσ, hu, m, h0, hT⟩ := sm.mt i d (by simp) es
    obtain ⟨o, I1⟩ := Inv.lock m.lk I hu
    have sm1 : SM (bs X) X.H_0 (upd H a (.frz o u)) σ st mu T := sm.lock hi es eσ hu m
    refine thn (h.run pins s σ _ (fun v H' => ∃ p xs, v = .ref p ∧ Ext T (upd H a (.frz o u)) H' ∧ (upd H a (.frz o u)) p = none ∧ TN k σ H' T r'.2 ∧ H' p = some (.lst xs) ∧ PdA (bs X) H' xs r'.1) I1 ⟨st, t, T, r', sm1, tn.upd hT, e1, fun p xs H' x z n hp pa => ⟨p, xs, rfl, x, z, n, hp, pa⟩⟩) ?_
    rintro w s1 ⟨v, H1, I2, rv, p, xs, rfl, x, z, n, hp, pa⟩
    obtain ⟨f1, f2, f3⟩ := around (B := bs X) m.lk hu x
    have hpa : p ≠ a := fun y => by subst y; rw [upd_same] at z; cases z
    rw [upd_ne hpa] at z
    exact ⟨.ref p, _, Inv.unlock m.lk I2 f1 h0, rv, q p xs _ f2 z (n.upd hT) (by rw [upd_ne hpa]; exact hp) (ok_pda m es f1 f3 hl pa)⟩
  · exact h.run pins s σ H Q I ⟨st, t, T, r', unbound sm (fun d z => hb ⟨d, z⟩), tn, e1, q⟩⟩
theorem bm_b (i : Nat) (hi : i ∉ mu) (h : BM k mu X e eb) : BM k (i :: mu) X e eb := ⟨fun pins s σ H Q I ⟨st, t, T, r, sm, tn, e, q⟩ => by
  by_cases hb : ∃ d, st[i]? = some (some d)
  · obtain ⟨d, es⟩ := hb
    obtain ⟨a, u, eσ, hu, m, h0, hT⟩ := sm.mt i d (by simp) es
    obtain ⟨o, I1⟩ := Inv.lock m.lk I hu
    have sm1 : SM (bs X) X.H_0 (upd H a (.frz o u)) σ st mu T := sm.lock hi es eσ hu m
    refine thn (h.run pins s σ _ (fun c H' => c = r.1 ∧ Ext T (upd H a (.frz o u)) H' ∧ TN k σ H' T r.2) I1 ⟨st, t, T, r, sm1, tn.upd hT, e, fun H' x n => ⟨rfl, x, n⟩⟩) ?_
    rintro w s1 ⟨H1, I2, rfl, x, n⟩
    obtain ⟨f1, f2, f3⟩ := around (B := bs X) m.lk hu x
    exact ⟨_, Inv.unlock m.lk I2 f1 h0, q _ f2 (n.upd hT)⟩
  · exact h.run pins s σ H Q I ⟨st, t, T, r, unbound sm (fun d z => hb ⟨d, z⟩), tn, e, q⟩⟩
end
/-! ### statements -/
def RetOk (X : Cx) (rn : Bool) (v : V) (H : Hp) (d : Dt) : Prop := match rn with
  | false => Pd (bs X) H v d
  | true => ∃ p xs ds, v = .ref p ∧ X.H_0 p = none ∧ H p = some (.lst xs) ∧ PdA (bs X) H xs ds ∧ d = .list ds
def TH (H : Hp) (T : Option Addr) (t : Ti) : Prop := ∀ a, T = some a → H a = some (.lst (t.map V.int))
theorem TN.th {k : Option Nat} {σ : L2.St} {H : Hp} {T : Option Addr} {t : Ti} (h : TN k σ H T t) : TH H T t := fun a e => by
  cases k with
  | none => rw [h.1] at e; cases e
  | some l =>
    obtain ⟨b, f1, f2, f3⟩ := h
    rw [f1] at e; cases e
    exact f3
/-- what stands behind -/
def Nx (k : Option Nat) (mu : List Nat) (X : Cx) (T : Option Addr) (Hs : Hp) (st : DS) (t : Ti) (R : L2.St → Hp → Prop) : Prop := ∀ σ' H', SM (bs X) X.H_0 H' σ' st mu T → TN k σ' H' T t → Ext T X.H_0 H' → Pers Hs H' → R σ' H'
def KO (k : Option Nat) (mu : List Nat) (rn : Bool) (X : Cx) (T : Option Addr) (Hs : Hp) (D : Ends) : Out → Prop
  | .nx st t => Nx k mu X T Hs st t D.nx
  | .bk st t => Nx k mu X T Hs st t D.bk
  | .ct st t => Nx k mu X T Hs st t D.ct
  | .rt d t => ∀ v H', RetOk X rn v H' d → TH H' T t → Ext T X.H_0 H' → D.rt v H'
def tS (k : Option Nat) (mu : List Nat) (rn : Bool) (X : Cx) (ex : Ex) : TS := fun D σ H => ∃ st t T o, SM (bs X) X.H_0 H σ st mu T ∧ TN k σ H T t ∧ Ext T X.H_0 H ∧ ex st t = some o ∧ KO k mu rn X T H D o
theorem KO.later {k : Option Nat} {mu : List Nat} {rn : Bool} {X : Cx} {T : Option Addr} {H H' : Hp} {D : Ends} {o : Out} (q : KO k mu rn X T H D o) (p : Pers H H') : KO k mu rn X T H' D o := by
  cases o with
  | nx st t => exact fun σ' H2 a b c d => q σ' H2 a b c (p.trans d)
  | bk st t => exact fun σ' H2 a b c d => q σ' H2 a b c (p.trans d)
  | ct st t => exact fun σ' H2 a b c d => q σ' H2 a b c (p.trans d)
  | rt d t => exact q
abbrev ZX (k : Option Nat) (mu : List Nat) (rn : Bool) (X : Cx) (s : Stmt) (ex : Ex) : Prop := PS X s (tS k mu rn X ex)
abbrev ZXs (k : Option Nat) (mu : List Nat) (rn : Bool) (X : Cx) (s : List Stmt) (ex : Ex) : Prop := PSs X s (tS k mu rn X ex)
def zNil : Ex := fun st t => some (.nx st t)
def zSeq (a b : Ex) : Ex := fun st t => (a st t).bind fun o => match o with
  | .nx st' t' => b st' t'
  | o => some o
def zNo : Ex := fun _ _ => none
section
variable {X : Cx} {k : Option Nat} {mu : List Nat} {rn : Bool} {s : Stmt} {ss body : List Stmt} {a b : Ex} {e c tg iter : Expr} {ev : Ev} {en : EvN} {eb : EvB} {pos : Pos} {x y : Str} {i j : Nat}
theorem zs_nil : ZXs k mu rn X [] zNil := PSs.imp pss_nil fun D σ H ⟨st, t, T, o, sm, tn, x, e, q⟩ => by
  cases e
  exact q σ H sm tn x .refl
theorem zs_cons (h1 : ZX k mu rn X s a) (h2 : ZXs k mu rn X ss b) : ZXs k mu rn X (s :: ss) (zSeq a b) := PSs.imp (pss_cons h1 h2) fun D σ H ⟨st, t, T, o, sm, tn, x, e, q⟩ => by
  obtain ⟨o1, e1, e⟩ := Option.bind_eq_some_iff.mp e
  refine ⟨st, t, T, o1, sm, tn, x, e1, ?_⟩
  cases o1 with
  | nx st' t' => exact fun σ' H' sm' tn' x' p => ⟨st', t', T, o, sm', tn', x', e, q.later p⟩
  | rt d t' => cases e; exact q
  | bk st' t' => cases e; exact q
  | ct st' t' => cases e; exact q
theorem zs_one (h1 : ZX k mu rn X s a) : ZXs k mu rn X [s] a := pss_one h1
theorem z_no : ZX k mu rn X s zNo := PS.imp ps_never fun D σ H ⟨st, t, T, o, sm, tn, x, e, q⟩ => by cases e
theorem zs_no : ZXs k mu rn X ss zNo := PSs.imp pss_never fun D σ H ⟨st, t, T, o, sm, tn, x, e, q⟩ => by cases e
def zBk : Ex := fun st t => some (.bk st t)
def zCt : Ex := fun st t => some (.ct st t)
theorem z_bk : ZX k mu rn X (.Break pos) zBk := PS.imp ps_break fun D σ H ⟨st, t, T, o, sm, tn, x, e, q⟩ => by cases e; exact q σ H sm tn x .refl
theorem z_ct : ZX k mu rn X (.Continue pos) zCt := PS.imp ps_continue fun D σ H ⟨st, t, T, o, sm, tn, x, e, q⟩ => by cases e; exact q σ H sm tn x .refl
theorem z_doc {x j p q} : ZX k mu rn X (.Expr (.Constant (.str x) j p) q) zNil := PS.imp ps_doc fun D σ H ⟨st, t, T, o, sm, tn, x, e, q⟩ => by cases e; exact q σ H sm tn x .refl
theorem z_pass : ZX k mu rn X (.Pass pos) zNil := PS.imp ps_pass fun D σ H ⟨st, t, T, o, sm, tn, x, e, q⟩ => by cases e; exact q σ H sm tn x .refl
/-! returns -/
def zRt (ev : Ev) : Ex := fun st t => (ev st t).map fun r => .rt r.1 r.2
def zRtN (en : EvN) : Ex := fun st t => (en st t).map fun r => .rt (.list r.1) r.2
theorem z_rt (h : EM k mu X e ev) : ZX k mu false X (.Return (some e) pos) (zRt ev) := PS.imp (ps_ret h) fun D σ H ⟨st, t, T, o, sm, tn, x, e, q⟩ => by
  obtain ⟨r, e1, e⟩ := Option.map_eq_some_iff.mp e
  subst e
  exact ⟨st, t, T, r, sm, tn, e1, fun v H' x' n p => q v H' p n.th (x.trans x')⟩
theorem H0_new {T : Option Addr} {σ : L2.St} {H : Hp} {t : Ti} {p : Addr} (x : Ext T X.H_0 H) (n : TN k σ H T t) (hp : H p = none) : X.H_0 p = none := by
  cases z : X.H_0 p with
  | none => rfl
  | some o =>
    have := x.keep p o z (n.T0 p hp)
    rw [hp] at this; cases this
theorem z_rtN (h : NM k mu X e en) : ZX k mu true X (.Return (some e) pos) (zRtN en) := PS.imp (ps_ret h) fun D σ H ⟨st, t, T, o, sm, tn, x, e, q⟩ => by
  obtain ⟨r, e1, e⟩ := Option.map_eq_some_iff.mp e
  subst e
  exact ⟨st, t, T, r, sm, tn, e1, fun p xs H' x' hp n h' pa => q (.ref p) H' ⟨p, xs, r.1, rfl, H0_new x tn hp, h', pa, rfl⟩ n.th (x.trans x')⟩
def zRtM (i : Nat) : Ex := fun st t => (st[i]?).bind fun o => o.bind fun d => match d with
  | .list ds => some (.rt (.list ds) t)
  | _ => none
theorem z_rtM (i : Nat) {p : Pos} (hi : (mu.contains i) = true) (hN : X.N[i]? = some x := by rfl) (hv : Vis X.env.scope x := by first | exact Or.inl rfl | exact Or.inr (Or.inl rfl) | exact Or.inr (Or.inr rfl)) (hd : (x == ("__debug__" : Str)) = false := by decide) (hcd : (x == ("__classdict__" : Str)) = false := by decide) :
    ZX k mu true X (.Return (some (.Name x p)) pos) (zRtM i) := PS.imp (ps_ret (pe_var hN hv hd hcd)) fun D σ H ⟨st, t, T, o, sm, tn, x, e, q⟩ => by
  obtain ⟨oo, e1, e⟩ := Option.bind_eq_some_iff.mp e
  obtain ⟨d, e2, e⟩ := Option.bind_eq_some_iff.mp e
  subst e2
  obtain ⟨a, u, f1, f2, m, f3, f4⟩ := sm.mt i d (by simpa using hi) e1
  cases m with
  | lst pa => cases e; exact ⟨_, f1, q _ H ⟨a, _, _, rfl, f3, f2, pa, rfl⟩ tn.th x⟩
  | dct pa => cases e
/-! if -/
def zIf (c : EvB) (a b : Ex) : Ex := fun st t => (c st t).bind fun r => if r.1 = true then a st r.2 else b st r.2
theorem z_if {sa sb : List Stmt} (hc : BM k mu X c eb) (ha : ZXs k mu rn X sa a) (hb : ZXs k mu rn X sb b) : ZX k mu rn X (.If c sa sb pos) (zIf eb a b) := PS.imp (ps_if hc ha hb) fun D σ H ⟨st, t, T, o, sm, tn, x, e, q⟩ => by
  obtain ⟨r, e1, e⟩ := Option.bind_eq_some_iff.mp e
  refine ⟨st, t, T, r, sm, tn, e1, fun H' x' n => ?_⟩
  by_cases h : r.1 = true
  · rw [if_pos h] at e ⊢; exact ⟨st, r.2, T, o, sm.ext x', n, x.trans x', e, q.later x'.toPers⟩
  · rw [if_neg h] at e ⊢; exact ⟨st, r.2, T, o, sm.ext x', n, x.trans x', e, q.later x'.toPers⟩
/-! storing a datum in a slot -/
def kNe (k : Option Nat) (i : Nat) : Bool := match k with
  | none => true
  | some l => !(l == i)
theorem SM.set {B : Bs} {H0 H : Hp} {σ : L2.St} {st : DS} {T : Option Addr} (s : SM B H0 H σ st mu T) (hi : i ∉ mu) {v : V} {d : Dt} (p : Pd B H v d) : SM B H0 H (σ.set i (some v)) (st.set i (some d)) mu T := by
  have get : ∀ (j : Nat) d', j ≠ i → (st.set i (some d))[j]? = some (some d') → st[j]? = some (some d') := fun j d' h e => by rwa [List.getElem?_set_ne (Ne.symm h)] at e
  have nmem : ∀ j, j ∈ mu → j ≠ i := fun j h z => hi (z ▸ h)
  refine ⟨by rw [List.length_set, List.length_set]; exact s.len, fun j d' h e => ?_, fun j d' h e => ?_, fun a b da db c ha hb ea eb fa fb => ?_⟩
  · by_cases hj : i = j
    · subst hj
      have hl : i < st.length := by
        have := (List.getElem?_eq_some_iff.mp e).1
        rwa [List.length_set] at this
      rw [List.getElem?_set_self hl] at e
      cases e
      exact ⟨v, by rw [List.getElem?_set_self (by rw [← s.len]; exact hl)], p⟩
    · rw [List.getElem?_set_ne hj]
      exact s.pd j d' h (get j d' (Ne.symm hj) e)
  · rw [List.getElem?_set_ne (Ne.symm (nmem j h))]
    exact s.mt j d' h (get j d' (nmem j h) e)
  · rw [List.getElem?_set_ne (Ne.symm (nmem a ha))] at fa
    rw [List.getElem?_set_ne (Ne.symm (nmem b hb))] at fb
    exact s.ap a b da db c ha hb (get a da (nmem a ha) ea) (get b db (nmem b hb) eb) fa fb
theorem TN.set {σ : L2.St} {H : Hp} {T : Option Addr} {t : Ti} {o : Option V} (h : TN k σ H T t) (hk : kNe k i = true) : TN k (σ.set i o) H T t := by
  cases k with
  | none => exact h
  | some l =>
    obtain ⟨b, f1, f2, f3⟩ := h
    refine ⟨b, f1, ?_, f3⟩
    have hn : l ≠ i := by simpa [kNe] using hk
    rw [List.getElem?_set_ne (Ne.symm hn)]; exact f2
def zSet (i : Nat) (ev : Ev) : Ex := fun st t => (ev st t).map fun r => .nx (st.set i (some r.1)) r.2
theorem z_set (i : Nat) (hN : X.N.Nodup) (he : EM k mu X e ev) (hm : (mu.contains i) = false := by rfl) (hk : kNe k i = true := by rfl) {pos' : Pos} (hi : X.N[i]? = some x := by rfl) (hx : Loc X.env.scope x := by first | exact Or.inl rfl | exact Or.inr rfl)
    (hs : swapsWith e (some (.Name x pos')) pos.line X.env = pure false := by rfl) (hf : X.fn x = true ∨ X.env.scope.names.lookup x = some .local := by first | exact .inl rfl | exact .inr rfl | assumption) : ZX k mu rn X (.Assign [.Name x pos'] e pos) (zSet i ev) :=
  PS.imp (ps_set hN hi hx he hs hf) fun D σ H ⟨st, t, T, o, sm, tn, x, e, q⟩ => by
  obtain ⟨r, e1, e⟩ := Option.map_eq_some_iff.mp e
  subst e
  exact ⟨st, t, T, r, sm, tn, e1, fun v H' x' n p => q _ _ ((sm.ext x').set (by simpa using hm) p) (n.set hk) (x.trans x') x'.toPers⟩
/-- .. a new list in a slot of mu -/
theorem SM.setM {B : Bs} {H0 H : Hp} {σ : L2.St} {st : DS} {T : Option Addr} (s : SM B H0 H σ st mu T) (hi : i ∈ mu) {p : Addr} {u : HO} {d : Dt} (hu : H p = some u) (m : MtR B H p u d) (h0 : H0 p = none) (hT : some p ≠ T)
    (new : ∀ (j : Nat), j ∈ mu → j ≠ i → ∀ d', st[j]? = some (some d') → σ[j]? ≠ some (some (.ref p))) : SM B H0 H (σ.set i (some (.ref p))) (st.set i (some d)) mu T := by
  have get : ∀ (j : Nat) d', j ≠ i → (st.set i (some d))[j]? = some (some d') → st[j]? = some (some d') := fun j d' h e => by rwa [List.getElem?_set_ne (Ne.symm h)] at e
  have self : ∀ d', (st.set i (some d))[i]? = some (some d') → d' = d ∧ (σ.set i (some (.ref p)))[i]? = some (some (.ref p)) := fun d' e => by
    have hl : i < st.length := by
      have := (List.getElem?_eq_some_iff.mp e).1
      rwa [List.length_set] at this
    rw [List.getElem?_set_self hl] at e
    cases e
    exact ⟨rfl, by rw [List.getElem?_set_self (by rw [← s.len]; exact hl)]⟩
  refine ⟨by rw [List.length_set, List.length_set]; exact s.len, fun j d' h e => ?_, fun j d' h e => ?_, fun a b da db c ha hb ea eb fa fb => ?_⟩
  · have hj : j ≠ i := fun z => h (z ▸ hi)
    rw [List.getElem?_set_ne (Ne.symm hj)]
    exact s.pd j d' h (get j d' hj e)
  · by_cases hj : j = i
    · subst hj
      obtain ⟨rfl, e2⟩ := self d' e
      exact ⟨p, u, e2, hu, m, h0, hT⟩
    · rw [List.getElem?_set_ne (Ne.symm hj)]
      exact s.mt j d' h (get j d' hj e)
  · by_cases h1 : a = i
    · subst h1
      by_cases h2 : b = a
      · exact h2.symm
      · rw [(self da ea).2] at fa
        cases fa
        rw [List.getElem?_set_ne (Ne.symm h2)] at fb
        exact absurd fb (new b hb h2 db (get b db h2 eb))
    · by_cases h2 : b = i
      · subst h2
        rw [(self db eb).2] at fb
        cases fb
        rw [List.getElem?_set_ne (Ne.symm h1)] at fa
        exact absurd fa (new a ha h1 da (get a da h1 ea))
      · rw [List.getElem?_set_ne (Ne.symm h1)] at fa
        rw [List.getElem?_set_ne (Ne.symm h2)] at fb
        exact s.ap a b da db c ha hb (get a da h1 ea) (get b db h2 eb) fa fb
/-- no slot of mu holds what is new -/
theorem SM.new {B : Bs} {H0 H : Hp} {σ : L2.St} {st : DS} {T : Option Addr} (s : SM B H0 H σ st mu T) {p : Addr} (hp : H p = none) : ∀ (j : Nat), j ∈ mu → ∀ d', st[j]? = some (some d') → σ[j]? ≠ some (some (.ref p)) := fun j hj d' e z => by
  obtain ⟨a, u, f1, f2, _⟩ := s.mt j d' hj e
  rw [f1] at z; cases z
  rw [hp] at f2; cases f2
def zSetN (i : Nat) (en : EvN) : Ex := fun st t => (en st t).map fun r => .nx (st.set i (some (.list r.1))) r.2
theorem z_setN (i : Nat) (hN : X.N.Nodup) (he : NM k mu X e en) (hm : (mu.contains i) = true := by rfl) (hk : kNe k i = true := by rfl) {pos' : Pos} (hi : X.N[i]? = some x := by rfl) (hx : Loc X.env.scope x := by first | exact Or.inl rfl | exact Or.inr rfl)
    (hs : swapsWith e (some (.Name x pos')) pos.line X.env = pure false := by rfl) (hf : X.fn x = true ∨ X.env.scope.names.lookup x = some .local := by first | exact .inl rfl | exact .inr rfl | assumption) : ZX k mu rn X (.Assign [.Name x pos'] e pos) (zSetN i en) :=
  PS.imp (ps_set hN hi hx he hs hf) fun D σ H ⟨st, t, T, o, sm, tn, x, e, q⟩ => by
  obtain ⟨r, e1, e⟩ := Option.map_eq_some_iff.mp e
  subst e
  refine ⟨st, t, T, r, sm, tn, e1, fun p xs H' x' hp n h' pa => ?_⟩
  have h0 := H0_new x tn hp
  exact q _ _ ((sm.ext x').setM (by simpa using hm) h' (.lst pa) h0 (tn.T0 p hp) fun j hj _ d' e => sm.new hp j hj d' e) (n.set hk) (x.trans x') x'.toPers
/-! while -/
def whileN (c : EvB) (b : Ex) : Nat → Ex
  | 0, _, _ => none
  | n + 1, st, t => (c st t).bind fun r => if r.1 = true then (b st r.2).bind fun o => (match o with
      | .nx st' t' => whileN c b n st' t'
      | .ct st' t' => whileN c b n st' t'
      | .bk st' t' => some (.nx st' t')
      | .rt d t' => some (.rt d t')) else some (.nx st r.2)
open Classical in
noncomputable def zWh (c : EvB) (b : Ex) : Ex := fun st t => if h : ∃ n o, whileN c b n st t = some o then whileN c b (Classical.choose h) st t else none
theorem whileN_mono {c : EvB} {b : Ex} : ∀ {n m : Nat} {st : DS} {t : Ti} {o : Out}, n ≤ m → whileN c b n st t = some o → whileN c b m st t = some o
  | 0, _, _, _, _, _, h => by cases h
  | n + 1, 0, _, _, _, hm, _ => absurd hm (by omega)
  | n + 1, m + 1, st, t, o, hm, h => by
    rw [whileN] at h ⊢
    obtain ⟨r, e1, h⟩ := Option.bind_eq_some_iff.mp h
    rw [e1]
    rw [Option.bind_some]
    by_cases hr : r.1 = true
    · rw [if_pos hr] at h ⊢
      obtain ⟨o1, e2, h⟩ := Option.bind_eq_some_iff.mp h
      rw [e2, Option.bind_some]
      cases o1 with
      | nx st' t' => exact whileN_mono (by omega) h
      | ct st' t' => exact whileN_mono (by omega) h
      | bk st' t' => exact h
      | rt d t' => exact h
    · rw [if_neg hr] at h ⊢
      exact h
theorem zWh_of {c : EvB} {b : Ex} {n : Nat} {st : DS} {t : Ti} {o : Out} (h : whileN c b n st t = some o) : zWh c b st t = some o := by
  have hx : ∃ n o, whileN c b n st t = some o := ⟨n, o, h⟩
  unfold zWh
  rw [dif_pos hx]
  obtain ⟨o', h'⟩ := Classical.choose_spec hx
  rcases Nat.le_total n (Classical.choose hx) with hl | hl
  · exact whileN_mono hl h
  · rw [h']
    rw [whileN_mono hl h'] at h
    exact h
theorem zWh_some {c : EvB} {b : Ex} {st : DS} {t : Ti} {o : Out} (h : zWh c b st t = some o) : ∃ n, whileN c b n st t = some o := by
  unfold zWh at h
  split at h
  · exact ⟨_, h⟩
  · cases h
/-- the loop, one turn opened -/
theorem zWh_eq (c : EvB) (b : Ex) (st : DS) (t : Ti) : zWh c b st t = (c st t).bind fun r => if r.1 = true then (b st r.2).bind fun o => (match o with
      | .nx st' t' => zWh c b st' t'
      | .ct st' t' => zWh c b st' t'
      | .bk st' t' => some (.nx st' t')
      | .rt d t' => some (.rt d t')) else some (.nx st r.2) := by
  refine Option.ext fun o => ⟨fun h => ?_, fun h => ?_⟩
  · obtain ⟨n, h⟩ := zWh_some h
    cases n with
    | zero => cases h
    | succ n =>
      rw [whileN] at h
      obtain ⟨r, e1, h⟩ := Option.bind_eq_some_iff.mp h
      rw [e1, Option.bind_some]
      by_cases hr : r.1 = true
      · rw [if_pos hr] at h ⊢
        obtain ⟨o1, e2, h⟩ := Option.bind_eq_some_iff.mp h
        rw [e2, Option.bind_some]
        cases o1 with
        | nx st' t' => exact zWh_of h
        | ct st' t' => exact zWh_of h
        | bk st' t' => exact h
        | rt d t' => exact h
      · rw [if_neg hr] at h ⊢
        exact h
  · obtain ⟨r, e1, h⟩ := Option.bind_eq_some_iff.mp h
    by_cases hr : r.1 = true
    · rw [if_pos hr] at h
      obtain ⟨o1, e2, h⟩ := Option.bind_eq_some_iff.mp h
      have go : ∀ {st' t'}, (o1 = .nx st' t' ∨ o1 = .ct st' t') → zWh c b st' t' = some o → zWh c b st t = some o := fun {st' t'} hs h => by
        obtain ⟨n, hn⟩ := zWh_some h
        refine zWh_of (n := n + 1) ?_
        rw [whileN, e1, Option.bind_some, if_pos hr, e2, Option.bind_some]
        rcases hs with rfl | rfl <;> exact hn
      cases o1 with
      | nx st' t' => exact go (.inl rfl) h
      | ct st' t' => exact go (.inr rfl) h
      | bk st' t' =>
        refine zWh_of (n := 1) ?_
        rw [whileN, e1, Option.bind_some, if_pos hr, e2, Option.bind_some]
        exact h
      | rt d t' =>
        refine zWh_of (n := 1) ?_
        rw [whileN, e1, Option.bind_some, if_pos hr, e2, Option.bind_some]
        exact h
    · rw [if_neg hr] at h
      refine zWh_of (n := 1) ?_
      rw [whileN, e1, Option.bind_some, if_neg hr]
      exact h
theorem z_wh (hp : PassesOwn (model X.prog X.w) X.A X.env X.xe) (hc : BM k mu X c eb) (hb : ZXs k mu rn X body b) : ZX k mu rn X (.While c body [] pos) (zWh eb b) := PS.imp (ps_while hp hc hb) fun D σ H ⟨st, t, T, o, sm, tn, x, e, q⟩ => by
  obtain ⟨n, e⟩ := zWh_some e
  refine ⟨fun m σ H2 => ∃ st t, SM (bs X) X.H_0 H2 σ st mu T ∧ TN k σ H2 T t ∧ Ext T X.H_0 H2 ∧ Pers H H2 ∧ whileN eb b m st t = some o, ⟨n, st, t, sm, tn, x, .refl, e⟩, ?_⟩
  rintro m σ H2 ⟨st, t, sm, tn, x, pr, e⟩
  cases m with
  | zero => cases e
  | succ m =>
    rw [whileN] at e
    obtain ⟨r, e1, e⟩ := Option.bind_eq_some_iff.mp e
    refine ⟨st, t, T, r, sm, tn, e1, fun H' x' n => ?_⟩
    by_cases hr : r.1 = true
    · rw [if_pos hr] at e ⊢
      obtain ⟨o1, e2, e⟩ := Option.bind_eq_some_iff.mp e
      refine ⟨fun σ' H' => ∃ st t, SM (bs X) X.H_0 H' σ' st mu T ∧ TN k σ' H' T t ∧ Ext T X.H_0 H' ∧ Pers H H' ∧ whileN eb b m st t = some o, fun σ' H' z => ⟨m, by omega, z⟩, st, r.2, T, o1, sm.ext x', n, x.trans x', e2, ?_⟩
      cases o1 with
      | nx st' t' => exact fun σ' H' sm' tn' x2 p => ⟨st', t', sm', tn', x2, (pr.trans x'.toPers).trans p, e⟩
      | ct st' t' => exact fun σ' H' sm' tn' x2 p => ⟨st', t', sm', tn', x2, (pr.trans x'.toPers).trans p, e⟩
      | bk st' t' => cases e; exact q.later (pr.trans x'.toPers)
      | rt d t' => cases e; exact q
    · rw [if_neg hr] at e ⊢
      cases e
      exact q _ _ (sm.ext x') n (x.trans x') (pr.trans x'.toPers)
/-! for -/
def forD (p : Tg) (b : Ex) : List Dt → Ex
  | [], st, t => some (.nx st t)
  | d :: ds, st, t => (setTg p d st).bind fun st1 => (b st1 t).bind fun o => match o with
      | .nx st' t' => forD p b ds st' t'
      | .ct st' t' => forD p b ds st' t'
      | .bk st' t' => some (.nx st' t')
      | .rt d t' => some (.rt d t')
def zFor (it : EvN) (p : Tg) (b : Ex) : Ex := fun st t => (it st t).bind fun r => forD p b r.1 st r.2
def tEI (k : Option Nat) (mu : List Nat) (X : Cx) (w : Bool) (ev : EvN) : TI := fun σ H R => ∃ st t T r, SM (bs X) X.H_0 H σ st mu T ∧ TN k σ H T t ∧ ev st t = some r ∧
  ∀ J H', Ext T H H' → TN k σ H' T r.2 → ItOk (bs X) H' w J r.1 → R J H'
abbrev IM (k : Option Nat) (mu : List Nat) (X : Cx) (w : Bool) (tg e : Expr) (ev : EvN) : Prop := PI X tg e (tEI k mu X w ev)
theorem im0 {w : Bool} (h : IX k X w tg e en) : IM k [] X w tg e en := HL.PI.imp h fun σ H Q ⟨st, t, T, r, sm, tn, e, q⟩ => ⟨st, t, T, r, sm.sd, tn, e, q⟩
theorem im_h {w : Bool} (i : Nat) (h : IM k mu X w tg e en) : IM k (i :: mu) X w tg e (hE i en) := HL.PI.imp h fun σ H Q ⟨st, t, T, r, sm, tn, e, q⟩ => ⟨_, t, T, r, sm.hide, tn, e, q⟩
/-- a target within statements -/
def tGM (X : Cx) (mu : List Nat) (w : Bool) (p : Tg) : TG := fun v σ H Q => ∃ st d st' T, SM (bs X) X.H_0 H σ st mu T ∧ Pf (bs X) H w v d ∧ setTg p d st = some st' ∧ ∀ σ', Chg p.slots σ σ' → SM (bs X) X.H_0 H σ' st' mu T → Q σ' H
def tGMs (X : Cx) (mu : List Nat) (l : List Tg) : TGs := fun vs σ H Q => ∃ st ds st' T, SM (bs X) X.H_0 H σ st mu T ∧ PdA (bs X) H vs ds ∧ setTgs l ds st = some st' ∧ ∀ σ', Chg (slotsA l) σ σ' → SM (bs X) X.H_0 H σ' st' mu T → Q σ' H
abbrev GM (X : Cx) (mu : List Nat) (w : Bool) (tg : Expr) (p : Tg) : Prop := PG X tg (tGM X mu w p)
abbrev GMs (X : Cx) (mu : List Nat) (tg : List Expr) (p : List Tg) : Prop := PGs X tg (tGMs X mu p)
theorem gm_n (i : Nat) (hN : X.N.Nodup) (hm : (mu.contains i) = false := by rfl) (hi : X.N[i]? = some x := by rfl) (hx : Loc X.env.scope x := by first | exact Or.inl rfl | exact Or.inr rfl) (hf : X.fn x = true ∨ X.env.scope.names.lookup x = some .local := by first | exact .inl rfl | exact .inr rfl | assumption) : GM X mu false (.Name x pos) (.nm i) :=
  HL.PG.imp (pg_name hN hi hx hf) fun v σ H Q ⟨st, d, st', T, sd, p, e, q⟩ => by
  cases e
  refine q _ ⟨List.length_set, fun j hj => ?_⟩ (sd.set (by simpa using hm) p)
  rw [List.getElem?_set_ne (fun z => hj (by subst z; simp [Tg.slots]))]
theorem gms_nil : GMs X mu [] [] := HL.PGs.imp pgs_nil fun vs σ H Q ⟨st, ds, st', T, sd, p, e, q⟩ => by
  cases ds with
  | nil => cases p; cases e; exact ⟨rfl, q σ ⟨rfl, fun _ _ => rfl⟩ sd⟩
  | cons d ds => simp [setTgs] at e
theorem gms_cons {p : Tg} {l : List Tg} {es : List Expr} (h : GM X mu false e p) (hr : GMs X mu es l) (hs : (assignEach (e :: es) X.env).map (·.2) = assign e X.env :: (assignEach es X.env).map (·.2) := by rfl) : GMs X mu (e :: es) (p :: l) :=
  HL.PGs.imp (pgs_cons h hr hs) fun vs σ H Q ⟨st, ds, st', T, sd, pa, e, q⟩ => by
  cases ds with
  | nil => simp [setTgs] at e
  | cons d ds =>
    cases pa with
    | cons a b =>
      rw [setTgs] at e
      obtain ⟨st1, e1, e2⟩ := Option.bind_eq_some_iff.mp e
      exact ⟨_, _, rfl, st, d, st1, T, sd, a, e1, fun σ1 c1 sd1 => ⟨st1, ds, st', T, sd1, b, e2, fun σ2 c2 sd2 => q σ2 (c1.trans c2) sd2⟩⟩
theorem gm_t {w : Bool} {l : List Tg} {q : Nat} {n : Nat} {es : List Expr} (hc : X.calm = true) (h : GMs X mu es l) (hl : l.length = n := by rfl) (hn : (assignEach es X.env).length = n := by rfl) (hst : (assignEach es X.env).findIdx? (·.1) = none := by rfl) : GM X mu w (.Tuple es q pos) (.tp l) :=
  HL.PG.imp (pg_tup hc h hn hst) fun v σ H Q ⟨st, d, st', T, sd, p, e, q⟩ => by
  cases d with
  | tuple ds =>
    obtain ⟨a, xs, rfl, hq, pa⟩ := p.tupI
    rw [setTg] at e
    exact ⟨a, xs, rfl, hq, by rw [pa.length, setTgs_len e]; exact hl, st, ds, st', T, sd, pa, e, q⟩
  | _ => simp [setTg] at e
theorem z_for {w : Bool} {p : Tg} (hp : PassesOwn (model X.prog X.w) X.A X.env X.xe) (hc : X.calm = true) (hi : IM k mu X w tg iter en) (hg : GM X mu w tg p) (hb : ZXs k mu rn X body b) (hk : kOk k p.slots = true := by rfl) (hs : ∀ x, foldedSetIterable iter X.env x = pure x := by intro _; rfl) :
    ZX k mu rn X (.For tg iter body [] pos) (zFor en p b) := PS.imp (ps_for hp hc hi hg hb hs) fun D σ H ⟨st, t, T, o, sm, tn, x, e, q⟩ => by
  obtain ⟨⟨ds, t1⟩, e1, e⟩ := Option.bind_eq_some_iff.mp e
  refine ⟨st, t, T, (ds, t1), sm, tn, e1, fun J H1 x1 n1 hJ => ?_⟩
  refine ⟨fun i m σ H => m = ds.length - i ∧ i ≤ ds.length ∧ Pers H1 H ∧ ∃ st t, SM (bs X) X.H_0 H σ st mu T ∧ TN k σ H T t ∧ Ext T X.H_0 H ∧ forD p b (ds.drop i) st t = some o, ⟨ds.length, by simp, Nat.zero_le _, .refl, st, t1, sm.ext x1, n1, x.trans x1, by simpa using e⟩, ?_⟩
  rintro i m σ H2 ⟨rfl, hi, pr, st2, t2, sm2, tn2, x2, e2⟩
  obtain ⟨j1, j2, j3⟩ := hJ i H2 pr
  by_cases hlt : i < ds.length
  · refine .inr ⟨j1 hlt, fun σ' H' => Pers H1 H' ∧ ∃ st t, SM (bs X) X.H_0 H' σ' st mu T ∧ TN k σ' H' T t ∧ Ext T X.H_0 H' ∧ forD p b (ds.drop (i + 1)) st t = some o, fun σ' H' z => ⟨ds.length - (i + 1), by omega, rfl, hlt, z⟩, fun y H3 hy => ?_⟩
    obtain ⟨d, ed, x3, pd⟩ := j3 y H3 hy hlt
    have edrop : ds.drop i = d :: ds.drop (i + 1) := by
      rw [List.drop_eq_getElem_cons hlt]
      have : ds[i] = d := by rw [List.getElem?_eq_getElem hlt] at ed; exact Option.some.inj ed
      rw [this]
    rw [edrop, forD] at e2
    obtain ⟨st3, e3, e2⟩ := Option.bind_eq_some_iff.mp e2
    obtain ⟨o1, e4, e2⟩ := Option.bind_eq_some_iff.mp e2
    refine ⟨st2, d, st3, T, sm2.ext x3.any, pd, e3, fun σ3 c3 sm3 => ⟨st3, t2, T, o1, sm3, (tn2.ext0 x3).chg hk c3.out, x2.trans x3.any, e4, ?_⟩⟩
    -- what stayed so far stays within the turn: by the locked part alone
    have pr3 : Pers H1 H3 := pr.trans x3.toPers
    cases o1 with
    | nx st' t' => exact fun σ' H' sm' tn' x' p => ⟨pr3.trans p, st', t', sm', tn', x', e2⟩
    | ct st' t' => exact fun σ' H' sm' tn' x' p => ⟨pr3.trans p, st', t', sm', tn', x', e2⟩
    | bk st' t' => cases e2; exact q.later (x1.toPers.trans pr3)
    | rt d t' => cases e2; exact q
  · have ei : i = ds.length := Nat.le_antisymm hi (Nat.le_of_not_lt hlt)
    rw [ei, List.drop_length, forD] at e2
    cases e2
    exact .inl ⟨j2 (Nat.le_of_eq ei.symm), q _ _ sm2 tn2 x2 (x1.toPers.trans pr)⟩
end
end HL

/-! HlE: statements that write: methods of own lists, x[i] = e, name op= e, a, b = x, y, a list handed on. -/
namespace HL
open PySem PySem.Spec PyProof.Rows L2
/-! ### an own object is rewritten -/
section
variable {B : Bs} {H0 H : Hp} {σ : L2.St} {st : DS} {mu : List Nat} {T : Option Addr} {k : Option Nat} {t : Ti} {i : Nat} {a : Addr} {u u' : HO} {d d' : Dt}
theorem upd_pers (l : Lk u) (hu : H a = some u) : Pers H (upd H a u') := ⟨fun b ys z => by rw [upd_ne (ne_of z hu (fun q => l.ntup _ q.symm))]; exact z, fun b o' w z => by rw [upd_ne (ne_of z hu (fun q => l.nfrz _ _ q.symm))]; exact z⟩
theorem Ext.updO (x : Ext T H0 H) (h0 : H0 a = none) (l : Lk u) (hu : H a = some u) : Ext T H0 (upd H a u') := ⟨x.toPers.trans (upd_pers l hu), fun b o z hT => by rw [upd_ne (ne_of_none z h0)]; exact x.keep b o z hT⟩
theorem SM.updO (s : SM B H0 H σ st mu T) (hi : i ∈ mu) (es : st[i]? = some (some d)) (eσ : σ[i]? = some (some (.ref a))) (hu : H a = some u) (l : Lk u) (m' : MtR B H a u' d') : SM B H0 (upd H a u') σ (st.set i (some d')) mu T := by
  have pr : Pers H (upd H a u') := upd_pers l hu
  have hl : i < st.length := (List.getElem?_eq_some_iff.mp es).1
  obtain ⟨a', u0, f1, f2, f3, f4, f5⟩ := s.mt i d hi es
  rw [eσ] at f1; cases f1
  refine ⟨by rw [List.length_set]; exact s.len, fun j e h q => ?_, fun j e h q => ?_, fun x y dx dy c hx hy ex ey => ?_⟩
  · have hj : j ≠ i := fun z => h (z ▸ hi)
    rw [List.getElem?_set_ne (Ne.symm hj)] at q
    obtain ⟨v, e1, p⟩ := s.pd j e h q
    exact ⟨v, e1, p.pers pr⟩
  · by_cases hj : i = j
    · subst hj
      rw [List.getElem?_set_self hl] at q
      cases q
      exact ⟨a, u', eσ, upd_same, m'.pers pr, f4, f5⟩
    · rw [List.getElem?_set_ne hj] at q
      obtain ⟨b, w, e1, e2, e3, e4, e5⟩ := s.mt j e h q
      have hba : b ≠ a := fun z => by subst z; exact hj (s.ap i j d e b hi h es q eσ e1)
      exact ⟨b, w, e1, by rw [upd_ne hba]; exact e2, e3.pers pr, e4, e5⟩
  · have old : ∀ (z : Nat) dz, (st.set i (some d'))[z]? = some (some dz) → ∃ dz', st[z]? = some (some dz') := fun z dz q => by
      by_cases hz : i = z
      · subst hz; exact ⟨d, es⟩
      · rw [List.getElem?_set_ne hz] at q; exact ⟨dz, q⟩
    obtain ⟨_, ex⟩ := old x _ ex
    obtain ⟨_, ey⟩ := old y _ ey
    exact s.ap x y _ _ c hx hy ex ey
end
/-! ### expressions that write an own object -/
abbrev EvF := DS → Ti → Option (Dt × DS × Ti)
def tF (k : Option Nat) (mu : List Nat) (X : Cx) (fx : EvF) : TE := fun σ H Q => ∃ st t T r, SM (bs X) X.H_0 H σ st mu T ∧ TN k σ H T t ∧ Ext T X.H_0 H ∧ fx st t = some r ∧
  ∀ v H', SM (bs X) X.H_0 H' σ r.2.1 mu T → TN k σ H' T r.2.2 → Ext T X.H_0 H' → Pers H H' → Pd (bs X) H' v r.1 → Q v H'
abbrev FX (k : Option Nat) (mu : List Nat) (X : Cx) (e : Expr) (fx : EvF) : Prop := PE X e (tF k mu X fx)
/-- what an own list is turned to -/
def fL (i : Nat) (f : List Dt → Option (Dt × List Dt)) (st : DS) (t : Ti) : Option (Dt × DS × Ti) := (st[i]?).bind fun o => o.bind fun d => match d with
  | .list ds => (f ds).map fun r => (r.1, st.set i (some (.list r.2)), t)
  | _ => none
theorem fL_some {i : Nat} {f : List Dt → Option (Dt × List Dt)} {st : DS} {t : Ti} {r : Dt × DS × Ti} (h : fL i f st t = some r) : ∃ ds q, st[i]? = some (some (.list ds)) ∧ f ds = some q ∧ r = (q.1, st.set i (some (.list q.2)), t) := by
  unfold fL at h
  obtain ⟨o, e1, h⟩ := Option.bind_eq_some_iff.mp h
  obtain ⟨d, e2, h⟩ := Option.bind_eq_some_iff.mp h
  subst e2
  cases d with
  | list ds =>
    obtain ⟨q, e3, h⟩ := Option.map_eq_some_iff.mp h
    exact ⟨ds, q, e1, e3, h.symm⟩
  | _ => cases h
theorem SM.own {B : Bs} {H0 H : Hp} {σ : L2.St} {st : DS} {mu : List Nat} {T : Option Addr} {i : Nat} {ds : List Dt} (s : SM B H0 H σ st mu T) (hi : i ∈ mu) (es : st[i]? = some (some (.list ds))) :
    ∃ a xs, σ[i]? = some (some (.ref a)) ∧ H a = some (.lst xs) ∧ PdA B H xs ds ∧ H0 a = none ∧ some a ≠ T := by
  obtain ⟨a, u, f1, f2, m, f3, f4⟩ := s.mt i _ hi es
  cases m with
  | lst pa => exact ⟨a, _, f1, f2, pa, f3, f4⟩
section
variable {X : Cx} {k : Option Nat} {mu : List Nat} {rn : Bool} {e e2 o : Expr} {ev ev2 : Ev} {en : EvN} {fx : EvF} {pos cpos apos p : Pos} {x y : Str} {i j : Nat} {es : List Expr}
/-- the end of a rewriting -/
theorem own_done {σ : L2.St} {H : Hp} {st : DS} {T : Option Addr} {t : Ti} {ds ds' : List Dt} {a : Addr} {xs ys : List V} (hi : i ∈ mu) (sm : SM (bs X) X.H_0 H σ st mu T) (tn : TN k σ H T t) (x : Ext T X.H_0 H) (es : st[i]? = some (some (.list ds))) (eσ : σ[i]? = some (some (.ref a)))
    (hu : H a = some (.lst xs)) (h0 : X.H_0 a = none) (hT : some a ≠ T) (pa : PdA (bs X) H ys ds') : SM (bs X) X.H_0 (upd H a (.lst ys)) σ (st.set i (some (.list ds'))) mu T ∧ TN k σ (upd H a (.lst ys)) T t ∧ Ext T X.H_0 (upd H a (.lst ys)) ∧ Pers H (upd H a (.lst ys)) :=
  ⟨sm.updO hi es eσ hu (.lst _) (.lst pa), tn.upd hT, x.updO h0 (.lst _) hu, upd_pers (.lst _) hu⟩
def appF (d : Dt) (ds : List Dt) : Option (Dt × List Dt) := if szOk (ds.length + 1) = true then some (.none, ds ++ [d]) else none
def fxApp (i : Nat) (ev : Ev) : EvF := fun st t => (ev st t).bind fun r => fL i (appF r.1) st r.2
theorem fx_app (i : Nat) (he : EM k mu X e ev) (hm : (mu.contains i) = true := by rfl) (hN : X.N[i]? = some x := by rfl) (hv : Vis X.env.scope x := by first | exact Or.inl rfl | exact Or.inr (Or.inl rfl) | exact Or.inr (Or.inr rfl)) (hd : (x == ("__debug__" : Str)) = false := by decide) (hcd : (x == ("__classdict__" : Str)) = false := by decide)
    (hbase : attributeBase (.Name x p) "append" X.env (eval (.Name x p) X.env) = eval (.Name x p) X.env := by rfl)
    (hfew : ((backTo cpos (starEach [e] X.env)).all (fun x => !x.1) && (backToKw cpos (keywordEach [] X.env)).all (fun x => x.1.isSome) && decide (([e] : List Expr).length + ([] : List Keyword).length + (if ([] : List Keyword).isEmpty then 0 else 1) < 30)) = true := by rfl)
    (hline : (apos.endLine == cpos.line) = true := by rfl) (hs : starEach [e] X.env = (false, eval e X.env) :: starEach [] X.env := by rfl) :
    FX k mu X (.Call (.Attribute (.Name x p) "append" apos) [e] [] cpos) (fxApp i ev) :=
  PE.imp (pe_bm PySem.F.plainAttrs_list PySem.F.slot_list_append PySem.F.type_list_append mt_append (pe_var hN hv hd hcd) (pa_cons he pa_nil hs) hbase hfew hline hs rfl) fun σ H Q ⟨st, t, T, r, sm, tn, x, e, q⟩ => by
  obtain ⟨⟨d, t1⟩, e1, e⟩ := Option.bind_eq_some_iff.mp e
  obtain ⟨ds, qq, f1, f2, rfl⟩ := fL_some e
  have hi : i ∈ mu := by simpa using hm
  obtain ⟨a, xs, g1, g2, pa, g3, g4⟩ := sm.own hi f1
  refine ⟨.ref a, g1, .inl ⟨rfl, xs, .inl (.inl g2)⟩, st, t, T, (d, t1), sm, tn, e1, fun v H1 x1 n1 p1 => ?_⟩
  have hz : szOk (ds.length + 1) = true := by
    by_cases h : szOk (ds.length + 1) = true
    · exact h
    · rw [appF, if_neg h] at f2; cases f2
  rw [appF, if_pos hz] at f2
  cases f2
  have h1 := x1.keep _ _ g2 g4
  obtain ⟨w1, w2, w3, w4⟩ := own_done hi (sm.ext x1) n1 (x.trans x1) f1 g1 h1 g3 g4 ((pa.pers x1.toPers).append (.cons p1 .nil))
  exact ⟨a, xs, v, rfl, rfl, h1, by rw [pa.length]; exact szOk_line hz, q _ _ w1 w2 w3 (x1.toPers.trans w4) .non⟩
def extF (es ds : List Dt) : Option (Dt × List Dt) := if szOk (ds.length + es.length) = true then some (.none, ds ++ es) else none
def fxExt (i : Nat) (en : EvN) : EvF := fun st t => (en st t).bind fun r => fL i (extF r.1) st r.2
theorem fx_ext (i : Nat) (he : NM k mu X e en) (hm : (mu.contains i) = true := by rfl) (hN : X.N[i]? = some x := by rfl) (hv : Vis X.env.scope x := by first | exact Or.inl rfl | exact Or.inr (Or.inl rfl) | exact Or.inr (Or.inr rfl)) (hd : (x == ("__debug__" : Str)) = false := by decide) (hcd : (x == ("__classdict__" : Str)) = false := by decide)
    (hbase : attributeBase (.Name x p) "extend" X.env (eval (.Name x p) X.env) = eval (.Name x p) X.env := by rfl)
    (hfew : ((backTo cpos (starEach [e] X.env)).all (fun x => !x.1) && (backToKw cpos (keywordEach [] X.env)).all (fun x => x.1.isSome) && decide (([e] : List Expr).length + ([] : List Keyword).length + (if ([] : List Keyword).isEmpty then 0 else 1) < 30)) = true := by rfl)
    (hline : (apos.endLine == cpos.line) = true := by rfl) (hs : starEach [e] X.env = (false, eval e X.env) :: starEach [] X.env := by rfl) :
    FX k mu X (.Call (.Attribute (.Name x p) "extend" apos) [e] [] cpos) (fxExt i en) :=
  PE.imp (pe_bm PySem.F.plainAttrs_list PySem.F.slot_list_extend PySem.F.type_list_extend mt_extend (pe_var hN hv hd hcd) (pa_cons he pa_nil hs) hbase hfew hline hs rfl) fun σ H Q ⟨st, t, T, r, sm, tn, x, e, q⟩ => by
  obtain ⟨⟨el, t1⟩, e1, e⟩ := Option.bind_eq_some_iff.mp e
  obtain ⟨ds, qq, f1, f2, rfl⟩ := fL_some e
  have hi : i ∈ mu := by simpa using hm
  obtain ⟨a, xs, g1, g2, pa, g3, g4⟩ := sm.own hi f1
  refine ⟨.ref a, g1, .inl ⟨rfl, xs, .inl (.inl g2)⟩, st, t, T, (el, t1), sm, tn, e1, fun b zs H1 x1 hb n1 h1b p1 => ?_⟩
  have hz : szOk (ds.length + el.length) = true := by
    by_cases h : szOk (ds.length + el.length) = true
    · exact h
    · rw [extF, if_neg h] at f2; cases f2
  rw [extF, if_pos hz] at f2
  cases f2
  have h1 := x1.keep _ _ g2 g4
  obtain ⟨w1, w2, w3, w4⟩ := own_done hi (sm.ext x1) n1 (x.trans x1) f1 g1 h1 g3 g4 ((pa.pers x1.toPers).append p1)
  exact ⟨a, b, xs, zs, rfl, rfl, h1, h1b, by rw [pa.length, p1.length]; exact szOk_line hz, q _ _ w1 w2 w3 (x1.toPers.trans w4) .non⟩
def popF (ds : List Dt) : Option (Dt × List Dt) := (ds[ds.length - 1]?).map fun d => (d, ds.dropLast)
def fxPop (i : Nat) : EvF := fL i popF
theorem fx_pop (i : Nat) (hm : (mu.contains i) = true := by rfl) (hN : X.N[i]? = some x := by rfl) (hv : Vis X.env.scope x := by first | exact Or.inl rfl | exact Or.inr (Or.inl rfl) | exact Or.inr (Or.inr rfl)) (hd : (x == ("__debug__" : Str)) = false := by decide) (hcd : (x == ("__classdict__" : Str)) = false := by decide)
    (hbase : attributeBase (.Name x p) "pop" X.env (eval (.Name x p) X.env) = eval (.Name x p) X.env := by rfl) (hline : (apos.endLine == cpos.line) = true := by rfl) :
    FX k mu X (.Call (.Attribute (.Name x p) "pop" apos) [] [] cpos) (fxPop i) :=
  PE.imp (pe_bm0 PySem.F.plainAttrs_list PySem.F.slot_list_pop PySem.F.type_list_pop mt_pop (pe_var hN hv hd hcd) hbase hline) fun σ H Q ⟨st, t, T, r, sm, tn, x, e, q⟩ => by
  obtain ⟨ds, qq, f1, f2, rfl⟩ := fL_some e
  have hi : i ∈ mu := by simpa using hm
  obtain ⟨a, xs, g1, g2, pa, g3, g4⟩ := sm.own hi f1
  obtain ⟨d, f3, f2⟩ := Option.map_eq_some_iff.mp f2
  subst f2
  obtain ⟨v, f4, pv⟩ := pa.get f3
  obtain ⟨w1, w2, w3, w4⟩ := own_done hi sm tn x f1 g1 g2 g3 g4 pa.dropLast
  exact ⟨.ref a, g1, .inl ⟨rfl, xs, .inl (.inl g2)⟩, a, xs, v, rfl, rfl, g2, by rw [pa.length]; exact f4, q _ _ w1 w2 w3 w4 (pv.pers w4)⟩
theorem PdA.eraseIdx {B : Bs} {H : Hp} : ∀ (i : Nat) {vs : List V} {ds : List Dt}, PdA B H vs ds → PdA B H (vs.eraseIdx i) (ds.eraseIdx i)
  | _, _, _, .nil => .nil
  | 0, _, _, .cons _ t => t
  | i + 1, _, _, .cons r t => .cons r (PdA.eraseIdx i t)
def popAtF (d : Dt) (ds : List Dt) : Option (Dt × List Dt) := match d with
  | .int n => if n.natAbs ≤ 2 ^ 61 then (seqIndex? n ds.length).bind fun j => (ds[j]?).map fun d => (d, ds.eraseIdx j) else none
  | _ => none
def fxPopAt (i : Nat) (ev : Ev) : EvF := fun st t => (ev st t).bind fun r => fL i (popAtF r.1) st r.2
theorem fx_popAt (i : Nat) (he : EM k mu X e ev) (hm : (mu.contains i) = true := by rfl) (hN : X.N[i]? = some x := by rfl) (hv : Vis X.env.scope x := by first | exact Or.inl rfl | exact Or.inr (Or.inl rfl) | exact Or.inr (Or.inr rfl)) (hd : (x == ("__debug__" : Str)) = false := by decide) (hcd : (x == ("__classdict__" : Str)) = false := by decide)
    (hbase : attributeBase (.Name x p) "pop" X.env (eval (.Name x p) X.env) = eval (.Name x p) X.env := by rfl)
    (hfew : ((backTo cpos (starEach [e] X.env)).all (fun x => !x.1) && (backToKw cpos (keywordEach [] X.env)).all (fun x => x.1.isSome) && decide (([e] : List Expr).length + ([] : List Keyword).length + (if ([] : List Keyword).isEmpty then 0 else 1) < 30)) = true := by rfl)
    (hline : (apos.endLine == cpos.line) = true := by rfl) (hs : starEach [e] X.env = (false, eval e X.env) :: starEach [] X.env := by rfl) :
    FX k mu X (.Call (.Attribute (.Name x p) "pop" apos) [e] [] cpos) (fxPopAt i ev) :=
  PE.imp (pe_bm PySem.F.plainAttrs_list PySem.F.slot_list_pop PySem.F.type_list_pop mt_popAt (pe_var hN hv hd hcd) (pa_cons he pa_nil hs) hbase hfew hline hs rfl) fun σ H Q ⟨st, t, T, r, sm, tn, x, e, q⟩ => by
  obtain ⟨⟨d, t1⟩, e1, e⟩ := Option.bind_eq_some_iff.mp e
  obtain ⟨ds, qq, f1, f2, rfl⟩ := fL_some e
  have hi : i ∈ mu := by simpa using hm
  obtain ⟨a, xs, g1, g2, pa, g3, g4⟩ := sm.own hi f1
  refine ⟨.ref a, g1, .inl ⟨rfl, xs, .inl (.inl g2)⟩, st, t, T, (d, t1), sm, tn, e1, fun v H1 x1 n1 p1 => ?_⟩
  have h1 := x1.keep _ _ g2 g4
  cases d with
  | int n =>
    rw [popAtF] at f2
    split at f2
    case isFalse => cases f2
    rename_i hn
    obtain ⟨jj, f3, f2⟩ := Option.bind_eq_some_iff.mp f2
    obtain ⟨dd, f4, f2⟩ := Option.map_eq_some_iff.mp f2
    subst f2
    have pa1 := pa.pers x1.toPers
    obtain ⟨w, f5, pw⟩ := pa1.get f4
    obtain ⟨w1, w2, w3, w4⟩ := own_done hi (sm.ext x1) n1 (x.trans x1) f1 g1 h1 g3 g4 (pa1.eraseIdx jj)
    exact ⟨a, xs, n, jj, w, rfl, by rw [p1.intI], h1, (by omega), (by omega), by rw [pa.length]; exact f3, f5, q _ _ w1 w2 w3 (x1.toPers.trans w4) (pw.pers w4)⟩
  | _ => cases f2
/-! statements by these -/
def zF (fx : EvF) : Ex := fun st t => (fx st t).map fun r => .nx r.2.1 r.2.2
def zSetF (i : Nat) (fx : EvF) : Ex := fun st t => (fx st t).map fun r => .nx (r.2.1.set i (some r.1)) r.2.2
def zRtF (fx : EvF) : Ex := fun st t => (fx st t).map fun r => .rt r.1 r.2.2
theorem z_f (h : FX k mu X e fx) (hs : swapsWith e none pos.line X.env = pure false := by rfl) : ZX k mu rn X (.Expr e pos) (zF fx) := PS.imp (ps_expr h hs) fun D σ H ⟨st, t, T, o, sm, tn, x, e, q⟩ => by
  obtain ⟨r, e1, e⟩ := Option.map_eq_some_iff.mp e
  subst e
  exact ⟨st, t, T, r, sm, tn, x, e1, fun v H' sm' n' x' p' pd => q σ H' sm' n' x' p'⟩
theorem z_setF (i : Nat) (hN : X.N.Nodup) (he : FX k mu X e fx) (hm : (mu.contains i) = false := by rfl) (hk : kNe k i = true := by rfl) {pos' : Pos} (hi : X.N[i]? = some x := by rfl) (hx : Loc X.env.scope x := by first | exact Or.inl rfl | exact Or.inr rfl)
    (hs : swapsWith e (some (.Name x pos')) pos.line X.env = pure false := by rfl) (hf : X.fn x = true ∨ X.env.scope.names.lookup x = some .local := by first | exact .inl rfl | exact .inr rfl | assumption) : ZX k mu rn X (.Assign [.Name x pos'] e pos) (zSetF i fx) :=
  PS.imp (ps_set hN hi hx he hs hf) fun D σ H ⟨st, t, T, o, sm, tn, x, e, q⟩ => by
  obtain ⟨r, e1, e⟩ := Option.map_eq_some_iff.mp e
  subst e
  exact ⟨st, t, T, r, sm, tn, x, e1, fun v H' sm' n' x' p' pd => q _ _ (sm'.set (by simpa using hm) pd) (n'.set hk) x' p'⟩
theorem z_rtF (h : FX k mu X e fx) : ZX k mu false X (.Return (some e) pos) (zRtF fx) := PS.imp (ps_ret h) fun D σ H ⟨st, t, T, o, sm, tn, x, e, q⟩ => by
  obtain ⟨r, e1, e⟩ := Option.map_eq_some_iff.mp e
  subst e
  exact ⟨st, t, T, r, sm, tn, x, e1, fun v H' sm' n' x' p' pd => q v H' pd n'.th x'⟩
/-! ### name op= e -/
def IpD (X : Cx) (op : Operator) (f : Dt → Dt → Option Dt) : Prop := PIp X op fun x y H Q => ∃ d e r, Pd (bs X) H x d ∧ Pd (bs X) H y e ∧ f d e = some r ∧ ∀ v H', Ext none H H' → Pd (bs X) H' v r → Q v H'
def zAug (i : Nat) (f : Dt → Dt → Option Dt) (ev : Ev) : Ex := fun st t => (st[i]?).bind fun o => o.bind fun d => (ev st t).bind fun r => (f d r.1).map fun w => .nx (st.set i (some w)) r.2
theorem z_aug (i : Nat) (hN : X.N.Nodup) {op : Operator} {f : Dt → Dt → Option Dt} (ho : IpD X op f) (he : EM k mu X e ev) (hm : (mu.contains i) = false := by rfl) (hk : kNe k i = true := by rfl) {pos' : Pos} (hi : X.N[i]? = some x := by rfl) (hx : Loc X.env.scope x := by first | exact Or.inl rfl | exact Or.inr rfl)
    (hf : X.fn x = true ∨ X.env.scope.names.lookup x = some .local := by first | exact .inl rfl | exact .inr rfl | assumption) : ZX k mu rn X (.AugAssign (.Name x pos') op e pos) (zAug i f ev) :=
  PS.imp (ps_aug hN hi hx he ho hf) fun D σ H ⟨st, t, T, o, sm, tn, x, e, q⟩ => by
  obtain ⟨oo, e1, e⟩ := Option.bind_eq_some_iff.mp e
  obtain ⟨d, e2, e'⟩ := Option.bind_eq_some_iff.mp e
  subst e2
  obtain ⟨r, e3, e'⟩ := Option.bind_eq_some_iff.mp e'
  obtain ⟨w, e4, e'⟩ := Option.map_eq_some_iff.mp e'
  subst e'
  have hm' : i ∉ mu := by simpa using hm
  obtain ⟨v, f1, pv⟩ := sm.pd i d hm' e1
  exact ⟨v, f1, st, t, T, r, sm, tn, e3, fun y H1 x1 n1 p1 => ⟨d, r.1, w, pv.pers x1.toPers, p1, e4, fun z H2 x2 p2 => q _ _ (((sm.ext x1).ext x2.any).set hm' p2) ((n1.ext0 x2).set hk) ((x.trans x1).trans x2.any) (x1.toPers.trans x2.toPers)⟩⟩
/-! ### own[i] = e -/
def zPut (i : Nat) (ei ev : Ev) : Ex := fun st t => (ev st t).bind fun r => (ei st r.2).bind fun s => (st[i]?).bind fun o => o.bind fun d => match s.1, d with
  | .int n, .list ds => (ixN ds.length n).map fun j => .nx (st.set i (some (.list (ds.set j r.1)))) s.2
  | _, _ => none
theorem z_put (i : Nat) {tpos : Pos} (he : EM k mu X e ev) (hi : EM k mu X e2 ev2) (hm : (mu.contains i) = true := by rfl) (hN : X.N[i]? = some x := by rfl) (hv : Vis X.env.scope x := by first | exact Or.inl rfl | exact Or.inr (Or.inl rfl) | exact Or.inr (Or.inr rfl)) (hd : (x == ("__debug__" : Str)) = false := by decide) (hcd : (x == ("__classdict__" : Str)) = false := by decide)
    (ha : ∀ v, assign (.Subscript (.Name x p) e2 tpos) X.env v = (do
      let ov ← holding [v] (eval (.Name x p) X.env)
      let iv ← holding [v, ov] (eval e2 X.env)
      standAt tpos
      holding [v, ov, iv] (setItem ov iv v)
      release [v, ov, iv] []) := by intro _; rfl)
    (hs : swapsWithSole [.Subscript (.Name x p) e2 tpos] e pos.line X.env = pure false := by rfl) (hw : swappedStores [.Subscript (.Name x p) e2 tpos] e X.env = pure none := by rfl) (h1 : (assignEach [.Subscript (.Name x p) e2 tpos] X.env).map (·.2) = [assign (.Subscript (.Name x p) e2 tpos) X.env] := by rfl) :
    ZX k mu rn X (.Assign [.Subscript (.Name x p) e2 tpos] e pos) (zPut i ev2 ev) := PS.imp (ps_asg he (pg_sub (pe_var hN hv hd hcd) hi set_list ha) hs hw h1) fun D σ H ⟨st, t, T, o, sm, tn, x, e, q⟩ => by
  obtain ⟨r, e1, e⟩ := Option.bind_eq_some_iff.mp e
  obtain ⟨⟨sd, t2⟩, e2, e⟩ := Option.bind_eq_some_iff.mp e
  obtain ⟨oo, e3, e⟩ := Option.bind_eq_some_iff.mp e
  obtain ⟨d, e4, e⟩ := Option.bind_eq_some_iff.mp e
  subst e4
  have hi : i ∈ mu := by simpa using hm
  cases sd with
  | int n =>
    cases d with
    | list ds =>
      obtain ⟨jj, e5, e⟩ := Option.map_eq_some_iff.mp e
      subst e
      obtain ⟨a, xs, g1, g2, pa, g3, g4⟩ := sm.own hi e3
      refine ⟨st, t, T, r, sm, tn, e1, fun v H1 x1 n1 p1 => ⟨.ref a, g1, st, r.2, T, _, sm.ext x1, n1, e2, fun w H2 x2 n2 p2 => ?_⟩⟩
      have x12 := x1.trans x2
      have h2 := x12.keep _ _ g2 g4
      obtain ⟨w1, w2, w3, w4⟩ := own_done hi (sm.ext x12) n2 (x.trans x12) e3 g1 h2 g3 g4 (PdA.set jj (p1.pers x2.toPers) (pa.pers x12.toPers))
      exact ⟨a, xs, n, jj, rfl, p2.intI, h2, by rw [pa.length]; exact e5, q _ _ w1 w2 w3 (x12.toPers.trans w4)⟩
    | _ => cases e
  | _ => cases e
/-! ### a, b = x, y -/
/-- a datum, or a new list -/
def MV (B : Bs) (H H1 : Hp) : Bool → V → Dt → Prop
  | false, v, d => Pd B H1 v d
  | true, v, d => ∃ p xs ds, v = .ref p ∧ H p = none ∧ H1 p = some (.lst xs) ∧ PdA B H1 xs ds ∧ d = .list ds
/-- an expression that is one of these -/
def tMV (k : Option Nat) (mu : List Nat) (X : Cx) (b : Bool) (ev : Ev) : TE := fun σ H Q => ∃ st t T r, SM (bs X) X.H_0 H σ st mu T ∧ TN k σ H T t ∧ ev st t = some r ∧
  ∀ v H', Ext T H H' → TN k σ H' T r.2 → MV (bs X) H H' b v r.1 → Q v H'
abbrev VM (k : Option Nat) (mu : List Nat) (X : Cx) (e : Expr) (b : Bool) (ev : Ev) : Prop := PE X e (tMV k mu X b ev)
def nV (en : EvN) : Ev := fun st t => (en st t).map fun r => (.list r.1, r.2)
theorem vm_d (h : EM k mu X e ev) : VM k mu X e false ev := PE.imp h fun σ H Q ⟨st, t, T, r, sm, tn, e, q⟩ => ⟨st, t, T, r, sm, tn, e, q⟩
theorem vm_n (h : NM k mu X e en) : VM k mu X e true (nV en) := PE.imp h fun σ H Q ⟨st, t, T, r, sm, tn, e, q⟩ => by
  obtain ⟨r', e1, e⟩ := Option.map_eq_some_iff.mp e
  subst e
  exact ⟨st, t, T, r', sm, tn, e1, fun p xs H' x hp n h' pa => q _ H' x n ⟨p, xs, r'.1, rfl, hp, h', pa, rfl⟩⟩
theorem MV.ext {B : Bs} {H H1 H2 : Hp} {T : Option Addr} {b : Bool} {v : V} {d : Dt} (m : MV B H H1 b v d) (x : Ext T H1 H2) (hT : ∀ p, H p = none → some p ≠ T) : MV B H H2 b v d := by
  cases b with
  | false => exact Pd.pers x.toPers m
  | true =>
    obtain ⟨p, xs, ds, e1, e2, e3, e4, e5⟩ := m
    exact ⟨p, xs, ds, e1, e2, x.keep _ _ e3 (hT p e2), e4.pers x.toPers, e5⟩
theorem SM.setV {B : Bs} {H0 H H1 : Hp} {σ : L2.St} {st : DS} {T : Option Addr} {b : Bool} {v : V} {d : Dt} (s : SM B H0 H1 σ st mu T) (hb : mu.contains i = b) (m : MV B H H1 b v d) (h0 : ∀ p, H p = none → H0 p = none ∧ some p ≠ T)
    (new : b = true → ∀ (j : Nat), j ∈ mu → j ≠ i → ∀ d', st[j]? = some (some d') → σ[j]? ≠ some (some v)) : SM B H0 H1 (σ.set i (some v)) (st.set i (some d)) mu T := by
  cases b with
  | false => exact s.set (by simpa using hb) m
  | true =>
    obtain ⟨p, xs, ds, rfl, e2, e3, e4, rfl⟩ := m
    exact s.setM (by simpa using hb) e3 (.lst e4) (h0 p e2).1 (h0 p e2).2 (new rfl)
def zPar (i j : Nat) (ea eb : Ev) : Ex := fun st t => (ea st t).bind fun a => (eb st a.2).map fun b => .nx ((st.set i (some a.1)).set j (some b.1)) b.2
theorem z_par (i j : Nat) {ba bb : Bool} {a b : Expr} {ea eb : Ev} {px py pt : Pos} {kt k2 pt2} (hc : X.calm = true) (hN : X.N.Nodup) (ha : VM k mu X a ba ea) (hb : VM k mu X b bb eb) (hi : X.N[i]? = some x := by rfl) (hj : X.N[j]? = some y := by rfl) (hij : (i == j) = false := by rfl)
    (hma : mu.contains i = ba := by rfl) (hmb : mu.contains j = bb := by rfl) (hki : kNe k i = true := by rfl) (hkj : kNe k j = true := by rfl)
    (hx : X.env.scope.names.lookup x = some .local := by rfl) (hy : X.env.scope.names.lookup y = some .local := by rfl)
    (hw : swappedStores [.Tuple [.Name x px, .Name y py] kt pt] (.Tuple [a, b] k2 pt2) X.env = pure (some [x, y]) := by rfl)
    (hsa : starEach [a, b] X.env = (false, eval a X.env) :: starEach [b] X.env := by rfl) (hsb : starEach [b] X.env = (false, eval b X.env) :: starEach [] X.env := by rfl)
    (hs : swapsWithSole [.Tuple [.Name x px, .Name y py] kt pt] (.Tuple [a, b] k2 pt2) pos.line X.env = pure false := by rfl) :
    ZX k mu rn X (.Assign [.Tuple [.Name x px, .Name y py] kt pt] (.Tuple [a, b] k2 pt2) pos) (zPar i j ea eb) :=
  PS.imp (ps_par hc hN hi hj (by simpa using hij) hx hy (pa_cons ha (pa_cons hb pa_nil hsb) hsa) hw hs) fun D σ H ⟨st, t, T, o, sm, tn, x, e, q⟩ => by
  obtain ⟨ra, e1, e⟩ := Option.bind_eq_some_iff.mp e
  obtain ⟨rb, e2, e⟩ := Option.map_eq_some_iff.mp e
  subst e
  have hij : i ≠ j := by simpa using hij
  refine ⟨st, t, T, ra, sm, tn, e1, fun v H1 x1 n1 m1 => ⟨st, ra.2, T, rb, sm.ext x1, n1, e2, fun w H2 x2 n2 m2 => ⟨v, w, rfl, ?_⟩⟩⟩
  have hn1 : ∀ p, H p = none → X.H_0 p = none ∧ some p ≠ T := fun p hp => ⟨H0_new x tn hp, tn.T0 p hp⟩
  have hn2 : ∀ p, H1 p = none → X.H_0 p = none ∧ some p ≠ T := fun p hp => ⟨H0_new (x.trans x1) n1 hp, n1.T0 p hp⟩
  have sm2 : SM (bs X) X.H_0 H2 σ st mu T := (sm.ext x1).ext x2
  have m1' := m1.ext x2 fun p hp => (hn1 p hp).2
  have s1 : SM (bs X) X.H_0 H2 (σ.set i (some v)) (st.set i (some ra.1)) mu T := sm2.setV hma m1' hn1 fun hb jj hjm hne d' hd => by
    subst hb
    obtain ⟨p, xs, ds, rfl, f2, f3, f4, f5⟩ := m1
    exact sm.new f2 jj hjm d' hd
  have s2 : SM (bs X) X.H_0 H2 ((σ.set i (some v)).set j (some w)) ((st.set i (some ra.1)).set j (some rb.1)) mu T := s1.setV hmb m2 hn2 fun hb jj hjm hne d' hd => by
    subst hb
    obtain ⟨p, xs, ds, rfl, f2, f3, f4, f5⟩ := m2
    by_cases hji : jj = i
    · subst hji
      intro z
      have hl : jj < σ.length := by
        have := (List.getElem?_eq_some_iff.mp z).1
        rwa [List.length_set] at this
      rw [List.getElem?_set_self hl] at z
      cases z
      have hbt : ba = true := by rw [← hma]; simpa using hjm
      subst hbt
      obtain ⟨p', xs', ds', e', g2, g3, g4, g5⟩ := m1
      cases e'
      rw [f2] at g3; cases g3
    · rw [List.getElem?_set_ne (Ne.symm hji)] at hd ⊢
      exact (sm.ext x1).new f2 jj hjm d' hd
  exact q _ _ s2 ((n2.set hki).set hkj) ((x.trans x1).trans x2) (x1.toPers.trans x2.toPers)
def zPar3 (i j l : Nat) (ea eb ec : Ev) : Ex := fun st t => (ea st t).bind fun a => (eb st a.2).bind fun b => (ec st b.2).map fun c => .nx (((st.set i (some a.1)).set j (some b.1)).set l (some c.1)) c.2
theorem z_par3 (i j l : Nat) {z : Str} {ba bb bc : Bool} {a b c : Expr} {ea eb ec : Ev} {px py pz pt : Pos} {kt k2 pt2} (hc : X.calm = true) (hN : X.N.Nodup) (ha : VM k mu X a ba ea) (hb : VM k mu X b bb eb) (hcc : VM k mu X c bc ec) (hi : X.N[i]? = some x := by rfl) (hj : X.N[j]? = some y := by rfl) (hl : X.N[l]? = some z := by rfl)
    (hij : (i == j) = false := by rfl) (hil : (i == l) = false := by rfl) (hjl : (j == l) = false := by rfl)
    (hma : mu.contains i = ba := by rfl) (hmb : mu.contains j = bb := by rfl) (hmc : mu.contains l = bc := by rfl) (hki : kNe k i = true := by rfl) (hkj : kNe k j = true := by rfl) (hkl : kNe k l = true := by rfl)
    (hx : X.env.scope.names.lookup x = some .local := by rfl) (hy : X.env.scope.names.lookup y = some .local := by rfl) (hz : X.env.scope.names.lookup z = some .local := by rfl)
    (hw : swappedStores [.Tuple [.Name x px, .Name y py, .Name z pz] kt pt] (.Tuple [a, b, c] k2 pt2) X.env = pure (some [x, y, z]) := by rfl)
    (hsa : starEach [a, b, c] X.env = (false, eval a X.env) :: starEach [b, c] X.env := by rfl) (hsb : starEach [b, c] X.env = (false, eval b X.env) :: starEach [c] X.env := by rfl) (hsc : starEach [c] X.env = (false, eval c X.env) :: starEach [] X.env := by rfl)
    (hs : swapsWithSole [.Tuple [.Name x px, .Name y py, .Name z pz] kt pt] (.Tuple [a, b, c] k2 pt2) pos.line X.env = pure false := by rfl) :
    ZX k mu rn X (.Assign [.Tuple [.Name x px, .Name y py, .Name z pz] kt pt] (.Tuple [a, b, c] k2 pt2) pos) (zPar3 i j l ea eb ec) :=
  PS.imp (ps_par3 hc hN hi hj hl (by simpa using hij) (by simpa using hil) (by simpa using hjl) hx hy hz (pa_cons ha (pa_cons hb (pa_cons hcc pa_nil hsc) hsb) hsa) hw hs) fun D σ H ⟨st, t, T, o, sm, tn, x, e, q⟩ => by
  obtain ⟨ra, e1, e⟩ := Option.bind_eq_some_iff.mp e
  obtain ⟨rb, e2, e⟩ := Option.bind_eq_some_iff.mp e
  obtain ⟨rc, e3, e⟩ := Option.map_eq_some_iff.mp e
  subst e
  have hij : i ≠ j := by simpa using hij
  have hil : i ≠ l := by simpa using hil
  have hjl : j ≠ l := by simpa using hjl
  refine ⟨st, t, T, ra, sm, tn, e1, fun v H1 x1 n1 m1 => ⟨st, ra.2, T, rb, sm.ext x1, n1, e2, fun w H2 x2 n2 m2 => ⟨st, rb.2, T, rc, (sm.ext x1).ext x2, n2, e3, fun u H3 x3 n3 m3 => ⟨v, w, u, rfl, ?_⟩⟩⟩⟩
  have x12 := x1.trans x2
  have hn1 : ∀ p, H p = none → X.H_0 p = none ∧ some p ≠ T := fun p hp => ⟨H0_new x tn hp, tn.T0 p hp⟩
  have hn2 : ∀ p, H1 p = none → X.H_0 p = none ∧ some p ≠ T := fun p hp => ⟨H0_new (x.trans x1) n1 hp, n1.T0 p hp⟩
  have hn3 : ∀ p, H2 p = none → X.H_0 p = none ∧ some p ≠ T := fun p hp => ⟨H0_new (x.trans x12) n2 hp, n2.T0 p hp⟩
  have sm3 : SM (bs X) X.H_0 H3 σ st mu T := ((sm.ext x1).ext x2).ext x3
  have m1' := (m1.ext x2 fun p hp => (hn1 p hp).2).ext x3 fun p hp => (hn1 p hp).2
  have m2' := m2.ext x3 fun p hp => (hn2 p hp).2
  have old : ∀ {σ' : L2.St} {q : Nat} {v' : V} {jj : Nat} , jj < σ'.length → (σ'.set jj (some v'))[jj]? = some (some v') := fun h => List.getElem?_set_self h
  have s1 : SM (bs X) X.H_0 H3 (σ.set i (some v)) (st.set i (some ra.1)) mu T := sm3.setV hma m1' hn1 fun hb jj hjm hne d' hd => by
    subst hb
    obtain ⟨p, xs, ds, rfl, f2, f3, f4, f5⟩ := m1
    exact sm.new f2 jj hjm d' hd
  have s2 : SM (bs X) X.H_0 H3 ((σ.set i (some v)).set j (some w)) ((st.set i (some ra.1)).set j (some rb.1)) mu T := s1.setV hmb m2' hn2 fun hb jj hjm hne d' hd => by
    subst hb
    obtain ⟨p, xs, ds, rfl, f2, f3, f4, f5⟩ := m2
    by_cases hji : jj = i
    · subst hji
      intro z
      have hl : jj < σ.length := by
        have := (List.getElem?_eq_some_iff.mp z).1
        rwa [List.length_set] at this
      rw [List.getElem?_set_self hl] at z
      cases z
      have hbt : ba = true := by rw [← hma]; simpa using hjm
      subst hbt
      obtain ⟨p', xs', ds', e', g2, g3, g4, g5⟩ := m1
      cases e'
      rw [f2] at g3; cases g3
    · rw [List.getElem?_set_ne (Ne.symm hji)] at hd ⊢
      exact (sm.ext x1).new f2 jj hjm d' hd
  have s3 : SM (bs X) X.H_0 H3 (((σ.set i (some v)).set j (some w)).set l (some u)) (((st.set i (some ra.1)).set j (some rb.1)).set l (some rc.1)) mu T := s2.setV hmc m3 hn3 fun hb jj hjm hne d' hd => by
    subst hb
    obtain ⟨p, xs, ds, rfl, f2, f3, f4, f5⟩ := m3
    by_cases hjj : jj = j
    · subst hjj
      intro z
      have hl : jj < (σ.set i (some v)).length := by
        have := (List.getElem?_eq_some_iff.mp z).1
        rwa [List.length_set] at this
      rw [List.getElem?_set_self hl] at z
      cases z
      have hbt : bb = true := by rw [← hmb]; simpa using hjm
      subst hbt
      obtain ⟨p', xs', ds', e', g2, g3, g4, g5⟩ := m2
      cases e'
      rw [f2] at g3; cases g3
    · rw [List.getElem?_set_ne (Ne.symm hjj)] at hd ⊢
      by_cases hji : jj = i
      · subst hji
        intro z
        have hl : jj < σ.length := by
          have := (List.getElem?_eq_some_iff.mp z).1
          rwa [List.length_set] at this
        rw [List.getElem?_set_self hl] at z
        cases z
        have hbt : ba = true := by rw [← hma]; simpa using hjm
        subst hbt
        obtain ⟨p', xs', ds', e', g2, g3, g4, g5⟩ := m1.ext x2 fun p hp => (hn1 p hp).2
        cases e'
        rw [f2] at g3; cases g3
      · rw [List.getElem?_set_ne (Ne.symm hji)] at hd ⊢
        exact ((sm.ext x1).ext x2).new f2 jj hjm d' hd
  exact q _ _ s3 (((n3.set hki).set hkj).set hkl) ((x.trans x12).trans x3) (x12.toPers.trans x3.toPers)
/-! ### a tuple taken apart: a, b = e -/
def zUn (p : Tg) (ev : Ev) : Ex := fun st t => (ev st t).bind fun r => (setTg p r.1 st).map fun st' => .nx st' r.2
theorem z_un {tg : Expr} {pt : Tg} (he : EM k mu X e ev) (hg : GM X mu false tg pt) (hk : kOk k pt.slots = true := by rfl) (hs : swapsWithSole [tg] e pos.line X.env = pure false := by rfl) (hw : swappedStores [tg] e X.env = pure none := by rfl)
    (h1 : (assignEach [tg] X.env).map (·.2) = [assign tg X.env] := by rfl) : ZX k mu rn X (.Assign [tg] e pos) (zUn pt ev) := PS.imp (ps_asg he hg hs hw h1) fun D σ H ⟨st, t, T, o, sm, tn, x, e, q⟩ => by
  obtain ⟨r, e1, e⟩ := Option.bind_eq_some_iff.mp e
  obtain ⟨st', e2, e⟩ := Option.map_eq_some_iff.mp e
  subst e
  exact ⟨st, t, T, r, sm, tn, e1, fun v H' x' n p => ⟨st, r.1, st', T, sm.ext x', p, e2, fun σ' c sm' => q σ' H' sm' (n.chg hk c.out) (x.trans x') x'.toPers⟩⟩
/-! ### an own list handed on: x = y -/
def zMv (i j : Nat) : Ex := fun st t => (st[j]?).bind fun o => o.map fun d => .nx ((st.set j none).set i (some d)) t
theorem z_mv (i j : Nat) (hN : X.N.Nodup) (hmi : (mu.contains i) = true := by rfl) (hmj : (mu.contains j) = true := by rfl) (hij : (i == j) = false := by rfl) (hk : kNe k i = true := by rfl) {pos' py : Pos} (hi : X.N[i]? = some x := by rfl) (hj : X.N[j]? = some y := by rfl) (hx : Loc X.env.scope x := by first | exact Or.inl rfl | exact Or.inr rfl)
    (hv : Vis X.env.scope y := by first | exact Or.inl rfl | exact Or.inr (Or.inl rfl) | exact Or.inr (Or.inr rfl)) (hd : (y == ("__debug__" : Str)) = false := by decide) (hcd : (y == ("__classdict__" : Str)) = false := by decide)
    (hs : swapsWith (.Name y py) (some (.Name x pos')) pos.line X.env = pure false := by rfl) (hf : X.fn x = true ∨ X.env.scope.names.lookup x = some .local := by first | exact .inl rfl | exact .inr rfl | assumption) : ZX k mu rn X (.Assign [.Name x pos'] (.Name y py) pos) (zMv i j) :=
  PS.imp (ps_set hN hi hx (pe_var hj hv hd hcd) hs hf) fun D σ H ⟨st, t, T, o, sm, tn, x, e, q⟩ => by
  obtain ⟨oo, e1, e⟩ := Option.bind_eq_some_iff.mp e
  obtain ⟨d, e2, e'⟩ := Option.map_eq_some_iff.mp e
  subst e2 e'
  have him : i ∈ mu := by simpa using hmi
  have hjm : j ∈ mu := by simpa using hmj
  have hij : i ≠ j := by simpa using hij
  obtain ⟨a, u, g1, g2, m, g3, g4⟩ := sm.mt j d hjm e1
  refine ⟨.ref a, g1, q _ _ ?_ (tn.set hk) x .refl⟩
  -- what is hidden is not looked at
  have hid : SM (bs X) X.H_0 H σ (st.set j none) mu T := ⟨by rw [List.length_set]; exact sm.len, fun l d' h e => by
      obtain ⟨n, e⟩ := set_none e
      exact sm.pd l d' h e, fun l d' h e => by
      obtain ⟨n, e⟩ := set_none e
      exact sm.mt l d' h e, fun a b da db c ha hb ea eb => by
      obtain ⟨n, ea⟩ := set_none ea
      obtain ⟨n', eb⟩ := set_none eb
      exact sm.ap a b da db c ha hb ea eb⟩
  refine hid.setM him g2 m g3 g4 fun l hl hne d' hd' z => ?_
  obtain ⟨n, hd'⟩ := set_none hd'
  exact n (sm.ap l j d' d a hl hjm hd' e1 z g1)
end
end HL

/-! HlF: operators, built-ins, subscripts, slices over data. -/
namespace HL
open PySem PySem.Spec PyProof.Rows L2
theorem szOk_le {n : Nat} (h : szOk n = true) : n ≤ sizeLine := szOk_line h
/-! ### from the kit's rules -/
section
variable {X : Cx}
theorem OpR.imp {g : Value → Value → Sem Value} {r r' : R2} (h : OpR X g r) (i : ∀ x y H Q, r' x y H Q → r x y H Q) : OpR X g r' := fun pins s σ H x y v u Q I rx ry q => h pins s σ H x y v u Q I rx ry (i x y H Q q)
theorem OpR.or {g : Value → Value → Sem Value} {r r' : R2} (h : OpR X g r) (h' : OpR X g r') : OpR X g (fun x y H Q => r x y H Q ∨ r' x y H Q) := fun pins s σ H x y v u Q I rx ry q => q.elim (h pins s σ H x y v u Q I rx ry) (h' pins s σ H x y v u Q I rx ry)
theorem CallR.imp {f : Value} {r r' : List V → Hp → VK → Prop} (h : CallR X f r) (i : ∀ xs H Q, r' xs H Q → r xs H Q) : CallR X f r' := fun pins s σ H xs us Q I rs q => h pins s σ H xs us Q I rs (i xs H Q q)
def rD (B : Bs) (f : Dt → Dt → Option Dt) : R2 := fun x y H Q => ∃ d e r, Pd B H x d ∧ Pd B H y e ∧ f d e = some r ∧ ∀ v H', Ext none H H' → Pd B H' v r → Q v H'
theorem opD_or {g : Value → Value → Sem Value} {f f' : Dt → Dt → Option Dt} {m : Dt → Dt → Option Dt} (h : OpD X g f) (h' : OpD X g f') (e : ∀ a b r, m a b = some r → f a b = some r ∨ f' a b = some r) : OpD X g m := fun pins s σ H x y v u Q I rx ry ⟨d, d', r, p1, p2, q1, q2⟩ => by
  rcases e d d' r q1 with z | z
  · exact h pins s σ H x y v u Q I rx ry ⟨d, d', r, p1, p2, z, q2⟩
  · exact h' pins s σ H x y v u Q I rx ry ⟨d, d', r, p1, p2, z, q2⟩
/-! ints -/
def onII (c : Int → Int → Bool) (g : Int → Int → Dt) : Dt → Dt → Option Dt
  | .int i, .int j => if c i j = true then some (g i j) else none
  | _, _ => none
theorem onII_some {c : Int → Int → Bool} {g : Int → Int → Dt} {d e r : Dt} (h : onII c g d e = some r) : ∃ i j, d = .int i ∧ e = .int j ∧ c i j = true ∧ r = g i j := by
  unfold onII at h
  split at h
  · split at h
    · rename_i hc; cases h; exact ⟨_, _, rfl, rfl, hc, rfl⟩
    · cases h
  · cases h
theorem opD_i {g : Value → Value → Sem Value} {C : Int → Int → Prop} {c : Int → Int → Bool} {f : Int → Int → Int} (h : OpR X g (rI C fun i j => .int (f i j))) (hc : ∀ i j, c i j = true → C i j) : OpD X g (onII c fun i j => .int (f i j)) := HL.OpR.imp h fun x y H Q ⟨d, e, r, p1, p2, q1, q2⟩ => by
  obtain ⟨i, j, rfl, rfl, hcc, rfl⟩ := onII_some q1
  exact ⟨i, j, p1.intI, p2.intI, hc i j hcc, q2 _ H .refl (.int _)⟩
theorem opD_i0 {g : Value → Value → Sem Value} {f : Int → Int → Int} (h : OpR X g (rI0 fun i j => .int (f i j))) : OpD X g (onII (fun _ _ => true) fun i j => .int (f i j)) := HL.OpR.imp h fun x y H Q ⟨d, e, r, p1, p2, q1, q2⟩ => by
  obtain ⟨i, j, rfl, rfl, hcc, rfl⟩ := onII_some q1
  exact ⟨i, j, p1.intI, p2.intI, q2 _ H .refl (.int _)⟩
theorem opD_b0 {g : Value → Value → Sem Value} {f : Int → Int → Bool} (h : OpR X g (rI0 fun i j => .bl (f i j))) : OpD X g (onII (fun _ _ => true) fun i j => .bool (f i j)) := HL.OpR.imp h fun x y H Q ⟨d, e, r, p1, p2, q1, q2⟩ => by
  obtain ⟨i, j, rfl, rfl, hcc, rfl⟩ := onII_some q1
  exact ⟨i, j, p1.intI, p2.intI, q2 _ H .refl (.bl _)⟩
def cYes (_ _ : Int) : Bool := true
def cSml (j : Int) : Bool := decide (j.natAbs < 2 ^ 64)
def cMul (i j : Int) : Bool := cSml i || cSml j || decide (i.natAbs.log2 + j.natAbs.log2 < 1000000)
def cDiv (_ j : Int) : Bool := decide (0 < j) && decide (j.natAbs.log2 < 9000)
def cMod (_ j : Int) : Bool := decide (0 < j)
def cPow (i j : Int) : Bool := decide (0 ≤ j) && decide (j.natAbs ≤ 1000000) && decide (i.natAbs < 2 ^ 64)
def subD : Dt → Dt → Option Dt := onII cYes fun i j => .int (i - j)
def mulI : Dt → Dt → Option Dt := onII cMul fun i j => .int (i * j)
def divD : Dt → Dt → Option Dt := onII cDiv fun i j => .int (i / j)
def modD : Dt → Dt → Option Dt := onII cMod fun i j => .int (i % j)
def shlD : Dt → Dt → Option Dt := onII cPow fun i j => .int (i * 2 ^ j.toNat)
def powD : Dt → Dt → Option Dt := onII cPow fun i j => .int (i ^ j.toNat)
theorem od_sub : OpD X (binaryOp .Sub) subD := opD_i0 op_sub
theorem od_div : OpD X (binaryOp .FloorDiv) divD := opD_i op_fdivW fun i j h => by
  simpa [cDiv, CDivW] using h
theorem od_mod : OpD X (binaryOp .Mod) modD := opD_i op_mod fun i j h => by
  simpa [cMod] using h
theorem cPow_ok {i j : Int} (h : cPow i j = true) : CPow i j := by
  simp only [cPow, Bool.and_eq_true, decide_eq_true_eq] at h
  exact ⟨h.1.1, by omega, h.2⟩
theorem od_shl : OpD X (binaryOp .LShift) shlD := opD_i op_shl fun i j h => cPow_ok h
theorem od_pow : OpD X (binaryOp .Pow) powD := opD_i op_pow fun i j h => cPow_ok h
theorem opD_c {g : Value → Value → Sem Value} {c c' m : Int → Int → Bool} {f : Int → Int → Dt} (h : OpD X g (onII c f)) (h' : OpD X g (onII c' f)) (e : ∀ i j, m i j = true → c i j = true ∨ c' i j = true) : OpD X g (onII m f) := opD_or h h' fun a b r q => by
  obtain ⟨i, j, rfl, rfl, hcc, rfl⟩ := onII_some q
  rcases e i j hcc with z | z
  · left; rw [onII, if_pos z]
  · right; rw [onII, if_pos z]
theorem od_mul : OpD X (binaryOp .Mult) mulI := opD_c (c := fun i j => cSml i || cSml j) (c' := fun i j => decide (i.natAbs.log2 + j.natAbs.log2 < 1000000))
  (opD_i op_mul fun i j h => by
    simp only [cSml, Bool.or_eq_true, Bool.and_eq_true, decide_eq_true_eq] at h
    rcases h with h | h
    · exact .inl (by omega)
    · exact .inr (by omega)) (opD_i op_mulW fun i j h => by simpa [CMulW] using h) fun i j h => by
    simpa [cMul, Bool.or_eq_true] using h
def ltD : Dt → Dt → Option Dt := onII cYes fun i j => .bool (decide (i < j))
def leD : Dt → Dt → Option Dt := onII cYes fun i j => .bool (decide (i ≤ j))
def gtD : Dt → Dt → Option Dt := onII cYes fun i j => .bool (decide (j < i))
def geD : Dt → Dt → Option Dt := onII cYes fun i j => .bool (decide (j ≤ i))
theorem od_lt : OpD X (compareOp .Lt) ltD := opD_b0 op_lt
theorem od_le : OpD X (compareOp .LtE) leD := opD_b0 op_le
theorem od_gt : OpD X (compareOp .Gt) gtD := opD_b0 op_gt
theorem od_ge : OpD X (compareOp .GtE) geD := opD_b0 op_ge
/-! + -/
def addD : Dt → Dt → Option Dt
  | .int i, .int j => some (.int (i + j))
  | .tuple a, .tuple b => if szOk (a.length + b.length) = true then some (.tuple (a ++ b)) else none
  | .list a, .list b => if szOk (a.length + b.length) = true then some (.list (a ++ b)) else none
  | .str a, .str b => if szOk (a.length + b.length) = true then some (.str (a ++ b)) else none
  | _, _ => none
theorem lock_ep {pins : List (Addr × Obj)} {σ : L2.St} {H : Hp} {s : Shared} {p : Addr} {xs : List V} {ds : List Dt} {Q : VK} (I : Inv X pins σ (upd H p (.lst xs)) s) (hp : H p = none) (pa : PdA (bs X) H xs ds)
    (q : ∀ v H', Ext none H H' → Pd (bs X) H' v (.list ds) → Q v H') : EP X pins σ Q (.ref p) s := by
  obtain ⟨o, I2⟩ := Inv.lock (.lst _) I upd_same
  have e : upd (upd H p (.lst xs)) p (.frz o (.lst xs)) = upd H p (.frz o (.lst xs)) := by
    funext b
    by_cases hb : b = p
    · subst hb; rw [upd_same, upd_same]
    · rw [upd_ne hb, upd_ne hb, upd_ne hb]
  rw [e] at I2
  have x : Ext none H (upd H p (.frz o (.lst xs))) := .new hp
  exact ⟨.ref p, _, I2, rfl, q _ _ x (.lst upd_same (pa.pers x.toPers))⟩
theorem od_add : OpD X (binaryOp .Add) addD := fun pins s σ H x y v u Q I rx ry ⟨d, e, r, p1, p2, q1, q2⟩ => by
  unfold addD at q1
  split at q1
  · cases q1
    exact op_add pins s σ H x y v u Q I rx ry ⟨_, _, p1.intI, p2.intI, q2 _ H .refl (.int _)⟩
  · split at q1
    case isFalse => cases q1
    rename_i hz
    cases q1
    obtain ⟨a, xs, rfl, f1, g1⟩ := p1.tupQ
    obtain ⟨b, ys, rfl, f2, g2⟩ := p2.tupQ
    have ga := g1.append g2
    cases rx; cases ry
    obtain ⟨its, r1, pl1, _⟩ := I.tuple f1.sq
    obtain ⟨its2, r2, pl2, _⟩ := I.tuple f2.sq
    by_cases hx : xs = []
    · subst hx
      cases r1
      exact cat_tup0 pl1 pl2 ⟨.ref b, H, I, rfl, q2 _ H .refl (.tup f2 (by simpa using ga))⟩
    · have hz' : xs.length + ys.length ≤ sizeLine := by rw [g1.length, g2.length]; exact szOk_le hz
      refine HT.cat_tup pl1 pl2 (fun z => hx (r1.nil_iff.mp z)) (fun z => ⟨.ref a, H, I, rfl, ?_⟩) (fun z => ?_) (by rw [← r1.length, ← r2.length]; exact hz')
      · have hy := r2.nil_iff.mp z
        subst hy
        exact q2 _ H .refl (.tup f1 (by simpa using ga))
      · have I1 := Inv.tnew (t' := s.toks) I (r1.append r2) (by rw [List.length_append]; exact hz')
        obtain ⟨x, pd⟩ := Pd.tnew (us := its ++ its2) I.fresh ga
        exact ⟨.ref _, _, I1, rfl, q2 _ _ x pd⟩
  · split at q1
    case isFalse => cases q1
    rename_i hz
    cases q1
    obtain ⟨a, oa, xs, rfl, f1, h1, g1⟩ := p1.lstI
    obtain ⟨b, ob, ys, rfl, f2, h2, g2⟩ := p2.lstI
    have hz' : xs.length + ys.length ≤ sizeLine := by rw [g1.length, g2.length]; exact szOk_le hz
    cases rx; cases ry
    obtain ⟨_, _, its, n, r1, e1⟩ := (show ObjOk X.prog X.w H s.heap a (.frz oa (.lst xs)) from I.hok a _ f1)
    obtain ⟨_, _, its2, n2, r2, e2⟩ := (show ObjOk X.prog X.w H s.heap b (.frz ob (.lst ys)) from I.hok b _ f2)
    refine PySem.P.add_list e1 e2 ?_ (by rw [List.size_toArray, List.size_toArray, ← r1.length, ← r2.length]; exact hz')
    have ea : its.toArray ++ its2.toArray = (its ++ its2).toArray := by simp
    rw [ea]
    have I1 := I.lnew (t' := s.toks) (r1.append r2) (by rw [List.length_append]; omega)
    exact lock_ep I1 I.fresh (g1.append g2) q2
  · split at q1
    case isFalse => cases q1
    rename_i hz
    cases q1
    exact op_add_str pins s σ H x y v u Q I rx ry ⟨_, _, p1.strI, p2.strI, szOk_le hz, q2 _ H .refl (.str _)⟩
  · cases q1
theorem ip_addD : IpD X .Add (onII cYes fun i j => .int (i + j)) := fun pins s σ H x y v u Q I rx ry ⟨d, e, r, p1, p2, q1, q2⟩ => by
  obtain ⟨i, j, rfl, rfl, hcc, rfl⟩ := onII_some q1
  exact ip_add pins s σ H x y v u Q I rx ry ⟨i, j, p1.intI, p2.intI, q2 _ H .refl (.int _)⟩
theorem ip_subD : IpD X .Sub (onII cYes fun i j => .int (i - j)) := fun pins s σ H x y v u Q I rx ry ⟨d, e, r, p1, p2, q1, q2⟩ => by
  obtain ⟨i, j, rfl, rfl, hcc, rfl⟩ := onII_some q1
  exact ip_sub pins s σ H x y v u Q I rx ry ⟨i, j, p1.intI, p2.intI, q2 _ H .refl (.int _)⟩
/-! ==, != -/
def shp (d : Dt) : Bool := SeqAt.shaped d
def eqD (d e : Dt) : Option Dt := if (shp d && shp e) = true then some (.bool (PyData.eqv d e)) else none
def neD (d e : Dt) : Option Dt := if (shp d && shp e) = true then some (.bool (!PyData.eqv d e)) else none
theorem od_eq (hu : X.A.units + 64 < cLine) : OpD X (compareOp .Eq) eqD := HL.OpR.imp (op_eqD hu) fun x y H Q ⟨d, e, r, p1, p2, q1, q2⟩ => by
  rw [eqD] at q1
  split at q1
  case isFalse => cases q1
  rename_i h
  rw [Bool.and_eq_true] at h
  cases q1
  exact ⟨d, e, p1.dp (SeqAt.canLay_of_shaped h.1), p2.dp (SeqAt.canLay_of_shaped h.2), h.1, h.2, q2 _ H .refl (.bl _)⟩
theorem od_ne (hu : X.A.units + 64 < cLine) : OpD X (compareOp .NotEq) neD := HL.OpR.imp (op_neD hu) fun x y H Q ⟨d, e, r, p1, p2, q1, q2⟩ => by
  rw [neD] at q1
  split at q1
  case isFalse => cases q1
  rename_i h
  rw [Bool.and_eq_true] at h
  cases q1
  exact ⟨d, e, p1.dp (SeqAt.canLay_of_shaped h.1), p2.dp (SeqAt.canLay_of_shaped h.2), h.1, h.2, q2 _ H .refl (.bl _)⟩
/-! in, not in: lists, tuples -/
def inSD (d : Dt) : Dt → Option Bool
  | .list ds => if (shp d && shp (.list ds)) = true then some (ds.any fun z => PyData.eqv z d) else none
  | .tuple ds => if (shp d && shp (.tuple ds)) = true then some (ds.any fun z => PyData.eqv z d) else none
  | _ => none
def inD (d e : Dt) : Option Dt := (inSD d e).map .bool
def ninD (d e : Dt) : Option Dt := (inSD d e).map fun b => .bool !b
theorem depth_line {d : Dt} (h : shp d = true) {n : Nat} (hu : X.A.units + 66 < cLine) : X.A.units + 1 + min n d.depth < cLine := by
  have := SeqAt.depth_of_shaped h
  have : min n d.depth ≤ d.depth := Nat.min_le_right _ _
  omega
theorem od_in (hu : X.A.units + 66 < cLine) : OpD X (compareOp .In) inD := fun pins s σ H x y v u Q I rx ry ⟨d, e, r, p1, p2, q1, q2⟩ => by
  obtain ⟨b, f1, rfl⟩ := Option.map_eq_some_iff.mp q1
  unfold inSD at f1
  split at f1
  · split at f1
    case isFalse => cases f1
    rename_i ds h
    rw [Bool.and_eq_true] at h
    cases f1
    obtain ⟨as, r1⟩ := Dp.reads I d x v (p1.dp (SeqAt.canLay_of_shaped h.1)) rx
    obtain ⟨bs', r2⟩ := Dp.reads I (.list ds) y u (p2.dp (SeqAt.canLay_of_shaped h.2)) ry
    exact SeqAt.in_list_reads r2 r1 (SeqAt.canLay_of_shaped h.2) (SeqAt.canLay_of_shaped h.1) (depth_line h.1 hu) ⟨.bl _, H, I, rfl, q2 _ H .refl (.bl _)⟩
  · split at f1
    case isFalse => cases f1
    rename_i ds h
    rw [Bool.and_eq_true] at h
    cases f1
    obtain ⟨as, r1⟩ := Dp.reads I d x v (p1.dp (SeqAt.canLay_of_shaped h.1)) rx
    obtain ⟨bs', r2⟩ := Dp.reads I (.tuple ds) y u (p2.dp (SeqAt.canLay_of_shaped h.2)) ry
    exact SeqAt.in_tuple_reads r2 r1 (SeqAt.canLay_of_shaped h.2) (SeqAt.canLay_of_shaped h.1) (depth_line h.1 hu) ⟨.bl _, H, I, rfl, q2 _ H .refl (.bl _)⟩
  · cases f1
theorem od_nin (hu : X.A.units + 66 < cLine) : OpD X (compareOp .NotIn) ninD := fun pins s σ H x y v u Q I rx ry ⟨d, e, r, p1, p2, q1, q2⟩ => by
  obtain ⟨b, f1, rfl⟩ := Option.map_eq_some_iff.mp q1
  unfold inSD at f1
  split at f1
  · split at f1
    case isFalse => cases f1
    rename_i ds h
    rw [Bool.and_eq_true] at h
    cases f1
    obtain ⟨as, r1⟩ := Dp.reads I d x v (p1.dp (SeqAt.canLay_of_shaped h.1)) rx
    obtain ⟨bs', r2⟩ := Dp.reads I (.list ds) y u (p2.dp (SeqAt.canLay_of_shaped h.2)) ry
    exact SeqAt.notIn_list_reads r2 r1 (SeqAt.canLay_of_shaped h.2) (SeqAt.canLay_of_shaped h.1) (depth_line h.1 hu) ⟨.bl _, H, I, rfl, q2 _ H .refl (.bl _)⟩
  · split at f1
    case isFalse => cases f1
    rename_i ds h
    rw [Bool.and_eq_true] at h
    cases f1
    obtain ⟨as, r1⟩ := Dp.reads I d x v (p1.dp (SeqAt.canLay_of_shaped h.1)) rx
    obtain ⟨bs', r2⟩ := Dp.reads I (.tuple ds) y u (p2.dp (SeqAt.canLay_of_shaped h.2)) ry
    exact SeqAt.notIn_tuple_reads r2 r1 (SeqAt.canLay_of_shaped h.2) (SeqAt.canLay_of_shaped h.1) (depth_line h.1 hu) ⟨.bl _, H, I, rfl, q2 _ H .refl (.bl _)⟩
  · cases f1
/-! is None -/
def isNn : Dt → Bool
  | .none => true
  | _ => false
def isD (d e : Dt) : Option Dt := match e with
  | .none => some (.bool (isNn d))
  | _ => none
def isnD (d e : Dt) : Option Dt := match e with
  | .none => some (.bool (!isNn d))
  | _ => none
theorem Pd.isNon {B : Bs} {H : Hp} {v : V} {d : Dt} (p : Pd B H v d) : decide (v = .non) = isNn d := by
  cases p <;> simp [isNn]
theorem od_is : OpD X (compareOp .Is) isD := HL.OpR.imp op_isN fun x y H Q ⟨d, e, r, p1, p2, q1, q2⟩ => by
  unfold isD at q1
  split at q1
  · cases q1
    refine ⟨p2.nonI, ?_⟩
    rw [p1.isNon]
    exact q2 _ H .refl (.bl _)
  · cases q1
theorem od_isn : OpD X (compareOp .IsNot) isnD := HL.OpR.imp op_notN fun x y H Q ⟨d, e, r, p1, p2, q1, q2⟩ => by
  unfold isnD at q1
  split at q1
  · cases q1
    refine ⟨p2.nonI, ?_⟩
    rw [p1.isNon]
    exact q2 _ H .refl (.bl _)
  · cases q1
/-! - x -/
def negD : Dt → Option Dt
  | .int i => some (.int (-i))
  | _ => none
end
/-! ### built-ins -/
section
variable {X : Cx}
def lenD : List Dt → Option Dt
  | [.list ds] => some (.int ds.length)
  | [.tuple ds] => some (.int ds.length)
  | [.str z] => if szOk z.length = true then some (.int z.length) else none
  | _ => none
theorem PdA.oneI {B : Bs} {H : Hp} {vs : List V} {d : Dt} (h : PdA B H vs [d]) : ∃ v, vs = [v] ∧ Pd B H v d := by
  cases h with
  | cons a b => cases b; exact ⟨_, rfl, a⟩
theorem cd_len : CallD X (.builtin "len") lenD := HL.CallR.imp (CallR.or call_len_seq call_len_str) fun xs H Q ⟨ds, r, p, e, q⟩ => by
  unfold lenD at e
  split at e
  · cases e
    obtain ⟨v, rfl, p'⟩ := p.oneI
    obtain ⟨a, o, ys, rfl, f1, f2, f3⟩ := p'.lstI
    refine .inl ⟨a, ys, rfl, .inl f2, ?_⟩
    rw [f3.length]
    exact q _ H .refl (.int _)
  · cases e
    obtain ⟨v, rfl, p'⟩ := p.oneI
    obtain ⟨a, ys, rfl, f2, f3⟩ := p'.tupI
    refine .inl ⟨a, ys, rfl, .inr f2, ?_⟩
    rw [f3.length]
    exact q _ H .refl (.int _)
  · split at e
    case isFalse => cases e
    rename_i hz
    cases e
    obtain ⟨v, rfl, p'⟩ := p.oneI
    exact .inr ⟨_, by rw [p'.strI], szOk_le hz, q _ H .refl (.int _)⟩
  · cases e
def absD : List Dt → Option Dt
  | [.int i] => some (.int (if i < 0 then -i else i))
  | _ => none
theorem cd_abs : CallD X (.builtin "abs") absD := HL.CallR.imp call_abs fun xs H Q ⟨ds, r, p, e, q⟩ => by
  unfold absD at e
  split at e
  · cases e
    exact ⟨_, p.one, q _ H .refl (.int _)⟩
  · cases e
def intD : List Dt → Option Dt
  | [.int i] => some (.int i)
  | [.bool b] => some (.int (if b then 1 else 0))
  | _ => none
theorem cd_int : CallD X (.type "int") intD := HL.CallR.imp call_int1 fun xs H Q ⟨ds, r, p, e, q⟩ => by
  unfold intD at e
  split at e
  · cases e
    exact .inl ⟨_, p.one, q _ H .refl (.int _)⟩
  · cases e
    obtain ⟨v, rfl, p'⟩ := p.oneI
    exact .inr ⟨_, by rw [p'.blI], q _ H .refl (.int _)⟩
  · cases e
def minD : List Dt → Option Dt
  | [.int i, .int j] => some (.int (if j < i then j else i))
  | _ => none
def maxD : List Dt → Option Dt
  | [.int i, .int j] => some (.int (if j > i then j else i))
  | _ => none
theorem cd_min (hc : X.calm = true) : CallD X (.builtin "min") minD := HL.CallR.imp (call_min2 hc) fun xs H Q ⟨ds, r, p, e, q⟩ => by
  unfold minD at e
  split at e
  · cases e
    exact ⟨_, _, p.two, q _ H .refl (.int _)⟩
  · cases e
theorem cd_max (hc : X.calm = true) : CallD X (.builtin "max") maxD := HL.CallR.imp (call_max2 hc) fun xs H Q ⟨ds, r, p, e, q⟩ => by
  unfold maxD at e
  split at e
  · cases e
    exact ⟨_, _, p.two, q _ H .refl (.int _)⟩
  · cases e
/-- tuple(x), list(x) -/
def tupD : List Dt → Option Dt
  | [.list ds] => some (.tuple ds)
  | [.tuple ds] => some (.tuple ds)
  | _ => none
theorem cd_tuple : CallD X (.type "tuple") tupD := fun pins s σ H xs us Q I r ⟨ds, rr, p, e, q⟩ => by
  unfold tupD at e
  split at e
  · cases e
    obtain ⟨v, rfl, p'⟩ := p.oneI
    obtain ⟨a, o, ys, rfl, f1, f2, f3⟩ := p'.lstI
    obtain ⟨u, rfl, rx⟩ := vals1 r
    cases rx
    obtain ⟨its, r', pl, hz⟩ := I.list f2
    have hlen := r'.length
    have hn := line63
    refine call_tuple_list pl.isList (fun h' kp => ?_) (by simp only [List.size_toArray] <;> omega)
    have I1 : Inv X pins σ H { s with heap := h' } := I.kept (t' := s.toks) kp
    have I2 := Inv.tnew (t' := s.toks) I1 r' hz
    obtain ⟨x, pd⟩ := Pd.tnew (us := its) I1.fresh f3
    exact ⟨.ref _, _, I2, rfl, q _ _ x pd⟩
  · cases e
    obtain ⟨v, rfl, p'⟩ := p.oneI
    obtain ⟨a, ys, rfl, f2, f3⟩ := p'.tupQ
    obtain ⟨u, rfl, rx⟩ := vals1 r
    cases rx
    obtain ⟨its, r', pl, hz⟩ := I.tuple f2.sq
    exact call_tuple_same pl ⟨.ref a, H, I, rfl, q _ H .refl (.tup f2 f3)⟩
  · cases e
def lstD : List Dt → Option (List Dt)
  | [.list ds] => some ds
  | [.tuple ds] => some ds
  | _ => none
theorem cn_list : CallN X (.type "list") lstD := HL.CallR.imp call_list_of fun xs H Q ⟨ds, r, p, e, q⟩ => by
  unfold lstD at e
  split at e
  · cases e
    obtain ⟨v, rfl, p'⟩ := p.oneI
    obtain ⟨a, o, ys, rfl, f1, f2, f3⟩ := p'.lstI
    refine ⟨a, ys, rfl, .inl f2, fun l hl => ?_⟩
    have x : Ext none H (upd H l (.lst ys)) := .new hl
    exact q _ _ _ x hl upd_same (f3.pers x.toPers)
  · cases e
    obtain ⟨v, rfl, p'⟩ := p.oneI
    obtain ⟨a, ys, rfl, f2, f3⟩ := p'.tupI
    refine ⟨a, ys, rfl, .inr f2, fun l hl => ?_⟩
    have x : Ext none H (upd H l (.lst ys)) := .new hl
    exact q _ _ _ x hl upd_same (f3.pers x.toPers)
  · cases e
/-- all, any -/
def blsD : List Dt → Option (List Bool)
  | [] => some []
  | .bool b :: ds => (blsD ds).map (b :: ·)
  | _ :: _ => none
theorem blsD_some : ∀ {ds : List Dt} {bs : List Bool}, blsD ds = some bs → ds = bs.map .bool
  | [], _, h => by cases h; rfl
  | d :: ds, bs, h => by
    cases d with
    | bool b =>
      rw [blsD] at h
      obtain ⟨r, e, rfl⟩ := Option.map_eq_some_iff.mp h
      rw [blsD_some e]; rfl
    | _ => cases h
def allD : List Dt → Option Dt
  | [.list ds] => (blsD ds).map fun bs => .bool (bs.all id)
  | _ => none
def anyD : List Dt → Option Dt
  | [.list ds] => (blsD ds).map fun bs => .bool (bs.any id)
  | _ => none
theorem cd_all (hc : X.calm = true) : CallD X (.builtin "all") allD := HL.CallR.imp (cr_all hc) fun xs H Q ⟨ds, r, p, e, q⟩ => by
  unfold allD at e
  split at e
  · obtain ⟨bb, e1, rfl⟩ := Option.map_eq_some_iff.mp e
    obtain ⟨v, rfl, p'⟩ := p.oneI
    obtain ⟨a, o, ys, rfl, f1, f2, f3⟩ := p'.lstI
    rw [blsD_some e1] at f3
    rw [f3.bls] at f2
    exact ⟨a, bb, rfl, f2, q _ H .refl (.bl _)⟩
  · cases e
theorem cd_any (hc : X.calm = true) : CallD X (.builtin "any") anyD := HL.CallR.imp (cr_any hc) fun xs H Q ⟨ds, r, p, e, q⟩ => by
  unfold anyD at e
  split at e
  · obtain ⟨bb, e1, rfl⟩ := Option.map_eq_some_iff.mp e
    obtain ⟨v, rfl, p'⟩ := p.oneI
    obtain ⟨a, o, ys, rfl, f1, f2, f3⟩ := p'.lstI
    rw [blsD_some e1] at f3
    rw [f3.bls] at f2
    exact ⟨a, bb, rfl, f2, q _ H .refl (.bl _)⟩
  · cases e
/-- sum of a list of ints -/
def intsD : List Dt → Option (List Int)
  | [] => some []
  | .int b :: ds => (intsD ds).map (b :: ·)
  | _ :: _ => none
theorem intsD_some : ∀ {ds : List Dt} {bs : List Int}, intsD ds = some bs → ds = bs.map .int
  | [], _, h => by cases h; rfl
  | d :: ds, bs, h => by
    cases d with
    | int b =>
      rw [intsD] at h
      obtain ⟨r, e, rfl⟩ := Option.map_eq_some_iff.mp h
      rw [intsD_some e]; rfl
    | _ => cases h
def sumD : List Dt → Option Dt
  | [.list ds] => (intsD ds).map fun bs => .int bs.sum
  | _ => none
theorem cd_sum (hc : X.calm = true) : CallD X (.builtin "sum") sumD := HL.CallR.imp (cr_sum hc) fun xs H Q ⟨ds, r, p, e, q⟩ => by
  unfold sumD at e
  split at e
  · obtain ⟨bb, e1, rfl⟩ := Option.map_eq_some_iff.mp e
    obtain ⟨v, rfl, p'⟩ := p.oneI
    obtain ⟨a, o, ys, rfl, f1, f2, f3⟩ := p'.lstI
    rw [intsD_some e1] at f3
    rw [f3.ints] at f2
    exact ⟨a, bb, rfl, f2, q _ H .refl (.int _)⟩
  · cases e
/-! isinstance -/
def isTy (T : String) : Dt → Option Bool
  | .none => some false
  | .bool _ => some (T == "bool" || T == "int")
  | .int _ => some (T == "int")
  | .str _ => some (T == "str")
  | .list _ => some (T == "list")
  | .tuple _ => some (T == "tuple")
  | .dict _ => none
def tyN : Dt → String
  | .none => "NoneType"
  | .bool _ => "bool"
  | .int _ => "int"
  | .str _ => "str"
  | .list _ => "list"
  | .tuple _ => "tuple"
  | .dict _ => "dict"
theorem Pd.ty {B : Bs} {H : Hp} {v : V} {d : Dt} (p : Pd B H v d) (hd : ∀ k, d ≠ .dict k) : TyX B.K H v (.type (tyN d)) := by
  cases p with
  | non => exact .base .non
  | bl b => exact .base (.bl b)
  | int i => exact .base (.int i)
  | str x => exact .base (.str x)
  | lst e _ => exact .base (.frz e)
  | tup e _ =>
    rcases e with ⟨o, e, _⟩ | ⟨o, its, n, e, c, _⟩
    · exact .fTuple e
    · exact .kTuple e c
  | dct _ _ => exact absurd rfl (hd _)
def OneTy (T : String) : Prop := ∀ (K : PySem.W.Frag) (d : Dt) (b : Bool), isTy T d = some b → PySem.W.kitOne K (.type (tyN d)) (.type T) = some b
theorem ot (T : String) (h1 : ∀ K, PySem.W.kitOne K (.type "NoneType") (.type T) = some false) (h2 : ∀ K, PySem.W.kitOne K (.type "bool") (.type T) = some (T == "bool" || T == "int")) (h3 : ∀ K, PySem.W.kitOne K (.type "int") (.type T) = some (T == "int")) (h4 : ∀ K, PySem.W.kitOne K (.type "str") (.type T) = some (T == "str"))
    (h5 : ∀ K, PySem.W.kitOne K (.type "list") (.type T) = some (T == "list")) (h6 : ∀ K, PySem.W.kitOne K (.type "tuple") (.type T) = some (T == "tuple")) : OneTy T := fun K d b h => by
  cases d with
  | none => cases h; exact h1 K
  | bool _ => cases h; exact h2 K
  | int _ => cases h; exact h3 K
  | str _ => cases h; exact h4 K
  | list _ => cases h; exact h5 K
  | tuple _ => cases h; exact h6 K
  | dict _ => cases h
theorem ot_int : OneTy "int" := ot "int" (fun K => by kernel_rfl) (fun K => by kernel_rfl) (fun K => by kernel_rfl) (fun K => by kernel_rfl) (fun K => by kernel_rfl) (fun K => by kernel_rfl)
theorem ot_bool : OneTy "bool" := ot "bool" (fun K => by kernel_rfl) (fun K => by kernel_rfl) (fun K => by kernel_rfl) (fun K => by kernel_rfl) (fun K => by kernel_rfl) (fun K => by kernel_rfl)
theorem ot_str : OneTy "str" := ot "str" (fun K => by kernel_rfl) (fun K => by kernel_rfl) (fun K => by kernel_rfl) (fun K => by kernel_rfl) (fun K => by kernel_rfl) (fun K => by kernel_rfl)
theorem ot_list : OneTy "list" := ot "list" (fun K => by kernel_rfl) (fun K => by kernel_rfl) (fun K => by kernel_rfl) (fun K => by kernel_rfl) (fun K => by kernel_rfl) (fun K => by kernel_rfl)
theorem ot_tuple : OneTy "tuple" := ot "tuple" (fun K => by kernel_rfl) (fun K => by kernel_rfl) (fun K => by kernel_rfl) (fun K => by kernel_rfl) (fun K => by kernel_rfl) (fun K => by kernel_rfl)
theorem ot_dict : OneTy "dict" := ot "dict" (fun K => by kernel_rfl) (fun K => by kernel_rfl) (fun K => by kernel_rfl) (fun K => by kernel_rfl) (fun K => by kernel_rfl) (fun K => by kernel_rfl)
end
end HL

/-! HlG: isinstance, subscripts, slices, index, count, sorted. -/
namespace HL
open PySem PySem.Spec PyProof.Rows L2
section
variable {X : Cx} {k : Option Nat} {a b c e : Expr} {es : List Expr} {pos p p2 p3 p4 : Pos} {x : Str} {ea eb : Ev} {en : EvN}
/-! ### isinstance -/
def xIsi (T : String) (ev : Ev) : Ev := fun st t => (ev st t).bind fun r => (isTy T r.1).map fun b => (.bool b, r.2)
theorem isTy_nd {T : String} {d : Dt} {b : Bool} (h : isTy T d = some b) : ∀ k, d ≠ .dict k := fun k z => by subst z; cases h
theorem px_isi {T : String} (o : OneTy T) (he : PX k X e ea) (hm : X.mg "isinstance" = none) (hmT : X.mg (Str.ofString T) = none) (hgT : Gl X (Str.ofString T) := by rfl) (hg : Gl X "isinstance" := by rfl) (hb : bootBuiltins (Str.ofString T) = some (.type T) := by decide +kernel)
    (hn : Str.ofString T ≠ "__name__" := by decide) (hd : (Str.ofString T == ("__debug__" : Str)) = false := by decide)
    (hs : starEach [e, .Name (Str.ofString T) p2] X.env = (false, eval e X.env) :: starEach [.Name (Str.ofString T) p2] X.env := by rfl) (hs2 : starEach [.Name (Str.ofString T) p2] X.env = (false, eval (.Name (Str.ofString T) p2) X.env) :: starEach [] X.env := by rfl)
    (hpl : (backTo pos (starEach [.Name (Str.ofString T) p2] X.env)).any (·.1) = false := by rfl) :
    PX k X (.Call (.Name "isinstance" p) [e, .Name (Str.ofString T) p2] [] pos) (xIsi T ea) :=
  PE.imp (pe_callB call_isi hg hm (by decide +kernel) (pa_cons he (pa_cons (pe_bltn (v := .ty T) hgT hmT hb rfl hn hd) pa_nil hs2) hs) (by decide) (by decide) hs hpl) fun σ H Q ⟨st, t, T', r, sd, tn, e, q⟩ => by
  obtain ⟨a, e1, e⟩ := Option.bind_eq_some_iff.mp e
  obtain ⟨bb, e2, e⟩ := Option.map_eq_some_iff.mp e
  subst e
  exact ⟨st, t, T', a, sd, tn, e1, fun v H1 x1 n1 p1 => ⟨v, .ty T, _, _, bb, rfl, .ty T, p1.ty (isTy_nd e2), o _ _ _ e2, q _ H1 x1 n1 (.bl bb)⟩⟩
theorem kit2 {K : PySem.W.Frag} {t u v : Value} {b c : Bool} (k1 : PySem.W.kitOne K t u = some b) (k2 : PySem.W.kitOne K t v = some c) : PySem.W.kitAny K t [u, v] = some (b || c) := by
  unfold PySem.W.kitAny
  cases b with
  | true => simp [k1]
  | false =>
    unfold PySem.W.kitAny
    cases c with
    | true => simp [k1, k2]
    | false => simp [k1, k2, PySem.W.kitAny]
def xIsi2 (T U : String) (ev : Ev) : Ev := fun st t => (ev st t).bind fun r => (isTy T r.1).bind fun b => (isTy U r.1).map fun c => (.bool (b || c), r.2)
theorem px_isi2 {T U : String} (o : OneTy T) (o2 : OneTy U) {q : Nat} {tp : Pos} (he : PX k X e ea) (hm : X.mg "isinstance" = none) (hmT : X.mg (Str.ofString T) = none) (hmU : X.mg (Str.ofString U) = none)
    (hgT : Gl X (Str.ofString T) := by rfl) (hgU : Gl X (Str.ofString U) := by rfl) (hg : Gl X "isinstance" := by rfl) (hb : bootBuiltins (Str.ofString T) = some (.type T) := by decide +kernel) (hbU : bootBuiltins (Str.ofString U) = some (.type U) := by decide +kernel)
    (hn : Str.ofString T ≠ "__name__" := by decide) (hd : (Str.ofString T == ("__debug__" : Str)) = false := by decide) (hnU : Str.ofString U ≠ "__name__" := by decide) (hdU : (Str.ofString U == ("__debug__" : Str)) = false := by decide)
    (hs : starEach [e, .Tuple [.Name (Str.ofString T) p2, .Name (Str.ofString U) p3] q tp] X.env = (false, eval e X.env) :: starEach [.Tuple [.Name (Str.ofString T) p2, .Name (Str.ofString U) p3] q tp] X.env := by rfl)
    (hs2 : starEach [.Tuple [.Name (Str.ofString T) p2, .Name (Str.ofString U) p3] q tp] X.env = (false, eval (.Tuple [.Name (Str.ofString T) p2, .Name (Str.ofString U) p3] q tp) X.env) :: starEach [] X.env := by rfl)
    (hs3 : starEach [.Name (Str.ofString T) p2, .Name (Str.ofString U) p3] X.env = (false, eval (.Name (Str.ofString T) p2) X.env) :: starEach [.Name (Str.ofString U) p3] X.env := by rfl) (hs4 : starEach [.Name (Str.ofString U) p3] X.env = (false, eval (.Name (Str.ofString U) p3) X.env) :: starEach [] X.env := by rfl)
    (hpl : (backTo pos (starEach [.Tuple [.Name (Str.ofString T) p2, .Name (Str.ofString U) p3] q tp] X.env)).any (·.1) = false := by rfl) :
    PX k X (.Call (.Name "isinstance" p) [e, .Tuple [.Name (Str.ofString T) p2, .Name (Str.ofString U) p3] q tp] [] pos) (xIsi2 T U ea) :=
  PE.imp (pe_callB call_isiT hg hm (by decide +kernel) (pa_cons he (pa_cons (pe_tup (pa_cons (pe_bltn (v := .ty T) hgT hmT hb rfl hn hd) (pa_cons (pe_bltn (v := .ty U) hgU hmU hbU rfl hnU hdU) pa_nil hs4) hs3)) pa_nil hs2) hs) (by decide) (by decide) hs hpl) fun σ H Q ⟨st, t, T', r, sd, tn, e, q⟩ => by
  obtain ⟨a, e1, e⟩ := Option.bind_eq_some_iff.mp e
  obtain ⟨bb, e2, e⟩ := Option.bind_eq_some_iff.mp e
  obtain ⟨cc, e3, e⟩ := Option.map_eq_some_iff.mp e
  subst e
  refine ⟨st, t, T', a, sd, tn, e1, fun v H1 x1 n1 p1 => ⟨by show 2 ≤ sizeLine; decide, fun tp htp => ?_⟩⟩
  have x2 : Ext none H1 (upd H1 tp (.tup [.ty T, .ty U])) := .new htp
  refine ⟨v, tp, [.ty T, .ty U], _, [.type T, .type U], bb || cc, rfl, upd_same, .cons (.ty T) (.cons (.ty U) .nil), (p1.pers x2.toPers).ty (isTy_nd e2), ?_, q _ _ (x1.trans x2.any) (n1.ext0 x2) (.bl _)⟩
  exact kit2 (o X.K _ _ e2) (o2 X.K _ _ e3)
/-! ### subscripts -/
def ixD : Dt → Dt → Option Dt
  | .list ds, .int i => atI ds i
  | .tuple ds, .int i => atI ds i
  | .str z, .int i => if szOk z.length = true then (atI z.cps.toList i).map fun c => .str ⟨#[c]⟩ else none
  | _, _ => none
theorem PdA.atI {B : Bs} {H : Hp} {vs : List V} {ds : List Dt} {i : Int} {d : Dt} (h : PdA B H vs ds) (e : L2.atI ds i = some d) : ∃ v, L2.atI vs i = some v ∧ Pd B H v d := by
  unfold L2.atI at e ⊢
  rw [h.length]
  obtain ⟨j, e1, e2⟩ := Option.bind_eq_some_iff.mp e
  obtain ⟨v, e3, p⟩ := h.get e2
  exact ⟨v, by rw [e1]; exact e3, p⟩
theorem px_ix (ha : PX k X a ea) (hb : PX k X b eb) (hs : PlainIx b := by intro _ _; rfl) : PX k X (.Subscript a b pos) (x2 ixD ea eb) := PE.imp (pe_ix L2.ix_seq ha hb hs) fun σ H Q h => by
  obtain ⟨st, t, T, r, sd, tn, e, q⟩ := t2 h
  refine ⟨st, t, T, r, sd, tn, e, fun v H1 x1 n1 p1 => ?_⟩
  obtain ⟨st', t', T', r', sd', tn', e', q'⟩ := q v H1 x1 n1 p1
  refine ⟨st', t', T', r', sd', tn', e', fun w H2 x2 n2 p2 => ?_⟩
  obtain ⟨d, i, rr, f1, f2, f3, f4⟩ := q' w H2 x2 n2 p2
  unfold ixD at f3
  split at f3
  · obtain ⟨a', o', ys, rfl, g1, g2, g3⟩ := f1.lstI
    obtain ⟨z, h1, h2⟩ := g3.atI f3
    exact .inl ⟨a', ys, _, z, rfl, f2.intI, g2, h1, f4 z H2 .refl h2⟩
  · obtain ⟨a', ys, rfl, g2, g3⟩ := f1.tupI
    obtain ⟨z, h1, h2⟩ := g3.atI f3
    exact .inr (.inl ⟨a', ys, _, z, rfl, f2.intI, g2, h1, f4 z H2 .refl h2⟩)
  · split at f3
    case isFalse => cases f3
    rename_i hz
    obtain ⟨c, h1, h2⟩ := Option.map_eq_some_iff.mp f3
    subst h2
    exact .inr (.inr ⟨_, _, c, f1.strI, f2.intI, szOk_le hz, h1, f4 _ H2 .refl (.str _)⟩)
  · cases f3
/-! ### slices -/
abbrev EvO := DS → Ti → Option (Option Int × Ti)
def tOo (k : Option Nat) (K : Bs) (ev : EvO) : TO := fun σ H Q => ∃ st t T r, SD K H σ st ∧ TN k σ H T t ∧ ev st t = some r ∧
  ∀ H', Ext T H H' → TN k σ H' T r.2 → Q r.1 H'
abbrev OX (k : Option Nat) (X : Cx) (e : Option Expr) (ev : EvO) : Prop := PO X e (tOo k (bs X) ev)
def oNo : EvO := fun _ t => some (none, t)
def oSo (ev : Ev) : EvO := fun st t => (ev st t).bind fun r => match r.1 with
  | .int i => some (some i, r.2)
  | _ => none
theorem PO.imp {e : Option Expr} {t t' : TO} (h : PO X e t) (i : ∀ σ H Q, t' σ H Q → t σ H Q) : PO X e t' := ⟨fun pins s σ H Q I q => h.run pins s σ H Q I (i σ H Q q)⟩
theorem ox_no : OX k X none oNo := HL.PO.imp po_none fun σ H Q ⟨st, t, T, r, sd, tn, e, q⟩ => by cases e; exact q H .refl tn
theorem ox_so (h : PX k X e ea) : OX k X (some e) (oSo ea) := HL.PO.imp (po_some h) fun σ H Q ⟨st, t, T, r, sd, tn, e, q⟩ => by
  obtain ⟨a, e1, e⟩ := Option.bind_eq_some_iff.mp e
  obtain ⟨d, t'⟩ := a
  cases d with
  | int i =>
    cases e
    exact ⟨st, t, T, _, sd, tn, e1, fun v H1 x1 n1 p1 => ⟨i, p1.intI, q H1 x1 n1⟩⟩
  | _ => cases e
def cutD (ds : List Dt) (lo hi : Option Int) : List Dt := (ds.drop (HT.sIx ds.length 0 lo)).take (HT.sIx ds.length ds.length hi - HT.sIx ds.length 0 lo)
theorem PdA.cut {B : Bs} {H : Hp} {vs : List V} {ds : List Dt} (h : PdA B H vs ds) (lo hi : Option Int) : PdA B H (cutV vs lo hi) (cutD ds lo hi) := by
  unfold cutV cutD
  rw [h.length]
  exact (h.drop _).take _
def slD (d : Dt) (lo hi : Option Int) : Option Dt := match d with
  | .list ds => some (.list (cutD ds lo hi))
  | .tuple ds => some (.tuple (cutD ds lo hi))
  | _ => none
def slN (d : Dt) (lo hi : Option Int) : Option (List Dt) := match d with
  | .list ds => some (cutD ds lo hi)
  | _ => none
/-- a slice of a datum -/
def SlDd (X : Cx) (f : Dt → Option Int → Option Int → Option Dt) : Prop := SlR X fun x lo hi H Q => ∃ d r, Pd (bs X) H x d ∧ f d lo hi = some r ∧ ∀ v H', Ext none H H' → Pd (bs X) H' v r → Q v H'
theorem sIx_hi (n : Nat) : ∀ (o : Option Int), HT.sIx n 0 o = 0 ∨ 0 < HT.sIx n 0 o := fun o => Nat.eq_zero_or_pos _
theorem cut_all {ds : List Dt} {lo hi : Option Int} (h1 : HT.sIx ds.length 0 lo = 0) (h2 : HT.sIx ds.length ds.length hi = ds.length) : cutD ds lo hi = ds := by
  unfold cutD
  rw [h1, h2]
  simp
theorem sl_d : SlDd X slD := fun pins s σ H x v vl vu lo hi sl Q I rx hs pl pu ⟨d, r, pd, e, q⟩ => by
  unfold slD at e
  split at e
  · cases e
    obtain ⟨a', o', ys, rfl, g1, g2, g3⟩ := pd.lstI
    obtain ⟨T, id, z1, z2, z3⟩ := sl_list (X := X) pins s σ H (.ref a') v vl vu lo hi sl (fun u H' => ∃ p, u = .ref p ∧ H p = none ∧ H' = upd H p (.lst (cutV ys lo hi))) I rx hs pl pu ⟨a', ys, rfl, g2, fun p hp => ⟨p, rfl, hp, rfl⟩⟩
    refine ⟨T, id, z1, z2, thn z3 ?_⟩
    rintro w s1 ⟨u, H', I1, rv, p, rfl, hp, rfl⟩
    cases rv
    exact lock_ep I1 hp (g3.cut lo hi) q
  · cases e
    obtain ⟨a', xs, rfl, hx, g3⟩ := pd.tupQ
    cases rx
    obtain ⟨its, r, ht, hz⟩ := I.tuple hx.sq
    have hlen : its.toArray.size = xs.length := by rw [List.size_toArray]; exact r.length.symm
    have hlen2 := g3.length
    refine ⟨"tuple", _, PyProof.Rows.slot_tuple_getitem.lookup, ht.typeIs, ?_⟩
    by_cases hw : HT.sIx xs.length 0 lo = 0 ∧ HT.sIx xs.length xs.length hi = xs.length
    · refine getItem_tuple_whole ht hs pl pu (by rw [hlen]; exact hw) ⟨.ref a', H, I, rfl, q _ H .refl ?_⟩
      rw [hlen2] at hw
      rw [cut_all hw.1 hw.2]
      exact .tup hx g3
    · refine HT.getItem_tuple_cut ht hs pl pu (by rw [hlen]; exact hw) ?_ (by rw [hlen]; exact hz)
      rw [hlen]
      have I1 := Inv.tnew (t' := s.toks) I ((r.drop (HT.sIx xs.length 0 lo)).take (HT.sIx xs.length xs.length hi - HT.sIx xs.length 0 lo)) (Nat.le_trans (cutV_length xs lo hi) hz)
      obtain ⟨x, pd⟩ := Pd.tnew (us := (its.drop (HT.sIx xs.length 0 lo)).take (HT.sIx xs.length xs.length hi - HT.sIx xs.length 0 lo)) I.fresh (g3.cut lo hi)
      exact ⟨.ref _, _, I1, rfl, q _ _ x pd⟩
  · cases e
def xSl (f : Dt → Option Int → Option Int → Option Dt) (ea : Ev) (lo hi : EvO) : Ev := fun st t => (ea st t).bind fun a => (lo st a.2).bind fun l => (hi st l.2).bind fun h => (f a.1 l.1 h.1).map fun r => (r, h.2)
theorem px_sl {lo hi : Option Expr} {el eh : EvO} (ha : PX k X a ea) (hl : OX k X lo el) (hh : OX k X hi eh) : PX k X (.Subscript a (.Slice lo hi none p2) pos) (xSl slD ea el eh) := PE.imp (pe_slice sl_d ha hl hh) fun σ H Q ⟨st, t, T, r, sd, tn, e, q⟩ => by
  obtain ⟨a, e1, e⟩ := Option.bind_eq_some_iff.mp e
  obtain ⟨l, e2, e⟩ := Option.bind_eq_some_iff.mp e
  obtain ⟨h, e3, e⟩ := Option.bind_eq_some_iff.mp e
  obtain ⟨r', e4, e⟩ := Option.map_eq_some_iff.mp e
  subst e
  exact ⟨st, t, T, a, sd, tn, e1, fun v H1 x1 n1 p1 => ⟨st, a.2, T, l, sd.pers x1.toPers, n1, e2, fun H2 x2 n2 => ⟨st, l.2, T, h, (sd.pers x1.toPers).pers x2.toPers, n2, e3, fun H3 x3 n3 =>
    ⟨a.1, r', (p1.pers x2.toPers).pers x3.toPers, e4, fun w H4 x4 p4 => q w H4 (((x1.trans x2).trans x3).trans x4.any) (n3.ext0 x4) p4⟩⟩⟩⟩
/-- a new list by a slice -/
def nSl (ea : Ev) (lo hi : EvO) : EvN := fun st t => (ea st t).bind fun a => (lo st a.2).bind fun l => (hi st l.2).bind fun h => (slN a.1 l.1 h.1).map fun r => (r, h.2)
theorem pn_sl {lo hi : Option Expr} {el eh : EvO} (ha : PX k X a ea) (hl : OX k X lo el) (hh : OX k X hi eh) : PN k X (.Subscript a (.Slice lo hi none p2) pos) (nSl ea el eh) := PE.imp (pe_slice sl_list ha hl hh) fun σ H Q ⟨st, t, T, r, sd, tn, e, q⟩ => by
  obtain ⟨a, e1, e⟩ := Option.bind_eq_some_iff.mp e
  obtain ⟨l, e2, e⟩ := Option.bind_eq_some_iff.mp e
  obtain ⟨h, e3, e⟩ := Option.bind_eq_some_iff.mp e
  obtain ⟨r', e4, e⟩ := Option.map_eq_some_iff.mp e
  subst e
  refine ⟨st, t, T, a, sd, tn, e1, fun v H1 x1 n1 p1 => ⟨st, a.2, T, l, sd.pers x1.toPers, n1, e2, fun H2 x2 n2 => ⟨st, l.2, T, h, (sd.pers x1.toPers).pers x2.toPers, n2, e3, fun H3 x3 n3 => ?_⟩⟩⟩
  have x13 := (x1.trans x2).trans x3
  have p3 := (p1.pers x2.toPers).pers x3.toPers
  obtain ⟨ad, at'⟩ := a
  cases ad with
  | list ds =>
    cases e4
    obtain ⟨a', o', ys, rfl, g1, g2, g3⟩ := p3.lstI
    refine ⟨a', ys, rfl, g2, fun p hp => ?_⟩
    have x4 : Ext none H3 (upd H3 p (.lst (cutV ys l.1 h.1))) := .new hp
    exact q p _ _ (x13.trans x4.any) (new_back x13 n3 hp) (n3.ext0 x4) upd_same ((g3.cut _ _).pers x4.toPers)
  | _ => cases e4
/-! ### t.index(x), l.count(x), t.count(x) -/
def fxD (ds : List Dt) (d : Dt) : Option Nat := ds.findIdx? fun z => PyData.eqv z d
def indD : Dt → List Dt → Option Dt
  | .tuple ds, [d] => if (shp (.tuple ds) && shp d) = true then (fxD ds d).map fun (j : Nat) => .int (j : Int) else none
  | _, _ => none
def MeD (X : Cx) (T : String) (id : String) (f : Dt → List Dt → Option Dt) : Prop :=
  ∀ (pins : List (Addr × Obj)) (s : Shared) (σ : L2.St) (H : Hp) (x : V) (xs : List V) (v : Value) (us : List Value) (Q : VK), Inv X pins σ H s → RelV x v → Vals xs us →
    (∃ d ds r, Pd (bs X) H x d ∧ PdA (bs X) H xs ds ∧ f d ds = some r ∧ ∀ v H', Ext none H H' → Pd (bs X) H' v r → Q v H') → wpAny (model X.prog X.w) X.A (call (.builtin id) (v :: us)) (EP X pins σ Q) X.xe s
theorem me_index (hu : X.A.units + 66 < cLine) : MeD X "tuple" "tuple.index" indD := fun pins s σ H x xs v us Q I rx rxs ⟨d, ds, r, pd, pa, e, q⟩ => by
  unfold indD at e
  split at e
  case h_2 => cases e
  rename_i ts d1
  split at e
  case isFalse => cases e
  rename_i hsh
  rw [Bool.and_eq_true] at hsh
  obtain ⟨j, e1, rfl⟩ := Option.map_eq_some_iff.mp e
  obtain ⟨y, rfl, py⟩ := pa.oneI
  obtain ⟨a, ys, rfl, hq, pys⟩ := pd.tupI
  cases rx
  obtain ⟨uy, rfl, ry⟩ := vals1 rxs
  obtain ⟨bs', r1⟩ := Dp.reads I d1 y uy (py.dp (SeqAt.canLay_of_shaped hsh.2)) ry
  have hxs : PyData.canLayAll0 ts = true := SeqAt.canLay_of_shaped hsh.1
  obtain ⟨its, rv, pl, hz⟩ := I.tuple hq
  obtain ⟨⟨cls, dd, dt, sl⟩, ho, hc, n, hd⟩ := pl
  simp only at hc hd
  subst hc hd
  obtain ⟨as, h4⟩ := Dp.readsAll I ts _ its (pys.dp hxs) rv
  have hmap : its.map (SeqAt.readOf s.heap) = ts := SeqAt.readsAll_map ts its as hxs h4
  obtain ⟨f1, f2, f3⟩ := List.findIdx?_eq_some_iff_getElem.mp e1
  have hn : its.length = ts.length := by rw [← hmap, List.length_map]
  have hjl : j < its.length := by omega
  have at_ : ∀ (m : Nat) (hm : m < its.toArray.size) (hm2 : m < ts.length), SeqAt.readOf s.heap its.toArray[m] = ts[m] := fun m hm hm2 => by
    have hml : m < its.length := by simpa using hm
    have : (its.map (SeqAt.readOf s.heap))[m]? = ts[m]? := by rw [hmap]
    rw [List.getElem?_map, List.getElem?_eq_getElem hml, List.getElem?_eq_getElem hm2] at this
    have := Option.some.inj this
    simpa using this
  refine call_meets PySem.F.slot_tuple_index ⟨_, ho, rfl⟩ PySem.F.entry_tuple_index (PySem.F.args_tuple_index_2 _ _)
    (TI.tuple_indexAt a its.toArray n dd sl uy (fun u => PyData.eqv (SeqAt.readOf s.heap u) d1) j (by simpa using hjl) ?_ ?_)
    ⟨ho, SeqAt.items_eqAt (vs := its.toArray) (show ReadsAll s.heap its.toArray.toList ts as from h4) r1 hxs (SeqAt.canLay_of_shaped hsh.2) (depth_line hsh.2 hu), ⟨.int (j : Nat), H, I.tok _, ⟨_, rfl⟩, q _ H .refl (.int _)⟩⟩
  · show PyData.eqv (SeqAt.readOf s.heap its.toArray[j]) d1 = true
    rw [at_ j (by simpa using hjl) f1]
    exact f2
  · intro m hm hmj
    show PyData.eqv (SeqAt.readOf s.heap its.toArray[m]) d1 = false
    rw [at_ m hm (by omega)]
    simpa using f3 m hmj
def cntD : Dt → List Dt → Option Dt
  | .list ds, [d] => if (shp (.list ds) && shp d) = true then some (.int (ds.countP fun z => PyData.eqv z d)) else none
  | _, _ => none
theorem me_count (hu : X.A.units + 66 < cLine) : MeD X "list" "list.count" cntD := fun pins s σ H x xs v us Q I rx rxs ⟨d, ds, r, pd, pa, e, q⟩ => by
  unfold cntD at e
  split at e
  case h_2 => cases e
  rename_i ts d1
  split at e
  case isFalse => cases e
  rename_i hsh
  rw [Bool.and_eq_true] at hsh
  cases e
  obtain ⟨y, rfl, py⟩ := pa.oneI
  obtain ⟨a, o, ys, rfl, h0, hq, pys⟩ := pd.lstI
  cases rx
  obtain ⟨uy, rfl, ry⟩ := vals1 rxs
  obtain ⟨bs', r1⟩ := Dp.reads I d1 y uy (py.dp (SeqAt.canLay_of_shaped hsh.2)) ry
  have hxs : PyData.canLayAll0 ts = true := SeqAt.canLay_of_shaped hsh.1
  obtain ⟨its, rv, ⟨⟨cls, dd, data, sl⟩, n, ho, hc, hdn, hd⟩, hlen⟩ := I.list hq
  simp only at hc hd
  subst hc hd
  obtain ⟨as, h4⟩ := Dp.readsAll I ts _ its (pys.dp hxs) rv
  have hmap : its.map (SeqAt.readOf s.heap) = ts := SeqAt.readsAll_map ts its as hxs h4
  refine call_meets PySem.F.slot_list_count ⟨_, ho, rfl⟩ PySem.F.entry_list_count (PySem.F.args_list_count_2 _ _)
    (SeqAt.list_countAt a its.toArray n dd sl uy (fun u => PyData.eqv (SeqAt.readOf s.heap u) d1)) ⟨ho, SeqAt.items_eqAt (vs := its.toArray) (show ReadsAll s.heap its.toArray.toList ts as from h4) r1 hxs (SeqAt.canLay_of_shaped hsh.2) (depth_line hsh.2 hu), ?_⟩
  have ec : its.toArray.toList.countP (fun u => PyData.eqv (SeqAt.readOf s.heap u) d1) = ts.countP fun z => PyData.eqv z d1 := by
    rw [← hmap, List.countP_map]
    rfl
  refine ⟨.int _, H, I.tok _, ⟨s.toks, rfl⟩, ?_⟩
  rw [ec]
  exact q _ H .refl (.int _)
/-- the datum's own type, no dict of its own -/
def isT (T : String) : Dt → Bool
  | .list _ => T == "list"
  | .tuple _ => T == "tuple"
  | _ => false
theorem ty_is {pins : List (Addr × Obj)} {σ : L2.St} {H : Hp} {s : Shared} {T : String} {x : V} {v : Value} {d : Dt} (I : Inv X pins σ H s) (r : RelV x v) (pd : Pd (bs X) H x d) (ht : isT T d = true) :
    s.TypeIs v T ∧ ∀ a, v = .ref a → ∃ ob, s.heap.get? a = some ob ∧ ob.dict = none := by
  cases d with
  | list ds =>
    obtain rfl : T = "list" := by simpa [isT] using ht
    obtain ⟨a, o, ys, rfl, h0, hq, pys⟩ := pd.lstI
    cases r
    obtain ⟨its, _, pl, _⟩ := I.list hq
    refine ⟨pl.isList.typeIs, fun a e => ?_⟩
    cases e
    obtain ⟨o, n, e, c, hd, _⟩ := pl
    exact ⟨o, e, hd⟩
  | tuple ds =>
    obtain rfl : T = "tuple" := by simpa [isT] using ht
    obtain ⟨a, ys, rfl, hq, pys⟩ := pd.tupQ
    cases r
    obtain ⟨its, _, pl, _⟩ := I.tuple hq.sq
    refine ⟨pl.typeIs, fun b e => ?_⟩
    cases e
    rcases hq with ⟨o, e, hd⟩ | ⟨o, its', n, e, c, hd, _⟩
    · obtain ⟨e2, _⟩ := (show ObjOk X.prog X.w H s.heap a (.frz o (.tup ys)) from I.hok a _ e)
      exact ⟨o, e2, hd⟩
    · exact ⟨o, I.kIn a o e, hd⟩
  | _ => cases ht
def xMe (T : String) (f : Dt → List Dt → Option Dt) (eo : Ev) (ea : EvN) : Ev := fun st t => (eo st t).bind fun o => if isT T o.1 = true then (ea st o.2).bind fun a => (f o.1 a.1).map fun r => (r, a.2) else none
theorem px_me {o : Expr} {eo : Ev} {name : Str} {apos cpos : Pos} {T id : String} {f : Dt → List Dt → Option Dt} (pa : PlainAttrs T) (slot : Slot T name id) (hty : typeOf (.builtin id) = pure (.type "method_descriptor")) (hm : MeD X T id f) (ho : PX k X o eo) (ha : AX k X (e :: es) en)
    (hbase : attributeBase o name X.env (eval o X.env) = eval o X.env := by rfl)
    (hfew : ((backTo cpos (starEach (e :: es) X.env)).all (fun x => !x.1) && (backToKw cpos (keywordEach [] X.env)).all (fun x => x.1.isSome)
      && decide ((e :: es).length + ([] : List Keyword).length + (if ([] : List Keyword).isEmpty then 0 else 1) < 30)) = true := by rfl)
    (hline : (apos.endLine == cpos.line) = true := by rfl) (hs : starEach (e :: es) X.env = (false, eval e X.env) :: starEach es X.env := by rfl) (hplain : (backTo cpos (starEach es X.env)).any (·.1) = false := by rfl) :
    PX k X (.Call (.Attribute o name apos) (e :: es) [] cpos) (xMe T f eo en) := by
  refine ⟨fun pins s σ H Q I ⟨st, t, T', r, sd, tn, e, q⟩ => ?_⟩
  obtain ⟨od, e1, e⟩ := Option.bind_eq_some_iff.mp e
  by_cases ht : isT T od.1 = true
  case neg => rw [if_neg ht] at e; cases e
  rw [if_pos ht] at e
  obtain ⟨ad, e2, e⟩ := Option.bind_eq_some_iff.mp e
  obtain ⟨rd, e3, e⟩ := Option.map_eq_some_iff.mp e
  subst e
  refine wpAny_Call_method_late hbase hfew hline rfl (thn (ho.run pins s σ H (fun v H1 => Ext T' H H1 ∧ TN k σ H1 T' od.2 ∧ Pd (bs X) H1 v od.1) I ⟨st, t, T', od, sd, tn, e1, fun v H1 x1 n1 p1 => ⟨x1, n1, p1⟩⟩) fun v s1 ⟨x, H1, I1, r1, x1, n1, p1⟩ => ?_)
  obtain ⟨h1, h2⟩ := ty_is I1 r1 p1 ht
  refine ⟨T, id, pa, slot, hty, h1, h2, ?_⟩
  have hA := ha.run cpos pins s1 σ H1 (fun vs H2 => Ext T' H1 H2 ∧ TN k σ H2 T' ad.2 ∧ PdA (bs X) H2 vs ad.1) I1 ⟨st, od.2, T', ad, sd.pers x1.toPers, n1, e2, fun vs H2 x2 n2 p2 => ⟨x2, n2, p2⟩⟩
  rw [hs] at hA ⊢
  refine Calls.callWith_builtin (by show (false || (backTo cpos (starEach es X.env)).any (·.1)) = false; rw [hplain] <;> rfl) (Calls.evalArgs_plain ?_)
  exact thn hA fun us s2 ⟨vs, H2, I2, r2, x2, n2, p2⟩ => hm pins s2 σ H2 x vs v us Q I2 r1 r2 ⟨od.1, ad.1, rd, p1.pers x2.toPers, p2, e3, fun w H3 x3 p3 => q w H3 ((x1.trans x2).trans x3.any) (n2.ext0 x3) p3⟩
/-! ### [..] * n -/
def repN (ds : List Dt) : Dt → Option (List Dt)
  | .int n => if (decide (n.natAbs ≤ 2 ^ 61) && szOk (ds.length * n.toNat)) = true then some (List.replicate n.toNat ds).flatten else none
  | _ => none
def nRep (en : EvN) (eb : Ev) : EvN := fun st t => (en st t).bind fun a => (eb st a.2).bind fun b => (repN a.1 b.1).map fun r => (r, b.2)
theorem PdA.rep {B : Bs} {H : Hp} {vs : List V} {ds : List Dt} (h : PdA B H vs ds) : ∀ n : Nat, PdA B H (List.replicate n vs).flatten (List.replicate n ds).flatten
  | 0 => .nil
  | n + 1 => by
    rw [List.replicate_succ, List.replicate_succ, List.flatten_cons, List.flatten_cons]
    exact h.append (PdA.rep h n)
theorem pn_rep (ha : PN k X a en) (hb : PX k X b eb) : PN k X (.BinOp a .Mult b pos) (nRep en eb) := PE.imp (pe_op op_rep ha hb) fun σ H Q ⟨st, t, T, r, sd, tn, e, q⟩ => by
  obtain ⟨a, e1, e⟩ := Option.bind_eq_some_iff.mp e
  obtain ⟨b, e2, e⟩ := Option.bind_eq_some_iff.mp e
  obtain ⟨rr, e3, e⟩ := Option.map_eq_some_iff.mp e
  subst e
  refine ⟨st, t, T, a, sd, tn, e1, fun p xs H1 x1 hp n1 h1 p1 => ⟨st, a.2, T, b, sd.pers x1.toPers, n1, e2, fun w H2 x2 n2 p2 => ?_⟩⟩
  obtain ⟨bd, bt⟩ := b
  cases bd with
  | int n =>
    simp only [repN] at e3
    split at e3
    case isFalse => cases e3
    rename_i hc
    cases e3
    simp only [Bool.and_eq_true, decide_eq_true_eq] at hc
    have h2 := x2.keep _ _ h1 (fun z => by
      cases k with
      | none => rw [tn.1] at z; cases z
      | some l =>
        obtain ⟨a', f1, f2, f3⟩ := tn
        rw [f1] at z; cases z
        rw [hp] at f3; cases f3)
    refine ⟨p, n, xs, rfl, p2.intI, h2, (by omega), (by omega), by rw [p1.length]; exact szOk_le hc.2, fun l hl => ?_⟩
    have x3 : Ext none H2 (upd H2 l (.lst (List.replicate n.toNat xs).flatten)) := .new hl
    exact q l _ _ ((x1.trans x2).trans x3.any) (new_back (x1.trans x2) n2 hl) (n2.ext0 x3) upd_same (((p1.pers x2.toPers).rep _).pers x3.toPers)
  | _ => cases e3
/-! ### sorted(l) -/
def alkB (ds : List Dt) : Bool := ds.all fun d => ds.all fun e => PySem.W.alike d e
def tup1 : Dt → Bool
  | .tuple (_ :: _) => true
  | _ => false
def oth1 : Dt → Bool
  | .tuple _ => false
  | .none => false
  | _ => true
def srtOk (ds : List Dt) : Bool := alkB ds && (ds.all tup1 || ds.all oth1) && ds.all fun d => shp d
noncomputable def srtL (ds : List Dt) : List Dt := ds.mergeSort (PySem.W.dataLe false id)
open Classical in
noncomputable def srtD : List Dt → Option (List Dt)
  | [.list ds] => if ds.length < 2 then some ds else if srtOk ds = true then some (srtL ds) else none
  | _ => none
theorem srt_map {vs : List V} {ds : List Dt} (hl : vs.length = ds.length) : ((vs.zip ds).mergeSort (PySem.W.dataLe false Prod.snd)).map Prod.snd = srtL ds := by
  refine (List.map_mergeSort (r := PySem.W.dataLe false Prod.snd) (s := PySem.W.dataLe false id) (f := Prod.snd) (l := vs.zip ds) (fun a _ b _ => rfl)).trans ?_
  rw [List.map_snd_zip (by omega)]
  rfl
theorem PdA.ofPairs {B : Bs} {H : Hp} : ∀ {l : List (V × Dt)}, (∀ p ∈ l, Pd B H p.1 p.2) → PdA B H (l.map Prod.fst) (l.map Prod.snd)
  | [], _ => .nil
  | p :: l, h => .cons (h p (List.mem_cons_self ..)) (PdA.ofPairs fun q hq => h q (List.mem_cons_of_mem _ hq))
theorem PdA.zip_mem {B : Bs} {H : Hp} : ∀ {vs : List V} {ds : List Dt}, PdA B H vs ds → ∀ p ∈ vs.zip ds, Pd B H p.1 p.2
  | _, _, .nil, p, h => by simp at h
  | _, _, .cons a b, p, h => by
    rw [List.zip_cons_cons] at h
    rcases List.mem_cons.mp h with rfl | h
    · exact a
    · exact PdA.zip_mem b p h
end
end HL

/-! HlH: sorted, dicts, enumerate. -/
namespace HL
open PySem PySem.Spec PyProof.Rows L2
section
variable {X : Cx}
def RelP (B : Bs) (H : Hp) (u : Value) (b : V × Dt) : Prop := RelV b.1 u ∧ Pd B H b.1 b.2
theorem each_of {B : Bs} {H : Hp} : ∀ {vs : List V} {us : List Value} {ds : List Dt}, Vals vs us → PdA B H vs ds → PySem.W.EachIs (RelP B H) us (vs.zip ds)
  | _, _, _, .nil, .nil => .nil
  | _, _, _, .cons r t, .cons p q => by
    rw [List.zip_cons_cons]
    exact .cons ⟨r, p⟩ (each_of t q)
theorem each_vals {B : Bs} {H : Hp} : ∀ {us : List Value} {bs : List (V × Dt)}, PySem.W.EachIs (RelP B H) us bs → Vals (bs.map Prod.fst) us
  | _, _, .nil => .nil
  | _, _, .cons h t => .cons h.1 (each_vals t)
theorem each_pd {B : Bs} {H : Hp} : ∀ {us : List Value} {bs : List (V × Dt)}, PySem.W.EachIs (RelP B H) us bs → PdA B H (bs.map Prod.fst) (bs.map Prod.snd)
  | _, _, .nil => .nil
  | _, _, .cons h t => .cons h.2 (each_pd t)
theorem each_read {pins : List (Addr × Obj)} {σ : L2.St} {H : Hp} {s : Shared} (I : Inv X pins σ H s) : ∀ {us : List Value} {bs : List (V × Dt)}, PySem.W.EachIs (RelP (HL.bs X) H) us bs → (∀ b ∈ bs, b.2.canLay0 = true) → PySem.W.EachIs (fun v b => ∃ as, Reads s.heap v b.2 as) us bs
  | _, _, .nil, _ => .nil
  | _, _, .cons h t, c => .cons (Dp.reads I _ _ _ (h.2.dp (c _ (List.mem_cons_self ..))) h.1) (each_read I t fun b hb => c b (List.mem_cons_of_mem _ hb))
theorem alkB_ok {ds : List Dt} (h : alkB ds = true) : PySem.W.AllAlike ds := fun d hd e he => List.all_eq_true.mp (List.all_eq_true.mp h d hd) e he
theorem tup1_ok {d : Dt} (h : tup1 d = true) : ∃ x r, d = .tuple (x :: r) := by
  unfold tup1 at h
  split at h
  · exact ⟨_, _, rfl⟩
  · cases h
theorem oth1_ok {d : Dt} (h : oth1 d = true) : d ≠ .none ∧ ∀ xs, d ≠ .tuple xs := by
  cases d <;> simp_all [oth1]
theorem sable {ds : List Dt} (h : (ds.all tup1 || ds.all oth1) = true) : PySem.W.Sortable ds := by
  rw [Bool.or_eq_true] at h
  rcases h with h | h
  · exact .inl fun d hd => tup1_ok (List.all_eq_true.mp h d hd)
  · exact .inr fun d hd => oth1_ok (List.all_eq_true.mp h d hd)
theorem perm_short {α : Type} {l out : List α} (hl : l.length < 2) (h : out.Perm l) : out = l := by
  match l, hl with
  | [], _ => exact List.perm_nil.mp h
  | [z], _ => exact List.perm_singleton.mp h
theorem cn_sorted (hu : X.A.units + 66 < cLine) : CallN X (.builtin "sorted") srtD := fun pins s σ H xs us Q I r ⟨ds, rr, p, e, q⟩ => by
  unfold srtD at e
  split at e
  case h_2 => cases e
  rename_i ls
  obtain ⟨v, rfl, p'⟩ := p.oneI
  obtain ⟨a, o, ys, rfl, h0, hq, pys⟩ := p'.lstI
  obtain ⟨u, rfl, rx⟩ := vals1 r
  cases rx
  obtain ⟨its, rv, pl, hz⟩ := I.list hq
  have hlen := rv.length
  have hlen2 := pys.length
  have fin : ∀ (out : List Value) (zs : List V) (rs : List Dt), Vals zs out → PdA (bs X) H zs rs → zs.length ≤ sizeLine → rr = rs → EP X pins σ Q (.ref (s.heap.objs.size + 1)) { s with heap := PyProof.Rows.sortedAll s.heap its out.toArray } := fun out zs rs f1 f2 f3 f4 => by
    subst f4
    obtain ⟨ep, he'⟩ := PyProof.Rows.sortedAll_at s.heap its out.toArray
    have hn : H (s.heap.objs.size + 1) = none := I.hok.fresh (Nat.le_succ _)
    have x : Ext none H (upd H (s.heap.objs.size + 1) (.lst zs)) := .new hn
    exact ⟨.ref _, upd H (s.heap.objs.size + 1) (.lst zs), I.laid (t' := s.toks) (fun _ _ => PyProof.Rows.sortedAll_old) (Nat.le_succ _) ⟨f3, out, ep, f1, he'⟩, rfl, q _ zs _ x hn upd_same (f2.pers x.toPers)⟩
  split at e
  · rename_i hs
    have er := Option.some.inj e
    refine Srt.sorted_any pl.isList (by omega) (fun h2 => absurd h2 (by omega)) fun out ho => ?_
    have eo : out = its := by
      have hl : its.length < 2 := by omega
      exact perm_short hl ho
    rw [eo]
    exact fin its ys ls rv pys hz er.symm
  · split at e
    case isFalse => cases e
    rename_i hs hok
    have er := Option.some.inj e
    simp only [srtOk, Bool.and_eq_true] at hok
    obtain ⟨⟨k1, k2⟩, k3⟩ := hok
    have sh : ∀ d ∈ ls, SeqAt.shaped d = true := fun d hd => List.all_eq_true.mp k3 d hd
    have eds : (ys.zip ls).map Prod.snd = ls := List.map_snd_zip (by omega)
    have hz2 : (ys.zip ls).length = ys.length := by rw [List.length_zip]; omega
    have ea : PySem.W.EachIs (RelP (bs X) H) its (ys.zip ls) := each_of rv pys
    have inl : ∀ b ∈ ys.zip ls, b.2 ∈ ls := fun b hb => by
      rw [← eds]
      exact List.mem_map_of_mem hb
    refine PySem.W.sorted_data (R := RelP (bs X) H) (enc := Prod.snd) (bs := ys.zip ls) pl.isList ea (each_read I ea fun b hb => SeqAt.canLay_of_shaped (sh _ (inl b hb))) (by rw [eds]; exact alkB_ok k1) (by rw [eds]; exact sable k2) (by rw [hz2]; exact hz)
      (fun b hb => by have := SeqAt.depth_of_shaped (sh _ (inl b hb)); omega) fun out ho hr => ?_
    refine fin out _ _ (each_vals hr) (each_pd hr) ?_ ?_
    · rw [List.length_map, List.length_mergeSort, hz2]; exact hz
    · rw [← er, srt_map hlen2]
/-! ### dicts keyed by tuples -/
theorem Rd.okk {P : Program} {w : World} {H : Hp} {h : Heap} (x : HOk P w H h) {a : Addr} {u : HO} (r : Rd H a u) (l : Lk u) : ObjOk P w H h a u := by
  rcases r with e | ⟨o, e⟩
  · exact x a _ e
  · obtain ⟨_, q⟩ := x a _ e
    exact q
mutual
theorem Pd.key {pins : List (Addr × Obj)} {σ : L2.St} {H : Hp} {s : Shared} (I : Inv X pins σ H s) : ∀ {v : V} {u : Value} {d : Dt} {k : NestedKey}, Pd (bs X) H v d → RelV v u → keyOf d = some k → NestedIs s.heap k u
  | _, _, _, _, .non, r, e => by cases e; cases r; exact .none
  | _, _, _, _, .bl b, r, e => by cases e; cases r; exact .bool rfl
  | _, _, _, _, .int i, r, e => by cases e; obtain ⟨t, rfl⟩ := r; exact .int _ _
  | _, _, _, _, .str x, r, e => by cases e; obtain ⟨t, rfl⟩ := r; exact .text _ _
  | _, _, _, _, .lst _ _, _, e => by cases e
  | _, _, _, _, .dct _ _, _, e => by cases e
  | _, _, _, _, .tup t a, r, e => by
    rw [keyOf] at e
    obtain ⟨ks, e1, rfl⟩ := Option.map_eq_some_iff.mp e
    cases r
    obtain ⟨its, rv, ⟨o, ho, hc, n, hd⟩, hz⟩ := I.tuple t.sq
    exact .tup ho hc hd (by simpa using PdA.keys I a rv e1)
theorem PdA.keys {pins : List (Addr × Obj)} {σ : L2.St} {H : Hp} {s : Shared} (I : Inv X pins σ H s) : ∀ {vs : List V} {us : List Value} {ds : List Dt} {ks : List NestedKey}, PdA (bs X) H vs ds → Vals vs us → keysOf ds = some ks → NestedAll s.heap ks us
  | _, _, _, _, .nil, r, e => by cases e; cases r; exact .nil
  | _, _, _, _, .cons p q, r, e => by
    rw [keysOf] at e
    obtain ⟨k, e1, e⟩ := Option.bind_eq_some_iff.mp e
    obtain ⟨ks, e2, rfl⟩ := Option.map_eq_some_iff.mp e
    cases r with
    | cons r1 r2 => exact .cons (Pd.key I p r1 e1) (PdA.keys I q r2 e2)
end
/-- raw entries by data: entries by values -/
def EnR (p : NestedKey × Addr × V) (q : NestedKey × Addr × Value) : Prop := p.1 = q.1 ∧ p.2.1 = q.2.1 ∧ RelV p.2.2 q.2.2
theorem PdD.isAll {pins : List (Addr × Obj)} {σ : L2.St} {H : Hp} {s : Shared} (I : Inv X pins σ H s) : ∀ {raw : List (NestedKey × Addr × V)} {kvs : List (Dt × Dt)} {xs : List (NestedKey × Addr × Value)}, PdD (bs X) H raw kvs → Paired EnR raw xs → ∀ x ∈ xs, (nestedKind X.prog X.w).is s.heap x.1 x.2.1
  | _, _, _, .nil, .nil, x, h => by simp at h
  | _, _, _, .cons e p q t, .cons r rs, x, h => by
    rcases List.mem_cons.mp h with rfl | h
    · obtain ⟨r1, r2, r3⟩ := r
      rw [← r1, ← r2]
      exact ⟨Pd.key I p rfl e.1, e.2⟩
    · exact PdD.isAll I t rs x h
theorem dct_of {pins : List (Addr × Obj)} {σ : L2.St} {H : Hp} {s : Shared} {a : Addr} {raw : List (NestedKey × Addr × V)} {kvs : List (Dt × Dt)} (I : Inv X pins σ H s) (h : Rd H a (DctO X.prog X.w a raw)) (p : PdD (bs X) H raw kvs) :
    (a == sysModules) = false ∧ raw.length ≤ sizeLine ∧ ∃ xs, Paired EnR raw xs ∧ s.heap.DictOfH (nestedKind X.prog X.w) a xs := by
  obtain ⟨⟨h1, h2, xs, h3, o, es, ep, h4, h5, h6, h7, h8⟩, _⟩ := Rd.okk I.hok h (.ext _)
  exact ⟨h1, h2, xs, h3, o, es, ep, h4, h5, h6, h7, PdD.isAll I p h3, h8⟩
theorem dct_ok {P : Program} {w : World} {H' : Hp} {h' : Heap} {a : Addr} {raw : List (NestedKey × Addr × V)} {xs : List (NestedKey × Addr × Value)} (h1 : (a == sysModules) = false) (h2 : raw.length ≤ sizeLine) (h3 : Paired EnR raw xs) (h4 : h'.DictOfH (nestedKind P w) a xs) : ObjOk P w H' h' a (DctO P w a raw) := by
  obtain ⟨o, es, ep, f1, f2, f3, f4, f5, f6⟩ := h4
  refine ⟨⟨h1, h2, xs, h3, o, es, ep, f1, f2, f3, f4, f6⟩, ⟨o, f1⟩, ?_⟩
  rintro g1 g2 ⟨q1, q2, ys, q3, o', es', ep', q4, q5⟩ k
  exact ⟨q1, q2, ys, q3, o', es', ep', k _ q4, q5⟩
/-! the dict by data -/
def dAt (kvs : List (Dt × Dt)) (k : NestedKey) : Option Dt := (kvs.find? fun p => decide (keyOf p.1 = some k)).map (·.2)
def dPut (kvs : List (Dt × Dt)) (kd : Dt) (k : NestedKey) (vd : Dt) : List (Dt × Dt) := if (dAt kvs k).isSome then kvs.map fun p => if keyOf p.1 = some k then (p.1, vd) else p else kvs ++ [(kd, vd)]
theorem dAt_ne {p : Dt × Dt} {kvs : List (Dt × Dt)} {k : NestedKey} (h : keyOf p.1 ≠ some k) : dAt (p :: kvs) k = dAt kvs k := by
  unfold dAt; rw [List.find?_cons_of_neg (by simpa using h)]
theorem atKey_ne {x : NestedKey × Addr × Value} {xs : List (NestedKey × Addr × Value)} {k : NestedKey} (h : x.1 ≠ k) : atKey (x :: xs) k = atKey xs k := by
  unfold atKey; rw [List.find?_cons_of_neg (by simpa using h)]
theorem PdD.at {H : Hp} {k : NestedKey} : ∀ {raw : List (NestedKey × Addr × V)} {kvs : List (Dt × Dt)} {xs : List (NestedKey × Addr × Value)}, PdD (bs X) H raw kvs → Paired EnR raw xs →
    (dAt kvs k = none ∧ atKey xs k = none) ∨ ∃ d p v, dAt kvs k = some d ∧ atKey xs k = some p ∧ RelV v p.2 ∧ Pd (bs X) H v d
  | _, _, _, .nil, .nil => .inl ⟨rfl, rfl⟩
  | _, _, _, .cons (k := k0) (kd := kd) (vd := vd) e p q t, .cons (b := x) r rs => by
    obtain ⟨r1, r2, r3⟩ := r
    by_cases hk : k0 = k
    · subst hk
      refine .inr ⟨vd, x.2, _, ?_, ?_, r3, q⟩
      · unfold dAt; rw [List.find?_cons_of_pos (by simp [e.1])]; rfl
      · unfold atKey; rw [List.find?_cons_of_pos (by simp [← r1])]; rfl
    · rw [dAt_ne (by simp [e.1, hk]), atKey_ne (by rw [← r1]; exact hk)]
      exact PdD.at t rs
def inDc (d e : Dt) : Option Bool := match e with
  | .dict kvs => match d with
    | .tuple ds => (keysOf ds).bind fun ks => if (NestedKey.tup ks).depth ≤ 8 then some (dAt kvs (.tup ks)).isSome else none
    | _ => none
  | _ => none
theorem inDc_some {d e : Dt} {b : Bool} (h : inDc d e = some b) : ∃ kvs ds ks, e = .dict kvs ∧ d = .tuple ds ∧ keyOf d = some (.tup ks) ∧ (NestedKey.tup ks).depth ≤ 8 ∧ b = (dAt kvs (.tup ks)).isSome := by
  unfold inDc at h
  split at h
  · split at h
    · obtain ⟨ks, e1, h⟩ := Option.bind_eq_some_iff.mp h
      split at h
      · rename_i hd
        cases h
        exact ⟨_, _, ks, rfl, rfl, by rw [keyOf, e1]; rfl, hd, rfl⟩
      · cases h
    · cases h
  · cases h
theorem Pd.dctI {H : Hp} {v : V} {kvs : List (Dt × Dt)} (h : Pd (bs X) H v (.dict kvs)) : ∃ a o raw, v = .ref a ∧ H a = some (.frz o (DctO X.prog X.w a raw)) ∧ PdD (bs X) H raw kvs := by
  cases h with
  | dct e p => exact ⟨_, _, _, rfl, e, p⟩
theorem od_inc (hu : X.A.units + 66 < cLine) : OpD X (compareOp .In) (fun d e => (inDc d e).map .bool) := fun pins s σ H x y v u Q I rx ry ⟨d, e, r, p1, p2, q1, q2⟩ => by
  obtain ⟨b, f1, rfl⟩ := Option.map_eq_some_iff.mp q1
  obtain ⟨kvs, ds, ks, rfl, rfl, hk, hdp, rfl⟩ := inDc_some f1
  obtain ⟨a, o, raw, rfl, ha, pd⟩ := p2.dctI
  obtain ⟨b', xs', rfl, hx', _⟩ := p1.tupI
  cases rx; cases ry
  obtain ⟨z1, z2, xs, z3, z4⟩ := dct_of I (.inr ⟨o, ha⟩) pd
  refine wpAny_in_heap (knd := nestedKind X.prog X.w) (k := .tup ks) (show X.A.in1.units + 8 < cLine by show X.A.units + 1 + 8 < cLine; omega) ⟨Pd.key I p1 rfl hk, hdp⟩ z1 z4 ⟨.bl (dAt kvs (.tup ks)).isSome, H, I.tok _, ?_, q2 _ H .refl (.bl _)⟩
  rcases PdD.at (k := .tup ks) pd z3 with ⟨e1, e2⟩ | ⟨d', p', v', e1, e2, _⟩
  · rw [e1, e2]; rfl
  · rw [e1, e2]; rfl
def inA (d e : Dt) : Option Dt := match e with
  | .dict _ => (inDc d e).map .bool
  | _ => inD d e
theorem od_inA (hu : X.A.units + 66 < cLine) : OpD X (compareOp .In) inA := opD_or (od_inc hu) (od_in hu) fun a b r q => by
  cases b with
  | dict _ => exact .inl q
  | _ => exact .inr q
/-- d[k] -/
def dGet (e d : Dt) : Option Dt := match e with
  | .dict kvs => match d with
    | .tuple ds => (keysOf ds).bind fun ks => if (NestedKey.tup ks).depth ≤ 8 then dAt kvs (.tup ks) else none
    | _ => none
  | _ => none
theorem dGet_some {d e r : Dt} (h : dGet e d = some r) : ∃ kvs ds ks, e = .dict kvs ∧ d = .tuple ds ∧ keyOf d = some (.tup ks) ∧ (NestedKey.tup ks).depth ≤ 8 ∧ dAt kvs (.tup ks) = some r := by
  unfold dGet at h
  split at h
  · split at h
    · obtain ⟨ks, e1, h⟩ := Option.bind_eq_some_iff.mp h
      split at h
      · rename_i hd
        exact ⟨_, _, ks, rfl, rfl, by rw [keyOf, e1]; rfl, hd, h⟩
      · cases h
    · cases h
  · cases h
theorem ix_dct (hu : X.A.units + 66 < cLine) : IxR X (rD (bs X) dGet) := fun value slice pins s σ H x y v u Q I rx ry ⟨e, d, r, p2, p1, q1, q2⟩ hs => by
  obtain ⟨kvs, ds, ks, rfl, rfl, hk, hdp, hat⟩ := dGet_some q1
  obtain ⟨a, o, raw, rfl, ha, pd⟩ := p2.dctI
  obtain ⟨b', xs', rfl, hx', _⟩ := p1.tupI
  cases rx; cases ry
  obtain ⟨z1, z2, xs, z3, z4⟩ := dct_of I (.inr ⟨o, ha⟩) pd
  rcases PdD.at (k := .tup ks) pd z3 with ⟨e1, e2⟩ | ⟨d', p', v', e1, e2, rv, pv⟩
  · rw [e1] at hat; cases hat
  · rw [hat] at e1; cases e1
    refine tail_any z4.typeIs slot_dict_getitem.lookup (wpAny_getItem_heap (knd := nestedKind X.prog X.w) (k := .tup ks) (show X.A.in1.units + 8 < cLine by show X.A.units + 1 + 8 < cLine; omega) ⟨Pd.key I p1 rfl hk, hdp⟩ z4 e2 ⟨v', H, I.tok _, rv, q2 v' H .refl pv⟩) hs
theorem px_dget {k : Option Nat} {a b : Expr} {ea eb : Ev} {pos : Pos} (hu : X.A.units + 66 < cLine) (ha : PX k X a ea) (hb : PX k X b eb) (hs : PlainIx b := by intro _ _; rfl) : PX k X (.Subscript a b pos) (x2 dGet ea eb) :=
  PE.imp (pe_ix (ix_dct hu) ha hb hs) fun σ H Q h => t2 h
end
end HL

/-! HlI: enumerate, dicts made and written. -/
namespace PySem
open Sem (wp)
set_option maxHeartbeats 4000000 in
theorem hl_enum_new1 {v : Value} {o : Obj} {H : Heap → Prop} (B : PySem.Begins v o H) :
    Meets (Builtin.«enumerate.__new__» ⟨[.type "enumerate", v], []⟩) (fun _ R s => H s.heap ∧
      R (.ok (.ret (.ref (s.heap.push o).objs.size))) { s with heap := (s.heap.push o).push { cls := .type "enumerate", data := .fields #[.none, .bool false, .ref s.heap.objs.size, rawInt 0, .none, .none] } }) :=
  .of_wp fun prog w A R s h => by
    obtain ⟨hp, g, d, tk, os⟩ := s; obtain ⟨h1, h⟩ := h
    have hsub := sub_enumerate
    have q1 : ∀ {A' : Around} {E : Value → Shared → Prop} {Q : Value → Shared → Prop}, Q (.ref hp.objs.size) ⟨hp.push o, g, d, tk, os⟩ → wpAny (model prog w) A' (pyIter v) Q E ⟨hp, g, d, tk, os⟩ :=
      fun q => B.iter prog w _ _ ⟨hp, g, d, tk, os⟩ _ h1 q
    wp_walk using q1
    refine wpAny_stack_any fun st => wpAny_pure ?_
    split
    · rename_i c _ _ _ _ _
      cases (c == Value.type "enumerate")
      · wp_walk using q1
        exact ⟨_, rfl, h⟩
      · wp_walk using q1
        exact ⟨_, rfl, h⟩
    · wp_walk using q1
      exact ⟨_, rfl, h⟩
theorem hl_enum_tuple {prog : Program} {w : World} {A : Around} {E : Value → Shared → Prop} {s : Shared} {t : Addr} {items : Array Value} {Q : Value → Shared → Prop} (hL : s.heap.IsTuple t items)
    (h : ∀ h', IsEnum h' (s.heap.objs.size + 1) s.heap.objs.size 0 .none → h'.IsTupleIter s.heap.objs.size t 0 → (∀ b o, s.heap.get? b = some o → h'.get? b = some o) → Q (.ref (s.heap.objs.size + 1)) { s with heap := h' }) :
    wpAny (model prog w) A (call (.type "enumerate") [.ref t]) Q E s := by
  refine callType_new F.called_enumerate (by decide) (F.typeCall_enumerate_1 _) (F.newCall_enumerate_1 _) (fun obj => F.args_object_init_2 obj _) F.entry_enumerate_new (hl_enum_new1 (PySem.begins_tuple t items)) ⟨hL, ?_⟩
  have hz : (s.heap.push { cls := .type "tuple_iterator", data := .fields #[.ref t, .int 0 0] }).objs.size = s.heap.objs.size + 1 := Heap.size_push ..
  show _ ∧ _
  rw [hz]
  have he : IsEnum ((s.heap.push { cls := .type "tuple_iterator", data := .fields #[.ref t, .int 0 0] }).push { cls := .type "enumerate", data := .fields #[.none, .bool false, .ref s.heap.objs.size, rawInt 0, .none, .none] }) (s.heap.objs.size + 1) s.heap.objs.size 0 .none := by
    have := Heap.get?_push_size (s.heap.push { cls := .type "tuple_iterator", data := .fields #[.ref t, .int 0 0] }) (o := { cls := .type "enumerate", data := .fields #[.none, .bool false, .ref s.heap.objs.size, rawInt 0, .none, .none] }) rfl
    rw [hz] at this; exact this
  exact ⟨⟨_, he, rfl⟩, h _ he ⟨_, Heap.get?_push_of_some _ (Heap.get?_push_size _ rfl), rfl, rfl⟩ fun b o x => Heap.get?_push_of_some _ (Heap.get?_push_of_some _ x)⟩
end PySem
namespace HL
open PySem PySem.Spec PyProof.Rows L2
/-! ### enumerate -/
def ItEnT (K : PySem.W.Frag) (a : Addr) : It :=
  ⟨fun i H => ∃ (xs : List V) (x : V), SqT K H a xs ∧ xs[i]? = some x, fun i H v H' => ∃ T x, v = .ref T ∧ H T = none ∧ H' = upd H T (.tup [.int (i : Nat), x]) ∧ ∀ xs, SqT K H a xs → xs[i]? = some x, fun i H => ∃ xs : List V, SqT K H a xs ∧ xs.length ≤ i⟩
theorem tn_enumT {P : Program} {w : World} {K : PySem.W.Frag} {elts : List Expr} {kk : Nat} {tpos : Pos} (a e it : Addr) (hat : a ≠ it) (hae : a ≠ e) :
    Turn P w K (.Tuple elts kk tpos) (ItEnT K a) [e, it] e (fun i h => (∃ old, IsEnum h e it ((i : Nat) : Int) old) ∧ h.IsTupleIter it a i ∧ e ≠ it) where
  mem := by simp
  obj := fun i h st b hb => by
    obtain ⟨⟨old, he⟩, ⟨o, ho, hc, hd⟩, _⟩ := st
    have e' : b = e ∨ b = it := by simpa using hb
    rcases e' with z | z
    · rw [z]; exact ⟨_, he, fun v q => nomatch q⟩
    · rw [z]; exact ⟨o, ho, fun v q => by rw [hd] at q; cases q⟩
  keep := fun i h h' st k => let ⟨⟨old, he⟩, hi, hne⟩ := st; ⟨⟨old, k e (by simp) _ he⟩, hi.at fun o q => k it (by simp) o q, hne⟩
  item := by
    intro X hP hw hK hc i pins s σ H E I hf st hg
    subst hP hw hK
    obtain ⟨⟨old, he⟩, hit, hne⟩ := st
    obtain ⟨xs, x, hq, hx⟩ := hg
    obtain ⟨its, rv, p, hz⟩ := I.tuple hq
    obtain ⟨u, hu, ru⟩ := rv.get hx
    have hel : e < s.heap.objs.size := Heap.lt_size he
    have hil : it < s.heap.objs.size := by obtain ⟨_, q, _⟩ := hit; exact Heap.lt_size q
    have hil2 : i < its.toArray.size := by
      have := (List.getElem?_eq_some_iff.mp hu).1
      simpa using this
    refine wpAny_pyNext_enum_itemD (PySem.Draws.tuple (A := X.A.in1) (I.ok.hd hc) it a hat its.toArray) he ⟨hit, p⟩ hil2 hne (by simp [hne, Ne.symm hae]) fun u' h' tk hu' ho hit' hT hsz hk => ?_
    have eu : u' = u := by
      have h1 : its[i]? = some u' := by simpa using hu'
      rw [hu] at h1
      exact (Option.some.inj h1).symm
    subst eu
    refine ⟨_, rfl, wpAny_letOwnedTupleGo_enum (s := { s with heap := h', toks := tk + 1 }) ho fun h'' he' sb => ?_⟩
    have hT2 : h''.get? s.heap.objs.size = some { cls := .type "tuple", data := .seq #[.int i tk, u'] } := (sb.2 _ (Nat.ne_of_gt hel)).trans hT
    have new : ObjOk X.prog X.w (upd H s.heap.objs.size (.tup [.int (i : Nat), x])) h'' s.heap.objs.size (.tup [.int (i : Nat), x]) :=
      ⟨by show 2 ≤ sizeLine; decide, [.int i tk, u'], .cons ⟨_, rfl⟩ (.cons ru .nil), ⟨_, hT2, rfl, _, rfl⟩⟩
    have I1 : Inv X pins σ (upd H s.heap.objs.size (.tup [.int (i : Nat), x])) { s with heap := h'', toks := tk + 1 } :=
      I.turnedNew (ch := [e, it]) (fun b ob hb q => (sb.2 b (fun z => hb (by simp [z]))).trans (hk b ob (fun z => hb (by simp [z])) (fun z => hb (by simp [z])) q)) hf (Nat.le_refl _) new
    refine ⟨.ref s.heap.objs.size, _, I1, rfl, ⟨_, x, rfl, I.hok.fresh (Nat.le_refl _), rfl, fun ys hy => by rw [I.tuple_inj hy hq]; exact hx⟩, ⟨⟨u', ?_⟩, hit'.1.at fun o q => (sb.2 it (Ne.symm hne)).trans q, hne⟩, fun b hb => ?_⟩
    · have e1 : ((i + 1 : Nat) : Int) = (i : Int) + 1 := by omega
      rw [e1]; exact he'
    · have hb' : b < s.heap.objs.size := by
        have e' : b = e ∨ b = it := by simpa using hb
        rcases e' with z | z
        · rw [z]; exact hel
        · rw [z]; exact hil
      rw [upd_ne (Nat.ne_of_lt hb')]
      exact (hf b hb).1
  done := by
    intro X hP hw hK hc i pins s σ H E I hf st hg
    subst hP hw hK
    obtain ⟨⟨old, he⟩, hit, hne⟩ := st
    obtain ⟨xs, hq, hx⟩ := hg
    obtain ⟨its, rv, p, hz⟩ := I.tuple hq
    obtain ⟨f0, f1, f2, f3, f4, f5⟩ := hf it (by simp)
    have hl := rv.length
    -- the iterator stands at the end or behind it
    have D : PySem.Draws X.prog X.w X.A.in1 it [it, a] i (fun _ _ => False) (fun j h => j = i ∧ h.IsTupleIter it a i ∧ h.IsTuple a its.toArray) := {
      live := fun _ _ st => let ⟨o, ho, _⟩ := st.2.1; ⟨o, ho⟩
      frame := fun _ _ _ st hk => ⟨st.1, st.2.1.at fun o e => hk it (by simp) o e, st.2.2.at fun o e => hk a (by simp) o e⟩
      item := fun j s Q E hj st hQ => absurd st.1 (Nat.ne_of_lt hj)
      done := fun s Q E st hE => wpAny_nextOf_tuple_end (A := X.A.in1) (I.ok.hd hc) st.2.1 st.2.2 (by simp; omega) hE }
    exact wpAny_pyNext_enum_endD D he ⟨rfl, hit, p⟩ fun h' eb => ⟨rfl, I.turned (t' := s.toks) (fun b o hb q => eb b o hb q) f0 f1 f3 f4 f5⟩
  self := fun A i s Q E st h => let ⟨⟨_, he⟩, _⟩ := st; wpAny_pyIter_enum he h
def iEnumT (K : PySem.W.Frag) (ta : TA) : TI := fun σ H R => ta σ H fun vs H1 => ∃ a xs, vs = [.ref a] ∧ ((SqL K H1 a xs ∧ R (Ite K a) H1) ∨ (SqT K H1 a xs ∧ R (ItEnT K a) H1))
theorem pi_enumA {X : Cx} {e : Expr} {ta : TA} {p pos tpos : Pos} {elts : List Expr} {kk : Nat} (hg : Gl X "enumerate") (hm : X.mg "enumerate" = none) (ha : PA X [e] ta) (hs : starEach [e] X.env = [(false, eval e X.env)] := by rfl) :
    PI X (.Tuple elts kk tpos) (.Call (.Name "enumerate" p) [e] [] pos) (iEnumT X.K ta) := by
  refine ⟨fun pins s σ H R I h => ?_⟩
  refine Call_ (ld_blt I hg hm boot_enumerate (PyProof.Rows.callWith_type1 (thn (ha.run pos pins s σ H _ I h) fun us s1 ⟨vs, H1, I1, r1, q1⟩ => ?_) hs rfl))
  obtain ⟨a, xs, rfl, q1⟩ := q1
  obtain ⟨u, rfl, r⟩ := vals1 r1
  cases r
  have fp : ∀ b, b ∈ [s1.heap.objs.size + 1, s1.heap.objs.size] → FpOk X pins H1 b := fun b hb => by
    have e' : b = s1.heap.objs.size + 1 ∨ b = s1.heap.objs.size := by simpa using hb
    have hle : s1.heap.objs.size ≤ b := by omega
    exact I1.fpOk hle (I1.hok.fresh hle)
  rcases q1 with ⟨hq, q⟩ | ⟨hq, q⟩
  · obtain ⟨its, rv, p', hz⟩ := I1.list hq
    refine call_enumerate_list p'.isList fun h' he hit hsz hk => wpAny_pyIter_enum he ?_
    have I2 : Inv X pins σ H1 { s1 with heap := h' } := I1.kept (t' := s1.toks) hk
    exact ⟨s1.heap.objs.size + 1, [s1.heap.objs.size + 1, s1.heap.objs.size], _, _, H1, rfl, I2, turn_enum a (s1.heap.objs.size + 1) s1.heap.objs.size, ⟨⟨.none, he⟩, hit, Nat.succ_ne_self _⟩, fp, q⟩
  · obtain ⟨its, rv, p', hz⟩ := I1.tuple hq
    obtain ⟨o1, ho1, _⟩ := id p'
    have hal : a < s1.heap.objs.size := Heap.lt_size ho1
    refine hl_enum_tuple (show s1.heap.IsTuple a its.toArray from p') fun h' he hit hk => wpAny_pyIter_enum he ?_
    have I2 : Inv X pins σ H1 { s1 with heap := h' } := I1.kept (t' := s1.toks) hk
    exact ⟨s1.heap.objs.size + 1, [s1.heap.objs.size + 1, s1.heap.objs.size], _, _, H1, rfl, I2, tn_enumT a (s1.heap.objs.size + 1) s1.heap.objs.size (Nat.ne_of_lt hal) (Nat.ne_of_lt (Nat.lt_succ_of_lt hal)), ⟨⟨.none, he⟩, hit, Nat.succ_ne_self _⟩, fp, q⟩
def enL (ds : List Dt) : List Dt := ds.mapIdx fun i d => .tuple [.int (i : Int), d]
def enD : List Dt → Option (List Dt)
  | [.list ds] => some (enL ds)
  | [.tuple ds] => some (enL ds)
  | _ => none
theorem en_pd {B : Bs} {H : Hp} {T : Addr} {x : V} {d : Dt} {i : Nat} (hT : H T = none) (p : Pd B H x d) : Ext none H (upd H T (.tup [.int (i : Int), x])) ∧ Pf B (upd H T (.tup [.int (i : Int), x])) true (.ref T) (.tuple [.int (i : Int), d]) := by
  have e : Ext none H (upd H T (.tup [.int (i : Int), x])) := .new hT
  exact ⟨e, T, _, _, rfl, .inl (.inl upd_same), .cons (.int _) (.cons (p.pers e.toPers) .nil), rfl⟩
theorem ite_okL {B : Bs} {H0 : Hp} {a : Addr} {o : Obj} {xs : List V} {ds : List Dt} (e : H0 a = some (.frz o (.lst xs))) (p : PdA B H0 xs ds) : ItOk B H0 true (Ite B.K a) (enL ds) := fun i H pr => by
  have hq : SqL B.K H a xs := .inl (.inr ⟨o, pr.frz _ _ _ e⟩)
  unfold enL
  rw [List.length_mapIdx]
  refine ⟨fun hi => ?_, fun hi => ⟨xs, hq, by rw [p.length]; exact hi⟩, fun x H' y hi => ?_⟩
  · obtain ⟨v, ev, _⟩ := p.get (List.getElem?_eq_getElem hi)
    exact ⟨xs, v, hq, ev⟩
  · obtain ⟨T, u, rfl, hT, rfl, f1⟩ := y
    obtain ⟨d, ed, q⟩ := p.get' (f1 xs hq)
    obtain ⟨x1, x2⟩ := en_pd (i := i) hT (q.pers pr)
    exact ⟨_, by rw [List.getElem?_mapIdx, ed]; rfl, x1, x2⟩
theorem ite_okT {B : Bs} {H0 : Hp} {a : Addr} {xs : List V} {ds : List Dt} (e : SqT B.K H0 a xs) (p : PdA B H0 xs ds) : ItOk B H0 true (ItEnT B.K a) (enL ds) := fun i H pr => by
  have hq : SqT B.K H a xs := pr.sqT e
  unfold enL
  rw [List.length_mapIdx]
  refine ⟨fun hi => ?_, fun hi => ⟨xs, hq, by rw [p.length]; exact hi⟩, fun x H' y hi => ?_⟩
  · obtain ⟨v, ev, _⟩ := p.get (List.getElem?_eq_getElem hi)
    exact ⟨xs, v, hq, ev⟩
  · obtain ⟨T, u, rfl, hT, rfl, f1⟩ := y
    obtain ⟨d, ed, q⟩ := p.get' (f1 xs hq)
    obtain ⟨x1, x2⟩ := en_pd (i := i) hT (q.pers pr)
    exact ⟨_, by rw [List.getElem?_mapIdx, ed]; rfl, x1, x2⟩
theorem ix_enum {X : Cx} {k : Option Nat} {a : Expr} {p pos : Pos} {ev : EvN} {elts : List Expr} {kk : Nat} {tpos : Pos} (ha : AX k X [a] ev) (hm : X.mg "enumerate" = none) (hg : Gl X "enumerate" := by rfl) (hs : starEach [a] X.env = [(false, eval a X.env)] := by rfl) :
    IX k X true (.Tuple elts kk tpos) (.Call (.Name "enumerate" p) [a] [] pos) (nCall enD ev) := HL.PI.imp (pi_enumA hg hm ha hs) fun σ H R ⟨st, t, T, r, sd, tn, e, q⟩ => by
  obtain ⟨a, e1, e⟩ := Option.bind_eq_some_iff.mp e
  obtain ⟨r', e3, e⟩ := Option.map_eq_some_iff.mp e
  subst e
  refine ⟨st, t, T, a, sd, tn, e1, fun vs H1 x1 n1 p1 => ?_⟩
  generalize a.1 = ds at e3 p1
  unfold enD at e3
  split at e3
  · cases e3
    obtain ⟨v, rfl, p'⟩ := p1.oneI
    obtain ⟨a1, o1, xs, rfl, f1, g1, pa1⟩ := p'.lstI
    exact ⟨a1, xs, rfl, .inl ⟨g1, q _ H1 x1 n1 (ite_okL f1 pa1)⟩⟩
  · cases e3
    obtain ⟨v, rfl, p'⟩ := p1.oneI
    obtain ⟨a1, xs, rfl, g1, pa1⟩ := p'.tupI
    exact ⟨a1, xs, rfl, .inr ⟨g1, q _ H1 x1 n1 (ite_okT g1 pa1)⟩⟩
  · cases e3
/-! ### dicts made and written -/
section
variable {X : Cx} {k : Option Nat} {mu : List Nat} {rn : Bool} {e e2 : Expr} {ev ev2 : Ev} {pos p : Pos} {x : Str} {i : Nat}
theorem pe_dnw : PE X (.Dict [] [] pos) (fun _ H Q => ∀ p, H p = none → Q (.ref p) (upd H p (DctO X.prog X.w p []))) := ⟨fun pins s σ H Q I h =>
  wpAny_Dict_empty ⟨.ref s.heap.objs.size, _, I.laid (a := s.heap.objs.size) (o := DctO X.prog X.w s.heap.objs.size []) (t' := s.toks) (fun _ _ q => Heap.get?_push_of_some _ q) (Nat.le_refl _)
    (dct_ok (beq_eq_false_iff_ne.mpr (Ne.symm (Nat.ne_of_lt I.big))) (Nat.zero_le _) .nil (Heap.DictOfH.new s.heap)), rfl, h _ (I.hok.fresh (Nat.le_refl _))⟩⟩
def zDnw (i : Nat) : Ex := fun st t => some (.nx (st.set i (some (.dict []))) t)
theorem z_dnw (i : Nat) (hN : X.N.Nodup) (hm : (mu.contains i) = true := by rfl) (hk : kNe k i = true := by rfl) {pos' : Pos} (hi : X.N[i]? = some x := by rfl) (hx : Loc X.env.scope x := by first | exact Or.inl rfl | exact Or.inr rfl)
    (hs : swapsWith (.Dict [] [] p) (some (.Name x pos')) pos.line X.env = pure false := by rfl) (hf : X.fn x = true ∨ X.env.scope.names.lookup x = some .local := by first | exact .inl rfl | exact .inr rfl | assumption) : ZX k mu rn X (.Assign [.Name x pos'] (.Dict [] [] p) pos) (zDnw i) :=
  PS.imp (ps_set hN hi hx pe_dnw hs hf) fun D σ H ⟨st, t, T, o, sm, tn, x, e, q⟩ => by
  cases e
  intro p hp
  have x' : Ext none H (upd H p (DctO X.prog X.w p [])) := .new hp
  have h0 := H0_new x tn hp
  exact q _ _ ((sm.ext x'.any).setM (by simpa using hm) upd_same (.dct .nil) h0 (tn.T0 p hp) fun j hj _ d' e => sm.new hp j hj d' e) ((tn.ext0 x').set hk) (x.trans x'.any) x'.toPers
/-! d[k] = v -/
theorem map_rel {H : Hp} {k : NestedKey} {v : V} {u : Value} {vd : Dt} (rv : RelV v u) (pv : Pd (bs X) H v vd) : ∀ {raw : List (NestedKey × Addr × V)} {kvs : List (Dt × Dt)} {xs : List (NestedKey × Addr × Value)}, PdD (bs X) H raw kvs → Paired EnR raw xs →
    ∃ raw', PdD (bs X) H raw' (kvs.map fun p => if keyOf p.1 = some k then (p.1, vd) else p) ∧ Paired EnR raw' (xs.map (putAt k u)) ∧ raw'.length = raw.length
  | _, _, _, .nil, .nil => ⟨[], .nil, .nil, rfl⟩
  | _, _, _, .cons (k := k0) (b := b0) (v := v0) e p q t, .cons (b := x) r rs => by
    obtain ⟨raw', h1, h2, h3⟩ := map_rel rv pv t rs
    obtain ⟨r1, r2, r3⟩ := r
    by_cases hk : k0 = k
    · refine ⟨(k0, b0, v) :: raw', ?_, ?_, by rw [List.length_cons, List.length_cons, h3]⟩
      · rw [List.map_cons, if_pos (by rw [e.1, hk])]; exact .cons e p pv h1
      · rw [List.map_cons]
        refine .cons ?_ h2
        unfold putAt
        rw [if_pos (by rw [← r1]; exact hk)]
        exact ⟨r1, r2, rv⟩
    · refine ⟨(k0, b0, v0) :: raw', ?_, ?_, by rw [List.length_cons, List.length_cons, h3]⟩
      · rw [List.map_cons, if_neg (by simp [e.1, hk])]; exact .cons e p q h1
      · rw [List.map_cons]
        refine .cons ?_ h2
        unfold putAt
        rw [if_neg (by rw [← r1]; exact hk)]
        exact ⟨r1, r2, r3⟩
theorem PdD.append {H : Hp} : ∀ {r1 r2 : List (NestedKey × Addr × V)} {k1 k2 : List (Dt × Dt)}, PdD (bs X) H r1 k1 → PdD (bs X) H r2 k2 → PdD (bs X) H (r1 ++ r2) (k1 ++ k2)
  | _, _, _, _, .nil, h => h
  | _, _, _, _, .cons e p q t, h => .cons e p q (PdD.append t h)
theorem PairedE.append {r1 r2 : List (NestedKey × Addr × V)} {x1 x2 : List (NestedKey × Addr × Value)} (h1 : Paired EnR r1 x1) (h2 : Paired EnR r2 x2) : Paired EnR (r1 ++ r2) (x1 ++ x2) := by
  induction h1 with
  | nil => exact h2
  | cons a b ih => exact .cons a ih
theorem PdD.length {H : Hp} : ∀ {r1 : List (NestedKey × Addr × V)} {k1 : List (Dt × Dt)}, PdD (bs X) H r1 k1 → r1.length = k1.length
  | _, _, .nil => rfl
  | _, _, .cons e p q t => congrArg (· + 1) (PdD.length t)
theorem put_rel {H : Hp} {k : NestedKey} {b : Addr} {v : V} {u : Value} {kd vd : Dt} (rv : RelV v u) (pv : Pd (bs X) H v vd) (pk : Pd (bs X) H (.ref b) kd) (hk : keyOf kd = some k ∧ k.depth ≤ 8) {raw : List (NestedKey × Addr × V)} {kvs : List (Dt × Dt)} {xs : List (NestedKey × Addr × Value)}
    (h : PdD (bs X) H raw kvs) (r : Paired EnR raw xs) : ∃ raw', PdD (bs X) H raw' (dPut kvs kd k vd) ∧ Paired EnR raw' (storedH xs k b u) ∧ raw'.length ≤ raw.length + 1 := by
  unfold dPut
  rcases PdD.at (k := k) h r with ⟨e1, e2⟩ | ⟨d', p', v', e1, e2, _, _⟩
  · rw [e1, if_neg (by simp), storedH_new e2]
    exact ⟨raw ++ [(k, b, v)], h.append (.cons hk pk pv .nil), PairedE.append r (.cons ⟨rfl, rfl, rv⟩ .nil), by simp⟩
  · rw [e1, if_pos (by simp), storedH_old e2]
    obtain ⟨raw', h1, h2, h3⟩ := map_rel (k := k) rv pv h r
    exact ⟨raw', h1, h2, by omega⟩
theorem set_dct (hu : X.A.units + 66 < cLine) : PSet X (fun o i v H Q => ∃ a raw b k kvs kd vd, o = .ref a ∧ H a = some (DctO X.prog X.w a raw) ∧ PdD (bs X) H raw kvs ∧ i = .ref b ∧ Pd (bs X) H (.ref b) kd ∧ (keyOf kd = some k ∧ k.depth ≤ 8) ∧ Pd (bs X) H v vd ∧ raw.length < sizeLine ∧
    ∀ raw', PdD (bs X) H raw' (dPut kvs kd k vd) → Q (upd H a (DctO X.prog X.w a raw'))) := fun pins s σ H o i v ov iv u Q I ro ri rv ⟨a, raw, b, k, kvs, kd, vd, e1, ha, pd, e2, pk, hk, pv, hz, q⟩ => by
  subst e1 e2
  cases ro; cases ri
  obtain ⟨z1, z2, xs, z3, z4⟩ := dct_of I (.inl ha) pd
  obtain ⟨raw', h1, h2, h3⟩ := put_rel rv pv pk hk pd z3
  have hl : xs.length = raw.length := (Paired.length z3).symm
  refine wpAny_setItem_heap (knd := nestedKind X.prog X.w) (hsz := by omega) (show X.A.in1.units + 8 < cLine by show X.A.units + 1 + 8 < cLine; omega) ⟨Pd.key I pk rfl hk.1, hk.2⟩ z4 fun h' dd hs => ?_
  have he : ∃ q, h'.get? a = some q := let ⟨q, _, _, hq, _⟩ := dd; ⟨q, hq⟩
  exact ⟨_, d_write I (by rw [ha]; exact True.intro) hs he (dct_ok z1 (by omega) h2 dd), q raw' h1⟩
def keyT : Dt → Option NestedKey
  | .tuple ds => (keysOf ds).bind fun ks => if (NestedKey.tup ks).depth ≤ 8 then some (.tup ks) else none
  | _ => none
theorem keyT_some {d : Dt} {k : NestedKey} (h : keyT d = some k) : ∃ ds, d = .tuple ds ∧ keyOf d = some k ∧ k.depth ≤ 8 := by
  unfold keyT at h
  split at h
  · obtain ⟨ks, e1, h⟩ := Option.bind_eq_some_iff.mp h
    split at h
    · rename_i hd
      cases h
      exact ⟨_, rfl, by rw [keyOf, e1]; rfl, hd⟩
    · cases h
  · cases h
def zDput (i : Nat) (ei ev : Ev) : Ex := fun st t => (ev st t).bind fun r => (ei st r.2).bind fun s => (st[i]?).bind fun o => o.bind fun d => match d with
  | .dict kvs => (keyT s.1).bind fun k => if szOk (kvs.length + 1) = true then some (.nx (st.set i (some (.dict (dPut kvs s.1 k r.1)))) s.2) else none
  | _ => none
theorem z_dput (i : Nat) {tpos : Pos} (hu : X.A.units + 66 < cLine) (he : EM k mu X e ev) (hi : EM k mu X e2 ev2) (hm : (mu.contains i) = true := by rfl) (hN : X.N[i]? = some x := by rfl) (hv : Vis X.env.scope x := by first | exact Or.inl rfl | exact Or.inr (Or.inl rfl) | exact Or.inr (Or.inr rfl)) (hd : (x == ("__debug__" : Str)) = false := by decide) (hcd : (x == ("__classdict__" : Str)) = false := by decide)
    (ha : ∀ v, assign (.Subscript (.Name x p) e2 tpos) X.env v = (do
      let ov ← holding [v] (eval (.Name x p) X.env)
      let iv ← holding [v, ov] (eval e2 X.env)
      standAt tpos
      holding [v, ov, iv] (setItem ov iv v)
      release [v, ov, iv] []) := by intro _; rfl)
    (hs : swapsWithSole [.Subscript (.Name x p) e2 tpos] e pos.line X.env = pure false := by rfl) (hw : swappedStores [.Subscript (.Name x p) e2 tpos] e X.env = pure none := by rfl) (h1 : (assignEach [.Subscript (.Name x p) e2 tpos] X.env).map (·.2) = [assign (.Subscript (.Name x p) e2 tpos) X.env] := by rfl) :
    ZX k mu rn X (.Assign [.Subscript (.Name x p) e2 tpos] e pos) (zDput i ev2 ev) := PS.imp (ps_asg he (pg_sub (pe_var hN hv hd hcd) hi (set_dct hu) ha) hs hw h1) fun D σ H ⟨st, t, T, o, sm, tn, x, e, q⟩ => by
  obtain ⟨r, e1, e⟩ := Option.bind_eq_some_iff.mp e
  obtain ⟨⟨sd, t2⟩, e2, e⟩ := Option.bind_eq_some_iff.mp e
  obtain ⟨oo, e3, e⟩ := Option.bind_eq_some_iff.mp e
  obtain ⟨d, e4, e'⟩ := Option.bind_eq_some_iff.mp e
  subst e4
  have hi : i ∈ mu := by simpa using hm
  cases d with
  | dict kvs =>
    obtain ⟨kk, e5, e'⟩ := Option.bind_eq_some_iff.mp e'
    by_cases hz : szOk (kvs.length + 1) = true
    case neg => rw [if_neg hz] at e'; cases e'
    rw [if_pos hz] at e'
    cases e'
    obtain ⟨ds, rfl, hk1, hk2⟩ := keyT_some e5
    obtain ⟨a, u, g1, g2, m, g3, g4⟩ := sm.mt i _ hi e3
    cases m with
    | dct pd =>
      rename_i raw
      refine ⟨st, t, T, r, sm, tn, e1, fun v H1 x1 n1 p1 => ⟨.ref a, g1, st, r.2, T, _, sm.ext x1, n1, e2, fun w H2 x2 n2 p2 => ?_⟩⟩
      have x12 := x1.trans x2
      have h2 := x12.keep _ _ g2 g4
      obtain ⟨b, xs', rfl, _, _⟩ := p2.tupI
      refine ⟨a, raw, b, kk, kvs, _, r.1, rfl, h2, pd.pers x12.toPers, rfl, p2, ⟨hk1, hk2⟩, p1.pers x2.toPers, by rw [PdD.length pd]; exact szOk_le hz, fun raw' h3 => ?_⟩
      exact q _ _ ((sm.ext x12).updO hi e3 g1 h2 (.ext _) (.dct h3)) (n2.upd g4) ((x.trans x12).updO g3 (.ext _) h2) (x12.toPers.trans (upd_pers (.ext _) h2))
  | _ => cases e'
end
end HL

/-! HlJ: list(d), dict(pairs), sorted(d, key=f). -/
namespace HL
open PySem PySem.Spec PyProof.Rows L2
section
variable {X : Cx}
/-! ### list(d) -/
theorem size_ent {es : Array DictEntry} {xs : List (NestedKey × Addr × Value)} {P : Program} {w : World} (he : es.toList = xs.map (entryOfKey (nestedKind P w))) : es.size = xs.length := by
  rw [← Array.length_toList, he, List.length_map]
/-- what the keys' walk gives -/
theorem keys_walk {P : Program} {w : World} {es : Array DictEntry} {xs : List (NestedKey × Addr × Value)} {acc : Array Value} (he : es.toList = xs.map (entryOfKey (nestedKind P w))) (it : PySem.ItemsOf (fun i v => ∃ en : DictEntry, es[i]? = some en ∧ v = en.key) acc es.size) :
    acc.toList = xs.map fun x => Value.ref x.2.1 := by
  have hl : acc.toList.length = xs.length := by rw [Array.length_toList, it.1]; exact size_ent he
  refine List.ext_getElem? fun j => ?_
  rw [List.getElem?_map]
  by_cases hj : j < xs.length
  · obtain ⟨v, ev⟩ : ∃ v, acc.toList[j]? = some v := ⟨_, List.getElem?_eq_getElem (by omega)⟩
    obtain ⟨en, e1, e2⟩ := it.2 j v (by rw [← Array.getElem?_toList]; exact ev)
    rw [← Array.getElem?_toList, he, List.getElem?_map, List.getElem?_eq_getElem hj] at e1
    cases e1
    rw [ev, List.getElem?_eq_getElem hj, e2]
    rfl
  · rw [List.getElem?_eq_none (by omega), List.getElem?_eq_none (by omega)]; rfl
theorem PdD.keysV {H : Hp} : ∀ {raw : List (NestedKey × Addr × V)} {kvs : List (Dt × Dt)} {xs : List (NestedKey × Addr × Value)}, PdD (bs X) H raw kvs → Paired EnR raw xs →
    Vals (raw.map fun p => V.ref p.2.1) (xs.map fun x => Value.ref x.2.1) ∧ PdA (bs X) H (raw.map fun p => V.ref p.2.1) (kvs.map (·.1))
  | _, _, _, .nil, .nil => ⟨.nil, .nil⟩
  | _, _, _, .cons e p q t, .cons r rs => by
    obtain ⟨h1, h2⟩ := PdD.keysV t rs
    obtain ⟨r1, r2, r3⟩ := r
    refine ⟨.cons ?_ h1, .cons p h2⟩
    exact congrArg Value.ref r2.symm
def lstK : List Dt → Option (List Dt)
  | [.dict kvs] => some (kvs.map (·.1))
  | _ => none
def lstA : List Dt → Option (List Dt)
  | [.dict kvs] => some (kvs.map (·.1))
  | ds => lstD ds
theorem cn_listD (hc : X.calm = true) : CallN X (.type "list") lstK := fun pins s σ H xs us Q I r ⟨ds, rr, p, e, q⟩ => by
  unfold lstK at e
  split at e
  case h_2 => cases e
  cases e
  obtain ⟨v, rfl, p'⟩ := p.oneI
  obtain ⟨a, o, raw, rfl, ha, pd⟩ := p'.dctI
  obtain ⟨u, rfl, rx⟩ := vals1 r
  cases rx
  obtain ⟨z1, z2, ys, z3, ob, es, ep, ho, hx, hdt, he, hi, hn⟩ := dct_of I (.inr ⟨o, ha⟩) pd
  have l1 := size_ent he
  have l2 : raw.length = ys.length := Paired.length z3
  refine PySem.W.kdl_call (kdl_raw z1 hx hdt) (I.ok.hd hc) ho (by omega) fun h' tk acc' c' kp e it => ?_
  have ea := keys_walk he it
  obtain ⟨h1, h2⟩ := PdD.keysV pd z3
  rw [← ea] at h1
  have hz : (raw.map fun p => V.ref p.2.1).length ≤ sizeLine := by rw [List.length_map]; exact z2
  have hf : H s.heap.objs.size = none := I.hok.fresh (Nat.le_refl _)
  have x : Ext none H (upd H s.heap.objs.size (.lst (raw.map fun p => V.ref p.2.1))) := .new hf
  exact ⟨.ref s.heap.objs.size, _, I.laid (t' := tk) (o := .lst (raw.map fun p => V.ref p.2.1)) kp (Nat.le_refl _) ⟨hz, acc'.toList, c', h1, by rw [Array.toArray_toList]; exact e⟩, rfl, q _ _ _ x hf upd_same (h2.pers x.toPers)⟩
theorem callN_or {f : Value} {m1 m2 m : List Dt → Option (List Dt)} (h1 : CallN X f m1) (h2 : CallN X f m2) (e : ∀ ds r, m ds = some r → m1 ds = some r ∨ m2 ds = some r) : CallN X f m := fun pins s σ H xs us Q I r ⟨ds, rr, p, q1, q⟩ => by
  rcases e ds rr q1 with z | z
  · exact h1 pins s σ H xs us Q I r ⟨ds, rr, p, z, q⟩
  · exact h2 pins s σ H xs us Q I r ⟨ds, rr, p, z, q⟩
theorem cn_listA (hc : X.calm = true) : CallN X (.type "list") lstA := callN_or (cn_listD hc) cn_list fun ds r h => by
  unfold lstA at h
  split at h
  · exact .inl h
  · exact .inr h
/-! ### dict([(k, v), ..]) -/
def dFold : List Dt → List (Dt × Dt) → Option (List (Dt × Dt))
  | [], acc => some acc
  | .tuple [kd, vd] :: r, acc => (keyT kd).bind fun k => dFold r (dPut acc kd k vd)
  | _ :: _, _ => none
/-- one pair -/
structure Itm where
  T : Addr
  k : NestedKey
  b : Addr
  v : V
  u : Value
  kd : Dt
  vd : Dt
structure ItmOk (H : Hp) (h : Heap) (B : Bs) (i : Itm) : Prop where
  tp : PairAt h i.T (.ref i.b) i.u
  key : keyOf i.kd = some i.k ∧ i.k.depth ≤ 8
  pk : Pd B H (.ref i.b) i.kd
  rv : RelV i.v i.u
  pv : Pd B H i.v i.vd
def foldI (acc : List (Dt × Dt)) (L : List Itm) : List (Dt × Dt) := L.foldl (fun a i => dPut a i.kd i.k i.vd) acc
theorem dFold_cons {d : Dt} {ds : List Dt} {acc r : List (Dt × Dt)} (h : dFold (d :: ds) acc = some r) : ∃ kd vd k, d = .tuple [kd, vd] ∧ keyT kd = some k ∧ dFold ds (dPut acc kd k vd) = some r := by
  cases d with
  | tuple l =>
    match l, h with
    | [kd, vd], h =>
      obtain ⟨k, e1, e⟩ := Option.bind_eq_some_iff.mp h
      exact ⟨kd, vd, k, rfl, e1, e⟩
  | _ => cases h
theorem items_of {pins : List (Addr × Obj)} {σ : L2.St} {H : Hp} {s : Shared} (I : Inv X pins σ H s) : ∀ {vs : List V} {us : List Value} {ds : List Dt} {acc r : List (Dt × Dt)}, PdA (bs X) H vs ds → Vals vs us → dFold ds acc = some r →
    ∃ L : List Itm, (∀ i ∈ L, ItmOk H s.heap (bs X) i) ∧ us = L.map (fun i => Value.ref i.T) ∧ r = foldI acc L
  | _, _, _, acc, r, .nil, .nil, e => by cases e; exact ⟨[], by simp, rfl, rfl⟩
  | _, _, _, acc, r, .cons (d := d) p q, .cons ru rus, e => by
    obtain ⟨kd, vd, k, rfl, e1, e⟩ := dFold_cons e
    obtain ⟨L, h1, h2, h3⟩ := items_of I q rus e
    obtain ⟨dds, ekd, hk1, hk2⟩ := keyT_some e1
    obtain ⟨T, ys, rfl, hq, pys⟩ := p.tupI
    cases ru
    obtain ⟨its, rv, pl, hz⟩ := I.tuple hq
    obtain ⟨kv, vv, rfl, pk, pv⟩ := pys.pair
    cases rv with
    | cons r1 rr =>
      cases rr with
      | cons r2 rr =>
        cases rr
        subst ekd
        obtain ⟨b, ws, rfl, _, _⟩ := pk.tupI
        cases r1
        exact ⟨⟨T, k, b, vv, _, _, vd⟩ :: L, fun i hi => by
          rcases List.mem_cons.mp hi with rfl | hi
          · exact ⟨.inl pl, ⟨hk1, hk2⟩, pk, r2, pv⟩
          · exact h1 i hi, by rw [List.map_cons, h2], by rw [h3]; rfl⟩
theorem fold_rel {H : Hp} {h : Heap} : ∀ {L : List Itm} {acc : List (Dt × Dt)} {raw : List (NestedKey × Addr × V)} {xs : List (NestedKey × Addr × Value)}, (∀ i ∈ L, ItmOk H h (bs X) i) → PdD (bs X) H raw acc → Paired EnR raw xs →
    ∃ raw', PdD (bs X) H raw' (foldI acc L) ∧ Paired EnR raw' (storedAllH xs (L.map fun i => (i.k, i.b, i.u))) ∧ raw'.length ≤ raw.length + L.length
  | [], _, raw, _, _, h1, h2 => ⟨raw, h1, h2, by simp⟩
  | i :: L, _, raw, _, ok, h1, h2 => by
    have o := ok i (List.mem_cons_self ..)
    obtain ⟨raw1, g1, g2, g3⟩ := put_rel o.rv o.pv o.pk o.key h1 h2
    obtain ⟨raw', f1, f2, f3⟩ := fold_rel (fun j hj => ok j (List.mem_cons_of_mem _ hj)) g1 g2
    exact ⟨raw', f1, f2, by rw [List.length_cons]; omega⟩
def dictD : List Dt → Option Dt
  | [.list ds] => if szOk ds.length = true then (dFold ds []).map .dict else none
  | _ => none
theorem cd_dict (hc : X.calm = true) (hu : X.A.units + 66 < cLine) : CallD X (.type "dict") dictD := fun pins s σ H xs us Q I r ⟨ds, rr, p, e, q⟩ => by
  unfold dictD at e
  split at e
  case h_2 => cases e
  rename_i ls
  split at e
  case isFalse => cases e
  rename_i hsz
  obtain ⟨kvs, e1, rfl⟩ := Option.map_eq_some_iff.mp e
  obtain ⟨v, rfl, p'⟩ := p.oneI
  obtain ⟨a, o, ys, rfl, h0, hq, pys⟩ := p'.lstI
  obtain ⟨u, rfl, rx⟩ := vals1 r
  cases rx
  obtain ⟨its, rv, ⟨ob, n, ho, hcl, hdn, hd⟩, hz⟩ := I.list hq
  obtain ⟨L, hL, eits, ekv⟩ := items_of I pys rv e1
  have hlen : L.length = ls.length := by
    have h1 := rv.length
    have h2 := pys.length
    rw [eits, List.length_map] at h1
    omega
  obtain ⟨raw, f1, f2, f3⟩ := fold_rel (H := H) (h := s.heap) (L := L) (acc := []) (raw := []) (xs := []) hL .nil .nil
  have keepN : ∀ h', (∀ b o, b ≠ s.heap.objs.size → b ∉ ([] : List Addr) → s.heap.get? b = some o → h'.get? b = some o) → ∀ x ∈ L.map (fun i => (i.k, i.b, i.u)), (nestedKind X.prog X.w).is h' x.1 x.2.1 := fun h' hk x hx => by
    obtain ⟨i, hi, rfl⟩ := List.mem_map.mp hx
    have ok := hL i hi
    exact ⟨NestedIs.at (fun b ob vs n hb _ => hk b ob (Nat.ne_of_lt (Heap.lt_size hb)) (by simp) hb) _ _ (Pd.key I ok.pk rfl ok.key.1), ok.key.2⟩
  refine call_dict_pairsH (knd := nestedKind X.prog X.w) (ps := L.map fun (i : Itm) => (i.k, i.b, i.u)) (PairArg.list a its.toArray (fun j => (L[j]?.map Itm.T).getD 0) (L.map fun (i : Itm) => (Value.ref i.b, i.u))) (I.ok.hd hc) (show X.A.in1.in1.units + 8 < cLine by show X.A.units + 1 + 1 + 8 < cLine; omega)
    ⟨⟨ob, n, ho, hcl, hdn, hd⟩, ?_⟩ ⟨by simp, fun i key v h => ?_⟩ keepN (by rw [List.length_map, hlen]; exact szOk_le hsz) fun h' tk dd hk => ?_
  · refine ⟨by rw [eits]; simp, fun j k v h => ?_⟩
    rw [List.getElem?_map] at h
    obtain ⟨i, hi, h⟩ := Option.map_eq_some_iff.mp h
    cases h
    refine ⟨by rw [eits]; simp [hi], ?_⟩
    show PairAt s.heap ((L[j]?.map Itm.T).getD 0) _ _
    rw [hi]
    exact (hL i (List.mem_of_getElem? hi)).tp
  · have h : (L.map fun i => (Value.ref i.b, i.u))[i]? = some (key, v) := h
    rw [List.getElem?_map] at h
    obtain ⟨j, hj, h⟩ := Option.map_eq_some_iff.mp h
    cases h
    exact ⟨j.k, j.b, by rw [List.getElem?_map, hj]; rfl, rfl⟩
  · have hf : H s.heap.objs.size = none := I.hok.fresh (Nat.le_refl _)
    have hn : (s.heap.objs.size == sysModules) = false := beq_eq_false_iff_ne.mpr (Ne.symm (Nat.ne_of_lt I.big))
    have z2 : raw.length ≤ sizeLine := by
      have := szOk_le hsz
      simp only [List.length_nil] at f3
      omega
    have I1 : Inv X pins σ (upd H s.heap.objs.size (DctO X.prog X.w s.heap.objs.size raw)) { s with heap := h', toks := tk } := I.laid (t' := tk) (o := DctO X.prog X.w s.heap.objs.size raw) (fun b o e => hk b o (by simp) e) (Nat.le_refl _) (dct_ok hn z2 f2 dd)
    obtain ⟨oo, I2⟩ := Inv.lock (.ext _) I1 upd_same
    have e : upd (upd H s.heap.objs.size (DctO X.prog X.w s.heap.objs.size raw)) s.heap.objs.size (.frz oo (DctO X.prog X.w s.heap.objs.size raw)) = upd H s.heap.objs.size (.frz oo (DctO X.prog X.w s.heap.objs.size raw)) := by
      funext b
      by_cases hb : b = s.heap.objs.size
      · subst hb; rw [upd_same, upd_same]
      · rw [upd_ne hb, upd_ne hb, upd_ne hb]
    rw [show HO.ext _ = DctO X.prog X.w s.heap.objs.size raw from rfl, e] at I2
    have x : Ext none H (upd H s.heap.objs.size (.frz oo (DctO X.prog X.w s.heap.objs.size raw))) := .new hf
    refine ⟨.ref _, _, I2, rfl, q _ _ x (.dct upd_same ?_)⟩
    rw [ekv]
    exact f1.pers x.toPers
end
end HL

/-! HlK: sorted(d, key=f), f a def that returns t + (1,). -/
namespace HL
open PySem PySem.Spec PyProof.Rows L2
theorem readsAll_snoc {h : Heap} : ∀ {us : List Value} {ds : List Dt} {as : List Addr} {u : Value} {d : Dt}, ReadsAll h us ds as → Reads h u d [] → ReadsAll h (us ++ [u]) (ds ++ [d]) as
  | _, _, _, u, d, .nil, r => by
    have := ReadsAll.cons r .nil
    simpa using this
  | _, _, _, u, d, .cons a b, r => by
    have := ReadsAll.cons a (readsAll_snoc b r)
    simpa using this
theorem mid_body {P : Program} {w : World} {A : Around} {E : Value → Shared → Prop} {s : Shared} {env : Env} {m : Str → Option Value} {y : Str} {p1 p2 p3 p4 p5 : Pos} {j q : Nat} {i0 : Int} {a : Addr} {us : List Value}
    (hk : env.scope.kind = .function) (hl : env.kindOf y = some .local) (hn : s.heap.Ns env.locals m) (hm : m y = some (.ref a)) (hd : (y == ("__debug__" : Str)) = false) (ht : IsTup s.heap a us.toArray) (hz : us.length + 1 ≤ sizeLine) :
    wpAny (model P w) A (execs [.Return (some (.BinOp (.Name y p1) .Add (.Tuple [.Constant (.int i0) j p2] q p3) p4)) p5] env) (fun fl s' => ∃ c h2 t', fl = .ret (.ref c) ∧ s' = { s with heap := h2, toks := t' } ∧ (∀ b o, s.heap.get? b = some o → h2.get? b = some o) ∧
      IsTup h2 c (us ++ [Value.int i0 s.toks]).toArray) E s := by
  refine wpAny_execs_cons (wpAny_Return_some (wpAny_BinOp (wpAny_Name (wpAny_loadName_local hk hl hn hm ?_) hd)))
  refine wpAny_Tuple_spliced (Calls.spliced_cons (wpAny_Constant_int (k := j) (pos := p2) (Calls.spliced_nil ⟨by show 1 ≤ sizeLine; decide, ?_⟩)))
  have ht2 : IsTup (s.heap.push { cls := .type "tuple", data := .seq #[Value.int i0 s.toks] }) a us.toArray := by obtain ⟨o, e, r⟩ := ht; exact ⟨o, Heap.get?_push_of_some _ e, r⟩
  have hb : IsTup (s.heap.push { cls := .type "tuple", data := .seq #[Value.int i0 s.toks] }) s.heap.objs.size [Value.int i0 s.toks].toArray := ⟨_, Heap.get?_push_size _ rfl, rfl, 0, rfl⟩
  by_cases hn : us = []
  · subst hn
    exact cat_tup0 ht2 hb ⟨_, _, _, rfl, rfl, fun b o e => Heap.get?_push_of_some _ e, hb⟩
  · exact HT.cat_tup ht2 hb hn (fun z => nomatch z) (fun _ => ⟨_, _, _, rfl, rfl, fun b o e => Heap.get?_push_of_some _ (Heap.get?_push_of_some _ e), _, Heap.get?_push_size _ rfl, rfl, 0, rfl⟩) (by simpa using hz)
/-- the call of such a def keeps the heap -/
theorem key_pure {P : Program} {w : World} {K : PySem.W.Frag} {A : Around} {s : Shared} {x qual y : Str} {params : Arguments} {scope : Scope} {f : Addr} {fd : FuncData} {kws : List (Str × V)} {p1 p2 p3 p4 p5 : Pos} {j q : Nat} {i0 : Int}
    (F : FunD K x qual params [.Return (some (.BinOp (.Name y p1) .Add (.Tuple [.Constant (.int i0) j p2] q p3) p4)) p5] scope [] kws f fd) (S : FnScope [y] [y] scope) (hb : Binds K fd [y] []) (KX : K.In s.heap) (lim : s.heap.NoLimit) (hr : A.depth < recursionLimit)
    (hd : (y == ("__debug__" : Str)) = false) {a : Addr} {us : List Value} {ds : List Dt} (ht : IsTup s.heap a us.toArray) (hz : us.length + 1 ≤ sizeLine) (rd : ReadsAll s.heap us ds [])
    (hl : scope.names.lookup y = some .local) : wpAny (model P w) A (call (.ref f) [.ref a]) (PySem.W.KeyPure (.tuple (ds ++ [.int i0])) s) (fun _ _ => False) s := by
  obtain ⟨oc, od, dV, kV, doc, pm, an, cdv, ct, osl, rfl, lk, hcd, _, _⟩ := F.ex
  refine wpAny_call ?_
  have hkind : ∀ z ∈ [(y, Value.ref a)], scope.names.lookup z.1 = some .local ∨ (scope.names.lookup z.1 = some .cell ∧ ((cellsFrom (s.heap.objs.size + 1) scope.names []).lookup z.1).isSome = true) := fun z hz => by
    have : z = (y, Value.ref a) := by simpa using hz
    subst this
    exact .inl hl
  refine codeAny_call_function hr (KX _ _ lk) rfl S.co S.gen rfl (PySem.W.codeRec_of KX hcd) (hb s [.ref a] KX rfl _ _ _ _ ?_)
  refine wpAny_newFunctionEnv_cells S.kind hkind fun env he s1 xx => ?_
  subst he
  refine ⟨lim.keeps xx.toInCall.keep, codeAny_func ?_⟩
  obtain ⟨h1, tk, rfl, hk⟩ := xx.done
  have ht1 : IsTup h1 a us.toArray := by obtain ⟨o, e, r⟩ := ht; exact ⟨o, hk _ _ e, r⟩
  refine wpAny_mono (mid_body (a := a) (us := us) S.kind hl xx.toInCall.ns (bindL_get (P := [y]) (vs := [.ref a]) (i := 0) (by simp) rfl rfl hl) hd ht1 hz) ?_ (fun _ _ z => z)
  rintro fl s' ⟨c, h2, t', rfl, rfl, k2, o, ho, hc, n, hdt⟩
  refine ⟨h2, t', rfl, fun b o e => k2 b o (hk b o e), ?_⟩
  have r1 : ReadsAll h2 us ds [] := PyProof.Rows.ReadsAll.keeps (fun b o e => k2 b o (hk b o e)) rd
  exact .tuple ho hc hdt (by simpa using readsAll_snoc r1 (.int i0 tk))
/-! ### sorted(d, key=f) -/
def midD : Dt → Dt
  | .tuple ds => .tuple (ds ++ [.int 1])
  | d => d
def isTp : Dt → Bool
  | .tuple _ => true
  | _ => false
def srtKok (ks : List Dt) : Bool := (ks.all fun d => isTp d && lf d && shp (midD d) && (match d with | .tuple ds => szOk (ds.length + 1) | _ => false)) && alkB (ks.map midD)
open Classical in
noncomputable def srtK : List Dt → Option (List Dt)
  | [.dict kvs] => if srtKok (kvs.map (·.1)) = true then some ((kvs.map (·.1)).mergeSort (PySem.W.dataLe false midD)) else none
  | _ => none
mutual
theorem Pd.rd {X : Cx} {pins : List (Addr × Obj)} {σ : L2.St} {H : Hp} {s : Shared} (I : Inv X pins σ H s) : ∀ {v : V} {u : Value} {d : Dt}, Pd (bs X) H v d → RelV v u → lf d = true → Reads s.heap u d []
  | _, _, _, .non, r, _ => by cases r; exact .none
  | _, _, _, .bl b, r, _ => by cases r; exact .bool b
  | _, _, _, .int i, r, _ => by obtain ⟨t, rfl⟩ := r; exact .int _ _
  | _, _, _, .str x, r, _ => by obtain ⟨t, rfl⟩ := r; exact .str _ _
  | _, _, _, .lst _ _, _, e => by simp [lf] at e
  | _, _, _, .dct _ _, _, e => by simp [lf] at e
  | _, _, _, .tup t a, r, e => by
    cases r
    obtain ⟨its, rv, ⟨o, ho, hc, n, hd⟩, hz⟩ := I.tuple t.sq
    exact .tuple ho hc hd (by simpa using PdA.rd I a rv (by simpa [lf] using e))
theorem PdA.rd {X : Cx} {pins : List (Addr × Obj)} {σ : L2.St} {H : Hp} {s : Shared} (I : Inv X pins σ H s) : ∀ {vs : List V} {us : List Value} {ds : List Dt}, PdA (bs X) H vs ds → Vals vs us → lfA ds = true → ReadsAll s.heap us ds []
  | _, _, _, .nil, r, _ => by cases r; exact .nil
  | _, _, _, .cons p q, r, e => by
    rw [lfA, Bool.and_eq_true] at e
    cases r with
    | cons r1 r2 =>
      have := ReadsAll.cons (Pd.rd I p r1 e.1) (PdA.rd I q r2 e.2)
      simpa using this
end
section
variable {X : Cx} {k : Option Nat} {e : Expr} {ea : Ev} {pos p pk pf : Pos}
def rSK (X : Cx) (f : Addr) : List V → List V → Hp → VK → Prop := fun vs zs H Q => ∃ ds r, PdA (bs X) H vs ds ∧ zs = [.ref f] ∧ srtK ds = some r ∧ ∀ p xs H', Ext none H H' → H p = none → H' p = some (.lst xs) → PdA (bs X) H' xs r → Q (.ref p) H'
theorem ck_sortK {x qual y : Str} {params : Arguments} {scope : Scope} {f : Addr} {fd : FuncData} {kws : List (Str × V)} {p1 p2 p3 p4 p5 : Pos} {j q n : Nat} (hc : X.calm = true) (hr : Room n X.A)
    (F : FunD X.K x qual params [.Return (some (.BinOp (.Name y p1) .Add (.Tuple [.Constant (.int 1) j p2] q p3) p4)) p5] scope [] kws f fd) (S : FnScope [y] [y] scope) (hb : Binds X.K fd [y] []) (hd : (y == ("__debug__" : Str)) = false) (hl : scope.names.lookup y = some .local) :
    CallRK X (.builtin "sorted") [Str.ofString "key"] (rSK X f) := fun pins s σ H xs zs us ws Q I r rz ⟨ds, rr, p, ez, e, qq⟩ => by
  subst ez
  unfold srtK at e
  split at e
  case h_2 => cases e
  rename_i kvs
  split at e
  case isFalse => cases e
  rename_i hok
  have er := Option.some.inj e
  rw [srtKok, Bool.and_eq_true] at hok
  obtain ⟨hok1, hok2⟩ := hok
  obtain ⟨v, rfl, p'⟩ := p.oneI
  obtain ⟨a, o, raw, rfl, ha, pd⟩ := p'.dctI
  obtain ⟨u, rfl, rx⟩ := vals1 r
  cases rx
  obtain ⟨w1, rfl, e1⟩ := vals1 rz
  cases e1
  obtain ⟨z1, z2, ys, z3, ob, es, ep, ho, hx, hdt, he, hi, hn⟩ := dct_of I (.inr ⟨o, ha⟩) pd
  have l1 := size_ent he
  have l2 : raw.length = ys.length := Paired.length z3
  refine PyProof.Rows.call_function_entry_kw PyProof.Rows.kind_sorted PyProof.Rows.plain_sorted PyProof.Rows.entry_sorted (PyProof.Rows.ksk_s1 _ _) ?_
  unfold Builtin.«sorted»
  refine wpAny_bind (m := checkCount "sorted" 1 1 _) (wpAny_pure ?_)
  refine wpAny_bind (PySem.W.kdu_collect (A := X.A.in1) (kdl_raw z1 hx hdt) (I.ok.hd hc) ho (by omega) fun h' tk acc kp it => ?_)
  have ea := keys_walk he it
  obtain ⟨h1, h2⟩ := PdD.keysV pd z3
  rw [← ea] at h1
  have lacc : acc.toList.length = ys.length := by rw [ea, List.length_map]
  have I1 : Inv X pins σ H { s with heap := h', toks := tk } := I.kept kp
  refine wpAny_bind (wpAny_newList ?_ (by omega))
  have hoL : (h'.push (seqObj "list" acc.toList.toArray 0)).get? h'.objs.size = some (seqObj "list" acc.toList.toArray 0) := Heap.get?_push_size _ rfl
  have hsm : h'.objs.size < (h'.push (seqObj "list" acc.toList.toArray 0)).objs.size := Heap.lt_size hoL
  show wpAny _ _ _ _ _ { s with heap := h'.push (seqObj "list" acc.toList.toArray 0), toks := tk }
  refine wpAny_bind (wpAny_holding (PyProof.Rows.wpAny_call_entry_kw PyProof.Rows.slot_list_sort ⟨_, hoL, rfl⟩ PyProof.Rows.entry_list_sort ?body (PyProof.Rows.ksk_l1 _ _)))
  case body =>
    have eds : ((raw.map fun p => V.ref p.2.1).zip (kvs.map (·.1))).map Prod.snd = kvs.map (·.1) := List.map_snd_zip (Nat.le_of_eq h2.length.symm)
    have inl : ∀ b ∈ (raw.map fun p => V.ref p.2.1).zip (kvs.map (·.1)), b.2 ∈ kvs.map (·.1) := fun b hb => by
      rw [← eds]
      exact List.mem_map_of_mem hb
    have good : ∀ d ∈ kvs.map (·.1), ∃ ds, d = .tuple ds ∧ lf d = true ∧ SeqAt.shaped (midD d) = true ∧ ds.length + 1 ≤ sizeLine := fun d hd => by
      have := List.all_eq_true.mp hok1 d hd
      cases d with
      | tuple ds =>
        simp only [Bool.and_eq_true] at this
        exact ⟨ds, rfl, this.1.1.2, this.1.2, szOk_le this.2⟩
      | _ => simp [isTp] at this
    have eap : PySem.W.EachIs (RelP (bs X) H) acc.toList ((raw.map fun p => V.ref p.2.1).zip (kvs.map (·.1))) := each_of h1 h2
    have ekz : ((raw.map fun p => V.ref p.2.1).zip (kvs.map (·.1))).map (fun b => midD b.2) = (kvs.map (·.1)).map midD := by
      rw [← eds, List.map_map, eds]; rfl
    have hzl : ((raw.map fun p => V.ref p.2.1).zip (kvs.map (·.1))).length = ys.length := by
      rw [List.length_zip, ← h2.length, Nat.min_self, List.length_map, l2]
    show wpAny (model X.prog X.w) X.A.in1.in1 (Builtin.«list.sort» ⟨[.ref h'.objs.size], [(Str.ofString "key", .ref f)]⟩) _ _ _
    rw [PyProof.Rows.ksk_t1]
    refine PySem.W.keyH_tree (kz := ((raw.map fun p => V.ref p.2.1).zip (kvs.map (·.1))).map (fun b => midD b.2)) hoL (by rw [List.length_map, hzl, lacc]) (by omega) (by rw [ekz]; exact alkB_ok hok2) (by
        rw [ekz]
        refine .inl fun d hd => ?_
        obtain ⟨d0, hd0, rfl⟩ := List.mem_map.mp hd
        obtain ⟨ds, rfl, _⟩ := good d0 hd0
        cases ds with
        | nil => exact ⟨_, _, rfl⟩
        | cons z r => exact ⟨_, _, rfl⟩) (by
        rw [ekz]
        intro d hd
        obtain ⟨d0, hd0, rfl⟩ := List.mem_map.mp hd
        obtain ⟨ds, rfl, _, g, _⟩ := good d0 hd0
        have g1 := SeqAt.depth_of_shaped g
        have g2 := hr.un
        show X.A.units + 1 + 1 + _ < cLine
        omega)
      (PySem.W.keyH_turns (R := RelP (bs X) H) (k := fun b : V × Dt => midD b.2) eap fun v b hR hbm h tk kpb => ?_) fun h3 tk3 out c kp3 hD ko => ⟨_, rfl, wpAny_pure ⟨_, rfl, ?_⟩⟩
    · obtain ⟨ds, eb, hlf, g, hsz⟩ := good b.2 (inl b hbm)
      have kph : ∀ c o, s.heap.get? c = some o → h.get? c = some o := fun c o e => by
        have e2 := kp c o e
        exact kpb c o (Nat.ne_of_lt (Heap.lt_size e2)) (Heap.get?_push_of_some _ e2)
      have I2 : Inv X pins σ H { s with heap := h, toks := tk } := I.kept kph
      obtain ⟨hb1, hb2⟩ := hR
      rw [eb] at hb2
      obtain ⟨ta, txs, etx, htq, pts⟩ := hb2.tupI
      rw [etx] at hb1
      cases hb1
      obtain ⟨its, rv, pl, hz⟩ := I2.tuple htq
      have := key_pure (A := X.A.in1.in1) (P := X.prog) (w := X.w) (s := { s with heap := h, toks := tk }) F S hb I2.kIn I2.nolimit (show X.A.in1.in1.depth < recursionLimit from hr.depth) hd pl (by rw [← rv.length, pts.length]; exact hsz) (PdA.rd I2 pts rv (by rw [eb] at hlf; simpa [lf] using hlf)) hl
      show wpAny _ _ _ (PySem.W.KeyPure (midD b.2) _) _ _
      rw [eb]
      exact this
    · have hr2 := PySem.W.keyedOut_each (fun b : V × Dt => midD b.2) ko eap
      have kph : ∀ c o, h'.get? c = some o → h3.get? c = some o := fun c o e => kp3 c o (Nat.ne_of_lt (Heap.lt_size e)) (Heap.get?_push_of_some _ e)
      have hf : H h'.objs.size = none := I1.hok.fresh (Nat.le_refl _)
      have hz2 : ((((raw.map fun p => V.ref p.2.1).zip (kvs.map (·.1))).mergeSort (PySem.W.dataLe false fun b => midD b.2)).map Prod.fst).length ≤ sizeLine := by
        rw [List.length_map, List.length_mergeSort, hzl]; omega
      have x3 : Ext none H (upd H h'.objs.size (.lst ((((raw.map fun p => V.ref p.2.1).zip (kvs.map (·.1))).mergeSort (PySem.W.dataLe false fun b => midD b.2)).map Prod.fst))) := .new hf
      refine ⟨.ref h'.objs.size, _, I1.laid (a := h'.objs.size) (t' := tk3) (o := .lst ((((raw.map fun p => V.ref p.2.1).zip (kvs.map (·.1))).mergeSort (PySem.W.dataLe false fun b => midD b.2)).map Prod.fst)) kph (Nat.le_refl _) ⟨hz2, out, c, each_vals hr2, hD⟩, rfl, qq _ _ _ x3 hf upd_same ?_⟩
      have epd := each_pd hr2
      have e3 : ((((raw.map fun p => V.ref p.2.1).zip (kvs.map (·.1))).mergeSort (PySem.W.dataLe false fun b => midD b.2)).map Prod.snd) = rr := by
        rw [← er]
        refine (List.map_mergeSort (r := PySem.W.dataLe false fun b : V × Dt => midD b.2) (s := PySem.W.dataLe false midD) (f := Prod.snd) (l := (raw.map fun p => V.ref p.2.1).zip (kvs.map (·.1))) (fun a _ b _ => rfl)).trans ?_
        rw [eds]
      rw [e3] at epd
      exact epd.pers x3.toPers
end
end HL

/-! HlL: defs by their bodies; rules for the generator. -/
namespace HL
open PySem PySem.Spec PyProof.Rows L2
section
variable {X : Cx} {k : Option Nat} {a b c e : Expr} {es : List Expr} {pos p : Pos} {x : Str} {ea eb : Ev} {en em : EvN}
theorem ud_neg : UnD X (unaryOp .USub) negD := fun pins s σ H x v Q I rx ⟨d, r, pd, e, q⟩ => by
  unfold negD at e
  split at e
  · cases e
    exact un_neg pins s σ H x v Q I rx ⟨_, pd.intI, q _ H .refl (.int _)⟩
  · cases e
/-- l or m, both new -/
def nOr (en em : EvN) : EvN := fun st t => (en st t).bind fun r => match r.1 with
  | [] => em st r.2
  | _ :: _ => some r
theorem pn_or1 (h : PN k X a en) : PN k X (.BoolOp .Or [a] pos) en := pe_one h
theorem pn_or {rest : List Expr} (ha : PN k X a en) (hb : PN k X (.BoolOp .Or (b :: rest) pos) em) : PN k X (.BoolOp .Or (a :: b :: rest) pos) (nOr en em) := PE.imp (pe_orT ha hb) fun σ H Q ⟨st, t, T, r, sd, tn, e, q⟩ => by
  obtain ⟨a, e1, e⟩ := Option.bind_eq_some_iff.mp e
  refine ⟨st, t, T, a, sd, tn, e1, fun p xs H1 x1 hp n1 h1 pa => ?_⟩
  obtain ⟨ds, t'⟩ := a
  cases pa with
  | nil =>
    refine ⟨false, .inl ⟨_, .inl (.inl h1), rfl⟩, ?_⟩
    rw [if_neg (by simp)]
    refine ⟨st, t', T, r, sd.pers x1.toPers, n1, e, fun p2 xs2 H2 x2 hp2 n2 h2 pa2 => q p2 xs2 H2 (x1.trans x2) (new_back x1 n1 hp2) n2 h2 pa2⟩
  | cons a1 a2 =>
    cases e
    refine ⟨true, .inl ⟨_, .inl (.inl h1), rfl⟩, ?_⟩
    rw [if_pos rfl]
    exact q p _ H1 x1 hp n1 h1 (.cons a1 a2)
/-- sorted(d, key=f) -/
theorem pn_sortk {f : Addr} {fn : Str} {pf pk : Pos} (hck : CallRK X (.builtin "sorted") [Str.ofString "key"] (rSK X f)) (hm : X.mg "sorted" = none) (hmf : X.mg fn = some (.ref f)) (ha : PX k X a ea) (hg : Gl X "sorted" := by rfl) (hgf : Gl X fn := by rfl) (hdf : (fn == ("__debug__" : Str)) = false := by decide)
    (he : backTo pos (starEach [a] X.env) = (false, eval a X.env) :: backTo pos (starEach [] X.env) := by rfl) (hs : starEach [a] X.env = (false, eval a X.env) :: starEach [] X.env := by rfl) (hpl : (backTo pos (starEach [a] X.env)).any (·.1) = false := by rfl)
    (hall : (backToKw pos (keywordEach [⟨some "key", .Name fn pf, pk⟩] X.env)).all (·.1.isSome) = true := by rfl) (hnone : (backToKw pos (keywordEach [⟨some "key", .Name fn pf, pk⟩] X.env)).any (·.1.isNone) = false := by rfl) (hks : (backToKw pos (keywordEach [⟨some "key", .Name fn pf, pk⟩] X.env)).filterMap (·.1) = [Str.ofString "key"] := by rfl) :
    PN k X (.Call (.Name "sorted" p) [a] [⟨some "key", .Name fn pf, pk⟩] pos) (nCall srtK (aCons ea aNil)) :=
  PE.imp (pe_callBK hck hg hm (by decide +kernel) (pa_cons ha pa_nil hs) (pk_cons (pe_glob (v := .ref f) hgf hmf rfl hdf) pk_nil) (by decide) (by decide) he hpl hall hnone hks) fun σ H Q ⟨st, t, T, r, sd, tn, e, q⟩ => by
  obtain ⟨ar, e1, e⟩ := Option.bind_eq_some_iff.mp e
  obtain ⟨r', e3, e⟩ := Option.map_eq_some_iff.mp e
  subst e
  obtain ⟨d, e4, e1⟩ := Option.bind_eq_some_iff.mp e1
  obtain ⟨b, e5, e1⟩ := Option.map_eq_some_iff.mp e1
  subst e1
  cases e5
  refine ⟨st, t, T, d, sd, tn, e4, fun v H1 x1 n1 p1 => ⟨[d.1], r', .cons p1 .nil, rfl, e3, fun p xs H3 x3 hp h3 p3 => ?_⟩⟩
  exact q p xs H3 (x1.trans x3.any) (new_back x1 n1 hp) (n1.ext0 x3) h3 p3
end
/-! ### defs -/
def stP (N n : Nat) (ds : List Dt) : DS := ds.map some ++ List.replicate (N - ds.length) none
def runP (N : Nat) (ex : Ex) (ds : List Dt) : Option Dt := (ex (stP N 0 ds) []).bind fun o => match o with
  | .rt d _ => some d
  | .nx _ _ => some .none
  | _ => none
def runN (N : Nat) (ex : Ex) (ds : List Dt) : Option (List Dt) := (ex (stP N 0 ds) []).bind fun o => match o with
  | .rt (.list r) _ => some r
  | _ => none
def stT (N : Nat) (ds : List Dt) : DS := none :: stP (N - 1) 0 ds
def runT (N : Nat) (ex : Ex) (ds : List Dt) (t : Ti) : Option (Dt × Ti) := (ex (stT N ds) t).bind fun o => match o with
  | .rt d t' => some (d, t')
  | .nx _ t' => some (.none, t')
  | _ => none
def runTN (N : Nat) (ex : Ex) (ds : List Dt) (t : Ti) : Option (List Dt × Ti) := (ex (stT N ds) t).bind fun o => match o with
  | .rt (.list r) t' => some (r, t')
  | _ => none
section
variable {P : Program} {w : World} {K : PySem.W.Frag} {mg : Str → Option Value} {base : Heap}
/-- the context of a def's body -/
abbrev XB (P : Program) (w : World) (K : PySem.W.Frag) (mg : Str → Option Value) (base : Heap) (N : List Str) (qual : Str) (scope : Scope) (f : Addr) (cd : Value) (A : Around) (outer : List Env) (s : Shared) (H : Hp) (E : XK) : Cx := (cxOf C8.CX0 P w K mg base N qual scope f cd A outer s H E).nox
theorem stP_len {N : Nat} {ds : List Dt} (h : ds.length ≤ N) : (stP N 0 ds).length = N := by
  unfold stP; rw [List.length_append, List.length_map, List.length_replicate]; omega
theorem stP_get {B : Bs} {H : Hp} {N : List Str} {vs : List V} {ds : List Dt} (pa : PdA B H vs ds) (i : Nat) (d : Dt) (h : (stP N.length 0 ds)[i]? = some (some d)) : ∃ v, (L2.start N vs)[i]? = some (some v) ∧ Pd B H v d := by
  unfold stP at h
  unfold L2.start
  have hl := pa.length
  by_cases hi : i < ds.length
  · rw [List.getElem?_append_left (by simpa using hi), List.getElem?_map] at h
    obtain ⟨d', e, h⟩ := Option.map_eq_some_iff.mp h
    cases h
    obtain ⟨v, ev, pv⟩ := pa.get e
    exact ⟨v, by rw [List.getElem?_append_left (by rw [List.length_map]; omega), List.getElem?_map, ev]; rfl, pv⟩
  · rw [List.getElem?_append_right (by simpa using Nat.le_of_not_lt hi), List.getElem?_replicate] at h
    split at h <;> cases h
theorem SM.start {B : Bs} {H : Hp} {N : List Str} {vs : List V} {ds : List Dt} {mu : List Nat} (pa : PdA B H vs ds) (hn : ds.length ≤ N.length) (hm : ∀ i ∈ mu, ds.length ≤ i) : SM B H H (L2.start N vs) (stP N.length 0 ds) mu none := by
  have none_mu : ∀ i ∈ mu, ∀ d, (stP N.length 0 ds)[i]? ≠ some (some d) := fun i hi d h => by
    have := hm i hi
    unfold stP at h
    rw [List.getElem?_append_right (by simpa using this), List.getElem?_replicate] at h
    split at h <;> cases h
  refine ⟨?_, fun i d _ h => stP_get pa i d h, fun i d hi h => absurd h (none_mu i hi d), fun i j di dj a hi hj h => absurd h (none_mu i hi di)⟩
  rw [stP_len hn]
  unfold L2.start
  rw [List.length_append, List.length_map, List.length_replicate, pa.length]
  omega
/-- the slots of mu are no parameters -/
def muOk (mu : List Nat) (n : Nat) : Bool := mu.all fun i => decide (n ≤ i)
theorem muOk_le {mu : List Nat} {n : Nat} (h : muOk mu n = true) : ∀ i ∈ mu, n ≤ i := fun i hi => of_decide_eq_true (List.all_eq_true.mp h i hi)
theorem cp_of {x : Str} {params : Arguments} {body : List Stmt} {scope : Scope} {f : Addr} {fd : FuncData} {N ps : List Str} {k : Nat} {mu : List Nat} {ex : Ex} (F : FunD K x x params body scope [] [] f fd) (hm : mg x = some (.ref f)) (hb : Binds K fd ps []) (S : FnScope N ps scope) (hmu : muOk mu ps.length = true) (hnl : ps.length ≤ N.length)
    (h : ∀ (cdv : Value) (A : Around) (outer : List Env) (s : Shared) (H : Hp) (E : XK), Room k (A.deeper (envOfC x scope s.heap.objs.size f cdv)) → ZXs none mu false (XB P w K mg base N x scope f cdv A outer s H E) body ex) : CP P w K mg base (k + 1) x ps.length (runP N.length ex) := by
  refine ⟨f, fd, ps, [], F.ok S (fun vs H Q E h => h.1) fun cdv A outer s H vs Q E hr ⟨hl, ds, r, pa, e, q⟩ => ?_, hm, F.kp, hb, .nil⟩
  refine ⟨_, (h cdv A outer s H E hr).nox, ?_⟩
  have hdl : ds.length = ps.length := by rw [← pa.length, hl]
  unfold runP at e
  obtain ⟨o, e1, e⟩ := Option.bind_eq_some_iff.mp e
  refine ⟨stP N.length 0 ds, [], none, o, SM.start pa (by omega) fun i hi => by rw [hdl]; exact muOk_le hmu i hi, ⟨rfl, rfl⟩, .refl, e1, ?_⟩
  cases o with
  | rt d t => cases e; exact fun v H' hv _ x' => q v H' x' hv
  | nx st t => cases e; exact fun σ' H' _ _ x' _ => q .non H' x' .non
  | bk st t => cases e
  | ct st t => cases e
theorem cn_of {x : Str} {params : Arguments} {body : List Stmt} {scope : Scope} {f : Addr} {fd : FuncData} {N ps : List Str} {k : Nat} {mu : List Nat} {ex : Ex} (F : FunD K x x params body scope [] [] f fd) (hm : mg x = some (.ref f)) (hb : Binds K fd ps []) (S : FnScope N ps scope) (hmu : muOk mu ps.length = true) (hnl : ps.length ≤ N.length)
    (h : ∀ (cdv : Value) (A : Around) (outer : List Env) (s : Shared) (H : Hp) (E : XK), Room k (A.deeper (envOfC x scope s.heap.objs.size f cdv)) → ZXs none mu true (XB P w K mg base N x scope f cdv A outer s H E) body ex) : CN P w K mg base (k + 1) x ps.length (runN N.length ex) := by
  refine ⟨f, fd, ps, [], F.ok S (fun vs H Q E h => h.1) fun cdv A outer s H vs Q E hr ⟨hl, ds, r, pa, e, q⟩ => ?_, hm, F.kp, hb, .nil⟩
  refine ⟨_, (h cdv A outer s H E hr).nox, ?_⟩
  have hdl : ds.length = ps.length := by rw [← pa.length, hl]
  unfold runN at e
  obtain ⟨o, e1, e⟩ := Option.bind_eq_some_iff.mp e
  refine ⟨stP N.length 0 ds, [], none, o, SM.start pa (by omega) fun i hi => by rw [hdl]; exact muOk_le hmu i hi, ⟨rfl, rfl⟩, .refl, e1, ?_⟩
  cases o with
  | rt d t =>
    rintro v H' ⟨p, xs, es, rfl, hp, h', pe, rfl⟩ _ x'
    cases e
    exact q p xs H' x' hp h' pe
  | nx st t => cases e
  | bk st t => cases e
  | ct st t => cases e
/-! .. with the draws' list ahead -/
theorem start_cons {N : List Str} {T : V} {vs : List V} : L2.start N (T :: vs) = some T :: L2.start N.tail vs := by
  unfold L2.start
  rw [List.map_cons, List.cons_append, List.length_cons, List.length_tail]
  rw [show N.length - (vs.length + 1) = N.length - 1 - vs.length by omega]
theorem SM.startT {B : Bs} {H : Hp} {N : List Str} {T : Addr} {vs : List V} {ds : List Dt} {mu : List Nat} (pa : PdA B H vs ds) (hn : ds.length + 1 ≤ N.length) (hm : ∀ i ∈ mu, ds.length + 1 ≤ i) : SM B H H (L2.start N (.ref T :: vs)) (stT N.length ds) mu (some T) := by
  have ht : N.tail.length = N.length - 1 := List.length_tail
  have none_mu : ∀ i ∈ mu, ∀ d, (stT N.length ds)[i]? ≠ some (some d) := fun i hi d h => by
    have h0 := hm i hi
    unfold stT stP at h
    obtain ⟨j, rfl⟩ : ∃ j, i = j + 1 := ⟨i - 1, by omega⟩
    rw [List.getElem?_cons_succ, List.getElem?_append_right (by simp; omega), List.getElem?_replicate] at h
    split at h <;> cases h
  rw [start_cons]
  refine ⟨?_, fun i d _ h => ?_, fun i d hi h => absurd h (none_mu i hi d), fun i j di dj a hi hj h => absurd h (none_mu i hi di)⟩
  · unfold stT
    rw [List.length_cons, stP_len (by omega), List.length_cons]
    unfold L2.start
    rw [List.length_append, List.length_map, List.length_replicate, pa.length, ht]
    omega
  · unfold stT at h
    cases i with
    | zero => rw [List.getElem?_cons_zero] at h; cases h
    | succ i =>
      rw [List.getElem?_cons_succ] at h ⊢
      rw [← ht] at h
      exact stP_get pa i d h
theorem TN.start {H : Hp} {N : List Str} {T : Addr} {vs : List V} {t : Ti} (h : H T = some (.lst (t.map V.int))) : TN (some 0) (L2.start N (.ref T :: vs)) H (some T) t := ⟨T, rfl, by rw [start_cons]; rfl, h⟩
theorem ct_of {x : Str} {params : Arguments} {body : List Stmt} {scope : Scope} {f : Addr} {fd : FuncData} {N ps : List Str} {k n : Nat} {mu : List Nat} {ex : Ex} (F : FunD K x x params body scope [] [] f fd) (hm : mg x = some (.ref f)) (hb : Binds K fd ps []) (S : FnScope N ps scope) (hps : ps.length = n + 1) (hmu : muOk mu (n + 1) = true) (hnl : ps.length ≤ N.length)
    (h : ∀ (cdv : Value) (A : Around) (outer : List Env) (s : Shared) (H : Hp) (E : XK), Room k (A.deeper (envOfC x scope s.heap.objs.size f cdv)) → ZXs (some 0) mu false (XB P w K mg base N x scope f cdv A outer s H E) body ex) : CT P w K mg base (k + 1) x n (runT N.length ex) := by
  refine ⟨f, fd, ps, [], F.ok S (fun vs H Q E h => by rw [hps]; exact h.1) fun cdv A outer s H vs Q E hr ⟨hl, T, ws, ds, t, r, ev, hT, pa, e, q⟩ => ?_, hm, F.kp, hb, .nil⟩
  subst ev
  refine ⟨_, (h cdv A outer s H E hr).nox, ?_⟩
  have hdl : ds.length = n := by
    have := pa.length
    rw [List.length_cons] at hl
    omega
  unfold runT at e
  obtain ⟨o, e1, e⟩ := Option.bind_eq_some_iff.mp e
  refine ⟨stT N.length ds, t, some T, o, SM.startT pa (by omega) fun i hi => by rw [hdl]; exact muOk_le hmu i hi, TN.start hT, .refl, e1, ?_⟩
  cases o with
  | rt d t' => cases e; exact fun v H' hv th x' => q v H' x' (th T rfl) hv
  | nx st t' => cases e; exact fun σ' H' _ tn x' _ => q .non H' x' (tn.th T rfl) .non
  | bk st t => cases e
  | ct st t => cases e
theorem ctn_of {x : Str} {params : Arguments} {body : List Stmt} {scope : Scope} {f : Addr} {fd : FuncData} {N ps : List Str} {k n : Nat} {mu : List Nat} {ex : Ex} (F : FunD K x x params body scope [] [] f fd) (hm : mg x = some (.ref f)) (hb : Binds K fd ps []) (S : FnScope N ps scope) (hps : ps.length = n + 1) (hmu : muOk mu (n + 1) = true) (hnl : ps.length ≤ N.length)
    (h : ∀ (cdv : Value) (A : Around) (outer : List Env) (s : Shared) (H : Hp) (E : XK), Room k (A.deeper (envOfC x scope s.heap.objs.size f cdv)) → ZXs (some 0) mu true (XB P w K mg base N x scope f cdv A outer s H E) body ex) : CTN P w K mg base (k + 1) x n (runTN N.length ex) := by
  refine ⟨f, fd, ps, [], F.ok S (fun vs H Q E h => by rw [hps]; exact h.1) fun cdv A outer s H vs Q E hr ⟨hl, T, ws, ds, t, r, ev, hT, pa, e, q⟩ => ?_, hm, F.kp, hb, .nil⟩
  subst ev
  refine ⟨_, (h cdv A outer s H E hr).nox, ?_⟩
  have hdl : ds.length = n := by
    have := pa.length
    rw [List.length_cons] at hl
    omega
  unfold runTN at e
  obtain ⟨o, e1, e⟩ := Option.bind_eq_some_iff.mp e
  refine ⟨stT N.length ds, t, some T, o, SM.startT pa (by omega) fun i hi => by rw [hdl]; exact muOk_le hmu i hi, TN.start hT, .refl, e1, ?_⟩
  cases o with
  | rt d t' =>
    rintro v H' ⟨p, xs, es, rfl, hp, h', pe, rfl⟩ th x'
    cases e
    exact q p xs H' x' (th T rfl) hp h' pe
  | nx st t => cases e
  | bk st t => cases e
  | ct st t => cases e
end
end HL

/-! HlM: name = [comprehension], comprehensions of two clauses, a call with a new list of draws. -/
namespace HL
open PySem PySem.Spec PyProof.Rows L2
def hideA : List Nat → DS → DS
  | [], st => st
  | i :: mu, st => hideA mu (st.set i none)
theorem SM.hideA {B : Bs} {H0 H : Hp} {σ : L2.St} {T : Option Addr} : ∀ {mu : List Nat} {st : DS}, SM B H0 H σ st mu T → SM B H0 H σ (HL.hideA mu st) [] T
  | [], _, s => s
  | i :: mu, st, s => SM.hideA (mu := mu) (st := st.set i none) s.hide
section
variable {X : Cx} {k : Option Nat} {mu : List Nat} {rn : Bool} {elt tg iter tg1 iter1 : Expr} {ifs ifs1 : List Expr} {scope : Scope} {own : List (Str × Nat)} {pos spos py : Pos} {it it1 : EvN} {p p1 : Tg} {cnd cnd1 : EvB} {ev : Ev} {y : Str} {i : Nat} {w w1 : Bool}
def zLcD (i : Nat) (mu : List Nat) (en : EvN) : Ex := fun st t => (en (hideA mu st) t).map fun r => .nx (st.set i (some (.list r.1))) r.2
theorem z_lcD (i : Nat) (own : List (Str × Nat)) (hc : X.calm = true) (hN : X.N.Nodup) (hi : IX k X w tg iter it) (ok : BlkOk X.N X.env.scope scope own)
    (hg : ∀ (s : Shared) (H : Hp) (C : Addr) (cl : List (Str × Addr)) (fp : List Addr), GX (X.blk s H scope (compEnvC scope cl C X.env) fp) w tg p)
    (ht : ∀ (s : Shared) (H : Hp) (C : Addr) (cl : List (Str × Addr)) (fp : List Addr), PTs (X.blk s H scope (compEnvC scope cl C X.env) fp) ifs (tBo k (bs X) cnd))
    (he : ∀ (s : Shared) (H : Hp) (C : Addr) (cl : List (Str × Addr)) (fp : List Addr), PX k (X.blk s H scope (compEnvC scope cl C X.env) fp) elt ev)
    (hs : (p.slots.all fun i => (own.map (·.2)).contains i) = true := by rfl) (hk : kOk k (own.map (·.2)) = true := by rfl) (hm : (mu.contains i) = false := by rfl) (hk2 : kNe k i = true := by rfl)
    (hy : X.N[i]? = some y := by rfl) (hyl : X.env.scope.names.lookup y = some .local := by rfl) (hsw : swapsWith (.ListComp elt [⟨tg, iter, ifs, 0⟩] scope pos) (some (.Name y py)) spos.line X.env = pure true := by rfl) (hf : ∀ x, foldedSetIterable iter X.env x = pure x := by intro _; rfl) :
    ZX k mu rn X (.Assign [.Name y py] (.ListComp elt [⟨tg, iter, ifs, 0⟩] scope pos) spos) (zLcD i mu (nLc it p (own.map (·.2)) cnd ev)) := ⟨fun pins s σ H D I ⟨st, t, T, o, sm, tn, x, e, q⟩ => by
  obtain ⟨r, e1, e⟩ := Option.map_eq_some_iff.mp e
  subst e
  have hm' : i ∉ mu := by simpa using hm
  have red := lc_read (B := bs X) (w := w) (Q := fun v H1 => gName i v σ H1 fun σ' H' => ∃ l xs, σ' = σ.set i (some (.ref l)) ∧ H l = none ∧ H' l = some (.lst xs) ∧ Ext T H H' ∧ TN k σ H' T r.2 ∧ PdA (bs X) H' xs r.1) hs hk
    ⟨HL.hideA mu st, t, T, r, (SM.hideA sm).sd, tn, e1, fun l xs H' x' hl n' h' pa => ⟨l, xs, rfl, hl, h', x', n', pa⟩⟩
  have run := (ps_setLc (spos := spos) hc hN hy hyl hsw hi ok hg ht he hf).run pins s σ H ⟨fun σ' H' => ∃ l xs, σ' = σ.set i (some (.ref l)) ∧ H l = none ∧ H' l = some (.lst xs) ∧ Ext T H H' ∧ TN k σ H' T r.2 ∧ PdA (bs X) H' xs r.1, fun _ _ => False, fun _ _ => False, fun _ _ => False⟩ I red
  refine thn run fun f s1 z => ?_
  cases f with
  | next =>
    obtain ⟨σ', H', I1, l, xs, rfl, hl, h', x', n', pa⟩ := z
    obtain ⟨ob, I2⟩ := Inv.lock (.lst _) I1 h'
    have pr : Pers H' (upd H' l (.frz ob (.lst xs))) := ⟨fun a ys z => by rw [upd_ne (ne_of z h' (by simp))]; exact z, fun a o' u z => by rw [upd_ne (ne_of z h' (by simp))]; exact z⟩
    have x2 : Ext T H (upd H' l (.frz ob (.lst xs))) := ⟨x'.toPers.trans pr, fun a o' z hT => by rw [upd_ne (ne_of_none z hl)]; exact x'.keep a o' z hT⟩
    have n2 : TN k σ (upd H' l (.frz ob (.lst xs))) T r.2 := n'.upd (tn.T0 l hl)
    exact ⟨_, _, I2, q _ _ ((sm.ext x2).set hm' (.lst upd_same (pa.pers pr))) (n2.set hk2) (x.trans x2) x2.toPers⟩
  | ret v => obtain ⟨_, _, _, _, _, z⟩ := z; exact z.elim
  | brk => obtain ⟨_, _, _, z⟩ := z; exact z.elim
  | cont => obtain ⟨_, _, _, z⟩ := z; exact z.elim⟩
theorem z_lcM (i : Nat) (own : List (Str × Nat)) (hc : X.calm = true) (hN : X.N.Nodup) (hi : IX k X w tg iter it) (ok : BlkOk X.N X.env.scope scope own)
    (hg : ∀ (s : Shared) (H : Hp) (C : Addr) (cl : List (Str × Addr)) (fp : List Addr), GX (X.blk s H scope (compEnvC scope cl C X.env) fp) w tg p)
    (ht : ∀ (s : Shared) (H : Hp) (C : Addr) (cl : List (Str × Addr)) (fp : List Addr), PTs (X.blk s H scope (compEnvC scope cl C X.env) fp) ifs (tBo k (bs X) cnd))
    (he : ∀ (s : Shared) (H : Hp) (C : Addr) (cl : List (Str × Addr)) (fp : List Addr), PX k (X.blk s H scope (compEnvC scope cl C X.env) fp) elt ev)
    (hs : (p.slots.all fun i => (own.map (·.2)).contains i) = true := by rfl) (hk : kOk k (own.map (·.2)) = true := by rfl) (hm : (mu.contains i) = true := by rfl) (hk2 : kNe k i = true := by rfl)
    (hy : X.N[i]? = some y := by rfl) (hyl : X.env.scope.names.lookup y = some .local := by rfl) (hsw : swapsWith (.ListComp elt [⟨tg, iter, ifs, 0⟩] scope pos) (some (.Name y py)) spos.line X.env = pure true := by rfl) (hf : ∀ x, foldedSetIterable iter X.env x = pure x := by intro _; rfl) :
    ZX k mu rn X (.Assign [.Name y py] (.ListComp elt [⟨tg, iter, ifs, 0⟩] scope pos) spos) (zLcD i mu (nLc it p (own.map (·.2)) cnd ev)) := PS.imp (ps_setLc (spos := spos) hc hN hy hyl hsw hi ok hg ht he hf) fun D σ H ⟨st, t, T, o, sm, tn, x, e, q⟩ => by
  obtain ⟨r, e1, e⟩ := Option.map_eq_some_iff.mp e
  subst e
  refine lc_read (B := bs X) (w := w) hs hk ⟨HL.hideA mu st, t, T, r, (SM.hideA sm).sd, tn, e1, fun l xs H' x' hl n' h' pa => ?_⟩
  exact q _ _ ((sm.ext x').setM (by simpa using hm) h' (.lst pa) (H0_new x tn hl) (tn.T0 l hl) fun j hj _ d' e => sm.new hl j hj d' e) (n'.set hk2) (x.trans x') x'.toPers
/-! ### f(new list of draws) -/
def xCallL (m : List Dt → Ti → Option (Dt × Ti)) (en : EvN) : Ev := fun st t => (en st t).bind fun r => (intsD r.1).bind fun is => (m [] is).map fun q => (q.1, r.2)
theorem px_callL {i j : Nat} {x : Str} {a : Expr} {pp pos : Pos} {en : EvN} {m : List Dt → Ti → Option (Dt × Ti)} (c : CT X.prog X.w X.K X.mg X.base j x 0 m) (hr : Room i X.A) (ha : PN k X a en) (hk : j ≤ i := by decide) (hg : Gl X x := by rfl)
    (hdb : (x == ("__debug__" : Str)) = false := by decide) (he : starEach [a] X.env = (false, eval a X.env) :: starEach [] X.env := by rfl) (hpl : (backTo pos (starEach [] X.env)).any (·.1) = false := by rfl) :
    PX k X (.Call (.Name x pp) [a] [] pos) (xCallL m en) := PE.imp (C8.pe_c c hr hk hg (pa_cons ha pa_nil he) hdb he hpl) fun σ H Q ⟨st, t, T, r, sd, tn, e, q⟩ => by
  obtain ⟨l, e1, e⟩ := Option.bind_eq_some_iff.mp e
  obtain ⟨is, e2, e⟩ := Option.bind_eq_some_iff.mp e
  obtain ⟨z, e3, e⟩ := Option.map_eq_some_iff.mp e
  subst e
  refine ⟨st, t, T, l, sd, tn, e1, fun p xs H1 x1 hp n1 h1 pa => ?_⟩
  rw [intsD_some e2] at pa
  rw [pa.ints] at h1
  show spT (bs X) 0 m ([V.ref p] ++ []) H1 Q C8.E0
  refine ⟨rfl, p, [], [], is, z, rfl, h1, .nil, e3, fun v H' x2 h2 pv => ?_⟩
  have hpT : some p ≠ T := tn.T0 p hp
  have x3 : Ext T H H' := ⟨x1.toPers.trans x2.toPers, fun a o q hT => x2.keep a o (x1.keep a o q hT) (fun z => by cases z; rw [hp] at q; cases q)⟩
  refine q v H' x3 ?_ pv
  cases k with
  | none => exact n1
  | some l =>
    obtain ⟨a', f1, f2, f3⟩ := n1
    exact ⟨a', f1, f2, x2.keep _ _ f3 (fun z => hpT (by rw [f1, z]))⟩
end
/-! ### x = y, y an own list, x a datum's slot: it is locked from here on -/
section
variable {X : Cx} {k : Option Nat} {mu : List Nat} {rn : Bool} {x y : Str} {pos : Pos}
theorem z_mvD (i j : Nat) (hN : X.N.Nodup) (hmi : (mu.contains i) = false := by rfl) (hmj : (mu.contains j) = true := by rfl) (hk : kNe k i = true := by rfl) {pos' py : Pos} (hi : X.N[i]? = some x := by rfl) (hj : X.N[j]? = some y := by rfl) (hx : Loc X.env.scope x := by first | exact Or.inl rfl | exact Or.inr rfl)
    (hv : Vis X.env.scope y := by first | exact Or.inl rfl | exact Or.inr (Or.inl rfl) | exact Or.inr (Or.inr rfl)) (hd : (y == ("__debug__" : Str)) = false := by decide) (hcd : (y == ("__classdict__" : Str)) = false := by decide)
    (hs : swapsWith (.Name y py) (some (.Name x pos')) pos.line X.env = pure false := by rfl) (hf : X.fn x = true ∨ X.env.scope.names.lookup x = some .local := by first | exact .inl rfl | exact .inr rfl | assumption) : ZX k mu rn X (.Assign [.Name x pos'] (.Name y py) pos) (zMv i j) := ⟨fun pins s σ H D I ⟨st, t, T, o, sm, tn, x, e, q⟩ => by
  obtain ⟨oo, e1, e⟩ := Option.bind_eq_some_iff.mp e
  obtain ⟨d, e2, e'⟩ := Option.map_eq_some_iff.mp e
  subst e2 e'
  have him : i ∉ mu := by simpa using hmi
  have hjm : j ∈ mu := by simpa using hmj
  obtain ⟨a, u, g1, g2, m, g3, g4⟩ := sm.mt j d hjm e1
  refine thn ((ps_set (pos := pos) hN hi hx (pe_var hj hv hd hcd) hs hf).run pins s σ H ⟨fun σ' H' => σ' = σ.set i (some (.ref a)) ∧ H' = H, fun _ _ => False, fun _ _ => False, fun _ _ => False⟩ I ⟨.ref a, g1, rfl, rfl⟩) fun f s1 z => ?_
  cases f with
  | next =>
    obtain ⟨σ', H', I1, rfl, rfl⟩ := z
    obtain ⟨ob, I2⟩ := Inv.lock m.lk I1 g2
    have pr : Pers H' (upd H' a (.frz ob u)) := upd_pers m.lk g2
    have x2 : Ext T X.H_0 (upd H' a (.frz ob u)) := x.updO g3 m.lk g2
    have hid : SM (bs X) X.H_0 (upd H' a (.frz ob u)) σ (st.set j none) mu T := ⟨by rw [List.length_set]; exact sm.len, fun l d' h e => by
        obtain ⟨n, e⟩ := set_none e
        obtain ⟨v, f1, f2⟩ := sm.pd l d' h e
        exact ⟨v, f1, f2.pers pr⟩, fun l d' h e => by
        obtain ⟨n, e⟩ := set_none e
        obtain ⟨b, w, f1, f2, f3, f4, f5⟩ := sm.mt l d' h e
        have hba : b ≠ a := fun z => by subst z; exact n (sm.ap l j d' d b h hjm e e1 f1 g1)
        exact ⟨b, w, f1, by rw [upd_ne hba]; exact f2, f3.pers pr, f4, f5⟩, fun b c db dc w hb hc eb ec => by
        obtain ⟨n, eb⟩ := set_none eb
        obtain ⟨n', ec⟩ := set_none ec
        exact sm.ap b c db dc w hb hc eb ec⟩
    exact ⟨_, _, I2, q _ _ (hid.set him ((m.pers pr).pd upd_same)) ((tn.upd g4).set hk) x2 pr⟩
  | ret v => obtain ⟨_, _, _, _, _, z⟩ := z; exact z.elim
  | brk => obtain ⟨_, _, _, z⟩ := z; exact z.elim
  | cont => obtain ⟨_, _, _, z⟩ := z; exact z.elim⟩
end
/-! ### for the printed texts -/
theorem u66 {k : Nat} {A : Around} (r : Room k A) : A.units + 66 < cLine := by have := r.un; omega
theorem u64 {k : Nat} {A : Around} (r : Room k A) : A.units + 64 < cLine := by have := r.un; omega
/-- a def of the module -/
structure Fd (K : PySem.W.Frag) (mg : Str → Option Value) (x : Str) (st : Stmt) : Prop where
  ex : ∃ f fd, FunD K x x (defArgs st) (defBody st) (defScope st) [] [] f fd ∧ mg x = some (.ref f)
def dN (en : EvN) : Ev := fun st t => (en st t).map fun r => (.list r.1, r.2)
end HL

/-! HlN: a comprehension of two clauses. -/
namespace HL
open PySem PySem.Spec PyProof.Rows L2
def lc2Go (p : Tg) (cnd : EvB) (it1 : EvN) (p1 : Tg) (vs1 : List Nat) (cnd1 : EvB) (elt : Ev) : List Dt → DS → Ti → Option (List Dt × Ti)
  | [], _, t => some ([], t)
  | d :: ds, st, t => (setTg p d st).bind fun st1 => (cnd st1 t).bind fun c => if c.1 = true then
      (it1 st1 c.2).bind fun r1 => (lcGo p1 cnd1 elt r1.1 (wipeD st1 vs1) r1.2).bind fun a => (lc2Go p cnd it1 p1 vs1 cnd1 elt ds st a.2).map fun b => (a.1 ++ b.1, b.2)
    else lc2Go p cnd it1 p1 vs1 cnd1 elt ds st c.2
def nLc2 (it : EvN) (p : Tg) (own : List Nat) (cnd : EvB) (it1 : EvN) (p1 : Tg) (vs1 : List Nat) (cnd1 : EvB) (elt : Ev) : EvN := fun st t => (it st t).bind fun r => (lc2Go p cnd it1 p1 vs1 cnd1 elt r.1 (wipeD st own) r.2).bind fun z => if szOk z.1.length = true then some z else none
theorem lc2_read {X : Cx} {k : Option Nat} {it it1 : EvN} {p p1 : Tg} {cnd cnd1 : EvB} {ev : Ev} {own : List Nat} {vs1 : List Nat} {w w1 : Bool} {B : Bs} {σ : L2.St} {H : Hp} {Q : VK} (hs : (p.slots.all fun i => own.contains i) = true) (hs1 : (p1.slots.all fun i => vs1.contains i) = true) (hv : (vs1.all fun i => own.contains i) = true) (hk : kOk k own = true)
    (h : tN k B (nLc2 it p own cnd it1 p1 vs1 cnd1 ev) σ H Q) :
    tLc2 (tIt k B w it) (tG B w p) (tBo k B cnd) (tIt k B w1 it1) (tG B w1 p1) (tBo k B cnd1) (tD k B ev) own vs1 σ H Q := by
  have hs' : ∀ i ∈ p.slots, i ∈ own := fun i hi => by simpa using List.all_eq_true.mp hs i hi
  have hs1' : ∀ i ∈ p1.slots, i ∈ vs1 := fun i hi => by simpa using List.all_eq_true.mp hs1 i hi
  have hv' : ∀ i ∈ vs1, i ∈ own := fun i hi => by simpa using List.all_eq_true.mp hv i hi
  obtain ⟨st, t, T, r, sd, tn, e, q⟩ := h
  obtain ⟨⟨ds, t1⟩, e1, e⟩ := Option.bind_eq_some_iff.mp e
  obtain ⟨z, e0, e⟩ := Option.bind_eq_some_iff.mp e
  by_cases hz : szOk z.1.length = true
  case neg => rw [if_neg hz] at e; cases e
  rw [if_pos hz] at e
  have er := Option.some.inj e
  subst er
  simp only at e0
  refine ⟨st, t, T, (ds, t1), sd, tn, e1, fun J H1 x1 n1 hJ D hD => ?_⟩
  have hDT : some D ≠ T := n1.T0 D hD
  have hline : z.1.length ≤ sizeLine := szOk_line hz
  refine ⟨fun i m H2 => m = ds.length - i ∧ i ≤ ds.length ∧ ∃ acc accD t2 rest, H2 D = some (.lst acc) ∧ PdA B H2 acc accD ∧ Ext T H1 H2 ∧ TN k σ H2 T t2 ∧ lc2Go p cnd it1 p1 vs1 cnd1 ev (ds.drop i) (wipeD st own) t2 = some rest ∧ accD ++ rest.1 = z.1 ∧ rest.2 = z.2,
    ⟨ds.length, by simp, Nat.zero_le _, [], [], t1, z, upd_same, .nil, (Ext.new hD), n1.ext0 (.new hD), by simpa using e0, rfl, rfl⟩, ?_⟩
  rintro i m H2 ⟨rfl, hi, acc, accD, t2, rest, hacc, pacc, x2, n2, go, e2, e3⟩
  obtain ⟨j1, j2, j3⟩ := hJ i H2 x2.toPers
  by_cases hlt : i < ds.length
  · refine .inr ⟨j1 hlt, fun H' => ∃ acc' accD' t' rest', H' D = some (.lst acc') ∧ PdA B H' acc' accD' ∧ Ext T H1 H' ∧ TN k σ H' T t' ∧ lc2Go p cnd it1 p1 vs1 cnd1 ev (ds.drop (i + 1)) (wipeD st own) t' = some rest' ∧ accD' ++ rest'.1 = z.1 ∧ rest'.2 = z.2,
      fun H' q => ⟨ds.length - (i + 1), by omega, rfl, hlt, q⟩, fun x H3 y => ?_⟩
    obtain ⟨d, ed, x3, pd⟩ := j3 x H3 y hlt
    have edrop : ds.drop i = d :: ds.drop (i + 1) := by
      rw [List.drop_eq_getElem_cons hlt]
      have : ds[i] = d := by rw [List.getElem?_eq_getElem hlt] at ed; exact Option.some.inj ed
      rw [this]
    rw [edrop, lc2Go] at go
    obtain ⟨st1, g1, go⟩ := Option.bind_eq_some_iff.mp go
    obtain ⟨⟨cb, t3⟩, g2, go⟩ := Option.bind_eq_some_iff.mp go
    have x13 : Ext T H1 H3 := x2.trans x3.any
    have n3 : TN k σ H3 T t2 := n2.ext0 x3
    have sdw : SD B H3 (wipe σ own) (wipeD st own) := (sd.pers (x1.toPers.trans x13.toPers)).wipe _
    refine ⟨_, d, st1, sdw, pd, g1, fun σ2 c2 sd2 => ⟨wipe_chg c2 hs', ?_⟩⟩
    have nσ2 : ∀ {H' : Hp} {t' : Ti}, TN k σ H' T t' → TN k σ2 H' T t' := fun h => h.chg hk fun j hj => by
      rw [c2.out j (fun z => hj (hs' j z)), wipe_get, if_neg (fun z => hj z.1)]
    have nσ : ∀ {H' : Hp} {t' : Ti}, TN k σ2 H' T t' → TN k σ H' T t' := fun h => h.chg hk fun j hj => by
      rw [c2.out j (fun z => hj (hs' j z)), wipe_get, if_neg (fun z => hj z.1)]
    refine ⟨st1, t2, T, (cb, t3), sd2, nσ2 n3, g2, fun H4 x4 n4 => ?_⟩
    have x14 : Ext T H1 H4 := x13.trans x4
    have hacc3 : H3 D = some (.lst acc) := x3.keep _ _ hacc (by simp)
    have hacc4 : H4 D = some (.lst acc) := x4.keep _ _ hacc3 hDT
    cases cb with
    | false =>
      simp only [Bool.false_eq_true, if_false] at go ⊢
      exact ⟨acc, accD, t3, rest, hacc4, (pacc.pers x3.toPers).pers x4.toPers, x14, nσ n4, go, e2, e3⟩
    | true =>
      simp only [if_true] at go ⊢
      obtain ⟨⟨ds1, t4⟩, g3, go⟩ := Option.bind_eq_some_iff.mp go
      obtain ⟨⟨in1, t5⟩, g4, go⟩ := Option.bind_eq_some_iff.mp go
      obtain ⟨restO, g5, go⟩ := Option.map_eq_some_iff.mp go
      subst go
      simp only at g4 g5 e2 e3
      refine ⟨st1, t3, T, (ds1, t4), sd2.pers x4.toPers, n4, g3, fun J1 H5 x5 n5 hJ1 => ?_⟩
      have hacc5 : H5 D = some (.lst acc) := x5.keep _ _ hacc4 hDT
      have sd5 : SD B H5 σ2 st1 := (sd2.pers x4.toPers).pers x5.toPers
      have x15 : Ext T H1 H5 := x14.trans x5
      have chain : ∀ {v : V} {H' : Hp} {ac : List V}, H' D = some (.lst ac) → Pers H' (upd H' D (.lst (ac ++ [v]))) := fun {v H' ac} h => ⟨fun b ys z => by rw [upd_ne (ne_of z h (by simp))]; exact z, fun b o' u z => by rw [upd_ne (ne_of z h (by simp))]; exact z⟩
      refine ⟨fun j kk H6 => kk = ds1.length - j ∧ j ≤ ds1.length ∧ ∃ acc accD t6 rest1, H6 D = some (.lst acc) ∧ PdA B H6 acc accD ∧ Ext T H1 H6 ∧ Pers H5 H6 ∧ TN k σ2 H6 T t6 ∧ lcGo p1 cnd1 ev (ds1.drop j) (wipeD st1 vs1) t6 = some rest1 ∧ (accD ++ rest1.1) ++ restO.1 = z.1 ∧ rest1.2 = t5,
        ⟨ds1.length, by simp, Nat.zero_le _, acc, accD, t4, (in1, t5), hacc5, ((pacc.pers x3.toPers).pers x4.toPers).pers x5.toPers, x15, .refl, n5, by simpa using g4, by rw [List.append_assoc]; exact e2, rfl⟩, ?_⟩
      rintro j kk H6 ⟨rfl, hj, acc6, accD6, t6, rest1, hacc6, pacc6, x16, p56, n6, go6, e6, e7⟩
      obtain ⟨k1, k2, k3⟩ := hJ1 j H6 p56
      by_cases hlt1 : j < ds1.length
      · refine .inr ⟨k1 hlt1, fun H' => ∃ acc accD t6 rest1, H' D = some (.lst acc) ∧ PdA B H' acc accD ∧ Ext T H1 H' ∧ Pers H5 H' ∧ TN k σ2 H' T t6 ∧ lcGo p1 cnd1 ev (ds1.drop (j + 1)) (wipeD st1 vs1) t6 = some rest1 ∧ (accD ++ rest1.1) ++ restO.1 = z.1 ∧ rest1.2 = t5,
          fun H' q => ⟨ds1.length - (j + 1), by omega, rfl, hlt1, q⟩, fun x' H7 y' => ?_⟩
        obtain ⟨d1, ed1, x7, pd1⟩ := k3 x' H7 y' hlt1
        have edrop1 : ds1.drop j = d1 :: ds1.drop (j + 1) := by
          rw [List.drop_eq_getElem_cons hlt1]
          have : ds1[j] = d1 := by rw [List.getElem?_eq_getElem hlt1] at ed1; exact Option.some.inj ed1
          rw [this]
        rw [edrop1, lcGo] at go6
        obtain ⟨st2, h1, go6⟩ := Option.bind_eq_some_iff.mp go6
        obtain ⟨⟨cb1, t7⟩, h2, go6⟩ := Option.bind_eq_some_iff.mp go6
        have sd7 : SD B H7 (wipe σ2 vs1) (wipeD st1 vs1) := (sd5.pers (p56.trans x7.toPers)).wipe _
        have n7 : TN k σ2 H7 T t6 := n6.ext0 x7
        refine ⟨_, d1, st2, sd7, pd1, h1, fun σ3 c3 sd3 => ⟨wipe_chg c3 hs1', ?_⟩⟩
        have nσ3 : ∀ {H' : Hp} {t' : Ti}, TN k σ2 H' T t' → TN k σ3 H' T t' := fun h => h.chg hk fun l hl => by
          rw [c3.out l (fun z => hl (hv' l (hs1' l z))), wipe_get, if_neg (fun z => hl (hv' l z.1))]
        have nσ2' : ∀ {H' : Hp} {t' : Ti}, TN k σ3 H' T t' → TN k σ2 H' T t' := fun h => h.chg hk fun l hl => by
          rw [c3.out l (fun z => hl (hv' l (hs1' l z))), wipe_get, if_neg (fun z => hl (hv' l z.1))]
        refine ⟨st2, t6, T, (cb1, t7), sd3, nσ3 n7, h2, fun H8 x8 n8 => ?_⟩
        have hacc7 : H7 D = some (.lst acc6) := x7.keep _ _ hacc6 (by simp)
        have hacc8 : H8 D = some (.lst acc6) := x8.keep _ _ hacc7 hDT
        have x18 : Ext T H1 H8 := (x16.trans x7.any).trans x8
        have p58 : Pers H5 H8 := (p56.trans x7.toPers).trans x8.toPers
        cases cb1 with
        | false =>
          simp only [Bool.false_eq_true, if_false] at go6 ⊢
          exact ⟨acc6, accD6, t7, rest1, hacc8, (pacc6.pers x7.toPers).pers x8.toPers, x18, p58, nσ2' n8, go6, e6, e7⟩
        | true =>
          simp only [if_true] at go6 ⊢
          obtain ⟨⟨el, t8⟩, h3, go6⟩ := Option.bind_eq_some_iff.mp go6
          obtain ⟨rest', h4, go6⟩ := Option.map_eq_some_iff.mp go6
          subst go6
          refine ⟨st2, t7, T, (el, t8), sd3.pers x8.toPers, n8, h3, fun v H9 x9 n9 p9 => ?_⟩
          have hacc9 : H9 D = some (.lst acc6) := x9.keep _ _ hacc8 hDT
          have pu := chain (v := v) hacc9
          have hal : acc6.length < z.1.length := by
            have h1 := pacc6.length
            rw [← e6]
            simp only [List.length_append, List.length_cons]
            omega
          refine ⟨acc6, hacc9, Nat.lt_of_lt_of_le hal hline, acc6 ++ [v], accD6 ++ [el], t8, rest', upd_same, ?_, ⟨(x18.trans x9).toPers.trans pu, fun b o z hT => ?_⟩, (p58.trans x9.toPers).trans pu, ?_, h4, ?_, e7⟩
          · exact ((((pacc6.pers x7.toPers).pers x8.toPers).pers x9.toPers).append (.cons p9 .nil)).pers pu
          · rw [upd_ne (ne_of_none z hD)]
            exact (x18.trans x9).keep b o z hT
          · exact (nσ2' n9).upd hDT
          · rw [← e6]; simp
      · have ej : j = ds1.length := Nat.le_antisymm hj (Nat.le_of_not_lt hlt1)
        rw [ej, List.drop_length, lcGo] at go6
        have er := Option.some.inj go6
        subst er
        simp only [List.append_nil] at e6
        simp only at e7
        refine .inl ⟨k2 (Nat.le_of_eq ej.symm), acc6, accD6, t6, restO, hacc6, pacc6, x16, nσ n6, ?_, e6, e3⟩
        rw [e7]; exact g5
  · have ei : i = ds.length := Nat.le_antisymm hi (Nat.le_of_not_lt hlt)
    rw [ei, List.drop_length, lc2Go] at go
    have er := Option.some.inj go
    subst er
    refine .inl ⟨j2 (Nat.le_of_eq ei.symm), q D acc H2 (x1.trans x2) (new_back x1 n1 hD) (e3 ▸ n2) hacc ?_⟩
    rw [← e2]
    simpa using pacc
theorem pn_lc2 {X : Cx} {k : Option Nat} {elt tg iter tg1 iter1 : Expr} {ifs ifs1 : List Expr} {scope : Scope} {pos : Pos} {it it1 : EvN} {p p1 : Tg} {cnd cnd1 : EvB} {ev : Ev} {w w1 : Bool} (own : List (Str × Nat)) (vs1 : List Nat) (hc : X.calm = true) (hN : X.N.Nodup) (hi : IX k X w tg iter it) (ok : BlkOk X.N X.env.scope scope own)
    (hg : ∀ (s : Shared) (H : Hp) (C : Addr) (cl : List (Str × Addr)) (fp : List Addr), GX (X.blk s H scope (compEnvC scope cl C X.env) fp) w tg p)
    (ht : ∀ (s : Shared) (H : Hp) (C : Addr) (cl : List (Str × Addr)) (fp : List Addr), PTs (X.blk s H scope (compEnvC scope cl C X.env) fp) ifs (tBo k (bs X) cnd))
    (hi1 : ∀ (s : Shared) (H : Hp) (C : Addr) (cl : List (Str × Addr)) (fp : List Addr), IX k (X.blk s H scope (compEnvC scope cl C X.env) fp) w1 tg1 iter1 it1)
    (hg1 : ∀ (s : Shared) (H : Hp) (C : Addr) (cl : List (Str × Addr)) (fp : List Addr), GX (X.blk s H scope (compEnvC scope cl C X.env) fp) w1 tg1 p1)
    (ht1 : ∀ (s : Shared) (H : Hp) (C : Addr) (cl : List (Str × Addr)) (fp : List Addr), PTs (X.blk s H scope (compEnvC scope cl C X.env) fp) ifs1 (tBo k (bs X) cnd1))
    (he : ∀ (s : Shared) (H : Hp) (C : Addr) (cl : List (Str × Addr)) (fp : List Addr), PX k (X.blk s H scope (compEnvC scope cl C X.env) fp) elt ev)
    (hs : (p.slots.all fun i => (own.map (·.2)).contains i) = true := by rfl) (hs1 : (p1.slots.all fun i => vs1.contains i) = true := by rfl) (hv : (vs1.all fun i => (own.map (·.2)).contains i) = true := by rfl) (hk : kOk k (own.map (·.2)) = true := by rfl)
    (hf : ∀ x, foldedSetIterable iter X.env x = pure x := by intro _; rfl) (hf1 : ∀ env x, foldedSetIterable iter1 env x = pure x := by intro _ _; rfl) :
    PN k X (.ListComp elt [⟨tg, iter, ifs, 0⟩, ⟨tg1, iter1, ifs1, 0⟩] scope pos) (nLc2 it p (own.map (·.2)) cnd it1 p1 vs1 cnd1 ev) :=
  PE.imp (pe_lc2 hc hN hi ok (fun i hi => by simpa using List.all_eq_true.mp hv i hi) hg ht hi1 hg1 ht1 he hf hf1) fun _ _ _ h => lc2_read (X := X) hs hs1 hv hk h
/-! ### the draws' list itself: tin[j], tin[j] = e -/
section
variable {X : Cx} {l : Nat} {mu : List Nat} {rn : Bool} {e : Expr} {ev : Ev} {pos p1 p2 tpos : Pos} {x : Str} {c : Nat}
def xTi (j : Nat) : Ev := fun _ t => (t[j]?).map fun i => (.int i, t)
theorem px_ti (l j : Nat) {c} (hN : X.N[l]? = some x := by rfl) (hv : Vis X.env.scope x := by first | exact Or.inl rfl | exact Or.inr (Or.inl rfl) | exact Or.inr (Or.inr rfl)) (hd : (x == ("__debug__" : Str)) = false := by decide) (hcd : (x == ("__classdict__" : Str)) = false := by decide)
    (hs : PlainIx (.Constant (.int (j : Int)) c p2) := by intro _ _; rfl) : PX (some l) X (.Subscript (.Name x p1) (.Constant (.int (j : Int)) c p2) pos) (xTi j) := PE.imp (pe_ix ix_list (pe_var hN hv hd hcd) pe_int hs) fun σ H Q ⟨st, t, T, r, sd, tn, e, q⟩ => by
  obtain ⟨i, e1, e⟩ := Option.map_eq_some_iff.mp e
  subst e
  obtain ⟨a, f1, f2, f3⟩ := id tn
  exact ⟨.ref a, f2, a, _, (j : Int), .int i, rfl, rfl, .inl (.inl f3), atI_nat (by rw [List.getElem?_map, e1]; rfl), q _ H .refl tn (.int i)⟩
def zTi (j : Nat) (ev : Ev) : Ex := fun st t => (ev st t).bind fun r => match r.1 with
  | .int i => if j < r.2.length then some (.nx st (r.2.set j i)) else none
  | _ => none
theorem z_ti (l j : Nat) {c} (he : EM (some l) mu X e ev) (hN : X.N[l]? = some x := by rfl) (hv : Vis X.env.scope x := by first | exact Or.inl rfl | exact Or.inr (Or.inl rfl) | exact Or.inr (Or.inr rfl)) (hd : (x == ("__debug__" : Str)) = false := by decide) (hcd : (x == ("__classdict__" : Str)) = false := by decide)
    (ha : ∀ v, assign (.Subscript (.Name x p1) (.Constant (.int (j : Int)) c p2) tpos) X.env v = (do
      let ov ← holding [v] (eval (.Name x p1) X.env)
      let iv ← holding [v, ov] (eval (.Constant (.int (j : Int)) c p2) X.env)
      standAt tpos
      holding [v, ov, iv] (setItem ov iv v)
      release [v, ov, iv] []) := by intro _; rfl)
    (hs : swapsWithSole [.Subscript (.Name x p1) (.Constant (.int (j : Int)) c p2) tpos] e pos.line X.env = pure false := by rfl) (hw : swappedStores [.Subscript (.Name x p1) (.Constant (.int (j : Int)) c p2) tpos] e X.env = pure none := by rfl)
    (h1 : (assignEach [.Subscript (.Name x p1) (.Constant (.int (j : Int)) c p2) tpos] X.env).map (·.2) = [assign (.Subscript (.Name x p1) (.Constant (.int (j : Int)) c p2) tpos) X.env] := by rfl) :
    ZX (some l) mu rn X (.Assign [.Subscript (.Name x p1) (.Constant (.int (j : Int)) c p2) tpos] e pos) (zTi j ev) := PS.imp (ps_asg he (pg_sub (pe_var hN hv hd hcd) pe_int set_list ha) hs hw h1) fun D σ H ⟨st, t, T, o, sm, tn, x, e, q⟩ => by
  obtain ⟨⟨d, t1⟩, e1, e⟩ := Option.bind_eq_some_iff.mp e
  cases d with
  | int i =>
    simp only at e
    split at e
    case isFalse => cases e
    rename_i hj
    cases e
    refine ⟨st, t, T, _, sm, tn, e1, fun v H1 x1 n1 p1 => ?_⟩
    obtain ⟨a, f1, f2, f3⟩ := n1
    subst f1
    refine ⟨.ref a, f2, a, t1.map V.int, (j : Int), j, rfl, rfl, f3, by rw [List.length_map]; unfold ixN; rw [if_pos (by omega), if_pos (by omega)]; simp, ?_⟩
    have es : (t1.map V.int).set j v = (t1.set j i).map V.int := by rw [p1.intI, List.map_set]
    rw [es]
    have pr : Pers H1 (upd H1 a (.lst ((t1.set j i).map V.int))) := upd_pers (.lst _) f3
    have sm1 := sm.ext x1
    have sm2 : SM (bs X) X.H_0 (upd H1 a (.lst ((t1.set j i).map V.int))) σ st mu (some a) := ⟨sm1.len, fun l d h e => by
        obtain ⟨v, g1, g2⟩ := sm1.pd l d h e
        exact ⟨v, g1, g2.pers pr⟩, fun l d h e => by
        obtain ⟨b, w, g1, g2, g3, g4, g5⟩ := sm1.mt l d h e
        exact ⟨b, w, g1, by rw [upd_ne (fun z => g5 (by rw [z]))]; exact g2, g3.pers pr, g4, g5⟩, sm1.ap⟩
    have x12 : Ext (some a) X.H_0 H1 := x.trans x1
    refine q _ _ sm2 ⟨a, rfl, f2, upd_same⟩ ⟨x12.toPers.trans pr, fun b o z hT => ?_⟩ (x1.toPers.trans pr)
    rw [upd_ne (fun z => hT (by rw [z]))]
    exact x12.keep b o z hT
  | _ => cases e
end
end HL

/-! HlS: sets of tuples of numbers, nested; sorted(set(l)). The tables' laws (ways, slots, relaying) are HandS.TupSets'; here the keys are NestedKeys. -/
namespace HL
open PySem PySem.Spec PyProof.Rows L2
/-! ### keys of numbers alone -/
mutual
def nk : NestedKey → Bool
  | .none => true
  | .num _ => true
  | .text _ => false
  | .tup ks => nkA ks
def nkA : List NestedKey → Bool
  | [] => true
  | k :: ks => nk k && nkA ks
end
theorem all_of {h : Heap} : ∀ {ks : List NestedKey} {vs : List Value}, NestedAll h ks vs → ∀ v ∈ vs, ∃ k, NestedIs h k v ∧ k.depth ≤ NestedKey.depthAll ks ∧ (nkA ks = true → nk k = true)
  | _, _, .nil, v, hv => by cases hv
  | k :: ks, _, .cons a b, v, hv => by
    rcases List.mem_cons.mp hv with rfl | hv
    · exact ⟨k, a, by simp only [NestedKey.depthAll]; omega, fun e => by rw [nkA, Bool.and_eq_true] at e; exact e.1⟩
    · obtain ⟨k', h1, h2, h3⟩ := all_of b v hv
      exact ⟨k', h1, by simp only [NestedKey.depthAll]; omega, fun e => by rw [nkA, Bool.and_eq_true] at e; exact h3 e.2⟩
section
variable {P : Program} {w : World}
/-- what is asked of such a value: no class statement stands in it; its hash goes by value -/
theorem cls_no : ∀ (n : Nat) (k : NestedKey) (v : Value) {A : Around} {E : Value → Shared → Prop} {s : Shared} {Q : Bool → Shared → Prop}, NestedIs s.heap k v → k.depth ≤ n → Q false s → wpAny (model P w) A (ofAClassStatement n v) Q E s := by
  intro n
  induction n with
  | zero =>
    intro k v A E s Q hk hd hQ
    cases hk with
    | tup => simp [NestedKey.depth] at hd
    | _ => exact wpAny_pure hQ
  | succ n ih =>
    intro k v A E s Q hk hd hQ
    cases hk with
    | @tup b o vs m ks ho hc hdt ha =>
      have hT : s.TypeIs (.ref b) "tuple" := ⟨o, ho, hc⟩
      unfold ofAClassStatement
      refine wpAny_bind (wpAny_typeOf hT ?_)
      dsimp only
      have e : (("tuple" : String) == "tuple") = true := by decide
      simp only [e, if_true, Bool.not_true, Bool.false_eq_true, if_false]
      show wpAny _ _ (seqItems? (.ref b) >>= _) _ _ s
      refine wpAny_bind (wpAny_seqItems ho hdt (wpAny_bind ?_))
      show wpAny _ _ (forIn vs _ _) _ _ s
      rw [← Array.forIn_toList]
      have hall : ∀ u ∈ vs.toList, ∃ k', NestedIs s.heap k' u ∧ k'.depth ≤ n := fun u hu => by
        obtain ⟨k', q1, q2, _⟩ := all_of ha u hu
        simp only [NestedKey.depth] at hd
        exact ⟨k', q1, by omega⟩
      refine wpAny_forIn_list _ (fun rest r s' => r.1 = none ∧ s' = s ∧ ∀ u ∈ rest, ∃ k', NestedIs s.heap k' u ∧ k'.depth ≤ n) _ ?_ ?_ _ _ ⟨rfl, rfl, hall⟩
      · rintro u rest r s' ⟨hr, rfl, hh⟩
        obtain ⟨k', q1, q2⟩ := hh u List.mem_cons_self
        refine wpAny_bind (ih k' u q1 q2 ?_)
        simp only [Bool.false_eq_true, if_false]
        exact wpAny_pure ⟨rfl, rfl, fun z hz => hh z (List.mem_cons_of_mem _ hz)⟩
      · rintro ⟨r1, r2⟩ s' ⟨hr, rfl, _⟩
        cases (show r1 = none from hr)
        exact wpAny_pure hQ
    | _ => exact wpAny_pure hQ
theorem hbv_yes : ∀ (n : Nat) (k : NestedKey) (v : Value) {A : Around} {E : Value → Shared → Prop} {s : Shared} {Q : Bool → Shared → Prop}, NestedIs s.heap k v → k.depth ≤ n → nk k = true → Q true s → wpAny (model P w) A (hashByValue n v) Q E s := by
  intro n
  induction n with
  | zero =>
    intro k v A E s Q hk hd hn hQ
    cases hk with
    | tup => simp [NestedKey.depth] at hd
    | text => simp [nk] at hn
    | _ => exact wpAny_pure hQ
  | succ n ih =>
    intro k v A E s Q hk hd hn hQ
    cases hk with
    | @tup b o vs m ks ho hc hdt ha =>
      have hT : s.TypeIs (.ref b) "tuple" := ⟨o, ho, hc⟩
      unfold hashByValue
      refine wpAny_bind (wpAny_specialOf hT F.slot_tuple_hash.lookup ?_)
      show wpAny _ _ (seqItems? (.ref b) >>= _) _ _ s
      refine wpAny_bind (wpAny_seqItems ho hdt (wpAny_bind ?_))
      show wpAny _ _ (forIn vs _ _) _ _ s
      rw [← Array.forIn_toList]
      have hall : ∀ u ∈ vs.toList, ∃ k', NestedIs s.heap k' u ∧ k'.depth ≤ n ∧ nk k' = true := fun u hu => by
        obtain ⟨k', q1, q2, q3⟩ := all_of ha u hu
        simp only [NestedKey.depth] at hd
        exact ⟨k', q1, by omega, q3 hn⟩
      refine wpAny_forIn_list _ (fun rest r s' => r.1 = none ∧ s' = s ∧ ∀ u ∈ rest, ∃ k', NestedIs s.heap k' u ∧ k'.depth ≤ n ∧ nk k' = true) _ ?_ ?_ _ _ ⟨rfl, rfl, hall⟩
      · rintro u rest r s' ⟨hr, rfl, hh⟩
        obtain ⟨k', q1, q2, q3⟩ := hh u List.mem_cons_self
        refine wpAny_bind (ih k' u q1 q2 q3 ?_)
        simp only [Bool.not_true, Bool.false_eq_true, if_false]
        exact wpAny_pure ⟨rfl, rfl, fun z hz => hh z (List.mem_cons_of_mem _ hz)⟩
      · rintro ⟨r1, r2⟩ s' ⟨hr, rfl, _⟩
        cases (show r1 = none from hr)
        exact wpAny_pure hQ
    | text => simp [nk] at hn
    | _ => exact wpAny_pure hQ
/-- a key at an address -/
structure IsK (h : Heap) (k : NestedKey) (a : Addr) : Prop where
  is : NestedIs h k (.ref a)
  dp : k.depth ≤ 8
  num : nk k = true
theorem IsK.kd {h : Heap} {k : NestedKey} {a : Addr} (x : IsK h k a) : (nestedKind P w).is h k a := ⟨x.is, x.dp⟩
theorem IsK.keep {h h' : Heap} {k : NestedKey} {a : Addr} (x : IsK h k a) (hk : ∀ c o vs n, h.get? c = some o → o.data = .seq vs n → h'.get? c = some o) : IsK h' k a := ⟨NestedIs.at hk _ _ x.is, x.dp, x.num⟩
theorem IsK.inj {h : Heap} {k k' : NestedKey} {a : Addr} (x : IsK h k a) (y : IsK h k' a) : k = k' := NestedIs.inj _ _ _ x.is y.is
variable {A : Around} {E : Value → Shared → Prop} {s : Shared}
theorem seen_no {k : NestedKey} {b : Addr} {Q : Bool → Shared → Prop} (hk : IsK s.heap k b) {ys : List Value} (hy : ∀ y ∈ ys, ∃ k' c, y = Value.ref c ∧ IsK s.heap k' c) (hQ : Q false s) : wpAny (model P w) A (searchCouldBeSeen (.ref b) ys) Q E s := by
  unfold searchCouldBeSeen
  refine wpAny_bind (wpAny_forIn_list _ (fun rest r s' => r.1 = none ∧ s' = s ∧ ∀ y ∈ rest, ∃ k' c, y = Value.ref c ∧ IsK s.heap k' c) _ ?_ ?_ _ _ ⟨rfl, rfl, hy⟩)
  · rintro v rest r s' ⟨hr, rfl, hh⟩
    obtain ⟨k', c, rfl, hc⟩ := hh v List.mem_cons_self
    have more : ∀ y ∈ rest, ∃ k' c, y = Value.ref c ∧ IsK s'.heap k' c := fun u hu => hh u (List.mem_cons_of_mem _ hu)
    dsimp only
    by_cases hv : (b == c || (carriedByValue (.ref b) && carriedByValue (.ref c))) = true
    · exact wp_if_pos hv (wpAny_pure ⟨rfl, rfl, more⟩)
    · refine wp_if_neg hv (wpAny_bind ((nestedKind P w).quiet hk.kd ?_))
      simp only [Bool.not_true, Bool.false_eq_true, if_false]
      refine wpAny_bind ((nestedKind P w).quiet hc.kd ?_)
      simp only [Bool.not_true, Bool.false_eq_true, if_false]
      refine wpAny_bind (cls_no 8 k _ hk.is hk.dp ?_)
      simp only [Bool.false_eq_true, if_false]
      refine wpAny_bind (cls_no 8 k' _ hc.is hc.dp ?_)
      simp only [Bool.false_eq_true, if_false]
      exact wpAny_pure ⟨rfl, rfl, more⟩
  · rintro ⟨r1, r2⟩ s' ⟨hr, rfl, _⟩
    cases (show r1 = none from hr)
    exact wpAny_pure hQ
end
/-! ### the set's table -/
/-- the hash -/
abbrev kh (w : World) (k : NestedKey) : Int := k.hash w
def ents (w : World) (L : List (Addr × NestedKey)) : List (Int × Value) := L.map fun q => (kh w q.2, Value.ref q.1)
theorem ents_len {w : World} {L : List (Addr × NestedKey)} {es : Array (Int × Value)} (h : es.toList = ents w L) : es.size = L.length := by
  rw [← Array.length_toList, h, ents, List.length_map]
theorem ents_at {w : World} {L : List (Addr × NestedKey)} {es : Array (Int × Value)} (h : es.toList = ents w L) {i : Nat} {q : Addr × NestedKey} (hq : L[i]? = some q) : es[i]? = some (kh w q.2, Value.ref q.1) := by
  rw [← Array.getElem?_toList, h, ents, List.getElem?_map, hq]
  rfl
structure Tbl (w : World) (h : Heap) (a : Addr) (L : List (Addr × NestedKey)) (es : Array (Int × Value)) (ep : Nat) (t : SetTable) : Prop where
  obj : ∃ o, h.get? a = some o ∧ o.ExactSet ∧ o.data = .set es ep t
  en : es.toList = ents w L
  ok : TabOk t (L.map fun q => kh w q.2)
  once : (L.map (·.2)).Nodup
  keys : ∀ q ∈ L, IsK h q.2 q.1
  pl : t.plain = true
  ld : w.params.followText "set-order" = true ∨ t.led = true
  rm : L.length * 5 < t.mask * 3
  lt : L.length < 64
section
variable {P : Program} {w : World} {A : Around} {E : Value → Shared → Prop} {s : Shared} {a : Addr} {L : List (Addr × NestedKey)} {es : Array (Int × Value)} {ep : Nat} {t : SetTable}
theorem Tbl.n (Z : Tbl w s.heap a L es ep t) : es.size = L.length := ents_len Z.en
theorem fits_of {w : World} {L : List (Addr × NestedKey)} (T : TabOk t (L.map fun q => kh w q.2)) (hz : es.size = L.length) (hm : L.length ≤ t.mask) : t.fits es.size = true := by
  have h1 := T.sz
  rw [List.length_map] at h1
  unfold SetTable.fits SetTable.fill
  rw [T.dm, Bool.and_eq_true, beq_iff_eq, decide_eq_true_eq]
  show t.place.size = es.size ∧ t.place.size + 0 ≤ t.mask
  omega
theorem Tbl.fit (Z : Tbl w s.heap a L es ep t) : t.fits es.size = true := fits_of Z.ok Z.n (by have := Z.rm; omega)
theorem Tbl.stays (Z : Tbl w s.heap a L es ep t) : ¬ t.gaveWay = true := by
  unfold SetTable.gaveWay
  rw [mask_odd Z.ok.mok]
  decide
/-- the probe's place at the c-th step of the key's way -/
abbrev stp (m : Nat) (h : Int) (c : Nat) : SetTable.Probe := nth m (runAt m (SetTable.bits h % (m + 1)) (SetTable.bits h)) c
theorem stp_clean (m : Nat) : ∀ (n : Nat) (p : SetTable.Probe), p.dummy = none → (nth m p n).dummy = none
  | 0, _, h => h
  | n + 1, p, h => stp_clean m n (adv m p) (by unfold adv; split <;> exact h)
/-- the search, from the c-th step on: K is the first free place of the way -/
theorem look_from (Z : Tbl w s.heap a L es ep t) {x : Addr} {k : NestedKey} (hx : IsK s.heap k x) (hu : A.units + 8 < cLine) {K : Nat} (hKf : K < 10 * SetTable.turns t.mask) (hK : way t.mask (kh w k) K ∉ t.place.toList) (hKb : ∀ c, c < K → way t.mask (kh w k) c ∈ t.place.toList) {Q : SetFound → Shared → Prop}
    (hin : k ∈ L.map (·.2) → Q (.there none) s) (hout : k ∉ L.map (·.2) → Q (.free (way t.mask (kh w k) K) false) s) :
    ∀ (f c : Nat) (b : Option SetTable.Probe), b.getD (t.probeStart (kh w k)) = stp t.mask (kh w k) c → c ≤ K → K - c < f → (∀ (i : Nat) q, L[i]? = some q → q.2 = k → ∃ c', c ≤ c' ∧ c' < K ∧ t.place.toList[i]? = some (way t.mask (kh w k) c')) →
      wpAny (model P w) A (setSearchFrom a (.ref x) (kh w k) true f b) Q E s := by
  intro f
  induction f with
  | zero => intro c b _ _ hf _; exact absurd hf (Nat.not_lt_zero _)
  | succ f ih =>
    intro c b hb hc hf hre
    obtain ⟨o, ho, hex, hd⟩ := Z.obj
    have sh : ∀ q, nth t.mask (stp t.mask (kh w k) c) q = stp t.mask (kh w k) (c + q) := fun q => (nth_add t.mask c _ q).symm
    have shj : ∀ q, (nth t.mask (stp t.mask (kh w k) c) q).j = way t.mask (kh w k) (c + q) := fun q => congrArg SetTable.Probe.j (sh q)
    have eK : c + (K - c) = K := by omega
    have found := go_spec t Z.ok.ris Z.ok.dm (fun i => (es[i]?.map (·.1)).getD 0) (kh w k) (10 * SetTable.turns t.mask) (K - c) _ (stp_clean t.mask c _ rfl) (by omega) (fun q hq => by rw [shj]; exact hKb (c + q) (by omega)) (by rw [shj, eK]; exact hK)
    have hsh : ∀ (i : Nat) q, L[i]? = some q → (fun i => (es[i]?.map (·.1)).getD 0) i = kh w q.2 := fun i q hq => by
      show (es[i]?.map (·.1)).getD 0 = _
      rw [ents_at Z.en hq]; rfl
    rw [setSearchFrom_succ]
    refine wpAny_bind (wpAny_setState_of ho hd Z.fit ?_)
    dsimp only
    refine wp_if_neg Z.stays ?_
    try refine wpAny_bind (wpAny_pure ?_)
    rcases found with ⟨q, i, hq, hi, hh, hno, hpr⟩ | ⟨hno, hpr⟩
    · have hpr' : t.probe (fun i => (es[i]?.map (·.1)).getD 0) (kh w k) (b.getD (t.probeStart (kh w k))) = some (.candidate (way t.mask (kh w k) (c + q)) i (stp t.mask (kh w k) (c + (q + 1)))) := by
        rw [hb, ← shj, ← sh]
        exact hpr
      rw [hpr']
      dsimp only
      rw [shj] at hi
      have hiL : i < L.length := by
        have h1 : i < t.place.toList.length := (List.getElem?_eq_some_iff.mp hi).1
        have h2 := Z.ok.sz
        rw [List.length_map] at h2
        rw [Array.length_toList] at h1
        omega
      obtain ⟨p, hp⟩ : ∃ p, L[i]? = some p := ⟨_, List.getElem?_eq_getElem hiL⟩
      have pm : p ∈ L := List.mem_of_getElem? hp
      have after : wpAny (model P w) A (searchRest a (.ref x) (kh w k) true f es t (way t.mask (kh w k) (c + q)) i (stp t.mask (kh w k) (c + (q + 1)))) Q E s := by
        unfold searchRest
        rw [ents_at Z.en hp]
        dsimp only
        refine wpAny_bind (wpAny_holding ((nestedKind P w).eqBool hu (Z.keys p pm).kd hx.kd ?_))
        refine wpAny_bind (wpAny_setState_of ho hd Z.fit ?_)
        dsimp only
        by_cases hkk : p.2 = k
        · exact wp_if_pos (by simp [hkk]) (wpAny_pure (hin (List.mem_map.mpr ⟨p, pm, hkk⟩)))
        · refine wp_if_neg (by simp [hkk]) ?_
          try refine wpAny_bind (wpAny_pure ?_)
          rw [sameMem]
          dsimp only
          have here : t.slot (way t.mask (kh w k) (c + q)) = .live i := slot_live Z.ok.ris hi
          simp only [if_true, here, ents_at Z.en hp]
          refine wpAny_bind (wpAny_isSame_ref_self (wpAny_bind (wpAny_pure ?_)))
          simp only [if_true]
          refine wp_if_neg (by simp [hkk]) (ih (c + (q + 1)) _ rfl (by omega) (by omega) fun i0 p0 h0 hk0 => ?_)
          obtain ⟨c', b1, b2, b3⟩ := hre i0 p0 h0 hk0
          have ne : ∀ z, c + z = c' → z < q → False := fun z ez hzq => hno z i0 hzq (by rw [shj, ez]; exact b3) ((hsh i0 p0 h0).trans (congrArg (kh w) hk0))
          have neq : c + q ≠ c' := fun ec => by
            rw [← ec] at b3
            have s0 := slot_live Z.ok.ris b3
            rw [here] at s0
            injection s0 with s0
            rw [← s0, hp] at h0
            exact hkk ((congrArg Prod.snd (Option.some.inj h0)).trans hk0)
          refine ⟨c', ?_, b2, b3⟩
          rcases Nat.lt_or_ge c' (c + q) with z | z
          · exact (ne (c' - c) (by omega) (by omega)).elim
          · omega
      by_cases hl : t.led = true
      · refine wp_if_neg (by simp [hl]) ?_
        try refine wpAny_bind (wpAny_pure ?_)
        exact after
      · refine wp_if_pos (by simp [hl]) (wpAny_bind (seen_no hx (fun y hy => ?_) ?_))
        · obtain ⟨e, he, ee⟩ := List.mem_map.mp hy
          have he2 : e ∈ es.toList := by
            have : e ∈ es ∧ e.1 = kh w k := by simpa using he
            simpa using this.1
          rw [Z.en, ents] at he2
          obtain ⟨p2, hp2, e2⟩ := List.mem_map.mp he2
          exact ⟨p2.2, p2.1, by rw [← ee, ← e2], Z.keys p2 hp2⟩
        · refine wp_if_neg (by decide) ?_
          try refine wpAny_bind (wpAny_pure ?_)
          exact after
    · have hpr' : t.probe (fun i => (es[i]?.map (·.1)).getD 0) (kh w k) (b.getD (t.probeStart (kh w k))) = some (.empty (way t.mask (kh w k) K) none) := by
        have e2 : way t.mask (kh w k) K = (nth t.mask (stp t.mask (kh w k) c) (K - c)).j := by rw [shj, eK]
        rw [hb, e2]
        exact hpr
      rw [hpr']
      dsimp only
      refine wpAny_pure (hout fun hm => ?_)
      obtain ⟨p0, h0, hk0⟩ := List.mem_map.mp hm
      obtain ⟨i0, hi0, e0⟩ := List.getElem_of_mem h0
      have h00 : L[i0]? = some p0 := by rw [List.getElem?_eq_getElem hi0, e0]
      obtain ⟨c', b1, b2, b3⟩ := hre i0 p0 h00 hk0
      exact hno (c' - c) i0 (by omega) (by rw [shj, show c + (c' - c) = c' by omega]; exact b3) ((hsh i0 p0 h00).trans (congrArg (kh w) hk0))
theorem look_at (Z : Tbl w s.heap a L es ep t) {x : Addr} {k : NestedKey} (hx : IsK s.heap k x) (hu : A.units + 8 < cLine) {Q : SetFound → Shared → Prop} (hin : k ∈ L.map (·.2) → Q (.there none) s)
    (hout : ∀ K, k ∉ L.map (·.2) → way t.mask (kh w k) K ∉ t.place.toList → (∀ c, c < K → way t.mask (kh w k) c ∈ t.place.toList) → Q (.free (way t.mask (kh w k) K) false) s) : wpAny (model P w) A (setSearch a (.ref x) (kh w k) true) Q E s := by
  have hrm := Z.rm
  obtain ⟨K, hKf, hK, hKb⟩ := Z.ok.first (by rw [List.length_map]; omega) (kh w k)
  have hbig : K < 100000 := by
    have : 10 * SetTable.turns t.mask ≤ 1420 := by
      unfold SetTable.turns
      rcases Z.ok.mok with e | e | e <;> omega
    omega
  unfold setSearch
  refine look_from Z hx hu hKf hK hKb hin (fun hn => hout K hn hK hKb) 100000 0 none rfl (Nat.zero_le _) (by omega) fun i p hp hk => ?_
  have hi : (L.map fun q => kh w q.2)[i]? = some (kh w k) := by rw [List.getElem?_map, hp, ← hk]; rfl
  have hil : i < t.place.toList.length := by
    have h1 : i < L.length := (List.getElem?_eq_some_iff.mp hp).1
    have h2 := Z.ok.sz
    rw [List.length_map] at h2
    rw [Array.length_toList]
    omega
  obtain ⟨c, hc, e⟩ := Z.ok.before hK hi (List.getElem?_eq_getElem hil)
  exact ⟨c, Nat.zero_le _, hc, by rw [List.getElem?_eq_getElem hil, e]⟩
end
/-! ### adding -/
section
variable {P : Program} {w : World} {A : Around} {E : Value → Shared → Prop} {s : Shared} {a : Addr} {L : List (Addr × NestedKey)} {es : Array (Int × Value)} {ep : Nat} {t : SetTable}
theorem IsK.but {h h' : Heap} {k : NestedKey} {a b : Addr} {o : Obj} {es : Array (Int × Value)} {ep : Nat} {t : SetTable} (x : IsK h k b) (ho : h.get? a = some o) (hd : o.data = .set es ep t) (hs : Heap.SameBut a h h') : IsK h' k b :=
  x.keep fun c ob vs n hc hv => (hs.2 c fun z => by
    subst z
    rw [ho] at hc
    cases hc
    rw [hd] at hv
    cases hv).trans hc
theorem ents_put (L : List (Addr × NestedKey)) (p : Nat) (q : Addr × NestedKey) : ents w (L.take p ++ q :: L.drop p) = (ents w L).take p ++ (kh w q.2, Value.ref q.1) :: (ents w L).drop p := by
  simp [ents, List.map_take, List.map_drop]
/-- the entries in another order -/
theorem ents_order {L : List (Addr × NestedKey)} {es : Array (Int × Value)} {order : Array Nat} (he : es.toList = ents w L) (hp : order.toList.Perm (List.range L.length)) :
    ∃ L2, (order.filterMap (es[·]?)).toList = ents w L2 ∧ L2.Perm L ∧ (L2.map fun q => kh w q.2) = order.toList.map fun i => (es.map (·.1)).getD i 0 := by
  have part : ∀ l : List Nat, (∀ i ∈ l, i < L.length) → l.filterMap (fun i => es[i]?) = ents w (l.filterMap fun i => L[i]?) ∧ ((l.filterMap fun i => L[i]?).map fun q => kh w q.2) = l.map fun i => (es.map (·.1)).getD i 0 := by
    intro l
    induction l with
    | nil => intro _; exact ⟨rfl, rfl⟩
    | cons i l ih =>
      intro hl
      have hi := hl i List.mem_cons_self
      obtain ⟨e1, e2⟩ := ih fun j hj => hl j (List.mem_cons_of_mem _ hj)
      have g1 : L[i]? = some L[i] := List.getElem?_eq_getElem hi
      have g2 := ents_at he g1
      rw [List.filterMap_cons_some g2, List.filterMap_cons_some g1, e1, List.map_cons, List.map_cons, e2]
      refine ⟨rfl, ?_⟩
      have g3 : (es.map (·.1))[i]? = some (kh w (L[i]).2) := by rw [Array.getElem?_map, g2]; rfl
      simp [Array.getD_eq_getD_getElem?, g3]
  obtain ⟨e1, e2⟩ := part order.toList fun i hi => List.mem_range.mp (hp.mem_iff.mp hi)
  refine ⟨order.toList.filterMap fun i => L[i]?, by simpa using e1, ?_, e2⟩
  have whole : ∀ n, n ≤ L.length → (List.range n).filterMap (fun i => L[i]?) = L.take n := by
    intro n
    induction n with
    | zero => intro _; rfl
    | succ n ih =>
      intro hn
      rw [List.range_succ, List.filterMap_append, ih (by omega), List.take_succ, List.filterMap_cons_some (List.getElem?_eq_getElem hn), List.getElem?_eq_getElem hn]
      rfl
  have h2 := hp.filterMap fun i => L[i]?
  rw [whole L.length (Nat.le_refl _), List.take_length] at h2
  exact h2
/-- the table laid anew -/
theorem wider {o : Obj} (ho : s.heap.get? a = some o) (hex : o.ExactSet) (hd : o.data = .set es ep t) (he : es.toList = ents w L) (T : TabOk t (L.map fun q => kh w q.2)) (hm : L.length ≤ t.mask) (once : (L.map (·.2)).Nodup) (keys : ∀ q ∈ L, IsK s.heap q.2 q.1) (pl : t.plain = true)
    (ld : w.params.followText "set-order" = true ∨ t.led = true) (few : L.length < 64) {wanted M : Nat} (hw : SetTable.sizeAbove wanted - 1 = M) (hM : MaskOk M) (hw2 : SetTable.sizeAbove wanted ≤ 128) (hn : L.length * 5 < M * 3) {Q : Unit → Shared → Prop}
    (hQ : ∀ h' L' es' ep' t', Heap.SameBut a s.heap h' → Tbl w h' a L' es' ep' t' → L'.Perm L → Q () { s with heap := h' }) : wpAny (model P w) A (setRelay a wanted) Q E s := by
  have hz := ents_len he
  obtain ⟨t', order, e, hp, T2, em, el, ep', ed⟩ := relaid_ok t (hs := es.map (·.1)) (wanted := wanted) hw hM (by rw [Array.size_map, hz]; omega)
  rw [Array.size_map, hz] at hp
  obtain ⟨L2, r1, r2, r3⟩ := ents_order he hp
  rw [← r3] at T2
  have hs2 : (order.filterMap (es[·]?)).size = es.size := by rw [ents_len r1, r2.length_eq, hz]
  rw [setRelay_eq]
  refine wpAny_bind (wpAny_setState_of ho hd (fits_of T hz hm) ?_)
  dsimp only
  refine wp_if_neg (by rw [sizeLine_eq]; omega) ?_
  try refine wpAny_bind (wpAny_pure ?_)
  rw [e]
  dsimp only
  refine wpAny_bind (wp_if_neg (by rw [hs2]; simp) ?_)
  try refine wpAny_bind (wpAny_pure ?_)
  refine wpAny_pure ?_
  dsimp only
  refine wpAny_storeSet_of ho hd ?_ (by rw [hs2, hz, sizeLine_eq]; omega)
  have sb : Heap.SameBut a s.heap (s.heap.update a (Obj.putSet (order.filterMap (es[·]?)) t')) := Heap.SameBut.update ..
  exact hQ _ L2 (order.filterMap (es[·]?)) (ep + 1) t' sb ⟨⟨_, store_at ho hd, ⟨hex.1, hex.2.1, hex.2.2⟩, rfl⟩, r1, T2, (r2.map (·.2)).nodup_iff.mpr once, fun p hpm => (keys p (r2.mem_iff.mp hpm)).but ho hd sb,
    by rw [ep']; exact pl, by rw [el]; exact ld, by rw [r2.length_eq, em]; exact hn, by rw [r2.length_eq]; exact few⟩ r2
theorem add_key (Z : Tbl w s.heap a L es ep t) {x : Addr} {k : NestedKey} (hx : IsK s.heap k x) (hu : A.units + 8 < cLine) (few : L.length + 1 < 64) {Q : Bool → Shared → Prop}
    (hQ : ∀ b h' L' es' ep' t', Heap.SameBut a s.heap h' → Tbl w h' a L' es' ep' t' → (k ∈ L.map (·.2) → L' = L) → (k ∉ L.map (·.2) → L'.Perm ((x, k) :: L)) → Q b { s with heap := h' }) : wpAny (model P w) A (setAddHashed a (.ref x) (kh w k)) Q E s := by
  obtain ⟨o, ho, hex, hd⟩ := Z.obj
  have hz := Z.n
  have hrm := Z.rm
  unfold setAddHashed
  refine wpAny_holding ?_
  rw [show (100000 : Nat) = 99999 + 1 from rfl, setAddHashedIn_succ]
  refine wpAny_bind (wpAny_setState_of ho hd Z.fit ?_)
  dsimp only
  refine wp_if_neg (by simp [byScan, Value.scannable]) ?_
  try refine wpAny_bind (wpAny_pure ?_)
  refine wpAny_bind (look_at Z hx hu (fun hm => ?_) fun K hm hK hb => ?_)
  · dsimp only
    exact wpAny_pure (hQ false s.heap L es ep t (Heap.SameBut.refl a s.heap) Z (fun _ => rfl) fun z => absurd hm z)
  dsimp only
  refine wpAny_bind (wpAny_setState_of ho hd Z.fit ?_)
  dsimp only
  obtain ⟨q1, q2, q3, q4, q5, q6, q7, q8, q9⟩ := Z.ok.put hK hb
  have hp1 : (t.put (way t.mask (kh w k) K)).1.plain = true := by rw [q6]; exact Z.pl
  generalize hpt : t.put (way t.mask (kh w k) K) = pt at q1 q3 q4 q5 q6 q7 q8 q9 hp1 ⊢
  obtain ⟨t1, p⟩ := pt
  dsimp only at q1 q3 q4 q5 q6 q7 q8 q9 hp1 ⊢
  subst q1
  first
    | (refine wpAny_bind ?_; refine wp_if_pos hp1 ?_; refine hbv_yes 8 k _ hx.is hx.dp hx.num ?_)
    | refine wp_if_pos hp1 (wpAny_bind (hbv_yes 8 k _ hx.is hx.dp hx.num ?_))
  simp only [if_true]
  have hin : (SetTable.insertAt es (SetTable.below t.place (way t.mask (kh w k) K)) (kh w k, Value.ref x)).toList = ents w (L.take (SetTable.below t.place (way t.mask (kh w k) K)) ++ (x, k) :: L.drop (SetTable.below t.place (way t.mask (kh w k) K))) := by
    rw [SetTable.toList_insertAt, ents_put, Z.en]
  generalize SetTable.below t.place (way t.mask (kh w k) K) = p at q2 q3 hin ⊢
  have pm := put_perm L p (x, k)
  have hlen : (L.take p ++ (x, k) :: L.drop p).length = L.length + 1 := pm.length_eq
  have T1 : TabOk t1 ((L.take p ++ (x, k) :: L.drop p).map fun q => kh w q.2) := by
    have e : (L.take p ++ (x, k) :: L.drop p).map (fun q => kh w q.2) = (L.map fun q => kh w q.2).take p ++ kh w k :: (L.map fun q => kh w q.2).drop p := by simp [List.map_take, List.map_drop]
    rw [e]; exact q3
  have once1 : ((L.take p ++ (x, k) :: L.drop p).map (·.2)).Nodup := (pm.map (·.2)).nodup_iff.mpr (by rw [List.map_cons]; exact List.nodup_cons.mpr ⟨hm, Z.once⟩)
  have hes := ents_len hin
  rw [hlen] at hes
  generalize SetTable.insertAt es p (kh w k, Value.ref x) = es1 at hin hes ⊢
  generalize L.take p ++ (x, k) :: L.drop p = L1 at pm hlen T1 once1 hin
  refine wpAny_bind (wpAny_storeSet_of ho hd ?_ (by rw [hes, sizeLine_eq]; omega))
  have sb : Heap.SameBut a s.heap (s.heap.update a (Obj.putSet es1 t1)) := Heap.SameBut.update ..
  have ho1 := store_at (es' := es1) (t' := t1) ho hd
  generalize s.heap.update a (Obj.putSet es1 t1) = h1 at sb ho1 ⊢
  have keys1 : ∀ q ∈ L1, IsK h1 q.2 q.1 := fun q hq => by
    rcases List.mem_cons.mp (pm.mem_iff.mp hq) with e | hq
    · rw [e]; exact hx.but ho hd sb
    · exact (Z.keys q hq).but ho hd sb
  have ld1 : w.params.followText "set-order" = true ∨ t1.led = true := by rw [q5]; exact Z.ld
  by_cases hf : t1.tooFull = true
  · first
      | (refine wpAny_bind ?_; refine wp_if_pos (by simp [hf]) ?_)
      | (refine wp_if_pos (by simp [hf]) ?_; refine wpAny_bind ?_)
    have full : (L.length + 1) * 5 ≥ t1.mask * 3 := by
      have h := hf
      unfold SetTable.tooFull at h
      rw [decide_eq_true_eq, q9, List.length_map] at h
      exact h
    rw [hz]
    have two : (t.mask = 7 ∧ L.length = 4) ∨ (t.mask = 31 ∧ L.length = 18) := by
      rcases Z.ok.mok with e | e | e
      · left; rw [q4, e] at full; rw [e] at hrm; exact ⟨e, by omega⟩
      · right; rw [q4, e] at full; rw [e] at hrm; exact ⟨e, by omega⟩
      · exfalso; rw [q4, e] at full; omega
    have go : ∀ M, SetTable.sizeAbove (SetTable.grown (L.length + 1)) - 1 = M → MaskOk M → SetTable.sizeAbove (SetTable.grown (L.length + 1)) ≤ 128 → (L.length + 1) * 5 < M * 3 →
        wpAny (model P w) A (setRelay a (SetTable.grown (L.length + 1))) (fun _ s' => wpAny (model P w) A (pure true) Q E s') E { s with heap := h1 } := fun M m1 m2 m3 m4 => by
      refine wider (s := { s with heap := h1 }) ho1 ⟨hex.1, hex.2.1, hex.2.2⟩ rfl hin T1 (by rw [hlen, q4]; rcases two with ⟨e, e2⟩ | ⟨e, e2⟩ <;> omega) once1 keys1 hp1 ld1 (by rw [hlen]; exact few) m1 m2 m3 (by rw [hlen]; exact m4) ?_
      exact fun h2 L2 es2 ep2 t2 sb2 Z2 pm2 => wpAny_pure (hQ true h2 L2 es2 ep2 t2 (sb.trans sb2) Z2 (fun z => absurd z hm) fun _ => pm2.trans pm)
    rcases two with ⟨_, e2⟩ | ⟨_, e2⟩
    · exact go 31 (by rw [e2, size_20]) (.inr (.inl rfl)) (by rw [e2, size_20]; decide) (by omega)
    · exact go 127 (by rw [e2, size_76]) (.inr (.inr rfl)) (by rw [e2, size_76]; decide) (by omega)
  · first
      | refine wp_if_neg (by simp [hf]) ?_
      | (refine wpAny_bind ?_; refine wp_if_neg (by simp [hf]) ?_; refine wpAny_pure ?_)
    have h := hf
    unfold SetTable.tooFull at h
    rw [decide_eq_true_eq, q9, List.length_map] at h
    exact wpAny_pure (hQ true h1 L1 es1 (ep + 1) t1 sb ⟨⟨_, ho1, ⟨hex.1, hex.2.1, hex.2.2⟩, rfl⟩, hin, T1, once1, keys1, hp1, ld1, by rw [hlen]; omega, by rw [hlen]; exact few⟩ (fun z => absurd z hm) fun _ => pm)
end
end HL

/-! HlT: set(l) and sorted(set(l)) over tuples of numbers, nested. The walks over the list and the new set's frame are HandS.TupSets'. -/
namespace HL
open PySem PySem.Spec PyProof.Rows L2
/-! ### data of whole numbers and tuples alone -/
mutual
def pi : Dt → Bool
  | .int _ => true
  | .tuple ds => piA ds
  | _ => false
def piA : List Dt → Bool
  | [] => true
  | d :: ds => pi d && piA ds
end
mutual
def ofKey : NestedKey → Dt
  | .num i => .int i
  | .tup ks => .tuple (ofKeys ks)
  | _ => .none
def ofKeys : List NestedKey → List Dt
  | [] => []
  | k :: ks => ofKey k :: ofKeys ks
end
mutual
theorem pi_key : ∀ (d : Dt), pi d = true → ∃ k, keyOf d = some k ∧ ofKey k = d ∧ nk k = true
  | .int i, _ => ⟨_, rfl, rfl, rfl⟩
  | .tuple ds, h => by
    obtain ⟨ks, e1, e2, e3⟩ := piA_key ds (by simpa [pi] using h)
    exact ⟨.tup ks, by simp [keyOf, e1], by simp [ofKey, e2], by simp [nk, e3]⟩
  | .none, h => by simp [pi] at h
  | .bool _, h => by simp [pi] at h
  | .str _, h => by simp [pi] at h
  | .list _, h => by simp [pi] at h
  | .dict _, h => by simp [pi] at h
theorem piA_key : ∀ (ds : List Dt), piA ds = true → ∃ ks, keysOf ds = some ks ∧ ofKeys ks = ds ∧ nkA ks = true
  | [], _ => ⟨[], rfl, rfl, rfl⟩
  | d :: ds, h => by
    rw [piA, Bool.and_eq_true] at h
    obtain ⟨k, a1, a2, a3⟩ := pi_key d h.1
    obtain ⟨ks, b1, b2, b3⟩ := piA_key ds h.2
    exact ⟨k :: ks, by simp [keysOf, a1, b1], by simp [ofKeys, a2, b2], by simp [nkA, a3, b3]⟩
end
mutual
theorem eqv_pi : ∀ (x y : Dt), pi x = true → pi y = true → PyData.eqv x y = true → x = y
  | .int a, y, _, hy, h => by
    cases y with
    | int b => have : a = b := by simpa [PyData.eqv] using h
               rw [this]
    | tuple _ => simp [PyData.eqv] at h
    | _ => simp [pi] at hy
  | .tuple xs, y, hx, hy, h => by
    cases y with
    | tuple ys => rw [eqvA_pi xs ys (by simpa [pi] using hx) (by simpa [pi] using hy) (by simpa [PyData.eqv] using h)]
    | int _ => simp [PyData.eqv] at h
    | _ => simp [pi] at hy
  | .none, _, hx, _, _ => by simp [pi] at hx
  | .bool _, _, hx, _, _ => by simp [pi] at hx
  | .str _, _, hx, _, _ => by simp [pi] at hx
  | .list _, _, hx, _, _ => by simp [pi] at hx
  | .dict _, _, hx, _, _ => by simp [pi] at hx
theorem eqvA_pi : ∀ (xs ys : List Dt), piA xs = true → piA ys = true → PyData.eqvAll xs ys = true → xs = ys
  | [], [], _, _, _ => rfl
  | [], _ :: _, _, _, h => by simp [PyData.eqvAll] at h
  | _ :: _, [], _, _, h => by simp [PyData.eqvAll] at h
  | x :: xs, y :: ys, hx, hy, h => by
    rw [piA, Bool.and_eq_true] at hx hy
    rw [PyData.eqvAll, Bool.and_eq_true] at h
    rw [eqv_pi x y hx.1 hy.1 h.1, eqvA_pi xs ys hx.2 hy.2 h.2]
end
theorem toks_inj {x y : Dt} (ha : PySem.W.alike x y = true) (hx : pi x = true) (hy : pi y = true) (h : PySem.W.keyToks x = PySem.W.keyToks y) : x = y := by
  refine eqv_pi x y hx hy ?_
  cases e : PyData.eqv x y with
  | true => rfl
  | false =>
    have q := (PySem.W.toks_eqv x y ha).2 e [.inl 0] [.inl 1]
    rw [h, PySem.W.lex_pre] at q
    have q2 : PyProof.Rows.lexLt PyProof.Rows.itemOrd [Sum.inl 0] [Sum.inl 1] = true := by decide
    rw [q2] at q
    have q3 := PyProof.Rows.lex_irrefl (O := PyProof.Rows.itemOrd) (PySem.W.keyToks y)
    rw [q3] at q
    cases q
open Classical in
/-- each datum once -/
noncomputable def ddup : List Dt → List Dt
  | [] => []
  | d :: ds => if d ∈ ds then ddup ds else d :: ddup ds
theorem ddup_mem : ∀ {ds : List Dt} {d : Dt}, d ∈ ddup ds ↔ d ∈ ds
  | [], d => Iff.rfl
  | x :: ds, d => by
    rw [ddup]
    split
    · rename_i h
      rw [ddup_mem]
      exact ⟨fun q => List.mem_cons_of_mem _ q, fun q => by rcases List.mem_cons.mp q with rfl | q; exact h; exact q⟩
    · rw [List.mem_cons, List.mem_cons, ddup_mem]
theorem ddup_nodup : ∀ (ds : List Dt), (ddup ds).Nodup
  | [] => List.nodup_nil
  | x :: ds => by
    rw [ddup]
    split
    · exact ddup_nodup ds
    · rename_i h
      exact List.nodup_cons.mpr ⟨fun q => h (ddup_mem.mp q), ddup_nodup ds⟩
/-- the sorted list does not depend on the order -/
theorem srtL_perm {l1 l2 : List Dt} (hp : l1.Perm l2) (ha : PySem.W.AllAlike l1) (hpi : ∀ d ∈ l1, pi d = true) : srtL l1 = srtL l2 := by
  have T := PySem.W.sortLe_total (PyProof.Rows.listOrd PyProof.Rows.itemOrd) false fun b : Dt => PySem.W.keyToks (id b)
  have s1 : (srtL l1).Pairwise fun a b => PySem.W.dataLe false id a b = true := List.pairwise_mergeSort (le := PySem.W.dataLe false id) (fun a b c => T.trans a b c) (fun a b => Bool.or_eq_true_iff.mpr (T.total a b)) l1
  have s2 : (srtL l2).Pairwise fun a b => PySem.W.dataLe false id a b = true := List.pairwise_mergeSort (le := PySem.W.dataLe false id) (fun a b c => T.trans a b c) (fun a b => Bool.or_eq_true_iff.mpr (T.total a b)) l2
  have p : (srtL l1).Perm (srtL l2) := ((List.mergeSort_perm l1 _).trans hp).trans (List.mergeSort_perm l2 _).symm
  refine List.Perm.eq_of_pairwise ?_ s1 s2 p
  intro a b hma hmb h1 h2
  have m1 : a ∈ l1 := (List.mergeSort_perm l1 _).mem_iff.mp hma
  have m2 : b ∈ l1 := hp.mem_iff.mpr ((List.mergeSort_perm l2 _).mem_iff.mp hmb)
  refine toks_inj (ha a m1 b m2) (hpi a m1) (hpi b m2) ?_
  have g1 : PyProof.Rows.lexLt PyProof.Rows.itemOrd (PySem.W.keyToks b) (PySem.W.keyToks a) = false := by simpa [PySem.W.dataLe, PySem.W.sortLe] using h1
  have g2 : PyProof.Rows.lexLt PyProof.Rows.itemOrd (PySem.W.keyToks a) (PySem.W.keyToks b) = false := by simpa [PySem.W.dataLe, PySem.W.sortLe] using h2
  exact PyProof.Rows.lex_total _ _ g2 g1
def kd8 (d : Dt) : Bool := match keyOf d with
  | some k => decide (k.depth ≤ 8)
  | none => false
def setOk (ds : List Dt) : Bool := (ds.all fun d => isTp d && pi d && kd8 d) && decide (ds.length < 64)
open Classical in
noncomputable def ssetD : List Dt → Option (List Dt)
  | [.list ds] => if setOk ds = true ∧ ((ddup ds).length < 2 ∨ srtOk (ddup ds) = true) then some (srtL (ddup ds)) else none
  | _ => none
/-! ### set(l) -/
structure GotK (ks : List (Addr × NestedKey)) (i : Nat) (L : List (Addr × NestedKey)) : Prop where
  sub : ∀ p ∈ L, p ∈ ks.take i
  all : ∀ p ∈ ks.take i, p.2 ∈ L.map (·.2)
  len : L.length ≤ i
theorem GotK.zero (ks : List (Addr × NestedKey)) : GotK ks 0 [] := ⟨fun p h => (by cases h), fun p h => (by simp at h), Nat.le_refl _⟩
theorem GotK.same {ks L : List (Addr × NestedKey)} {i : Nat} {x : Addr × NestedKey} (g : GotK ks i L) (h : ks[i]? = some x) (hm : x.2 ∈ L.map (·.2)) : GotK ks (i + 1) L := by
  refine ⟨fun p hp => ?_, fun p hp => ?_, Nat.le_succ_of_le g.len⟩
  · rw [take_next h]
    exact List.mem_append_left _ (g.sub p hp)
  · rw [take_next h] at hp
    rcases List.mem_append.mp hp with z | z
    · exact g.all p z
    · rw [List.mem_singleton.mp z]; exact hm
theorem GotK.more {ks L L' : List (Addr × NestedKey)} {i : Nat} {x : Addr × NestedKey} (g : GotK ks i L) (h : ks[i]? = some x) (pm : L'.Perm (x :: L)) : GotK ks (i + 1) L' := by
  refine ⟨fun p hp => ?_, fun p hp => ?_, ?_⟩
  · rw [take_next h]
    rcases List.mem_cons.mp (pm.mem_iff.mp hp) with e | z
    · rw [e]; exact List.mem_append_right _ (List.mem_singleton.mpr rfl)
    · exact List.mem_append_left _ (g.sub p z)
  · rw [(pm.map (·.2)).mem_iff, List.map_cons]
    rw [take_next h] at hp
    rcases List.mem_append.mp hp with z | z
    · exact List.mem_cons_of_mem _ (g.all p z)
    · rw [List.mem_singleton.mp z]; exact List.mem_cons_self
  · rw [pm.length_eq, List.length_cons]
    exact Nat.succ_le_succ g.len
section
variable {P : Program} {w : World} {A : Around} {E : Value → Shared → Prop} {s : Shared}
theorem IsK.all {h h' : Heap} {k : NestedKey} {b : Addr} (x : IsK h k b) (hk : ∀ c o, h.get? c = some o → h'.get? c = some o) : IsK h' k b := x.keep fun c o _ _ e _ => hk c o e
theorem Tbl.keep {h h' : Heap} {a : Addr} {L : List (Addr × NestedKey)} {es : Array (Int × Value)} {ep : Nat} {t : SetTable} (R : Tbl w h a L es ep t) (ha : ∀ o, h.get? a = some o → h'.get? a = some o) (ht : ∀ p ∈ L, IsK h' p.2 p.1) : Tbl w h' a L es ep t := by
  obtain ⟨o, ho, r⟩ := R.obj
  exact ⟨⟨o, ha o ho, r⟩, R.en, R.ok, R.once, ht, R.pl, R.ld, R.rm, R.lt⟩
theorem tbl_new {h : Heap} {a : Addr} (ho : h.get? a = some { cls := .type "set", dict := none, data := .set #[] 0 (.fresh 0 0 (!w.params.followText "set-order")) }) : Tbl w h a [] #[] 0 (.fresh 0 0 (!w.params.followText "set-order")) where
  obj := ⟨_, ho, ⟨rfl, rfl, rfl⟩, rfl⟩
  en := rfl
  ok := ⟨List.Pairwise.nil, rfl, rfl, .inl rfl, fun x hx => (by cases hx), fun i h j hi => (by simp at hi)⟩
  once := List.nodup_nil
  keys := fun p hp => (by cases hp)
  pl := rfl
  ld := by
    show _ ∨ (!w.params.followText "set-order") = true
    cases w.params.followText "set-order"
    · exact .inr rfl
    · exact .inl rfl
  rm := by
    show 0 * 5 < 7 * 3
    decide
  lt := by
    show 0 < 64
    decide
theorem upd_loop {I : Addr} {fp wr : List Addr} {G : Array GenState → Array GenState → Prop} {n : Nat} {Pv : Nat → Value → Prop} {St : Nat → Shared → Prop} {R : Result → Shared → Prop}
    (W : WalksS P w A.in1 I fp wr G n Pv St) (S : Addr) (hSf : S ∉ fp) (ks : List (Addr × NestedKey)) (hn : n = ks.length) (hfew : ks.length < 64) (hval : ∀ i v, Pv i v → ∃ p, ks[i]? = some p ∧ v = .ref p.1)
    (h0 : Heap) (hk : ∀ p ∈ ks, IsK h0 p.2 p.1) (hS0 : h0.get? S = none) (hw0 : ∀ b ∈ wr, h0.get? b = none) (hu : A.in1.units + 8 < cLine) :
    ∀ (k i : Nat) (s : Shared), n - i = k → i ≤ n → St i s → (∀ b o, h0.get? b = some o → s.heap.get? b = some o) → (∃ L es ep t, Tbl w s.heap S L es ep t ∧ GotK ks i L) →
      (∀ s' L es ep t, Moved (S :: wr) G s s' → Tbl w s'.heap S L es ep t → GotK ks n L → (∀ b o, h0.get? b = some o → s'.heap.get? b = some o) → R (.ok (.ret .none)) s') →
      codeAny (model P w) A (.builtin "set.update.loop" ⟨[.ref S, .ref I], []⟩) R s := by
  have hSw : S ∉ wr := fun h => hSf (W.sub _ h)
  have hsub : ∀ b ∈ wr, b ∈ S :: wr := fun b hb => List.mem_cons_of_mem _ hb
  have keepM : ∀ {s s' : Shared}, Moved wr G s s' → (∀ b o, h0.get? b = some o → s.heap.get? b = some o) → ∀ b o, h0.get? b = some o → s'.heap.get? b = some o := fun hm hkp b o e =>
    hm.heap b o (fun hb => by rw [hw0 b hb] at e; cases e) (hkp b o e)
  intro k
  induction k with
  | zero =>
    intro i s hk' hi hst hkp ⟨L, es, ep, t, hS, g⟩ hR
    have hin : i = n := by omega
    subst hin
    refine codeAny_builtin F.entry_set_update_loop ?_
    rw [Around.under_plainId F.plain_set_update_loop _]
    show wpAny _ A.in1 (pyNext (.ref I) >>= _) _ _ s
    refine wpAny_bind (W.done s _ _ hst fun s' hm => ?_)
    show wpAny _ A.in1 (ret Value.none) _ _ s'
    have hkp' := keepM hm hkp
    have sub : ∀ p ∈ L, p ∈ ks := fun p hp => List.mem_of_mem_take (g.sub p hp)
    exact wpAny_pure (hR s' L es ep t (hm.mono hsub) (hS.keep (fun o e => hm.heap S o hSw e) fun p hp => (hk p (sub p hp)).all hkp') g hkp')
  | succ k ih =>
    intro i s hk' hi hst hkp ⟨L, es, ep, t, hS, g⟩ hR
    have hlt : i < n := by omega
    refine codeAny_builtin F.entry_set_update_loop ?_
    rw [Around.under_plainId F.plain_set_update_loop _]
    show wpAny _ A.in1 (pyNext (.ref I) >>= _) _ _ s
    refine wpAny_bind (W.item i s _ _ hlt hst fun v s' hP hst' hm => ?_)
    obtain ⟨p, hp, rfl⟩ := hval i v hP
    have hkp' := keepM hm hkp
    have sub : ∀ p ∈ L, p ∈ ks := fun p hp => List.mem_of_mem_take (g.sub p hp)
    have hS' : Tbl w s'.heap S L es ep t := hS.keep (fun o e => hm.heap S o hSw e) fun q hq => (hk q (sub q hq)).all hkp'
    have hx : IsK s'.heap p.2 p.1 := (hk p (List.mem_of_getElem? hp)).all hkp'
    show wpAny _ A.in1 (holding [Value.ref p.1] (setAdd S (.ref p.1)) >>= _) _ _ s'
    refine wpAny_bind (wpAny_holding ?_)
    unfold setAdd
    refine wpAny_holding ?_
    refine wpAny_bind ((nestedKind P w).pyHash hu hx.kd ?_)
    refine add_key (s := { s' with toks := s'.toks + (nestedKind P w).draws p.2 }) hS' hx hu (by have := g.len; omega) fun b h' L' es' ep' t' hsb hS2 c1 c2 => ?_
    have g' : GotK ks (i + 1) L' := by
      rcases Classical.em (p.2 ∈ L.map (·.2)) with c | c
      · rw [c1 c]; exact g.same hp c
      · exact g.more hp (c2 c)
    have hkp2 : ∀ b o, h0.get? b = some o → h'.get? b = some o := fun b o e => (hsb.2 b (fun z => by rw [z, hS0] at e; cases e)).trans (hkp' b o e)
    refine wpAny_pure ⟨plainId_quiet F.plain_set_update_loop _, ih (i + 1) _ (by omega) hlt (W.frame _ s' _ _ hst' (Nat.le_add_right _ _) fun b hb o e => ?_) hkp2 ⟨L', es', ep', t', hS2, g'⟩ fun s'' L2 es2 ep2 t2 hm'' hS'' g'' hkp'' => ?_⟩
    · rw [hsb.2 b (fun h : b = S => hSf (by rw [← h]; exact hb))]; exact e
    · refine hR s'' L2 es2 ep2 t2 (Moved.trans W.gtrans ((hm.mono hsub).then_heap (Nat.le_add_right _ _) fun b o hb e => ?_) hm'') hS'' g'' hkp''
      rw [hsb.2 b (fun h : b = S => hb (by rw [h]; exact List.mem_cons_self))]; exact e
set_option maxHeartbeats 6400000 in
theorem call_setK {l : Addr} {items : Array Value} (ks : List (Addr × NestedKey)) {Q : Value → Shared → Prop} (hh : A.handled = none) (hl : s.heap.IsList l items) (hit : items.toList = ks.map fun p => Value.ref p.1)
    (hk : ∀ p ∈ ks, IsK s.heap p.2 p.1) (hfew : ks.length < 64) (hu : A.units + 12 < cLine)
    (h : ∀ (h' : Heap) (tk : Nat) L es ep t, Tbl w h' s.heap.objs.size L es ep t → GotK ks ks.length L → (∀ b o, s.heap.get? b = some o → h'.get? b = some o) → Q (.ref s.heap.objs.size) { s with heap := h', toks := tk }) :
    wpAny (model P w) A (call (.type "set") [.ref l]) Q E s := by
  have hisz : items.size = ks.length := by
    have q := congrArg List.length hit
    rw [Array.length_toList, List.length_map] at q
    exact q
  obtain ⟨c, tl, hmro⟩ := F.called_set.mro
  have hmade := F.called_set.made
  have hsub := F.called_set.sub
  refine wpAny_call (codeAny_of_tree ?_)
  show wpAny _ _ (callAny (.type "set") _) _ _ _
  refine wpAny_pure ⟨Code.quiet_builtin _ (by decide +kernel), codeAny_builtin F.entry_type_call ?_⟩
  rw [Around.under_plain (weight_type_call_type "set" [.ref l] []) rfl]
  have h1 := F.called_set.notType
  have h2 := F.called_set.canCreate
  have hct := F.typeCall_set_1 (.ref l)
  repeat (any_goals (first | assumption | wp_step))
  refine codeAny_mono (code_set_led1 (.ref l) (E := E) (Q₁ := fun obj s₁ => obj = .ref s.heap.objs.size ∧ s₁ = { s with heap := s.heap.push { cls := .type "set", dict := none, data := .set #[] 0 (.fresh 0 0 (!w.params.followText "set-order")) } }) ⟨rfl, rfl⟩) fun r s₁ hr => ?_
  cases r with
  | error e => exact hr
  | ok fl =>
    cases fl with
    | ret obj =>
      obtain ⟨rfl, rfl⟩ := hr
      have hS : (s.heap.push { cls := .type "set", dict := none, data := .set #[] 0 (.fresh 0 0 (!w.params.followText "set-order")) }).get? s.heap.objs.size = some { cls := .type "set", dict := none, data := .set #[] 0 (.fresh 0 0 (!w.params.followText "set-order")) } := Heap.get?_push_size _ rfl
      have hT : Shared.TypeIs { s with heap := s.heap.push { cls := .type "set", dict := none, data := .set #[] 0 (.fresh 0 0 (!w.params.followText "set-order")) } } (.ref s.heap.objs.size) "set" := ⟨_, hS, rfl⟩
      have hli := F.called_set.init.lookup
      have hbi := F.called_set.init.bind (.ref s.heap.objs.size)
      repeat (any_goals (first | assumption | wp_step))
      refine codeAny_mono (codeAny_call_builtin (R := wants (fun r s₂ => r = .none ∧ ∃ h' tk L es ep t, s₂ = { s with heap := h', toks := tk } ∧ Tbl w h' s.heap.objs.size L es ep t ∧ GotK ks ks.length L ∧
          (∀ b o, s.heap.get? b = some o → h'.get? b = some o)) E) F.called_set.init.plain F.entry_set_init (check_set_init_1 hT ?_)) fun r₂ s₂ hr₂ => ?_
      · obtain ⟨ol, hol, hcl, nl, hdl⟩ := hl
        obtain ⟨ocls, odict, odata, oslots⟩ := ol
        simp only at hcl hdl
        subst hcl; subst hdl
        have hol' : (s.heap.push { cls := .type "set", dict := none, data := .set #[] 0 (.fresh 0 0 (!w.params.followText "set-order")) }).get? l = some { cls := .type "list", dict := odict, data := .seq items nl, slots := oslots } := Heap.get?_push_of_some _ hol
        have hsls := F.sub_list_set
        have hslf := F.sub_list_frozenset
        have hne : (Value.type "list" == Value.type "dict") = false := by decide
        have hl1 : (s.heap.push { cls := .type "set", dict := none, data := .set #[] 0 (.fresh 0 0 (!w.params.followText "set-order")) }).IsList l items := ⟨_, hol', rfl, nl, rfl⟩
        unfold Builtin.«set.__init__» noKeywords Builtin.Frozenset.updateFrom
        generalize hPI : pyIter = PI
        wp_walk
        subst hPI
        refine wpAny_pyIter_list hl1 ?_
        refine wpAny_bind (wpAny_runValue ?_)
        have hlS : l < s.heap.objs.size := Heap.lt_size hol
        have hh3 : A.in1.in1.in1.handled = none := by simp [hh]
        have hz1 : (s.heap.push { cls := .type "set", dict := none, data := .set #[] 0 (.fresh 0 0 (!w.params.followText "set-order")) }).objs.size = s.heap.objs.size + 1 := Heap.size_push ..
        have hneI : l ≠ (s.heap.push { cls := .type "set", dict := none, data := .set #[] 0 (.fresh 0 0 (!w.params.followText "set-order")) }).objs.size := by
          rw [Heap.size_push]; exact Nat.ne_of_lt (Nat.lt_succ_of_lt hlS)
        have hSf : s.heap.objs.size ∉ [(s.heap.push { cls := .type "set", dict := none, data := .set #[] 0 (.fresh 0 0 (!w.params.followText "set-order")) }).objs.size, l] := by
          rw [Heap.size_push]; simp only [List.mem_cons, List.mem_singleton, List.not_mem_nil, or_false, not_or]
          exact ⟨Nat.ne_of_lt (Nat.lt_succ_self _), Nat.ne_of_gt hlS⟩
        have hval : ∀ (i : Nat) (v : Value), items[i]? = some v → ∃ p, ks[i]? = some p ∧ v = .ref p.1 := fun i v hv => by
          have q : items.toList[i]? = some v := by rw [Array.getElem?_toList]; exact hv
          rw [hit, List.getElem?_map] at q
          cases hq : ks[i]? with
          | none => rw [hq] at q; cases q
          | some p =>
            rw [hq] at q
            exact ⟨p, rfl, (Option.some.inj q).symm⟩
        have none_of : ∀ b, s.heap.objs.size ≤ b → s.heap.get? b = none := fun b hb => by
          cases q : s.heap.get? b with
          | none => rfl
          | some o => exact absurd (Nat.lt_of_lt_of_le (Heap.lt_size q) hb) (Nat.lt_irrefl _)
        refine upd_loop ((Walks.list hh3 _ l hneI items).toS) s.heap.objs.size
          hSf ks hisz hfew hval s.heap hk (none_of _ (Nat.le_refl _)) (fun b hb => none_of b (by
            rw [List.mem_singleton.mp hb, Heap.size_push]
            exact Nat.le_succ _)) (show A.units + 1 + 1 + 1 + 8 < cLine by omega) (items.size - 0) 0 _ (by omega) (Nat.zero_le _)
          ⟨⟨_, Heap.get?_push_size _ rfl, rfl, rfl⟩, (hl1.push _)⟩ (fun b o e => Heap.get?_push_of_some _ (Heap.get?_push_of_some _ e)) ?hS0 ?hR
        case hS0 =>
          have hget : ((s.heap.push { cls := .type "set", dict := none, data := .set #[] 0 (.fresh 0 0 (!w.params.followText "set-order")) }).push { cls := .type "list_iterator", data := .fields #[.ref l, .int 0 0] }).get? s.heap.objs.size
              = some { cls := .type "set", dict := none, data := .set #[] 0 (.fresh 0 0 (!w.params.followText "set-order")) } := Heap.get?_push_of_some _ hS
          exact ⟨[], #[], 0, _, tbl_new hget, GotK.zero ks⟩
        case hR =>
          intro s' L es ep t hm hS' g' hkp
          obtain ⟨h', g2, d', tk', os'⟩ := s'
          have eg : g2 = s.gens := hm.gens
          have ed : d' = s.drawn := hm.drawn
          have eo : os' = s.os := hm.os
          subst eg; subst ed; subst eo
          show wpAny _ _ _ _ _ _
          refine wpAny_pure ?_
          show wpAny _ _ (ret Value.none) _ _ _
          rw [hisz] at g'
          exact wpAny_pure ⟨rfl, h', tk', L, es, ep, t, rfl, hS', g', hkp⟩
      · cases r₂ with
        | error e => exact hr₂
        | ok fl₂ =>
          cases fl₂ with
          | ret r =>
            obtain ⟨rfl, h', tk, L, es, ep, t, rfl, hS', g', hk'⟩ := hr₂
            repeat (any_goals (first | assumption | wp_step))
            exact h _ _ _ _ _ _ hS' g' hk'
          | _ => exact hr₂.elim
    | _ => exact hr.elim
end
end HL

/-! HlU: sorted(set(l)). -/
namespace HL
open PySem PySem.Spec PyProof.Rows L2
structure Set0 (w : World) (h : Heap) (a : Addr) (L : List (Addr × NestedKey)) : Prop where
  ex : ∃ (es : Array (Int × Value)) (ep : Nat) (t : SetTable), (∃ o, h.get? a = some o ∧ o.ExactSet ∧ o.data = .set es ep t) ∧ es.toList = ents w L ∧ TabOk t (L.map fun p => kh w p.2) ∧ (L.map (·.2)).Nodup ∧ t.plain = true ∧
    (w.params.followText "set-order" = true ∨ t.led = true) ∧ L.length * 5 < t.mask * 3 ∧ L.length < 64
def SetO (w : World) (a : Addr) (L : List (Addr × NestedKey)) : HO := .ext fun h => Set0 w h a L
theorem Tbl.t0 {w : World} {h : Heap} {a : Addr} {L : List (Addr × NestedKey)} {es : Array (Int × Value)} {ep : Nat} {t : SetTable} (R : Tbl w h a L es ep t) : Set0 w h a L :=
  ⟨es, ep, t, R.obj, R.en, R.ok, R.once, R.pl, R.ld, R.rm, R.lt⟩
theorem Set0.full {w : World} {h : Heap} {a : Addr} {L : List (Addr × NestedKey)} (R : Set0 w h a L) (ht : ∀ p ∈ L, IsK h p.2 p.1) : ∃ es ep t, Tbl w h a L es ep t := by
  obtain ⟨es, ep, t, h1, h2, h3, h4, h5, h6, h7, h8⟩ := R.ex
  exact ⟨es, ep, t, h1, h2, h3, h4, ht, h5, h6, h7, h8⟩
theorem setO_ok {P : Program} {w : World} {H : Hp} {h : Heap} {a : Addr} {L : List (Addr × NestedKey)} (R : Set0 w h a L) : ObjOk P w H h a (SetO w a L) := by
  have ⟨es, ep, t, ⟨o, ho, r⟩, q⟩ := R.ex
  refine ⟨R, ⟨o, ho⟩, fun h1 h2 p k => ?_⟩
  have ⟨es', ep', t', ⟨o', ho', r'⟩, q'⟩ := Set0.ex p
  exact ⟨es', ep', t', ⟨o', k o' ho', r'⟩, q'⟩
section
variable {P : Program} {w : World} {A : Around} {E : Value → Shared → Prop} {s : Shared}
theorem nodup_map {α β : Type} {f : α → β} {l : List α} (h : (l.map f).Nodup) : l.Nodup := List.Pairwise.of_map f (fun _ _ hne e => hne (congrArg f e)) h
/-- sorted(a) of a set: the sort itself by the caller's law -/
theorem sorted_tbl {a : Addr} {L : List (Addr × NestedKey)} {es : Array (Int × Value)} {ep : Nat} {t : SetTable} {Q : Value → Shared → Prop} (R : Tbl w s.heap a L es ep t) (hh : A.handled = none)
    (hQ : ∀ (s1 : Shared) (L1 : List (Addr × NestedKey)), (∀ b o, s.heap.get? b = some o → s1.heap.get? b = some o) → s1.gens = s.gens → s1.os = s.os → s.heap.objs.size ≤ s1.heap.objs.size → L1.Perm L → s1.heap.get? s1.heap.objs.size = none →
      ∀ sp : Shared, sp = { s1 with heap := s1.heap.push (seqObj "list" (L1.map fun q => Value.ref q.1).toArray 0) } →
      sp.heap.get? s1.heap.objs.size = some (seqObj "list" (L1.map fun q => Value.ref q.1).toArray 0) →
      wpAny (model P w) A.in1 (call (.builtin "list.sort") [.ref s1.heap.objs.size]) (fun _ s' => Q (.ref s1.heap.objs.size) s') E sp) :
    wpAny (model P w) A (call (.builtin "sorted") [.ref a]) Q E s := by
  obtain ⟨o, ho, hex, hd⟩ := R.obj
  have hsz := R.n
  have hfew := R.lt
  refine Calls.call_function_entry kind_sorted plain_sorted entry_sorted (args_sorted1 _) ?_
  unfold Builtin.«sorted»
  refine wpAny_bind (m := checkCount "sorted" 1 1 _) (wpAny_pure ?_)
  refine wpAny_bind (collect_set (A := A.in1) hh ⟨o, ho, hex.1, hd⟩ R.fit (by unfold scanBound; omega) R.ok.ris R.ld fun s1 vs k1 hz g1 o1 pm => ?_)
  have hes : es.toList.map (·.2) = L.map fun q => Value.ref q.1 := by
    rw [R.en]
    unfold ents
    rw [List.map_map] <;> rfl
  rw [hes] at pm
  have ord : ∀ vs : List Value, (∀ v ∈ vs, ∃ q ∈ L, v = Value.ref q.1) → ∃ L1 : List (Addr × NestedKey), vs = L1.map (fun q => Value.ref q.1) ∧ ∀ q ∈ L1, q ∈ L := by
    intro vs
    induction vs with
    | nil => intro _; exact ⟨[], rfl, fun q hq => (by cases hq)⟩
    | cons v vs ih =>
      intro hv
      obtain ⟨q, hq, e⟩ := hv v List.mem_cons_self
      obtain ⟨L1, e1, hs⟩ := ih fun u hu => hv u (List.mem_cons_of_mem _ hu)
      refine ⟨q :: L1, by rw [List.map_cons, e, e1], fun r hr => ?_⟩
      rcases List.mem_cons.mp hr with z | z
      · rw [z]; exact hq
      · exact hs r z
  have one : ∀ q ∈ L, ∀ r ∈ L, q.1 = r.1 → q = r := fun q hq r hr e => by
    have a1 := R.keys q hq
    have a2 := R.keys r hr
    rw [e] at a1
    exact Prod.ext e (a1.inj a2)
  have perm_of : ∀ L1 : List (Addr × NestedKey), (∀ q ∈ L1, q ∈ L) → (L1.map (fun q => Value.ref q.1)).Perm (L.map fun q => Value.ref q.1) → L1.Perm L := by
    intro L1 hs pm1
    have nL : L.Nodup := nodup_map R.once
    have nref : (L.map fun q => Value.ref q.1).Nodup := by
      refine List.pairwise_map.mpr (List.Pairwise.imp_of_mem (fun {q r} hq hr hne e => ?_) nL)
      injection e with e
      exact hne (one q hq r hr e)
    have n1 : L1.Nodup := nodup_map (pm1.nodup_iff.mpr nref)
    refine (List.perm_ext_iff_of_nodup n1 nL).mpr fun q => ⟨hs q, fun hq => ?_⟩
    have hm : Value.ref q.1 ∈ L1.map (fun q => Value.ref q.1) := pm1.mem_iff.mpr (List.mem_map.mpr ⟨q, hq, rfl⟩)
    obtain ⟨r, hr, e⟩ := List.mem_map.mp hm
    injection e with e
    rw [← one r (hs r hr) q hq e]
    exact hr
  obtain ⟨L1, e1, hs1⟩ := ord vs fun v hv => by
    obtain ⟨q, hq, e⟩ := List.mem_map.mp (pm.mem_iff.mp hv)
    exact ⟨q, hq, e.symm⟩
  subst e1
  have pL : L1.Perm L := perm_of L1 hs1 pm
  have hvl : (L1.map fun q => Value.ref q.1).length < 64 := by rw [pm.length_eq, List.length_map]; exact hfew
  refine wpAny_bind (wpAny_newList ?_ (by rw [sizeLine_eq]; omega))
  have hoL : (s1.heap.push (seqObj "list" (L1.map fun q => Value.ref q.1).toArray 0)).get? s1.heap.objs.size = some (seqObj "list" (L1.map fun q => Value.ref q.1).toArray 0) := Heap.get?_push_size _ rfl
  have hno : s1.heap.get? s1.heap.objs.size = none := by
    cases q : s1.heap.get? s1.heap.objs.size with
    | none => rfl
    | some o => exact absurd (Heap.lt_size q) (Nat.lt_irrefl _)
  refine wpAny_bind (wpAny_holding (wpAny_mono (hQ s1 L1 k1 g1 o1 hz pL hno _ rfl hoL) (fun v s' q => wpAny_pure ⟨_, rfl, q⟩) fun _ _ q => q))
end
mutual
theorem pi_lf : ∀ (d : Dt), pi d = true → lf d = true
  | .int _, _ => by simp [lf]
  | .tuple ds, h => by
    have := piA_lf ds (by simpa [pi] using h)
    simpa [lf] using this
  | .none, h => by simp [pi] at h
  | .bool _, h => by simp [pi] at h
  | .str _, h => by simp [pi] at h
  | .list _, h => by simp [pi] at h
  | .dict _, h => by simp [pi] at h
theorem piA_lf : ∀ (ds : List Dt), piA ds = true → lfA ds = true
  | [], _ => by simp [lfA]
  | d :: ds, h => by
    rw [piA, Bool.and_eq_true] at h
    simp [lfA, pi_lf d h.1, piA_lf ds h.2]
end
section
variable {X : Cx} {pins : List (Addr × Obj)} {σ : L2.St} {H : Hp} {s : Shared}
theorem ks_of (I : Inv X pins σ H s) : ∀ {ys : List V} {us : List Value} {ds : List Dt}, PdA (bs X) H ys ds → Vals ys us → (∀ d ∈ ds, isTp d = true ∧ pi d = true ∧ kd8 d = true) →
    ∃ ks : List (Addr × NestedKey), us = ks.map (fun p => Value.ref p.1) ∧ ys = ks.map (fun p => V.ref p.1) ∧ ds = ks.map (fun p => ofKey p.2) ∧ ∀ p ∈ ks, IsK s.heap p.2 p.1 ∧ Pd (bs X) H (.ref p.1) (ofKey p.2) ∧ keyOf (ofKey p.2) = some p.2
  | _, _, _, .nil, .nil, _ => ⟨[], rfl, rfl, rfl, fun p hp => (by cases hp)⟩
  | _, _, _, .cons (d := d) p1 pa, .cons r rs, h => by
    obtain ⟨ks, e1, e2, e3, hk⟩ := ks_of I pa rs fun d hd => h d (List.mem_cons_of_mem _ hd)
    obtain ⟨q1, q2, q3⟩ := h d List.mem_cons_self
    obtain ⟨k, k1, k2, k3⟩ := pi_key d q2
    have hd8 : k.depth ≤ 8 := by
      unfold kd8 at q3
      rw [k1] at q3
      simpa using q3
    cases d with
    | tuple ds0 =>
      have hkk := p1.key I r k1
      obtain ⟨a, xs, rfl, ht, pp⟩ := p1.tupI
      cases r
      refine ⟨(a, k) :: ks, by rw [e1]; rfl, by rw [e2]; rfl, by rw [e3, List.map_cons, k2], fun p hp => ?_⟩
      rcases List.mem_cons.mp hp with rfl | hp
      · exact ⟨⟨hkk, hd8, k3⟩, by rw [k2]; exact p1, by rw [k2]; exact k1⟩
      · exact hk p hp
    | _ => simp [isTp] at q1
/-- set(l): what is known of it -/
def SetK (B : Bs) (H : Hp) (a : Addr) (ds : List Dt) : Prop := ∃ (L : List (Addr × NestedKey)), H a = some (SetO B.w a L) ∧ (L.map (·.2)).Nodup ∧ L.length < 64 ∧ (∀ p ∈ L, Pd B H (.ref p.1) (ofKey p.2) ∧ p.2.depth ≤ 8 ∧ nk p.2 = true ∧ keyOf (ofKey p.2) = some p.2) ∧
  (∀ d, d ∈ L.map (fun p => ofKey p.2) ↔ d ∈ ds) ∧ ∀ d ∈ ds, isTp d = true ∧ pi d = true
def rSetK (X : Cx) : List V → Hp → VK → Prop := fun xs H Q => ∃ ds, PdA (bs X) H xs [.list ds] ∧ setOk ds = true ∧ ∀ a H', H a = none → Ext none H H' → SetK (bs X) H' a ds → Q (.ref a) H'
theorem setOk_of {ds : List Dt} (h : setOk ds = true) : (∀ d ∈ ds, isTp d = true ∧ pi d = true ∧ kd8 d = true) ∧ ds.length < 64 := by
  rw [setOk, Bool.and_eq_true] at h
  refine ⟨fun d hd => ?_, by simpa using h.2⟩
  have q := List.all_eq_true.mp h.1 d hd
  rw [Bool.and_eq_true, Bool.and_eq_true] at q
  exact ⟨q.1.1, q.1.2, q.2⟩
theorem cr_set (hc : X.calm = true) (hu : X.A.units + 66 < cLine) : CallR X (.type "set") (rSetK X) := by
  intro pins s σ H xs us Q I r h
  obtain ⟨ds, p, hok, q⟩ := h
  obtain ⟨h1, h2⟩ := setOk_of hok
  obtain ⟨v, rfl, p'⟩ := p.oneI
  obtain ⟨a, o, ys, rfl, h0, hq, pys⟩ := p'.lstI
  obtain ⟨u, rfl, rx⟩ := vals1 r
  cases rx
  obtain ⟨its, rv, pl, hz⟩ := I.list hq
  obtain ⟨ks, e1, e2, e3, hk⟩ := ks_of I pys rv h1
  have hn : H s.heap.objs.size = none := I.hok.fresh (Nat.le_refl _)
  have lk : ks.length = ds.length := by rw [e3, List.length_map]
  refine call_setK (P := X.prog) (w := X.w) ks (I.ok.hd hc) pl.isList (by simpa using e1) (fun p hp => (hk p hp).1) (by omega) (by omega) fun h' tk L es ep t R g k => ?_
  have x : Ext none H (upd H s.heap.objs.size (SetO X.w s.heap.objs.size L)) := .new hn
  have mem : ∀ p ∈ L, p ∈ ks := fun p hp => List.mem_of_mem_take (g.sub p hp)
  refine ⟨.ref s.heap.objs.size, upd H s.heap.objs.size (SetO X.w s.heap.objs.size L), I.laid (t' := tk) k (Nat.le_refl _) (setO_ok R.t0), rfl, q _ _ hn x ⟨L, upd_same, R.once, R.lt, fun p hp => ?_, fun d => ?_, fun d hd => ⟨(h1 d hd).1, (h1 d hd).2.1⟩⟩⟩
  · obtain ⟨z1, z2, z3⟩ := hk p (mem p hp)
    exact ⟨z2.pers x.toPers, z1.dp, z1.num, z3⟩
  · rw [e3]
    refine ⟨fun hd => ?_, fun hd => ?_⟩
    · obtain ⟨p, hp, rfl⟩ := List.mem_map.mp hd
      exact List.mem_map.mpr ⟨p, mem p hp, rfl⟩
    · obtain ⟨p, hp, rfl⟩ := List.mem_map.mp hd
      obtain ⟨p2, hp2, e⟩ := List.mem_map.mp (g.all p (by rw [List.take_length]; exact hp))
      exact List.mem_map.mpr ⟨p2, hp2, by rw [e]⟩
def rSortSet (X : Cx) : List V → Hp → VK → Prop := fun xs H Q => ∃ a ds, xs = [.ref a] ∧ SetK (bs X) H a ds ∧ ((ddup ds).length < 2 ∨ srtOk (ddup ds) = true) ∧
  ∀ p xs H', Ext none H H' → H p = none → H' p = some (.lst xs) → PdA (bs X) H' xs (srtL (ddup ds)) → Q (.ref p) H'
theorem cr_sortSet (hc : X.calm = true) (hu : X.A.units + 66 < cLine) : CallR X (.builtin "sorted") (rSortSet X) := by
  intro pins s σ H xs us Q I r h
  obtain ⟨a, ds, rfl, ⟨L, hL, once, few, hp, mem, hds⟩, hok, q⟩ := h
  obtain ⟨u, rfl, rx⟩ := vals1 r
  cases rx
  have R0 : Set0 X.w s.heap a L := (I.hok a _ hL).1
  obtain ⟨es, ep, t, R⟩ := R0.full fun p hm => ⟨(hp p hm).1.key I rfl (hp p hm).2.2.2, (hp p hm).2.1, (hp p hm).2.2.1⟩
  have pmd : ∀ L1 : List (Addr × NestedKey), L1.Perm L → (L1.map fun p => ofKey p.2).Perm (ddup ds) := fun L1 pm => by
    have nd : (L.map fun p => ofKey p.2).Nodup := by
      refine List.pairwise_map.mpr (List.Pairwise.imp_of_mem (fun {x y} hx hy hne e => ?_) (List.pairwise_map.mp once))
      have e1 := (hp x hx).2.2.2
      rw [e, (hp y hy).2.2.2] at e1
      exact hne (Option.some.inj e1).symm
    have n1 : (L1.map fun p => ofKey p.2).Nodup := (pm.map _).nodup_iff.mpr nd
    exact (List.perm_ext_iff_of_nodup n1 (ddup_nodup ds)).mpr fun d => by rw [(pm.map _).mem_iff, mem, ddup_mem]
  refine sorted_tbl R (I.ok.hd hc) fun s1 L1 k1 g1 o1 hz pL hno sp esp hoL => ?_
  have pd1 := pmd L1 pL
  have hl1 : L1.length = (ddup ds).length := by rw [← pd1.length_eq, List.length_map]
  have hfew1 : L1.length < 64 := by rw [pL.length_eq]; exact few
  have hpi : ∀ d ∈ L1.map (fun p => ofKey p.2), pi d = true := fun d hd => (hds d (ddup_mem.mp (pd1.mem_iff.mp hd))).2
  have hn : H s1.heap.objs.size = none := I.hok.fresh hz
  have d1 : sp.gens = s.gens := by rw [esp]; exact g1
  have fin : ∀ (out : List Value) (L2 : List (Addr × NestedKey)), out = L2.map (fun q => Value.ref q.1) → L2.Perm L1 → L2.map (fun q => ofKey q.2) = srtL (ddup ds) →
      EP X pins σ Q (.ref s1.heap.objs.size) { sp with heap := sortedHeap sp.heap s1.heap.objs.size (L1.map fun q => Value.ref q.1) out.toArray } := fun out L2 f1 f2 f3 => by
    obtain ⟨c, hcq⟩ := sortedHeap_at (vs := L1.map fun q => Value.ref q.1) (out := out.toArray) hoL
    have kk : ∀ b u, s.heap.get? b = some u → (sortedHeap sp.heap s1.heap.objs.size (L1.map fun q => Value.ref q.1) out.toArray).get? b = some u := fun b u e => by
      have q1 := k1 b u e
      have hlt := Heap.lt_size q1
      rw [sortedHeap_old (Nat.ne_of_lt hlt) (by rw [esp]; show b < (s1.heap.push _).objs.size; rw [size_push']; exact Nat.lt_succ_of_lt hlt), esp]
      exact Heap.get?_push_of_some _ q1
    have x : Ext none H (upd H s1.heap.objs.size (.lst (L2.map fun q => V.ref q.1))) := .new hn
    have hv : Vals (L2.map fun q => V.ref q.1) out := by
      rw [f1]
      clear f1 f2 f3 x kk hcq
      induction L2 with
      | nil => exact .nil
      | cons p L2 ih => exact .cons rfl ih
    have e : ({ sp with heap := sortedHeap sp.heap s1.heap.objs.size (L1.map fun (q : Addr × NestedKey) => Value.ref q.1) out.toArray } : Shared) = { s with heap := sortedHeap sp.heap s1.heap.objs.size (L1.map fun (q : Addr × NestedKey) => Value.ref q.1) out.toArray, drawn := sp.drawn, toks := sp.toks } := by
      rw [esp]
      cases s1
      cases s
      cases g1
      cases o1
      rfl
    have J2 : Inv X pins σ (upd H s1.heap.objs.size (.lst (L2.map fun q => V.ref q.1))) { s with heap := sortedHeap sp.heap s1.heap.objs.size (L1.map fun (q : Addr × NestedKey) => Value.ref q.1) out.toArray, drawn := sp.drawn, toks := sp.toks } :=
      I.call (ch := []) (Un.laid kk hz hn) (I.hok.laid kk hz ⟨by rw [List.length_map, f2.length_eq, sizeLine_eq]; omega, out, c, hv, hcq⟩) I.bare (fun _ z => nomatch z)
    rw [e]
    refine ⟨.ref s1.heap.objs.size, _, J2, rfl, q _ _ _ x hn upd_same ?_⟩
    rw [← f3]
    have all : ∀ L3 : List (Addr × NestedKey), (∀ p ∈ L3, p ∈ L) → PdA (bs X) (upd H s1.heap.objs.size (.lst (L2.map fun q => V.ref q.1))) (L3.map fun q => V.ref q.1) (L3.map fun q => ofKey q.2) := fun L3 => by
      induction L3 with
      | nil => intro _; exact .nil
      | cons p L3 ih => intro hm; exact .cons ((hp p (hm p List.mem_cons_self)).1.pers x.toPers) (ih fun q hq => hm q (List.mem_cons_of_mem _ hq))
    exact all L2 fun p hp2 => pL.mem_iff.mp (f2.mem_iff.mp hp2)
  have I1 : ∀ b o, s.heap.get? b = some o → sp.heap.get? b = some o := fun b o e => by rw [esp]; exact Heap.get?_push_of_some _ (k1 b o e)
  by_cases h2 : L1.length < 2
  · refine wpAny_call_entry slot_list_sort ⟨_, hoL, rfl⟩ entry_list_sort (Srt.list_sort_any hoL (by rw [List.length_map, sizeLine_eq]; omega) (fun h3 => absurd h3 (by rw [List.length_map]; omega)) fun out ho => ⟨.none, rfl, ?_⟩) (args_list_sort _)
    have eo : out = L1.map fun q => Value.ref q.1 := perm_short (by rw [List.length_map]; exact h2) ho
    refine fin out L1 eo (List.Perm.refl _) ?_
    have e1 : L1.map (fun q => ofKey q.2) = ddup ds := (perm_short (by rw [← hl1]; exact h2) pd1)
    have e2 : srtL (ddup ds) = ddup ds := perm_short (by rw [← hl1]; exact h2) (List.mergeSort_perm _ _)
    rw [e1, e2]
  · have hok2 : srtOk (ddup ds) = true := hok.resolve_left (by rw [← hl1]; exact h2)
    simp only [srtOk, Bool.and_eq_true] at hok2
    obtain ⟨⟨m1, m2⟩, m3⟩ := hok2
    have sh : ∀ d ∈ ddup ds, SeqAt.shaped d = true := fun d hd => List.all_eq_true.mp m3 d hd
    have inn : ∀ q ∈ L1, ofKey q.2 ∈ ddup ds := fun q hq => pd1.mem_iff.mp (List.mem_map.mpr ⟨q, hq, rfl⟩)
    have al1 : PySem.W.AllAlike (L1.map fun q => ofKey q.2) := fun d hd e he => alkB_ok m1 d (pd1.mem_iff.mp hd) e (pd1.mem_iff.mp he)
    have so1 : PySem.W.Sortable (L1.map fun q => ofKey q.2) := by
      rcases sable m2 with z | z
      · exact .inl fun d hd => z d (pd1.mem_iff.mp hd)
      · exact .inr fun d hd => z d (pd1.mem_iff.mp hd)
    have er : ∀ L3 : List (Addr × NestedKey), (∀ p ∈ L3, p ∈ L1) → PySem.W.EachIs (fun v (q : Addr × NestedKey) => v = Value.ref q.1) (L3.map fun q => Value.ref q.1) L3 ∧ PySem.W.EachIs (fun v (q : Addr × NestedKey) => ∃ as, Reads sp.heap v (ofKey q.2) as ∧ s1.heap.objs.size ∉ as) (L3.map fun q => Value.ref q.1) L3 := fun L3 => by
      induction L3 with
      | nil => intro _; exact ⟨.nil, .nil⟩
      | cons p L3 ih =>
        intro hm
        obtain ⟨i1, i2⟩ := ih fun q hq => hm q (List.mem_cons_of_mem _ hq)
        have hpL := pL.mem_iff.mp (hm p List.mem_cons_self)
        have hlf : lf (ofKey p.2) = true := by
          have := hpi _ (List.mem_map.mpr ⟨p, hm p List.mem_cons_self, rfl⟩)
          exact pi_lf _ this
        exact ⟨.cons rfl i1, .cons ⟨[], PyProof.Rows.Reads.keeps I1 ((hp p hpL).1.rd I rfl hlf), by simp⟩ i2⟩
    obtain ⟨r1, r2⟩ := er L1 fun _ h => h
    refine PySem.W.list_sort_data (R := fun v (q : Addr × NestedKey) => v = Value.ref q.1) (enc := fun q : Addr × NestedKey => ofKey q.2) (bs := L1) hoL r1 r2 al1 so1 (by rw [sizeLine_eq]; omega)
      (fun b hb => by have := SeqAt.depth_of_shaped (sh _ (inn b hb)); show X.A.units + 1 + 1 + _ < cLine; omega) fun out ho hr => ?_
    refine fin out (L1.mergeSort (PySem.W.dataLe false fun q => ofKey q.2)) ?_ (List.mergeSort_perm _ _) ?_
    · clear ho
      generalize L1.mergeSort (PySem.W.dataLe false fun q => ofKey q.2) = L2 at hr
      induction hr with
      | nil => rfl
      | cons h1 _ ih => rw [h1, ih]; rfl
    · rw [← srtL_perm pd1 al1 hpi]
      exact List.map_mergeSort (r := PySem.W.dataLe false fun q : Addr × NestedKey => ofKey q.2) (s := PySem.W.dataLe false id) (f := fun q => ofKey q.2) (l := L1) (fun a _ b _ => rfl)
/-- sorted(set(l)) -/
theorem pn_sset {k : Option Nat} {a : Expr} {ea : Ev} {p p2 pos pos2 : Pos} (hc : X.calm = true) (hu : X.A.units + 66 < cLine) (hm : X.mg "sorted" = none) (hm2 : X.mg "set" = none) (ha : PX k X a ea) (hg : Gl X "sorted" := by rfl) (hg2 : Gl X "set" := by rfl)
    (hs : starEach [a] X.env = (false, eval a X.env) :: starEach [] X.env := by rfl) (hpl : (backTo pos2 (starEach [] X.env)).any (·.1) = false := by rfl)
    (hs2 : starEach [.Call (.Name "set" p2) [a] [] pos2] X.env = (false, eval (.Call (.Name "set" p2) [a] [] pos2) X.env) :: starEach [] X.env := by rfl) (hpl2 : (backTo pos (starEach [] X.env)).any (·.1) = false := by rfl) :
    PN k X (.Call (.Name "sorted" p) [.Call (.Name "set" p2) [a] [] pos2] [] pos) (nCall ssetD (aCons ea aNil)) :=
  PE.imp (pe_callB (cr_sortSet hc hu) hg hm (by decide +kernel) (pa_cons (pe_callTy (cr_set hc hu) hg2 hm2 (by decide +kernel) (pa_cons ha pa_nil hs) (by decide) (by decide) hs hpl) pa_nil hs2) (by decide) (by decide) hs2 hpl2) fun σ H Q ⟨st, t, T, r, sd, tn, e, q⟩ => by
  obtain ⟨ar, e1, e⟩ := Option.bind_eq_some_iff.mp e
  obtain ⟨r', e3, e⟩ := Option.map_eq_some_iff.mp e
  subst e
  obtain ⟨d, e4, e1⟩ := Option.bind_eq_some_iff.mp e1
  obtain ⟨b, e5, e1⟩ := Option.map_eq_some_iff.mp e1
  subst e1
  cases e5
  unfold ssetD at e3
  split at e3
  case h_2 => cases e3
  rename_i ds hds
  split at e3
  case isFalse => cases e3
  rename_i hok
  cases e3
  have ed : d.1 = .list ds := by simpa using hds
  refine ⟨st, t, T, d, sd, tn, e4, fun v H1 x1 n1 p1 => ⟨ds, .cons (ed ▸ p1) .nil, hok.1, fun a H2 ha2 x2 hk => ?_⟩⟩
  refine ⟨a, ds, rfl, hk, hok.2, fun p xs H3 x3 hp h3 p3 => ?_⟩
  exact q p xs H3 (x1.trans (x2.any.trans x3.any)) (new_back (x1.trans x2.any) (n1.ext0 x2) hp) ((n1.ext0 x2).ext0 x3) h3 p3
end
/-- the lowest level of a def that calls itself: it promises nothing -/
theorem cp_none {P : Program} {w : World} {K : PySem.W.Frag} {mg : Str → Option Value} {base : Heap} {x : Str} {params : Arguments} {body : List Stmt} {scope : Scope} {f : Addr} {fd : FuncData} {N ps : List Str} {k : Nat} (F : FunD K x x params body scope [] [] f fd) (hm : mg x = some (.ref f)) (hb : Binds K fd ps []) (S : FnScope N ps scope) : CP P w K mg base k x ps.length fun _ => none := by
  refine ⟨f, fd, ps, [], ⟨fun vs H Q E h => h.1, fun A outer s H args us vs Q E _ _ _ _ h => ?_⟩, hm, F.kp, hb, .nil⟩
  obtain ⟨_, ds, r, _, e, _⟩ := h
  cases e
end HL

/-! HlV: x < y for tuples of alike data. -/
namespace HL
open PySem PySem.Spec PyProof.Rows L2
section
variable {X : Cx}
def ltT : Dt → Dt → Option Dt
  | .tuple a, .tuple b => if (shp (.tuple a) && shp (.tuple b) && PySem.W.alike (.tuple a) (.tuple b)) = true then some (.bool (PySem.W.dataLt (.tuple a) (.tuple b))) else none
  | _, _ => none
def ltA : Dt → Dt → Option Dt
  | .int i, .int j => some (.bool (decide (i < j)))
  | d, e => ltT d e
theorem od_ltT (hu : X.A.units + 66 < cLine) : OpD X (compareOp .Lt) ltT := fun pins s σ H x y v u Q I rx ry ⟨d, e, r, p1, p2, q1, q2⟩ => by
  unfold ltT at q1
  split at q1
  case h_2 => cases q1
  split at q1
  case isFalse => cases q1
  rename_i h
  rw [Bool.and_eq_true, Bool.and_eq_true] at h
  cases q1
  obtain ⟨as, r1⟩ := Dp.reads I _ x v (p1.dp (SeqAt.canLay_of_shaped h.1.1)) rx
  obtain ⟨bs', r2⟩ := Dp.reads I _ y u (p2.dp (SeqAt.canLay_of_shaped h.1.2)) ry
  have h1 := SeqAt.depth_of_shaped h.1.1
  show wpAny _ _ (richCompare .Lt v u) _ _ _
  exact PySem.W.rcLt_alike _ _ X.A s v u as bs' r1 r2 h.2 (by simp) (by omega) X.prog X.w _ _ ⟨.bl _, H, I, rfl, q2 _ H .refl (.bl _)⟩
theorem od_ltA (hu : X.A.units + 66 < cLine) : OpD X (compareOp .Lt) ltA := opD_or od_lt (od_ltT hu) fun a b r q => by
  unfold ltA at q
  split at q
  · exact .inl q
  · exact .inr q
end
end HL

/-! HlW: the head's facts for data: constants of the modules, the hook. -/
namespace HL
open PySem PySem.Spec PyProof.Rows L2
mutual
/-- the value is the datum, by the written part -/
def datB (K : PySem.W.Frag) : Dt → Value → Bool
  | .int j, u => match u with
    | .int i _ => decide (i = j)
    | _ => false
  | .bool c, u => match u with
    | .bool b => decide (b = c)
    | _ => false
  | .str y, u => match u with
    | .str x _ => decide (x = y)
    | _ => false
  | .none, u => match u with
    | .none => true
    | _ => false
  | .tuple ds, u => match u with
    | .ref a => match K.lookup a with
      | some ⟨c, d, .seq its _, _⟩ => decide (c = .type "tuple") && d.isNone && decide (its.size ≤ sizeLine) && datA K ds its.toList
      | _ => false
    | _ => false
  | .list _, _ => false
  | .dict _, _ => false
def datA (K : PySem.W.Frag) : List Dt → List Value → Bool
  | [], us => us.isEmpty
  | d :: ds, us => match us with
    | [] => false
    | u :: us => datB K d u && datA K ds us
end
mutual
theorem datB_ok {P : Program} {w : World} {K : PySem.W.Frag} : ∀ (d : Dt) (u : Value), datB K d u = true → ∃ v, RelV v u ∧ ∀ H, Pd ⟨P, w, K⟩ H v d
  | .int j, u, h => by
    cases u with
    | int i t =>
      have e : i = j := by simpa [datB] using h
      subst e
      exact ⟨.int i, ⟨t, rfl⟩, fun H => .int i⟩
    | _ => simp [datB] at h
  | .bool c, u, h => by
    cases u with
    | bool b =>
      have e : b = c := by simpa [datB] using h
      subst e
      exact ⟨.bl b, rfl, fun H => .bl b⟩
    | _ => simp [datB] at h
  | .str y, u, h => by
    cases u with
    | str x t =>
      have e : x = y := by simpa [datB] using h
      subst e
      exact ⟨.str x, ⟨t, rfl⟩, fun H => .str x⟩
    | _ => simp [datB] at h
  | .none, u, h => by
    cases u with
    | none => exact ⟨.non, rfl, fun H => .non⟩
    | _ => simp [datB] at h
  | .tuple ds, u, h => by
    cases u with
    | ref a =>
      unfold datB at h
      dsimp only at h
      split at h
      case h_2 => cases h
      rename_i c d its n sl hl
      simp only [Bool.and_eq_true, decide_eq_true_eq] at h
      obtain ⟨⟨⟨h1, h2⟩, h3⟩, h4⟩ := h
      obtain ⟨vs, hv, hp⟩ := datA_ok (P := P) (w := w) ds its.toList h4
      exact ⟨.ref a, rfl, fun H => .tup (.inr ⟨_, its, n, hl, h1, Option.isNone_iff_eq_none.mp h2, rfl, h3, hv⟩) (hp H)⟩
    | _ => simp [datB] at h
  | .list _, _, h => by simp [datB] at h
  | .dict _, _, h => by simp [datB] at h
theorem datA_ok {P : Program} {w : World} {K : PySem.W.Frag} : ∀ (ds : List Dt) (us : List Value), datA K ds us = true → ∃ vs, Vals vs us ∧ ∀ H, PdA ⟨P, w, K⟩ H vs ds
  | [], us, h => by
    cases us with
    | nil => exact ⟨[], .nil, fun H => .nil⟩
    | cons _ _ => simp [datA] at h
  | d :: ds, us, h => by
    cases us with
    | nil => simp [datA] at h
    | cons u us =>
      rw [datA, Bool.and_eq_true] at h
      obtain ⟨v, h1, h2⟩ := datB_ok (P := P) (w := w) d u h.1
      obtain ⟨vs, h3, h4⟩ := datA_ok (P := P) (w := w) ds us h.2
      exact ⟨v :: vs, .cons h1 h3, fun H => .cons (h2 H) (h4 H)⟩
end
def conB (K : PySem.W.Frag) (p : Str × Dt) : Bool := match PySem.W.nsIn K mainGlobals p.1 with
  | some (some u) => datB K p.2 u
  | _ => false
theorem conB_ok {P : Program} {w : World} {K : PySem.W.Frag} {h : Heap} {mg : Str → Option Value} (X : K.In h) (G : h.Ns mainGlobals mg) {p : Str × Dt} (c : conB K p = true) : GD ⟨P, w, K⟩ mg p.1 p.2 := by
  unfold conB at c
  split at c
  case h_2 => cases c
  rename_i u e
  obtain ⟨v, h1, h2⟩ := datB_ok (P := P) (w := w) p.2 u c
  exact ⟨u, v, PySem.W.mg_of X G e, h1, h2⟩
/-- no list stands in the written part -/
def noList (K : PySem.W.Frag) : Bool := K.all fun p => !decide (p.2.cls = .type "list")
theorem noList_ok {K : PySem.W.Frag} {a : Addr} {o : Obj} (h : noList K = true) (e : K.lookup a = some o) : o.cls ≠ .type "list" := by
  unfold noList at h
  induction K with
  | nil => cases e
  | cons p K ih =>
    rw [List.all_cons, Bool.and_eq_true] at h
    rw [List.lookup_cons] at e
    split at e
    · cases e
      simpa using h.1
    · exact ih h.2 e
def exC (cs : List (Str × Dt)) (K : PySem.W.Frag) : Bool := noList K && cs.all fun p => conB K p
abbrev AlC : Type := He.AlD × Bool
def obsC (n : Nat) (fa : List He.Fa) (fn : List He.DefD) (cs : List (Str × Dt)) (g : Addr → Option Obj) : AlC := (He.obsD fa fn (He.frG g (He.asD g n)), exC cs (He.frG g (He.asD g n)))
def hookC (n : Nat) (fa : List He.Fa) (fn : List He.DefD) (cs : List (Str × Dt)) : PySem.W.Hook where
  α := AlC
  obs := fun s => obsC n fa fn cs s.heap.get?
  val := fun _ => (He.valD fn, true)
  says := fun _ h => ∃ K : PySem.W.Frag, K.In h ∧ He.SaysD fa fn K ∧ exC cs K = true
  of := fun _ _ e => ⟨_, He.frG_in, congrArg (fun z : AlC => z.1) e, congrArg (fun z : AlC => z.2) e⟩
  keeps := fun _ _ _ ⟨K, hK, c⟩ k => ⟨K, PySem.W.Frag.In.keeps hK k, c⟩
theorem obsC_eq {n : Nat} {fa : List He.Fa} {fn : List He.DefD} {cs : List (Str × Dt)} {g : Addr → Option Obj} {s : Shared} (h : ∀ a, g a = s.heap.get? a) : obsC n fa fn cs g = (hookC n fa fn cs).obs s := by
  have e : g = s.heap.get? := funext h
  rw [e] <;> rfl
theorem exC_con {cs : List (Str × Dt)} {K : PySem.W.Frag} (h : exC cs K = true) (i : Nat) {p : Str × Dt} (e : cs[i]? = some p := by rfl) : conB K p = true := by
  rw [exC, Bool.and_eq_true] at h
  exact List.all_eq_true.mp h.2 p (List.mem_of_getElem? e)
/-- the script -/
theorem pd_script {P : Program} {w : World} {K : PySem.W.Frag} {H : Hp} {a : Addr} {ns : List Int} {cs : List (Str × Dt)} (h : exC cs K = true) (hO : Only H) (hS : SqL K H a (ns.map V.int)) : PdA ⟨P, w, K⟩ H [.ref a] [.list (ns.map .int)] := by
  refine .cons ?_ .nil
  rcases hS with hS | ⟨o, its, n, hl, hc, _⟩
  · rcases hS with e | ⟨o, e⟩
    · rcases hO a with z | ⟨o, xs, z⟩
      · rw [z] at e; cases e
      · rw [z] at e; cases e
    · exact .lst e (PdA.ofInts ns)
  · rw [exC, Bool.and_eq_true] at h
    exact absurd hc (noList_ok h.1 hl)
/-- the law's own def: its function object is known -/
theorem fo_of {P : Program} {w : World} {K : PySem.W.Frag} {mg : Str → Option Value} {base : Heap} {x : Str} {params : Arguments} {body : List Stmt} {scope : Scope} {f : Addr} {fd : FuncData} {N ps : List Str} {k : Nat} {mu : List Nat} {ex : Ex} (F : FunD K x x params body scope [] [] f fd) (S : FnScope N ps scope) (hmu : muOk mu ps.length = true) (hnl : ps.length ≤ N.length)
    (h : ∀ (cdv : Value) (A : Around) (outer : List Env) (s : Shared) (H : Hp) (E : XK), Room k (A.deeper (envOfC x scope s.heap.objs.size f cdv)) → ZXs none mu false (XB P w K mg base N x scope f cdv A outer s H E) body ex) : FnOk P w K mg base CX0 (k + 1) f fd ps (spP ⟨P, w, K⟩ ps.length (runP N.length ex)) := by
  refine F.ok S (fun vs H Q E h => h.1) fun cdv A outer s H vs Q E hr ⟨hl, ds, r, pa, e, q⟩ => ?_
  refine ⟨_, (h cdv A outer s H E hr).nox, ?_⟩
  have hdl : ds.length = ps.length := by rw [← pa.length, hl]
  unfold runP at e
  obtain ⟨o, e1, e⟩ := Option.bind_eq_some_iff.mp e
  refine ⟨stP N.length 0 ds, [], none, o, SM.start pa (by omega) fun i hi => by rw [hdl]; exact muOk_le hmu i hi, ⟨rfl, rfl⟩, .refl, e1, ?_⟩
  cases o with
  | rt d t => cases e; exact fun v H' hv _ x' => q v H' x' hv
  | nx st t => cases e; exact fun σ' H' _ _ x' _ => q .non H' x' .non
  | bk st t => cases e
  | ct st t => cases e
end HL

/-! MA: evaluating the data functions by simp; data as encoded values. -/
namespace HL
open PySem L2
section
variable (st : DS) (t : Ti)
@[simp] theorem s_xV (i : Nat) : xV i st t = (st[i]?).bind fun o => o.map fun d => (d, t) := (rfl)
@[simp] theorem s_xC (d : Dt) : xC d st t = some (d, t) := (rfl)
@[simp] theorem s_x1 (f : Dt → Option Dt) (ea : Ev) : x1 f ea st t = (ea st t).bind fun a => (f a.1).map fun r => (r, a.2) := (rfl)
@[simp] theorem s_x2 (f : Dt → Dt → Option Dt) (ea eb : Ev) : x2 f ea eb st t = (ea st t).bind fun a => (eb st a.2).bind fun b => (f a.1 b.1).map fun r => (r, b.2) := (rfl)
@[simp] theorem s_xCh (f g : Dt → Dt → Option Dt) (ea eb ec : Ev) : xCh f g ea eb ec st t = (ea st t).bind fun a => (eb st a.2).bind fun b => (f a.1 b.1).bind fun r => match r with
  | .bool true => (ec st b.2).bind fun c => (g b.1 c.1).map fun r => (r, c.2)
  | .bool false => some (.bool false, b.2)
  | _ => none := (rfl)
@[simp] theorem s_bV (ea : Ev) : bV ea st t = (ea st t).bind fun a => match a.1 with
  | .bool b => some (b, a.2)
  | _ => none := (rfl)
@[simp] theorem s_bAnd (ea eb : EvB) : bAnd ea eb st t = (ea st t).bind fun a => if a.1 = true then eb st a.2 else some (false, a.2) := (rfl)
@[simp] theorem s_bOr (ea eb : EvB) : bOr ea eb st t = (ea st t).bind fun a => if a.1 = true then some (true, a.2) else eb st a.2 := (rfl)
@[simp] theorem s_bNot (ea : EvB) : bNot ea st t = (ea st t).map fun a => (!a.1, a.2) := (rfl)
@[simp] theorem s_xAnd (ea eb : Ev) : xAnd ea eb st t = (bV ea st t).bind fun a => if a.1 = true then eb st a.2 else some (.bool false, a.2) := (rfl)
@[simp] theorem s_xOr (ea eb : Ev) : xOr ea eb st t = (bV ea st t).bind fun a => if a.1 = true then some (.bool true, a.2) else eb st a.2 := (rfl)
@[simp] theorem s_xNot (ea : Ev) : xNot ea st t = (bV ea st t).map fun a => (.bool !a.1, a.2) := (rfl)
@[simp] theorem s_xIf (ec : EvB) (ea eb : Ev) : xIf ec ea eb st t = (ec st t).bind fun c => if c.1 = true then ea st c.2 else eb st c.2 := (rfl)
@[simp] theorem s_aNil : aNil st t = some ([], t) := (rfl)
@[simp] theorem s_aCons (ea : Ev) (er : EvN) : aCons ea er st t = (ea st t).bind fun a => (er st a.2).map fun r => (a.1 :: r.1, r.2) := (rfl)
@[simp] theorem s_xTup (ev : EvN) : xTup ev st t = (ev st t).bind fun r => if szOk r.1.length = true then some (.tuple r.1, r.2) else none := (rfl)
@[simp] theorem s_nLst (ev : EvN) : nLst ev st t = (ev st t).bind fun r => if szOk r.1.length = true then some r else none := (rfl)
@[simp] theorem s_xCall (m : List Dt → Option Dt) (ev : EvN) : xCall m ev st t = (ev st t).bind fun a => (m a.1).map fun r => (r, a.2) := (rfl)
@[simp] theorem s_nCall (m : List Dt → Option (List Dt)) (ev : EvN) : nCall m ev st t = (ev st t).bind fun a => (m a.1).map fun r => (r, a.2) := (rfl)
@[simp] theorem s_aLen (n : Nat) (ev : EvN) : aLen n ev st t = (ev st t).bind fun r => if r.1.length = n then some r else none := (rfl)
@[simp] theorem s_xCallT (m : List Dt → Ti → Option (Dt × Ti)) (ev : EvN) : xCallT m ev st t = (ev st t).bind fun a => m a.1 a.2 := (rfl)
@[simp] theorem s_nCallT (m : List Dt → Ti → Option (List Dt × Ti)) (ev : EvN) : nCallT m ev st t = (ev st t).bind fun a => m a.1 a.2 := (rfl)
@[simp] theorem s_nSeq (ea : Ev) : nSeq ea st t = (ea st t).bind fun a => (seqD a.1).map fun r => (r, a.2) := (rfl)
@[simp] theorem s_nLc (it : EvN) (p : Tg) (own : List Nat) (cnd : EvB) (elt : Ev) : nLc it p own cnd elt st t = (it st t).bind fun r => if szOk r.1.length = true then lcGo p cnd elt r.1 (wipeD st own) r.2 else none := (rfl)
@[simp] theorem s_bYes : bYes st t = some (true, t) := (rfl)
@[simp] theorem s_hE {α : Type} (i : Nat) (ev : DS → Ti → Option α) : hE i ev st t = ev (st.set i none) t := (rfl)
@[simp] theorem s_lE (i : Nat) (ev : Ev) : lE i ev st t = (ev st t).bind fun r => if okE st[i]? r.1 = true then some r else none := (rfl)
@[simp] theorem s_lN (i : Nat) (ev : EvN) : lN i ev st t = (ev st t).bind fun r => if okN st[i]? r.1 = true then some r else none := (rfl)
@[simp] theorem s_zNil : zNil st t = some (.nx st t) := (rfl)
@[simp] theorem s_zSeq (a b : Ex) : zSeq a b st t = (a st t).bind fun o => match o with
  | .nx st' t' => b st' t'
  | o => some o := (rfl)
@[simp] theorem s_zNo : zNo st t = none := (rfl)
@[simp] theorem s_zBk : zBk st t = some (.bk st t) := (rfl)
@[simp] theorem s_zCt : zCt st t = some (.ct st t) := (rfl)
@[simp] theorem s_zRt (ev : Ev) : zRt ev st t = (ev st t).map fun r => .rt r.1 r.2 := (rfl)
@[simp] theorem s_zRtN (en : EvN) : zRtN en st t = (en st t).map fun r => .rt (.list r.1) r.2 := (rfl)
@[simp] theorem s_zRtM (i : Nat) : zRtM i st t = (st[i]?).bind fun o => o.bind fun d => match d with
  | .list ds => some (.rt (.list ds) t)
  | _ => none := (rfl)
@[simp] theorem s_zIf (c : EvB) (a b : Ex) : zIf c a b st t = (c st t).bind fun r => if r.1 = true then a st r.2 else b st r.2 := (rfl)
@[simp] theorem s_zSet (i : Nat) (ev : Ev) : zSet i ev st t = (ev st t).map fun r => .nx (st.set i (some r.1)) r.2 := (rfl)
@[simp] theorem s_zSetN (i : Nat) (en : EvN) : zSetN i en st t = (en st t).map fun r => .nx (st.set i (some (.list r.1))) r.2 := (rfl)
@[simp] theorem s_zFor (it : EvN) (p : Tg) (b : Ex) : zFor it p b st t = (it st t).bind fun r => forD p b r.1 st r.2 := (rfl)
@[simp] theorem s_fL (i : Nat) (f : List Dt → Option (Dt × List Dt)) : fL i f st t = (st[i]?).bind fun o => o.bind fun d => match d with
  | .list ds => (f ds).map fun r => (r.1, st.set i (some (.list r.2)), t)
  | _ => none := (rfl)
@[simp] theorem s_fxApp (i : Nat) (ev : Ev) : fxApp i ev st t = (ev st t).bind fun r => fL i (appF r.1) st r.2 := (rfl)
@[simp] theorem s_fxExt (i : Nat) (en : EvN) : fxExt i en st t = (en st t).bind fun r => fL i (extF r.1) st r.2 := (rfl)
@[simp] theorem s_fxPop (i : Nat) : fxPop i st t = fL i popF st t := (rfl)
@[simp] theorem s_fxPopAt (i : Nat) (ev : Ev) : fxPopAt i ev st t = (ev st t).bind fun r => fL i (popAtF r.1) st r.2 := (rfl)
@[simp] theorem s_zF (fx : EvF) : zF fx st t = (fx st t).map fun r => .nx r.2.1 r.2.2 := (rfl)
@[simp] theorem s_zSetF (i : Nat) (fx : EvF) : zSetF i fx st t = (fx st t).map fun r => .nx (r.2.1.set i (some r.1)) r.2.2 := (rfl)
@[simp] theorem s_zRtF (fx : EvF) : zRtF fx st t = (fx st t).map fun r => .rt r.1 r.2.2 := (rfl)
@[simp] theorem s_zAug (i : Nat) (f : Dt → Dt → Option Dt) (ev : Ev) : zAug i f ev st t = (st[i]?).bind fun o => o.bind fun d => (ev st t).bind fun r => (f d r.1).map fun w => .nx (st.set i (some w)) r.2 := (rfl)
@[simp] theorem s_zPut (i : Nat) (ei ev : Ev) : zPut i ei ev st t = (ev st t).bind fun r => (ei st r.2).bind fun s => (st[i]?).bind fun o => o.bind fun d => match s.1, d with
  | .int n, .list ds => (ixN ds.length n).map fun j => .nx (st.set i (some (.list (ds.set j r.1)))) s.2
  | _, _ => none := (rfl)
@[simp] theorem s_nV (en : EvN) : nV en st t = (en st t).map fun r => (.list r.1, r.2) := (rfl)
@[simp] theorem s_dN (en : EvN) : dN en st t = (en st t).map fun r => (.list r.1, r.2) := (rfl)
@[simp] theorem s_zPar (i j : Nat) (ea eb : Ev) : zPar i j ea eb st t = (ea st t).bind fun a => (eb st a.2).map fun b => .nx ((st.set i (some a.1)).set j (some b.1)) b.2 := (rfl)
@[simp] theorem s_zPar3 (i j l : Nat) (ea eb ec : Ev) : zPar3 i j l ea eb ec st t = (ea st t).bind fun a => (eb st a.2).bind fun b => (ec st b.2).map fun c => .nx (((st.set i (some a.1)).set j (some b.1)).set l (some c.1)) c.2 := (rfl)
@[simp] theorem s_zUn (p : Tg) (ev : Ev) : zUn p ev st t = (ev st t).bind fun r => (setTg p r.1 st).map fun st' => .nx st' r.2 := (rfl)
@[simp] theorem s_zMv (i j : Nat) : zMv i j st t = (st[j]?).bind fun o => o.map fun d => .nx ((st.set j none).set i (some d)) t := (rfl)
@[simp] theorem s_xIsi (T : String) (ev : Ev) : xIsi T ev st t = (ev st t).bind fun r => (isTy T r.1).map fun b => (.bool b, r.2) := (rfl)
@[simp] theorem s_xIsi2 (T U : String) (ev : Ev) : xIsi2 T U ev st t = (ev st t).bind fun r => (isTy T r.1).bind fun b => (isTy U r.1).map fun c => (.bool (b || c), r.2) := (rfl)
@[simp] theorem s_oNo : oNo st t = some (none, t) := (rfl)
@[simp] theorem s_oSo (ev : Ev) : oSo ev st t = (ev st t).bind fun r => match r.1 with
  | .int i => some (some i, r.2)
  | _ => none := (rfl)
@[simp] theorem s_xSl (f : Dt → Option Int → Option Int → Option Dt) (ea : Ev) (lo hi : EvO) : xSl f ea lo hi st t = (ea st t).bind fun a => (lo st a.2).bind fun l => (hi st l.2).bind fun h => (f a.1 l.1 h.1).map fun r => (r, h.2) := (rfl)
@[simp] theorem s_nSl (ea : Ev) (lo hi : EvO) : nSl ea lo hi st t = (ea st t).bind fun a => (lo st a.2).bind fun l => (hi st l.2).bind fun h => (slN a.1 l.1 h.1).map fun r => (r, h.2) := (rfl)
@[simp] theorem s_xMe (T : String) (f : Dt → List Dt → Option Dt) (eo : Ev) (ea : EvN) : xMe T f eo ea st t = (eo st t).bind fun o => if isT T o.1 = true then (ea st o.2).bind fun a => (f o.1 a.1).map fun r => (r, a.2) else none := (rfl)
@[simp] theorem s_nRep (en : EvN) (eb : Ev) : nRep en eb st t = (en st t).bind fun a => (eb st a.2).bind fun b => (repN a.1 b.1).map fun r => (r, b.2) := (rfl)
@[simp] theorem s_zDnw (i : Nat) : zDnw i st t = some (.nx (st.set i (some (.dict []))) t) := (rfl)
@[simp] theorem s_zDput (i : Nat) (ei ev : Ev) : zDput i ei ev st t = (ev st t).bind fun r => (ei st r.2).bind fun s => (st[i]?).bind fun o => o.bind fun d => match d with
  | .dict kvs => (keyT s.1).bind fun k => if szOk (kvs.length + 1) = true then some (.nx (st.set i (some (.dict (dPut kvs s.1 k r.1)))) s.2) else none
  | _ => none := (rfl)
@[simp] theorem s_nOr (en em : EvN) : nOr en em st t = (en st t).bind fun r => match r.1 with
  | [] => em st r.2
  | _ :: _ => some r := (rfl)
@[simp] theorem s_zLcD (i : Nat) (mu : List Nat) (en : EvN) : zLcD i mu en st t = (en (hideA mu st) t).map fun r => .nx (st.set i (some (.list r.1))) r.2 := (rfl)
@[simp] theorem s_xCallL (m : List Dt → Ti → Option (Dt × Ti)) (en : EvN) : xCallL m en st t = (en st t).bind fun r => (intsD r.1).bind fun is => (m [] is).map fun q => (q.1, r.2) := (rfl)
@[simp] theorem s_nLc2 (it : EvN) (p : Tg) (own : List Nat) (cnd : EvB) (it1 : EvN) (p1 : Tg) (vs1 : List Nat) (cnd1 : EvB) (elt : Ev) : nLc2 it p own cnd it1 p1 vs1 cnd1 elt st t = (it st t).bind fun r => (lc2Go p cnd it1 p1 vs1 cnd1 elt r.1 (wipeD st own) r.2).bind fun z => if szOk z.1.length = true then some z else none := (rfl)
@[simp] theorem s_xTi (j : Nat) : xTi j st t = (t[j]?).map fun i => (.int i, t) := (rfl)
@[simp] theorem s_zTi (j : Nat) (ev : Ev) : zTi j ev st t = (ev st t).bind fun r => match r.1 with
  | .int i => if j < r.2.length then some (.nx st (r.2.set j i)) else none
  | _ => none := (rfl)
@[simp] theorem s_runP (N : Nat) (ex : Ex) (ds : List Dt) : runP N ex ds = (ex (ds.map some ++ List.replicate (N - ds.length) none) []).bind fun o => match o with
  | .rt d _ => some d
  | .nx _ _ => some .none
  | _ => none := (rfl)
@[simp] theorem s_runN (N : Nat) (ex : Ex) (ds : List Dt) : runN N ex ds = (ex (ds.map some ++ List.replicate (N - ds.length) none) []).bind fun o => match o with
  | .rt (.list r) _ => some r
  | _ => none := (rfl)
end
@[simp] theorem s_runT (N : Nat) (ex : Ex) (ds : List Dt) (t : Ti) : runT N ex ds t = (ex (none :: (ds.map some ++ List.replicate (N - 1 - ds.length) none)) t).bind fun o => match o with
  | .rt d t' => some (d, t')
  | .nx _ t' => some (.none, t')
  | _ => none := (rfl)
@[simp] theorem s_runTN (N : Nat) (ex : Ex) (ds : List Dt) (t : Ti) : runTN N ex ds t = (ex (none :: (ds.map some ++ List.replicate (N - 1 - ds.length) none)) t).bind fun o => match o with
  | .rt (.list r) t' => some (r, t')
  | _ => none := (rfl)
@[simp] theorem s_setTg_nm (i : Nat) (d : Dt) (st : DS) : setTg (.nm i) d st = some (st.set i (some d)) := (rfl)
@[simp] theorem s_setTg_tp (l : List Tg) (ds : List Dt) (st : DS) : setTg (.tp l) (.tuple ds) st = setTgs l ds st := (rfl)
@[simp] theorem s_setTgs_nil (st : DS) : setTgs [] [] st = some st := (rfl)
@[simp] theorem s_setTgs_cons (p : Tg) (l : List Tg) (d : Dt) (ds : List Dt) (st : DS) : setTgs (p :: l) (d :: ds) st = (setTg p d st).bind (setTgs l ds) := (rfl)
@[simp] theorem s_wipe_nil (st : DS) : wipeD st [] = st := (rfl)
@[simp] theorem s_wipe_cons (st : DS) (v : Nat) (vs : List Nat) : wipeD st (v :: vs) = (wipeD st vs).set v none := (rfl)
@[simp] theorem s_hide_nil (st : DS) : hideA [] st = st := (rfl)
@[simp] theorem s_hide_cons (st : DS) (v : Nat) (vs : List Nat) : hideA (v :: vs) st = hideA vs (st.set v none) := (rfl)
@[simp] theorem s_lc_nil (p : Tg) (cnd : EvB) (elt : Ev) (st : DS) (t : Ti) : lcGo p cnd elt [] st t = some ([], t) := (rfl)
@[simp] theorem s_for_nil (p : Tg) (b : Ex) (st : DS) (t : Ti) : forD p b [] st t = some (.nx st t) := (rfl)
theorem s_for_cons (p : Tg) (b : Ex) (d : Dt) (ds : List Dt) (st : DS) (t : Ti) : forD p b (d :: ds) st t = (setTg p d st).bind fun st1 => (b st1 t).bind fun o => match o with
      | .nx st' t' => forD p b ds st' t'
      | .ct st' t' => forD p b ds st' t'
      | .bk st' t' => some (.nx st' t')
      | .rt d t' => some (.rt d t') := (rfl)
/-! operators on numbers -/
@[simp] theorem d_sub (i j : Int) : subD (.int i) (.int j) = some (.int (i - j)) := (rfl)
@[simp] theorem d_add (i j : Int) : addD (.int i) (.int j) = some (.int (i + j)) := (rfl)
@[simp] theorem d_onY (g : Int → Int → Dt) (i j : Int) : onII cYes g (.int i) (.int j) = some (g i j) := (rfl)
@[simp] theorem d_mul (i j : Int) : mulI (.int i) (.int j) = if cMul i j = true then some (.int (i * j)) else none := (rfl)
@[simp] theorem d_div (i j : Int) : divD (.int i) (.int j) = if cDiv i j = true then some (.int (i / j)) else none := (rfl)
@[simp] theorem d_mod (i j : Int) : modD (.int i) (.int j) = if 0 < j then some (.int (i % j)) else none := by
  show (if decide (0 < j) = true then _ else _) = _
  simp
@[simp] theorem d_shl (i j : Int) : shlD (.int i) (.int j) = if cPow i j = true then some (.int (i * 2 ^ j.toNat)) else none := (rfl)
@[simp] theorem d_lt (i j : Int) : ltA (.int i) (.int j) = some (.bool (decide (i < j))) := (rfl)
@[simp] theorem d_le (i j : Int) : leD (.int i) (.int j) = some (.bool (decide (i ≤ j))) := (rfl)
@[simp] theorem d_gt (i j : Int) : gtD (.int i) (.int j) = some (.bool (decide (j < i))) := (rfl)
@[simp] theorem d_ge (i j : Int) : geD (.int i) (.int j) = some (.bool (decide (j ≤ i))) := (rfl)
@[simp] theorem d_eqI (i j : Int) : eqD (.int i) (.int j) = some (.bool (decide (i = j))) := by
  show some (PyData.bool (i == j)) = _
  by_cases h : i = j <;> simp [h]
@[simp] theorem d_neI (i j : Int) : neD (.int i) (.int j) = some (.bool (decide (i ≠ j))) := by
  show some (PyData.bool (!(i == j))) = _
  by_cases h : i = j <;> simp [h]
@[simp] theorem d_neg (i : Int) : negD (.int i) = some (.int (-i)) := (rfl)
@[simp] theorem d_abs (i : Int) : absD [.int i] = some (.int i.natAbs) := by
  show some (PyData.int _) = some (PyData.int _)
  congr 2
  by_cases h : i < 0
  · rw [if_pos h]; omega
  · rw [if_neg h]; omega
@[simp] theorem d_int (i : Int) : intD [.int i] = some (.int i) := (rfl)
@[simp] theorem d_intB (b : Bool) : intD [.bool b] = some (.int (if b then 1 else 0)) := (rfl)
@[simp] theorem d_min (i j : Int) : minD [.int i, .int j] = some (.int (min i j)) := by
  show some (PyData.int _) = some (PyData.int _)
  congr 2
  by_cases h : j < i
  · rw [if_pos h]; omega
  · rw [if_neg h]; omega
@[simp] theorem d_max (i j : Int) : maxD [.int i, .int j] = some (.int (max i j)) := by
  show some (PyData.int _) = some (PyData.int _)
  congr 2
  by_cases h : j > i
  · rw [if_pos h]; omega
  · rw [if_neg h]; omega
@[simp] theorem d_lenL (ds : List Dt) : lenD [.list ds] = some (.int ds.length) := (rfl)
@[simp] theorem d_lenT (ds : List Dt) : lenD [.tuple ds] = some (.int ds.length) := (rfl)
@[simp] theorem d_tupL (ds : List Dt) : tupD [.list ds] = some (.tuple ds) := (rfl)
@[simp] theorem d_tupT (ds : List Dt) : tupD [.tuple ds] = some (.tuple ds) := (rfl)
@[simp] theorem d_lstL (ds : List Dt) : lstA [.list ds] = some ds := (rfl)
@[simp] theorem d_lstT (ds : List Dt) : lstA [.tuple ds] = some ds := (rfl)
@[simp] theorem d_seqL (ds : List Dt) : seqD (.list ds) = some ds := (rfl)
@[simp] theorem d_seqT (ds : List Dt) : seqD (.tuple ds) = some ds := (rfl)
@[simp] theorem t_none (T : String) : isTy T .none = some false := (rfl)
@[simp] theorem t_bool (T : String) (b : Bool) : isTy T (.bool b) = some (T == "bool" || T == "int") := (rfl)
@[simp] theorem t_int (T : String) (b : Int) : isTy T (.int b) = some (T == "int") := (rfl)
@[simp] theorem t_str (T : String) (b : Str) : isTy T (.str b) = some (T == "str") := (rfl)
@[simp] theorem t_list (T : String) (b : List Dt) : isTy T (.list b) = some (T == "list") := (rfl)
@[simp] theorem t_tuple (T : String) (b : List Dt) : isTy T (.tuple b) = some (T == "tuple") := (rfl)
@[simp] theorem szOk_of {n : Nat} (h : n ≤ 16777216) : szOk n = true := decide_eq_true h
@[simp] theorem rg1_n (m : Nat) (h : m ≤ 16777216) : rg1 [.int m] = some (rgD 0 m) := if_pos (by show Int.natAbs _ ≤ _; omega)
theorem rg1_i (m : Int) (h : m ≤ 16777216) (h2 : -16777216 ≤ m) : rg1 [.int m] = some (rgD 0 m.toNat) := if_pos (by show Int.natAbs _ ≤ _; omega)
theorem rg2_i (i j : Int) (h : j ≤ 16777216) (h2 : -16777216 ≤ j) (h3 : i ≤ 16777216) (h4 : -16777216 ≤ i) : rg2 [.int i, .int j] = some (rgD i (j - i).toNat) := if_pos (by show Int.natAbs _ ≤ _ ∧ Int.natAbs _ ≤ _; omega)
@[simp] theorem rgD_len (lo : Int) (n : Nat) : (rgD lo n).length = n := by simp [rgD]
@[simp] theorem d_allL (bs : List Bool) : allD [.list (bs.map .bool)] = some (.bool (bs.all id)) := by
  have e : blsD (bs.map .bool) = some bs := by
    induction bs with
    | nil => rfl
    | cons b bs ih => show (blsD (bs.map .bool)).map _ = _; rw [ih]; rfl
  unfold allD
  simp [e]
@[simp] theorem d_anyL (bs : List Bool) : anyD [.list (bs.map .bool)] = some (.bool (bs.any id)) := by
  have e : blsD (bs.map .bool) = some bs := by
    induction bs with
    | nil => rfl
    | cons b bs ih => show (blsD (bs.map .bool)).map _ = _; rw [ih]; rfl
  unfold anyD
  simp [e]
theorem rgD_map (lo : Int) (n : Nat) : rgD lo n = (List.range n).map fun (i : Nat) => .int (lo + (i : Int)) := (rfl)
/-! conditions -/
theorem cMul_small {i j : Int} (h : i.natAbs < 2 ^ 64 ∨ j.natAbs < 2 ^ 64) : cMul i j = true := by
  unfold cMul cSml
  simp only [Bool.or_eq_true, decide_eq_true_eq]
  exact .inl h
theorem cDiv_le2 {i : Int} {j k : Nat} (h : 0 < j) (h2 : j ≤ 2 ^ k) (hk : k ≤ 8000) : cDiv i (j : Int) = true := by
  unfold cDiv
  have h3 : j < 2 ^ (k + 1) := by rw [Nat.pow_succ]; omega
  have h4 := (Nat.log2_lt (by omega)).mpr h3
  have h5 : ((j : Int).natAbs).log2 < 9000 := by rw [Int.natAbs_natCast]; omega
  have h6 : 0 < (j : Int) := by omega
  simp only [h5, h6, decide_true, Bool.and_self]
theorem cDiv_pow {i : Int} {k : Nat} (hk : k ≤ 8000) : cDiv i (2 ^ k) = true := by
  have := cDiv_le2 (i := i) (j := 2 ^ k) (k := k) (Nat.two_pow_pos k) (Nat.le_refl _) hk
  simpa using this
theorem cDiv_lt64 {i j : Int} (h : 0 < j) (h2 : j < 2 ^ 64) : cDiv i j = true := by
  have := cDiv_le2 (i := i) (j := j.toNat) (k := 64) (by omega) (by omega) (by omega)
  rwa [show ((j.toNat : Nat) : Int) = j by omega] at this
theorem cPow_ok2 {i j : Int} (h : 0 ≤ j) (h1 : j ≤ 1000000) (h2 : i.natAbs < 2 ^ 64) : cPow i j = true := by
  unfold cPow
  simp only [Bool.and_eq_true, decide_eq_true_eq]
  exact ⟨⟨h, by omega⟩, h2⟩
/-! comprehensions over encoded lists -/
theorem lc_enc {α : Type} {p : Tg} {cnd : EvB} {elt : Ev} {st : DS} {t : Ti} (enc : α → Dt) (c : α → Bool) (f : α → Dt) : ∀ (xs : List α), (∀ x ∈ xs, ∃ st1, setTg p (enc x) st = some st1 ∧ cnd st1 t = some (c x, t) ∧ (c x = true → elt st1 t = some (f x, t))) → lcGo p cnd elt (xs.map enc) st t = some ((xs.filter c).map f, t)
  | [], _ => rfl
  | x :: xs, h => by
    obtain ⟨st1, h1, h2, h3⟩ := h x List.mem_cons_self
    have ih := lc_enc (p := p) (cnd := cnd) (elt := elt) (st := st) (t := t) enc c f xs fun y hy => h y (List.mem_cons_of_mem _ hy)
    rw [List.map_cons, lcGo, h1, Option.bind_some, h2, Option.bind_some]
    cases hc : c x with
    | true => simp [h3 hc, ih, hc]
    | false => simp [ih, hc]
theorem lc_map {α : Type} {p : Tg} {elt : Ev} {st : DS} {t : Ti} (enc : α → Dt) (f : α → Dt) (xs : List α) (h : ∀ x ∈ xs, ∃ st1, setTg p (enc x) st = some st1 ∧ elt st1 t = some (f x, t)) : lcGo p bYes elt (xs.map enc) st t = some (xs.map f, t) := by
  rw [lc_enc enc (fun _ => true) f xs fun x hx => by obtain ⟨st1, h1, h2⟩ := h x hx; exact ⟨st1, h1, rfl, fun _ => h2⟩]
  rw [List.filter_eq_self.mpr fun _ _ => rfl]
end HL

/-! MB: encoded values. -/
namespace HL
open PySem L2
/-- values that stand for data -/
class En (α : Type) where
  en : α → Dt
  dp : Nat
  cl : ∀ a, (en a).canLay0 = true
  hd : ∀ a, (en a).depth ≤ dp
  ev : ∀ a b, PyData.eqv (en a) (en b) = true ↔ a = b
  lf : ∀ a, nol (en a) = true ∧ nod (en a) = true
abbrev en {α : Type} [En α] (a : α) : Dt := En.en a
/-- a bit -/
instance : En Bool where
  en b := .int (if b then 1 else 0)
  dp := 0
  cl _ := by simp [PyData.canLay0]
  hd _ := by simp [PyData.depth]
  ev a b := by cases a <;> cases b <;> simp [PyData.eqv]
  lf a := by simp [nol, nod]
instance : En Int where
  en i := .int i
  dp := 0
  cl _ := by simp [PyData.canLay0]
  hd _ := by simp [PyData.depth]
  ev a b := by simp [PyData.eqv]
  lf a := by simp [nol, nod]
section
variable {α β : Type} [En α] [En β]
theorem enA_cl : ∀ l : List α, PyData.canLayAll0 (l.map en) = true
  | [] => by simp [PyData.canLayAll0]
  | a :: l => by
    rw [List.map_cons, PyData.canLayAll0, enA_cl l]
    simp [en, En.cl]
theorem enA_hd : ∀ l : List α, PyData.depthAll (l.map en) ≤ En.dp α
  | [] => by simp [PyData.depthAll]
  | a :: l => by
    rw [List.map_cons, PyData.depthAll]
    exact Nat.max_le.mpr ⟨En.hd a, enA_hd l⟩
theorem enA_ev : ∀ l m : List α, PyData.eqvAll (l.map en) (m.map en) = true ↔ l = m
  | [], [] => by simp [PyData.eqvAll]
  | [], _ :: _ => by simp [PyData.eqvAll]
  | _ :: _, [] => by simp [PyData.eqvAll]
  | a :: l, b :: m => by
    rw [List.map_cons, List.map_cons, PyData.eqvAll, Bool.and_eq_true, enA_ev l m]
    rw [show (PyData.eqv (en a) (en b) = true) = (a = b) from propext (En.ev a b)]
    simp
theorem enA_lf : ∀ l : List α, nolA (l.map en) = true ∧ nodA (l.map en) = true
  | [] => by simp [nolA, nodA]
  | a :: l => by
    have h := En.lf a
    have ih := enA_lf l
    simp [nolA, nodA, ih.1, ih.2, h.1, h.2, en]
instance : En (List α) where
  en l := .tuple (l.map en)
  dp := En.dp α + 1
  cl l := by rw [PyData.canLay0]; exact enA_cl l
  hd l := by rw [PyData.depth]; have := enA_hd l; omega
  ev a b := by rw [PyData.eqv]; exact enA_ev a b
  lf a := by rw [nol, nod]; exact enA_lf a
instance : En (α × β) where
  en p := .tuple [en p.1, en p.2]
  dp := max (En.dp α) (En.dp β) + 1
  cl p := by simp [PyData.canLay0, PyData.canLayAll0, en, En.cl]
  hd p := by
    have h1 := En.hd p.1
    have h2 := En.hd p.2
    simp only [PyData.depth, PyData.depthAll, en]
    omega
  ev p q := by
    obtain ⟨a, b⟩ := p
    obtain ⟨c, d⟩ := q
    simp [PyData.eqv, PyData.eqvAll, en, En.ev]
  lf p := by
    have h1 := En.lf p.1
    have h2 := En.lf p.2
    simp [nol, nod, nolA, nodA, en, h1.1, h1.2, h2.1, h2.2]
instance : En Rat where
  en q := .tuple [.int q.num, .int q.den]
  dp := 1
  cl p := by simp [PyData.canLay0, PyData.canLayAll0]
  hd p := by simp [PyData.depth, PyData.depthAll]
  ev p q := by
    simp only [PyData.eqv, PyData.eqvAll, Bool.and_true, Bool.and_eq_true, beq_iff_eq]
    constructor
    · rintro ⟨h1, h2⟩
      exact Rat.ext h1 (by omega)
    · rintro rfl; exact ⟨rfl, rfl⟩
  lf p := by simp [nol, nod, nolA, nodA]
theorem en_bool (b : Bool) : en b = .int (if b then 1 else 0) := (rfl)
theorem en_int (i : Int) : en i = .int i := (rfl)
theorem en_list (l : List α) : en l = .tuple (l.map en) := (rfl)
theorem en_pair (p : α × β) : en p = .tuple [en p.1, en p.2] := (rfl)
theorem en_rat (q : Rat) : en q = .tuple [.int q.num, .int q.den] := (rfl)
@[simp] theorem dp_bool : En.dp Bool = 0 := (rfl)
@[simp] theorem dp_int : En.dp Int = 0 := (rfl)
@[simp] theorem dp_rat : En.dp Rat = 1 := (rfl)
@[simp] theorem dp_list : En.dp (List α) = En.dp α + 1 := (rfl)
@[simp] theorem dp_pair : En.dp (α × β) = max (En.dp α) (En.dp β) + 1 := (rfl)
theorem shp_of {d : Dt} (h : d.canLay0 = true) (h2 : d.depth ≤ 64) : shp d = true := by
  unfold shp SeqAt.shaped
  simp [h, h2]
@[simp] theorem shp_en (a : α) (h : En.dp α ≤ 64) : shp (en a) = true := shp_of (En.cl a) (Nat.le_trans (En.hd a) h)
@[simp] theorem shp_list (l : List α) (h : En.dp α ≤ 63) : shp (.list (l.map en)) = true := shp_of (by rw [PyData.canLay0]; exact enA_cl l) (by rw [PyData.depth]; have := enA_hd l; omega)
@[simp] theorem shp_tup (l : List α) (h : En.dp α ≤ 63) : shp (.tuple (l.map en)) = true := shp_of (by rw [PyData.canLay0]; exact enA_cl l) (by rw [PyData.depth]; have := enA_hd l; omega)
@[simp] theorem shp_nilT : shp (.tuple []) = true := by decide
@[simp] theorem shp_nilL : shp (.list []) = true := by decide
theorem ev_en [DecidableEq α] (a b : α) : PyData.eqv (en a) (en b) = decide (a = b) := by
  by_cases h : a = b
  · rw [decide_eq_true h]; exact (En.ev a b).mpr h
  · rw [decide_eq_false h]
    cases e : PyData.eqv (en a) (en b) with
    | false => rfl
    | true => exact absurd ((En.ev a b).mp e) h
theorem evA_en [DecidableEq α] (l m : List α) : PyData.eqvAll (l.map en) (m.map en) = decide (l = m) := by
  by_cases h : l = m
  · rw [decide_eq_true h]; exact (enA_ev l m).mpr h
  · rw [decide_eq_false h]
    cases e : PyData.eqvAll (l.map en) (m.map en) with
    | false => rfl
    | true => exact absurd ((enA_ev l m).mp e) h
/-! == -/
theorem eq_en [DecidableEq α] (a b : α) (h : En.dp α ≤ 64) : eqD (en a) (en b) = some (.bool (decide (a = b))) := by
  unfold eqD
  rw [shp_en a h, shp_en b h, if_pos (show (true && true) = true from rfl), ev_en]
theorem ne_en [DecidableEq α] (a b : α) (h : En.dp α ≤ 64) : neD (en a) (en b) = some (.bool (decide (a ≠ b))) := by
  unfold neD
  rw [shp_en a h, shp_en b h, if_pos (show (true && true) = true from rfl), ev_en]
  by_cases q : a = b <;> simp [q]
theorem eq_nilT (l : List α) (h : En.dp α ≤ 63) : eqD (en l) (.tuple []) = some (.bool l.isEmpty) := by
  unfold eqD
  rw [shp_en l (by simpa using h), shp_nilT, if_pos (show (true && true) = true from rfl)]
  cases l <;> simp [en_list, PyData.eqv, PyData.eqvAll]
theorem ne_nilT (l : List α) (h : En.dp α ≤ 63) : neD (en l) (.tuple []) = some (.bool !l.isEmpty) := by
  unfold neD
  rw [shp_en l (by simpa using h), shp_nilT, if_pos (show (true && true) = true from rfl)]
  cases l <;> simp [en_list, PyData.eqv, PyData.eqvAll]
theorem eq_nilL (l : List α) (h : En.dp α ≤ 63) : eqD (.list (l.map en)) (.list []) = some (.bool l.isEmpty) := by
  unfold eqD
  rw [shp_list l h, shp_nilL, if_pos (show (true && true) = true from rfl)]
  cases l <;> simp [PyData.eqv, PyData.eqvAll]
theorem ne_nilL (l : List α) (h : En.dp α ≤ 63) : neD (.list (l.map en)) (.list []) = some (.bool !l.isEmpty) := by
  unfold neD
  rw [shp_list l h, shp_nilL, if_pos (show (true && true) = true from rfl)]
  cases l <;> simp [PyData.eqv, PyData.eqvAll]
/-! in -/
theorem any_en [DecidableEq α] (l : List α) (a : α) : ((l.map en).any fun z => PyData.eqv z (en a)) = decide (a ∈ l) := by
  induction l with
  | nil => simp
  | cons b l ih =>
    rw [List.map_cons, List.any_cons, ih, ev_en]
    by_cases h : b = a
    · subst h; simp
    · simp [h, Ne.symm h]
theorem in_tup [DecidableEq α] (a : α) (l : List α) (h : En.dp α ≤ 63) : inA (en a) (.tuple (l.map en)) = some (.bool (decide (a ∈ l))) := by
  show (inSD _ _).map _ = _
  unfold inSD
  dsimp only
  rw [shp_en a (by omega), shp_tup l h, if_pos (show (true && true) = true from rfl), any_en]; rfl
theorem nin_tup [DecidableEq α] (a : α) (l : List α) (h : En.dp α ≤ 63) : ninD (en a) (.tuple (l.map en)) = some (.bool (decide (a ∉ l))) := by
  show (inSD _ _).map _ = _
  unfold inSD
  dsimp only
  rw [shp_en a (by omega), shp_tup l h, if_pos (show (true && true) = true from rfl), any_en]
  by_cases q : a ∈ l <;> simp [q]
theorem in_lst [DecidableEq α] (a : α) (l : List α) (h : En.dp α ≤ 63) : inA (en a) (.list (l.map en)) = some (.bool (decide (a ∈ l))) := by
  show (inSD _ _).map _ = _
  unfold inSD
  dsimp only
  rw [shp_en a (by omega), shp_list l h, if_pos (show (true && true) = true from rfl), any_en]; rfl
theorem nin_lst [DecidableEq α] (a : α) (l : List α) (h : En.dp α ≤ 63) : ninD (en a) (.list (l.map en)) = some (.bool (decide (a ∉ l))) := by
  show (inSD _ _).map _ = _
  unfold inSD
  dsimp only
  rw [shp_en a (by omega), shp_list l h, if_pos (show (true && true) = true from rfl), any_en]
  by_cases q : a ∈ l <;> simp [q]
@[simp] theorem fold_tup (l : List α) : (.tuple (l.map en) : Dt) = en l := (rfl)
theorem in_en [DecidableEq α] (a : α) (l : List α) (h : En.dp α ≤ 63) : inA (en a) (en l) = some (.bool (decide (a ∈ l))) := in_tup a l h
theorem nin_en [DecidableEq α] (a : α) (l : List α) (h : En.dp α ≤ 63) : ninD (en a) (en l) = some (.bool (decide (a ∉ l))) := nin_tup a l h
/-! lengths, slices, subscripts, + -/
@[simp] theorem len_en (l : List α) : lenD [en l] = some (.int l.length) := by
  rw [en_list, d_lenT, List.length_map]
@[simp] theorem seq_en (l : List α) : seqD (en l) = some (l.map en) := (rfl)
@[simp] theorem tup_en (l : List α) : tupD [.list (l.map en)] = some (en l) := (rfl)
@[simp] theorem lst_en (l : List α) : lstA [en l] = some (l.map en) := (rfl)
@[simp] theorem ty_en (T : String) (l : List α) : isTy T (en l) = some (T == "tuple") := (rfl)
@[simp] theorem ty_enP (T : String) (l : α × β) : isTy T (en l) = some (T == "tuple") := (rfl)
@[simp] theorem ty_enQ (T : String) (l : Rat) : isTy T (en l) = some (T == "tuple") := (rfl)
@[simp] theorem ty_enB (T : String) (l : Bool) : isTy T (en l) = some (T == "int") := (rfl)
theorem cut_map (l : List α) (lo hi : Option Int) : cutD (l.map en) lo hi = ((l.drop (HT.sIx l.length 0 lo)).take (HT.sIx l.length l.length hi - HT.sIx l.length 0 lo)).map en := by
  unfold cutD
  rw [List.length_map, List.map_take, List.map_drop]
theorem sl_en (l : List α) (lo hi : Option Int) : slD (en l) lo hi = some (en ((l.drop (HT.sIx l.length 0 lo)).take (HT.sIx l.length l.length hi - HT.sIx l.length 0 lo))) := by
  show some (PyData.tuple _) = _
  rw [cut_map]; rfl
/-- l[:n] -/
theorem sl_to (l : List α) (n : Nat) : slD (en l) none (some (n : Int)) = some (en (l.take n)) := by
  rw [sl_en, HT.sIx_nat]
  simp only [HT.sIx, List.drop_zero, Nat.sub_zero]
  by_cases h : n ≤ l.length
  · rw [Nat.min_eq_left h]
  · rw [Nat.min_eq_right (by omega), List.take_of_length_le (Nat.le_refl _), List.take_of_length_le (by omega)]
/-- l[n:] -/
theorem sl_from (l : List α) (n : Nat) : slD (en l) (some (n : Int)) none = some (en (l.drop n)) := by
  rw [sl_en, HT.sIx_nat]
  simp only [HT.sIx]
  rw [List.take_of_length_le (by rw [List.length_drop]; omega)]
  by_cases h : n ≤ l.length
  · rw [Nat.min_eq_left h]
  · rw [Nat.min_eq_right (by omega), List.drop_of_length_le (by omega), List.drop_of_length_le (by omega)]
/-- l[:-1] -/
theorem sl_butlast (l : List α) : slD (en l) none (some (-1 : Int)) = some (en l.dropLast) := by
  rw [sl_en]
  simp [HT.sIx, List.dropLast_eq_take]
  rw [show (-1 + (l.length : Int)).toNat = l.length - 1 by omega]
/-- l[m:n] -/
theorem sl_fromto (l : List α) (m n : Nat) : slD (en l) (some (m : Int)) (some (n : Int)) = some (en ((l.take n).drop m)) := by
  rw [sl_en, HT.sIx_nat, HT.sIx_nat]
  congr 2
  rw [List.drop_take]
  by_cases h : m ≤ l.length
  · rw [Nat.min_eq_left h]
    by_cases h2 : n ≤ l.length
    · rw [Nat.min_eq_left h2]
    · rw [show min n l.length = l.length by omega, List.take_of_length_le (by rw [List.length_drop]; omega), List.take_of_length_le (by rw [List.length_drop]; omega)]
  · rw [show min m l.length = l.length by omega, List.drop_of_length_le (Nat.le_refl _), List.drop_of_length_le (by omega)]
    simp
theorem atI_map (l : List α) (i : Int) : L2.atI (l.map en) i = (L2.atI l i).map en := by
  unfold L2.atI
  simp only [List.length_map, List.getElem?_map]
  cases ixN l.length i <;> rfl
theorem atI_n {γ : Type} (l : List γ) (n : Nat) : L2.atI l (n : Int) = l[n]? := by
  unfold L2.atI ixN
  by_cases h : n < l.length
  · simp [h]
  · simp [h]
theorem atI_last {γ : Type} (l : List γ) (b : γ) : L2.atI (l ++ [b]) (-1) = some b := by
  unfold L2.atI ixN
  rw [if_neg (by decide), if_pos (by simp; omega)]
  simp
  rw [show (-1 + ((l.length : Int) + 1)).toNat = l.length by omega]
  simp
theorem ix_en (l : List α) (n : Nat) : ixD (en l) (.int (n : Int)) = (l[n]?).map en := by
  show L2.atI (l.map en) (n : Int) = _
  rw [atI_map, atI_n]
theorem ix_enL (l : List α) (a : α) : ixD (en (l ++ [a])) (.int (-1)) = some (en a) := by
  show L2.atI ((l ++ [a]).map en) (-1) = _
  rw [atI_map, atI_last]; rfl
theorem ix_lstL (l : List α) (a : α) : ixD (.list ((l ++ [a]).map en)) (.int (-1)) = some (en a) := by
  show L2.atI ((l ++ [a]).map en) (-1) = _
  rw [atI_map, atI_last]; rfl
theorem ix_lst (l : List α) (n : Nat) : ixD (.list (l.map en)) (.int (n : Int)) = (l[n]?).map en := by
  show L2.atI (l.map en) (n : Int) = _
  rw [atI_map, atI_n]
theorem add_en (l m : List α) (h : l.length + m.length ≤ 16777216) : addD (en l) (en m) = some (en (l ++ m)) := by
  show (if szOk ((l.map en).length + (m.map en).length) = true then _ else _) = _
  rw [List.length_map, List.length_map, if_pos (szOk_of h), en_list, List.map_append]
theorem add_lst (l m : List α) (h : l.length + m.length ≤ 16777216) : addD (.list (l.map en)) (.list (m.map en)) = some (.list ((l ++ m).map en)) := by
  show (if szOk ((l.map en).length + (m.map en).length) = true then _ else _) = _
  rw [List.length_map, List.length_map, if_pos (szOk_of h), List.map_append]
end
end HL

namespace K00
open PySem PySem.Spec PyProof.Rows L2 HL
def top (i : Nat) : Stmt := PySem.Challenge.pw_halvedlays_k00_across_dots_parts_and_cut.main.body.getD i (.Pass ⟨0, 0, 0, 0⟩)
structure Gs (P : Program) (w : World) (K : PySem.W.Frag) (mg : Str → Option Value) : Prop where
  len : mg "len" = none
  abs : mg "abs" = none
  int : mg "int" = none
  range : mg "range" = none
  all : mg "all" = none
  any : mg "any" = none
  sorted : mg "sorted" = none
  tuple : mg "tuple" = none
  list : mg "list" = none
  dict : mg "dict" = none
  set : mg "set" = none
  min : mg "min" = none
  max : mg "max" = none
  isinstance : mg "isinstance" = none
  enumerate : mg "enumerate" = none
  zip : mg "zip" = none
  bool : mg "bool" = none
  str : mg "str" = none
  sum : mg "sum" = none
  c_WHOLE_END : GD ⟨P, w, K⟩ mg "WHOLE_END" (.tuple [(.int 1), (.int 1)])
  c_MOST_BITS : GD ⟨P, w, K⟩ mg "MOST_BITS" (.int 60)
  c_MOST_MANY : GD ⟨P, w, K⟩ mg "MOST_MANY" (.int 1000000)
  c_MOST_LENGTH : GD ⟨P, w, K⟩ mg "MOST_LENGTH" (.int 10)
  f_is_number : Fd K mg "is_number" (top 5)
  f_is_from : Fd K mg "is_from" (top 6)
  f_is_among : Fd K mg "is_among" (top 7)
  f_is_long : Fd K mg "is_long" (top 8)
  f_tupled : Fd K mg "tupled" (top 9)
  f_ascends : Fd K mg "ascends" (top 10)
  f_sure_number : Fd K mg "sure_number" (top 11)
  f_shared : Fd K mg "shared" (top 12)
  f_doubled : Fd K mg "doubled" (top 13)
  f_made : Fd K mg "made" (top 18)
  f_is_fraction : Fd K mg "is_fraction" (top 19)
  f_is_two_power : Fd K mg "is_two_power" (top 20)
  f_is_dot : Fd K mg "is_dot" (top 21)
  f_sure_dot : Fd K mg "sure_dot" (top 22)
  f_sure_fraction : Fd K mg "sure_fraction" (top 23)
  f_is_less : Fd K mg "is_less" (top 24)
  f_power_in : Fd K mg "power_in" (top 25)
  f_dot_depth : Fd K mg "dot_depth" (top 26)
  f_bits_in : Fd K mg "bits_in" (top 27)
  f_first_bits : Fd K mg "first_bits" (top 28)
  f_stretch_parts : Fd K mg "stretch_parts" (top 29)
  f_sure_stretch : Fd K mg "sure_stretch" (top 30)
  f_between_dots : Fd K mg "between_dots" (top 31)
  f_can_cut_stretch : Fd K mg "can_cut_stretch" (top 32)
  f_cut_in : Fd K mg "cut_in" (top 33)
  f_cut_stretch : Fd K mg "cut_stretch" (top 34)
  f_is_part : Fd K mg "is_part" (top 37)
  f_sure_part : Fd K mg "sure_part" (top 38)
  f_lies_in : Fd K mg "lies_in" (top 39)
  f_meet : Fd K mg "meet" (top 40)
  f_worth_in : Fd K mg "worth_in" (top 41)
  f_begin_in : Fd K mg "begin_in" (top 42)
  f_end_in : Fd K mg "end_in" (top 43)
  f_part_begin : Fd K mg "part_begin" (top 44)
  f_part_end : Fd K mg "part_end" (top 45)
  f_part_middle : Fd K mg "part_middle" (top 46)
  f_halves_of : Fd K mg "halves_of" (top 47)
  f_mate_of : Fd K mg "mate_of" (top 48)
  f_is_part_within : Fd K mg "is_part_within" (top 49)
  f_are_parts_apart : Fd K mg "are_parts_apart" (top 50)
  f_common_in : Fd K mg "common_in" (top 51)
  f_common_part : Fd K mg "common_part" (top 52)
  f_parts_so_long : Fd K mg "parts_so_long" (top 53)
  f_part_number : Fd K mg "part_number" (top 54)
  f_part_at : Fd K mg "part_at" (top 55)
  f_fills : Fd K mg "fills" (top 57)
  f_is_cutting : Fd K mg "is_cutting" (top 58)
  f_sure_cutting : Fd K mg "sure_cutting" (top 59)
  f_finest : Fd K mg "finest" (top 60)
  f_cutting_with : Fd K mg "cutting_with" (top 61)
  f_split_at : Fd K mg "split_at" (top 62)
  f_joined_at : Fd K mg "joined_at" (top 63)
  f_is_finer_in : Fd K mg "is_finer_in" (top 64)
  f_is_finer : Fd K mg "is_finer" (top 65)
  f_common_finer : Fd K mg "common_finer" (top 66)
  f_coarsest : Fd K mg "coarsest" (top 67)
  f_common_coarser : Fd K mg "common_coarser" (top 68)
  f_splits_between : Fd K mg "splits_between" (top 69)
  f_behind_middle : Fd K mg "behind_middle" (top 71)
  f_joints_in : Fd K mg "joints_in" (top 72)
  f_joints_of : Fd K mg "joints_of" (top 73)
  f_side_in : Fd K mg "side_in" (top 74)
  f_joint_side : Fd K mg "joint_side" (top 75)
  f__law_box : Fd K mg "_law_box" (top 77)
  f__law_take : Fd K mg "_law_take" (top 78)
  f__law_cells : Fd K mg "_law_cells" (top 79)
  f__law_of : Fd K mg "_law_of" (top 80)
  f__law_same : Fd K mg "_law_same" (top 81)
  f__law_gcd : Fd K mg "_law_gcd" (top 82)
  f__law_frac : Fd K mg "_law_frac" (top 83)
  f__law_add : Fd K mg "_law_add" (top 84)
  f__law_neg : Fd K mg "_law_neg" (top 85)
  f__law_sum : Fd K mg "_law_sum" (top 86)
  f__law_in : Fd K mg "_law_in" (top 87)
  f__law_length : Fd K mg "_law_length" (top 88)
  f__law_begin : Fd K mg "_law_begin" (top 89)
  f__law_fine : Fd K mg "_law_fine" (top 90)
  f__law_cut : Fd K mg "_law_cut" (top 91)
  f__law_worth : Fd K mg "_law_worth" (top 92)
  f__law_joints : Fd K mg "_law_joints" (top 93)
  f__law_side : Fd K mg "_law_side" (top 94)
  f__law_right : Fd K mg "_law_right" (top 95)
  f_law : Fd K mg "law" (top 96)
section
variable {P : Program} {w : World} {K : PySem.W.Frag} {mg : Str → Option Value} {base : Heap}
abbrev N_is_number : List Str := ["thing"]
abbrev st_is_number : Stmt := top 5
theorem sc_is_number : FnScope N_is_number ["thing"] (defScope st_is_number) := C8.fnScope_by (by decide +kernel)
noncomputable def e_is_number : Ex := (zRt (xAnd (xIsi "int" (xV 0)) (xNot (xIsi "bool" (xV 0)))))
noncomputable def m_is_number : List Dt → Option Dt := runP 1 e_is_number
theorem c_is_number (G : Gs P w K mg) : CP P w K mg base 1 "is_number" 1 m_is_number := by
  obtain ⟨f, fd, F, hm⟩ := G.f_is_number.ex
  have S := sc_is_number
  exact cp_of (mu := []) F hm (F.bindsN fun _ _ _ _ _ _ us hl => match us, hl with | [_], _ => rfl) S  rfl (by decide) fun cdv A outer s H E hr => (zs_one (z_rt (em0 (px_and (px_isi ot_int (px_v 0) G.isinstance G.int) (px_1 (px_not (px_isi ot_bool (px_v 0) G.isinstance G.bool)))))))
abbrev N_is_from : List Str := ["thing", "least"]
abbrev st_is_from : Stmt := top 6
theorem sc_is_from : FnScope N_is_from ["thing", "least"] (defScope st_is_from) := C8.fnScope_by (by decide +kernel)
noncomputable def e_is_from : Ex := (zRt (xAnd (xCall m_is_number (aLen 1 (aCons (xV 0) aNil))) (x2 geD (xV 0) (xV 1))))
noncomputable def m_is_from : List Dt → Option Dt := runP 2 e_is_from
theorem c_is_from (G : Gs P w K mg) : CP P w K mg base 2 "is_from" 2 m_is_from := by
  obtain ⟨f, fd, F, hm⟩ := G.f_is_from.ex
  have S := sc_is_from
  exact cp_of (mu := []) F hm (F.bindsN fun _ _ _ _ _ _ us hl => match us, hl with | [_, _], _ => rfl) S  rfl (by decide) fun cdv A outer s H E hr => (zs_one (z_rt (em0 (px_and (px_call (c_is_number G) hr (ax_cons (px_v 0) ax_nil)) (px_1 (px_cmp od_ge (px_v 0) (px_v 1)))))))
abbrev N_is_among : List Str := ["thing", "least", "most"]
abbrev st_is_among : Stmt := top 7
theorem sc_is_among : FnScope N_is_among ["thing", "least", "most"] (defScope st_is_among) := C8.fnScope_by (by decide +kernel)
noncomputable def e_is_among : Ex := (zRt (xAnd (xCall m_is_number (aLen 1 (aCons (xV 0) aNil))) (xCh leD leD (xV 1) (xV 0) (xV 2))))
noncomputable def m_is_among : List Dt → Option Dt := runP 3 e_is_among
theorem c_is_among (G : Gs P w K mg) : CP P w K mg base 2 "is_among" 3 m_is_among := by
  obtain ⟨f, fd, F, hm⟩ := G.f_is_among.ex
  have S := sc_is_among
  exact cp_of (mu := []) F hm (F.bindsN fun _ _ _ _ _ _ us hl => match us, hl with | [_, _, _], _ => rfl) S  rfl (by decide) fun cdv A outer s H E hr => (zs_one (z_rt (em0 (px_and (px_call (c_is_number G) hr (ax_cons (px_v 0) ax_nil)) (px_1 (px_ch od_le od_le (px_v 1) (px_v 0) (px_v 2)))))))
abbrev N_is_long : List Str := ["thing", "length"]
abbrev st_is_long : Stmt := top 8
theorem sc_is_long : FnScope N_is_long ["thing", "length"] (defScope st_is_long) := C8.fnScope_by (by decide +kernel)
noncomputable def e_is_long : Ex := (zRt (xAnd (xIsi "tuple" (xV 0)) (x2 eqD (xCall lenD (aCons (xV 0) aNil)) (xV 1))))
noncomputable def m_is_long : List Dt → Option Dt := runP 2 e_is_long
theorem c_is_long (G : Gs P w K mg) : CP P w K mg base 1 "is_long" 2 m_is_long := by
  obtain ⟨f, fd, F, hm⟩ := G.f_is_long.ex
  have S := sc_is_long
  exact cp_of (mu := []) F hm (F.bindsN fun _ _ _ _ _ _ us hl => match us, hl with | [_, _], _ => rfl) S  rfl (by decide) fun cdv A outer s H E hr => (zs_one (z_rt (em0 (px_and (px_isi ot_tuple (px_v 0) G.isinstance G.tuple) (px_1 (px_cmp (od_eq (u64 hr)) (px_b cd_len (ax_cons (px_v 0) ax_nil) G.len) (px_v 1)))))))
abbrev N_tupled : List Str := ["value", "own"]
abbrev st_tupled : Stmt := top 9
theorem sc_tupled : FnScope N_tupled ["value"] (defScope st_tupled) := C8.fnScope_by (by decide +kernel)
noncomputable def e_tupled (m : List Dt → Option Dt) : Ex := (zRt (xIf (bV (xIsi2 "list" "tuple" (xV 0))) (xCall tupD (aCons (dN (nLc (nSeq (xV 0)) (.nm 1) [1] bYes (xCall m (aLen 1 (aCons (xV 1) aNil))))) aNil)) (xV 0)))
noncomputable def mr_tupled : Nat → List Dt → Option Dt
  | 0 => fun _ => none
  | n + 1 => runP 2 (e_tupled (mr_tupled n))
noncomputable abbrev m_tupled : List Dt → Option Dt := mr_tupled 8
theorem cr_tupled (G : Gs P w K mg) : ∀ n : Nat, CP P w K mg base n "tupled" 1 (mr_tupled n)
  | 0 => by
    obtain ⟨f, fd, F, hm⟩ := G.f_tupled.ex
    exact cp_none F hm (F.bindsN fun _ _ _ _ _ _ us hl => match us, hl with | [_], _ => rfl) sc_tupled
  | n + 1 => by
    have c := cr_tupled G n
    obtain ⟨f, fd, F, hm⟩ := G.f_tupled.ex
    have S := sc_tupled
    exact cp_of (mu := []) F hm (F.bindsN fun _ _ _ _ _ _ us hl => match us, hl with | [_], _ => rfl) S  rfl (by decide) fun cdv A outer s H E hr => (zs_one (z_rt (em0 (px_if (b_v (px_isi2 ot_list ot_tuple (px_v 0) G.isinstance G.list G.tuple)) (px_ty cd_tuple (ax_cons (px_n (pn_lc [("own", 1)] rfl S.nd (ix_seq (px_v 0)) (blkOk_by rfl) (fun _ _ _ _ _ => (gx_n 1 S.nd)) (fun _ _ _ _ _ => pts_yes) (fun _ _ _ _ _ => (px_call c hr (ax_cons (px_v 1) ax_nil) (Nat.le_refl _))))) ax_nil) G.tuple) (px_v 0)))))
theorem c_tupled (G : Gs P w K mg) : CP P w K mg base 8 "tupled" 1 m_tupled := cr_tupled G 8
abbrev N_ascends : List Str := ["row", "place"]
abbrev st_ascends : Stmt := top 10
theorem sc_ascends : FnScope N_ascends ["row"] (defScope st_ascends) := C8.fnScope_by (by decide +kernel)
noncomputable def e_ascends : Ex := (zRt (xCall allD (aCons (dN (nLc (nCall rg1 (aCons (x2 subD (xCall lenD (aCons (xV 0) aNil)) (xC (.int 1))) aNil)) (.nm 1) [1] bYes (x2 ltA (x2 ixD (xV 0) (xV 1)) (x2 ixD (xV 0) (x2 addD (xV 1) (xC (.int 1))))))) aNil)))
noncomputable def m_ascends : List Dt → Option Dt := runP 2 e_ascends
theorem c_ascends (G : Gs P w K mg) : CP P w K mg base 1 "ascends" 1 m_ascends := by
  obtain ⟨f, fd, F, hm⟩ := G.f_ascends.ex
  have S := sc_ascends
  exact cp_of (mu := []) F hm (F.bindsN fun _ _ _ _ _ _ us hl => match us, hl with | [_], _ => rfl) S  rfl (by decide) fun cdv A outer s H E hr => (zs_one (z_rt (em0 (px_b (cd_all rfl) (ax_cons (px_n (pn_lc [("place", 1)] rfl S.nd (ix_r1 (ax_cons (px_op od_sub (px_b cd_len (ax_cons (px_v 0) ax_nil) G.len) px_int) ax_nil) G.range) (blkOk_by rfl) (fun _ _ _ _ _ => (gx_n 1 S.nd)) (fun _ _ _ _ _ => pts_yes) (fun _ _ _ _ _ => (px_cmp (od_ltA (u66 hr)) (px_ix (px_v 0) (px_v 1)) (px_ix (px_v 0) (px_op od_add (px_v 1) px_int)))))) ax_nil) G.all))))
abbrev N_sure_number : List Str := ["thing", "least", "most"]
abbrev st_sure_number : Stmt := top 11
theorem sc_sure_number : FnScope N_sure_number ["thing", "least", "most"] (defScope st_sure_number) := C8.fnScope_by (by decide +kernel)
noncomputable def e_sure_number : Ex := (zSeq (zIf (bNot (bV (xCall m_is_among (aLen 3 (aCons (xV 0) (aCons (xV 1) (aCons (xV 2) aNil))))))) zNo zNil) (zRt (xV 0)))
noncomputable def m_sure_number : List Dt → Option Dt := runP 3 e_sure_number
theorem c_sure_number (G : Gs P w K mg) : CP P w K mg base 3 "sure_number" 3 m_sure_number := by
  obtain ⟨f, fd, F, hm⟩ := G.f_sure_number.ex
  have S := sc_sure_number
  exact cp_of (mu := []) F hm (F.bindsN fun _ _ _ _ _ _ us hl => match us, hl with | [_, _, _], _ => rfl) S  rfl (by decide) fun cdv A outer s H E hr => (zs_cons (z_if (bm0 (b_not (b_v (px_call (c_is_among G) hr (ax_cons (px_v 0) (ax_cons (px_v 1) (ax_cons (px_v 2) ax_nil))))))) zs_no zs_nil) (zs_one (z_rt (em0 (px_v 0)))))
abbrev N_shared : List Str := ["one", "other", "near", "far"]
abbrev st_shared : Stmt := top 12
theorem sc_shared : FnScope N_shared ["one", "other"] (defScope st_shared) := C8.fnScope_by (by decide +kernel)
noncomputable def e_shared : Ex := (zSeq (zPar 2 3 (xCall absD (aCons (xV 0) aNil)) (xCall absD (aCons (xV 1) aNil))) (zSeq (zWh (bV (x2 gtD (xV 3) (xC (.int 0)))) (zPar 2 3 (xV 3) (x2 modD (xV 2) (xV 3)))) (zRt (xV 2))))
noncomputable def m_shared : List Dt → Option Dt := runP 4 e_shared
theorem c_shared (G : Gs P w K mg) : CP P w K mg base 1 "shared" 2 m_shared := by
  obtain ⟨f, fd, F, hm⟩ := G.f_shared.ex
  have S := sc_shared
  exact cp_of (mu := []) F hm (F.bindsN fun _ _ _ _ _ _ us hl => match us, hl with | [_, _], _ => rfl) S  rfl (by decide) fun cdv A outer s H E hr => (zs_cons (z_par 2 3 rfl S.nd (vm_d (em0 (px_b cd_abs (ax_cons (px_v 0) ax_nil) G.abs))) (vm_d (em0 (px_b cd_abs (ax_cons (px_v 1) ax_nil) G.abs)))) (zs_cons (z_wh PassesOwn.never (bm0 (b_cmp od_gt (px_v 3) px_int)) (zs_one (z_par 2 3 rfl S.nd (vm_d (em0 (px_v 3))) (vm_d (em0 (px_op od_mod (px_v 2) (px_v 3))))))) (zs_one (z_rt (em0 (px_v 2))))))
abbrev N_doubled : List Str := ["many"]
abbrev st_doubled : Stmt := top 13
theorem sc_doubled : FnScope N_doubled ["many"] (defScope st_doubled) := C8.fnScope_by (by decide +kernel)
noncomputable def e_doubled : Ex := (zRt (x2 shlD (xC (.int 1)) (xV 0)))
noncomputable def m_doubled : List Dt → Option Dt := runP 1 e_doubled
theorem c_doubled (G : Gs P w K mg) : CP P w K mg base 1 "doubled" 1 m_doubled := by
  obtain ⟨f, fd, F, hm⟩ := G.f_doubled.ex
  have S := sc_doubled
  exact cp_of (mu := []) F hm (F.bindsN fun _ _ _ _ _ _ us hl => match us, hl with | [_], _ => rfl) S  rfl (by decide) fun cdv A outer s H E hr => (zs_one (z_rt (em0 (px_op od_shl px_int (px_v 0)))))
abbrev N_made : List Str := ["top", "bottom", "least"]
abbrev st_made : Stmt := top 18
theorem sc_made : FnScope N_made ["top", "bottom"] (defScope st_made) := C8.fnScope_by (by decide +kernel)
noncomputable def e_made : Ex := (zSeq (zSet 2 (xCall m_shared (aLen 2 (aCons (xV 0) (aCons (xV 1) aNil))))) (zRt (xTup (aCons (x2 divD (xV 0) (xV 2)) (aCons (x2 divD (xV 1) (xV 2)) aNil)))))
noncomputable def m_made : List Dt → Option Dt := runP 3 e_made
theorem c_made (G : Gs P w K mg) : CP P w K mg base 2 "made" 2 m_made := by
  obtain ⟨f, fd, F, hm⟩ := G.f_made.ex
  have S := sc_made
  exact cp_of (mu := []) F hm (F.bindsN fun _ _ _ _ _ _ us hl => match us, hl with | [_, _], _ => rfl) S  rfl (by decide) fun cdv A outer s H E hr => (zs_cons (z_set 2 S.nd (em0 (px_call (c_shared G) hr (ax_cons (px_v 0) (ax_cons (px_v 1) ax_nil))))) (zs_one (z_rt (em0 (px_tup (ax_cons (px_op od_div (px_v 0) (px_v 2)) (ax_cons (px_op od_div (px_v 1) (px_v 2)) ax_nil)))))))
abbrev N_is_fraction : List Str := ["thing"]
abbrev st_is_fraction : Stmt := top 19
theorem sc_is_fraction : FnScope N_is_fraction ["thing"] (defScope st_is_fraction) := C8.fnScope_by (by decide +kernel)
noncomputable def e_is_fraction : Ex := (zSeq (zIf (bOr (bNot (bV (xCall m_is_long (aLen 2 (aCons (xV 0) (aCons (xC (.int 2)) aNil)))))) (bOr (bNot (bV (xCall m_is_number (aLen 1 (aCons (x2 ixD (xV 0) (xC (.int 0))) aNil))))) (bNot (bV (xCall m_is_from (aLen 2 (aCons (x2 ixD (xV 0) (xC (.int 1))) (aCons (xC (.int 1)) aNil)))))))) (zRt (xC (.bool false))) zNil) (zRt (x2 eqD (xCall m_shared (aLen 2 (aCons (x2 ixD (xV 0) (xC (.int 0))) (aCons (x2 ixD (xV 0) (xC (.int 1))) aNil)))) (xC (.int 1)))))
noncomputable def m_is_fraction : List Dt → Option Dt := runP 1 e_is_fraction
theorem c_is_fraction (G : Gs P w K mg) : CP P w K mg base 3 "is_fraction" 1 m_is_fraction := by
  obtain ⟨f, fd, F, hm⟩ := G.f_is_fraction.ex
  have S := sc_is_fraction
  exact cp_of (mu := []) F hm (F.bindsN fun _ _ _ _ _ _ us hl => match us, hl with | [_], _ => rfl) S  rfl (by decide) fun cdv A outer s H E hr => (zs_cons (z_if (bm0 (b_w (w_or (b_not (b_v (px_call (c_is_long G) hr (ax_cons (px_v 0) (ax_cons px_int ax_nil))))) (w_or (b_not (b_v (px_call (c_is_number G) hr (ax_cons (px_ix (px_v 0) px_int) ax_nil)))) (w_or1 (b_not (b_v (px_call (c_is_from G) hr (ax_cons (px_ix (px_v 0) px_int) (ax_cons px_int ax_nil)))))))))) (zs_one (z_rt (em0 px_bl))) zs_nil) (zs_one (z_rt (em0 (px_cmp (od_eq (u64 hr)) (px_call (c_shared G) hr (ax_cons (px_ix (px_v 0) px_int) (ax_cons (px_ix (px_v 0) px_int) ax_nil))) px_int)))))
abbrev N_is_two_power : List Str := ["number"]
abbrev st_is_two_power : Stmt := top 20
theorem sc_is_two_power : FnScope N_is_two_power ["number"] (defScope st_is_two_power) := C8.fnScope_by (by decide +kernel)
noncomputable def e_is_two_power : Ex := (zSeq (zWh (bV (x2 eqD (x2 modD (xV 0) (xC (.int 2))) (xC (.int 0)))) (zSet 0 (x2 divD (xV 0) (xC (.int 2))))) (zRt (x2 eqD (xV 0) (xC (.int 1)))))
noncomputable def m_is_two_power : List Dt → Option Dt := runP 1 e_is_two_power
theorem c_is_two_power (G : Gs P w K mg) : CP P w K mg base 1 "is_two_power" 1 m_is_two_power := by
  obtain ⟨f, fd, F, hm⟩ := G.f_is_two_power.ex
  have S := sc_is_two_power
  exact cp_of (mu := []) F hm (F.bindsN fun _ _ _ _ _ _ us hl => match us, hl with | [_], _ => rfl) S  rfl (by decide) fun cdv A outer s H E hr => (zs_cons (z_wh PassesOwn.never (bm0 (b_cmp (od_eq (u64 hr)) (px_op od_mod (px_v 0) px_int) px_int)) (zs_one (z_set 0 S.nd (em0 (px_op od_div (px_v 0) px_int))))) (zs_one (z_rt (em0 (px_cmp (od_eq (u64 hr)) (px_v 0) px_int)))))
abbrev N_is_dot : List Str := ["thing"]
abbrev st_is_dot : Stmt := top 21
theorem sc_is_dot : FnScope N_is_dot ["thing"] (defScope st_is_dot) := C8.fnScope_by (by decide +kernel)
noncomputable def e_is_dot : Ex := (zRt (xAnd (xCall m_is_fraction (aLen 1 (aCons (xV 0) aNil))) (xAnd (xCh leD leD (xC (.int 0)) (x2 ixD (xV 0) (xC (.int 0))) (x2 ixD (xV 0) (xC (.int 1)))) (xCall m_is_two_power (aLen 1 (aCons (x2 ixD (xV 0) (xC (.int 1))) aNil))))))
noncomputable def m_is_dot : List Dt → Option Dt := runP 1 e_is_dot
theorem c_is_dot (G : Gs P w K mg) : CP P w K mg base 4 "is_dot" 1 m_is_dot := by
  obtain ⟨f, fd, F, hm⟩ := G.f_is_dot.ex
  have S := sc_is_dot
  exact cp_of (mu := []) F hm (F.bindsN fun _ _ _ _ _ _ us hl => match us, hl with | [_], _ => rfl) S  rfl (by decide) fun cdv A outer s H E hr => (zs_one (z_rt (em0 (px_and (px_call (c_is_fraction G) hr (ax_cons (px_v 0) ax_nil)) (px_and (px_ch od_le od_le px_int (px_ix (px_v 0) px_int) (px_ix (px_v 0) px_int)) (px_1 (px_call (c_is_two_power G) hr (ax_cons (px_ix (px_v 0) px_int) ax_nil))))))))
abbrev N_sure_dot : List Str := ["value", "own"]
abbrev st_sure_dot : Stmt := top 22
theorem sc_sure_dot : FnScope N_sure_dot ["value"] (defScope st_sure_dot) := C8.fnScope_by (by decide +kernel)
noncomputable def e_sure_dot : Ex := (zSeq (zSet 1 (xCall m_tupled (aLen 1 (aCons (xV 0) aNil)))) (zSeq (zIf (bNot (bV (xCall m_is_dot (aLen 1 (aCons (xV 1) aNil))))) zNo zNil) (zRt (xV 1))))
noncomputable def m_sure_dot : List Dt → Option Dt := runP 2 e_sure_dot
theorem c_sure_dot (G : Gs P w K mg) : CP P w K mg base 9 "sure_dot" 1 m_sure_dot := by
  obtain ⟨f, fd, F, hm⟩ := G.f_sure_dot.ex
  have S := sc_sure_dot
  exact cp_of (mu := []) F hm (F.bindsN fun _ _ _ _ _ _ us hl => match us, hl with | [_], _ => rfl) S  rfl (by decide) fun cdv A outer s H E hr => (zs_cons (z_set 1 S.nd (em0 (px_call (c_tupled G) hr (ax_cons (px_v 0) ax_nil)))) (zs_cons (z_if (bm0 (b_not (b_v (px_call (c_is_dot G) hr (ax_cons (px_v 1) ax_nil))))) zs_no zs_nil) (zs_one (z_rt (em0 (px_v 1))))))
abbrev N_sure_fraction : List Str := ["value", "own"]
abbrev st_sure_fraction : Stmt := top 23
theorem sc_sure_fraction : FnScope N_sure_fraction ["value"] (defScope st_sure_fraction) := C8.fnScope_by (by decide +kernel)
noncomputable def e_sure_fraction : Ex := (zSeq (zSet 1 (xCall m_tupled (aLen 1 (aCons (xV 0) aNil)))) (zSeq (zIf (bOr (bNot (bV (xCall m_is_fraction (aLen 1 (aCons (xV 1) aNil))))) (bNot (bV (xCh leD leD (xC (.int 0)) (x2 ixD (xV 1) (xC (.int 0))) (x2 ixD (xV 1) (xC (.int 1))))))) zNo zNil) (zRt (xV 1))))
noncomputable def m_sure_fraction : List Dt → Option Dt := runP 2 e_sure_fraction
theorem c_sure_fraction (G : Gs P w K mg) : CP P w K mg base 9 "sure_fraction" 1 m_sure_fraction := by
  obtain ⟨f, fd, F, hm⟩ := G.f_sure_fraction.ex
  have S := sc_sure_fraction
  exact cp_of (mu := []) F hm (F.bindsN fun _ _ _ _ _ _ us hl => match us, hl with | [_], _ => rfl) S  rfl (by decide) fun cdv A outer s H E hr => (zs_cons (z_set 1 S.nd (em0 (px_call (c_tupled G) hr (ax_cons (px_v 0) ax_nil)))) (zs_cons (z_if (bm0 (b_w (w_or (b_not (b_v (px_call (c_is_fraction G) hr (ax_cons (px_v 1) ax_nil)))) (w_or1 (b_not (b_ch od_le od_le px_int (px_ix (px_v 1) px_int) (px_ix (px_v 1) px_int))))))) zs_no zs_nil) (zs_one (z_rt (em0 (px_v 1))))))
abbrev N_is_less : List Str := ["one", "other"]
abbrev st_is_less : Stmt := top 24
theorem sc_is_less : FnScope N_is_less ["one", "other"] (defScope st_is_less) := C8.fnScope_by (by decide +kernel)
noncomputable def e_is_less : Ex := (zRt (x2 ltA (x2 mulI (x2 ixD (xV 0) (xC (.int 0))) (x2 ixD (xV 1) (xC (.int 1)))) (x2 mulI (x2 ixD (xV 1) (xC (.int 0))) (x2 ixD (xV 0) (xC (.int 1))))))
noncomputable def m_is_less : List Dt → Option Dt := runP 2 e_is_less
theorem c_is_less (G : Gs P w K mg) : CP P w K mg base 1 "is_less" 2 m_is_less := by
  obtain ⟨f, fd, F, hm⟩ := G.f_is_less.ex
  have S := sc_is_less
  exact cp_of (mu := []) F hm (F.bindsN fun _ _ _ _ _ _ us hl => match us, hl with | [_, _], _ => rfl) S  rfl (by decide) fun cdv A outer s H E hr => (zs_one (z_rt (em0 (px_cmp (od_ltA (u66 hr)) (px_op od_mul (px_ix (px_v 0) px_int) (px_ix (px_v 1) px_int)) (px_op od_mul (px_ix (px_v 1) px_int) (px_ix (px_v 0) px_int))))))
abbrev N_power_in : List Str := ["number", "found"]
abbrev st_power_in : Stmt := top 25
theorem sc_power_in : FnScope N_power_in ["number"] (defScope st_power_in) := C8.fnScope_by (by decide +kernel)
noncomputable def e_power_in : Ex := (zSeq (zSet 1 (xC (.int 0))) (zSeq (zWh (bV (x2 gtD (xV 0) (xC (.int 1)))) (zPar 0 1 (x2 divD (xV 0) (xC (.int 2))) (x2 addD (xV 1) (xC (.int 1))))) (zRt (xV 1))))
noncomputable def m_power_in : List Dt → Option Dt := runP 2 e_power_in
theorem c_power_in (G : Gs P w K mg) : CP P w K mg base 1 "power_in" 1 m_power_in := by
  obtain ⟨f, fd, F, hm⟩ := G.f_power_in.ex
  have S := sc_power_in
  exact cp_of (mu := []) F hm (F.bindsN fun _ _ _ _ _ _ us hl => match us, hl with | [_], _ => rfl) S  rfl (by decide) fun cdv A outer s H E hr => (zs_cons (z_set 1 S.nd (em0 px_int)) (zs_cons (z_wh PassesOwn.never (bm0 (b_cmp od_gt (px_v 0) px_int)) (zs_one (z_par 0 1 rfl S.nd (vm_d (em0 (px_op od_div (px_v 0) px_int))) (vm_d (em0 (px_op od_add (px_v 1) px_int)))))) (zs_one (z_rt (em0 (px_v 1))))))
abbrev N_dot_depth : List Str := ["dot"]
abbrev st_dot_depth : Stmt := top 26
theorem sc_dot_depth : FnScope N_dot_depth ["dot"] (defScope st_dot_depth) := C8.fnScope_by (by decide +kernel)
noncomputable def e_dot_depth : Ex := (zRt (xCall m_power_in (aLen 1 (aCons (x2 ixD (xCall m_sure_dot (aLen 1 (aCons (xV 0) aNil))) (xC (.int 1))) aNil))))
noncomputable def m_dot_depth : List Dt → Option Dt := runP 1 e_dot_depth
theorem c_dot_depth (G : Gs P w K mg) : CP P w K mg base 10 "dot_depth" 1 m_dot_depth := by
  obtain ⟨f, fd, F, hm⟩ := G.f_dot_depth.ex
  have S := sc_dot_depth
  exact cp_of (mu := []) F hm (F.bindsN fun _ _ _ _ _ _ us hl => match us, hl with | [_], _ => rfl) S  rfl (by decide) fun cdv A outer s H E hr => (zs_one (z_rt (em0 (px_call (c_power_in G) hr (ax_cons (px_ix (px_call (c_sure_dot G) hr (ax_cons (px_v 0) ax_nil)) px_int) ax_nil)))))
abbrev N_bits_in : List Str := ["number", "many", "place"]
abbrev st_bits_in : Stmt := top 27
theorem sc_bits_in : FnScope N_bits_in ["number", "many"] (defScope st_bits_in) := C8.fnScope_by (by decide +kernel)
noncomputable def e_bits_in : Ex := (zRt (xCall tupD (aCons (dN (nLc (nCall rg1 (aCons (xV 1) aNil)) (.nm 2) [2] bYes (x2 modD (x2 divD (xV 0) (xCall m_doubled (aLen 1 (aCons (x2 subD (x2 subD (xV 1) (xC (.int 1))) (xV 2)) aNil)))) (xC (.int 2))))) aNil)))
noncomputable def m_bits_in : List Dt → Option Dt := runP 3 e_bits_in
theorem c_bits_in (G : Gs P w K mg) : CP P w K mg base 2 "bits_in" 2 m_bits_in := by
  obtain ⟨f, fd, F, hm⟩ := G.f_bits_in.ex
  have S := sc_bits_in
  exact cp_of (mu := []) F hm (F.bindsN fun _ _ _ _ _ _ us hl => match us, hl with | [_, _], _ => rfl) S  rfl (by decide) fun cdv A outer s H E hr => (zs_one (z_rt (em0 (px_ty cd_tuple (ax_cons (px_n (pn_lc [("place", 2)] rfl S.nd (ix_r1 (ax_cons (px_v 1) ax_nil) G.range) (blkOk_by rfl) (fun _ _ _ _ _ => (gx_n 2 S.nd)) (fun _ _ _ _ _ => pts_yes) (fun _ _ _ _ _ => (px_op od_mod (px_op od_div (px_v 0) (px_call (c_doubled G) hr (ax_cons (px_op od_sub (px_op od_sub (px_v 1) px_int) (px_v 2)) ax_nil))) px_int)))) ax_nil) G.tuple))))
abbrev N_first_bits : List Str := ["fraction", "many", "own", "told"]
abbrev st_first_bits : Stmt := top 28
theorem sc_first_bits : FnScope N_first_bits ["fraction", "many"] (defScope st_first_bits) := C8.fnScope_by (by decide +kernel)
noncomputable def e_first_bits : Ex := (zSeq (zSet 2 (xCall m_sure_fraction (aLen 1 (aCons (xV 0) aNil)))) (zSeq (zSet 3 (xCall m_sure_number (aLen 3 (aCons (xV 1) (aCons (xC (.int 0)) (aCons (xC (.int 60)) aNil)))))) (zSeq (zIf (bV (x2 eqD (xV 2) (xC (.tuple [(.int 1), (.int 1)])))) zNo zNil) (zRt (xCall m_bits_in (aLen 2 (aCons (x2 divD (x2 mulI (x2 ixD (xV 2) (xC (.int 0))) (xCall m_doubled (aLen 1 (aCons (xV 3) aNil)))) (x2 ixD (xV 2) (xC (.int 1)))) (aCons (xV 3) aNil))))))))
noncomputable def m_first_bits : List Dt → Option Dt := runP 4 e_first_bits
theorem c_first_bits (G : Gs P w K mg) : CP P w K mg base 10 "first_bits" 2 m_first_bits := by
  obtain ⟨f, fd, F, hm⟩ := G.f_first_bits.ex
  have S := sc_first_bits
  exact cp_of (mu := []) F hm (F.bindsN fun _ _ _ _ _ _ us hl => match us, hl with | [_, _], _ => rfl) S  rfl (by decide) fun cdv A outer s H E hr => (zs_cons (z_set 2 S.nd (em0 (px_call (c_sure_fraction G) hr (ax_cons (px_v 0) ax_nil)))) (zs_cons (z_set 3 S.nd (em0 (px_call (c_sure_number G) hr (ax_cons (px_v 1) (ax_cons px_int (ax_cons (px_g G.c_MOST_BITS) ax_nil)))))) (zs_cons (z_if (bm0 (b_cmp (od_eq (u64 hr)) (px_v 2) (px_g G.c_WHOLE_END))) zs_no zs_nil) (zs_one (z_rt (em0 (px_call (c_bits_in G) hr (ax_cons (px_op od_div (px_op od_mul (px_ix (px_v 2) px_int) (px_call (c_doubled G) hr (ax_cons (px_v 3) ax_nil))) (px_ix (px_v 2) px_int)) (ax_cons (px_v 3) ax_nil)))))))))
abbrev N_stretch_parts : List Str := ["low", "high", "depth", "place", "goal", "found", "many"]
abbrev st_stretch_parts : Stmt := top 29
theorem sc_stretch_parts : FnScope N_stretch_parts ["low", "high"] (defScope st_stretch_parts) := C8.fnScope_by (by decide +kernel)
noncomputable def e_stretch_parts : Ex := (zSeq (zSet 2 (hE 5 (xCall maxD (aCons (xCall m_power_in (aLen 1 (aCons (x2 ixD (xV 0) (xC (.int 1))) aNil))) (aCons (xCall m_power_in (aLen 1 (aCons (x2 ixD (xV 1) (xC (.int 1))) aNil))) aNil))))) (zSeq (zPar 3 4 (hE 5 (x2 divD (x2 mulI (x2 ixD (xV 0) (xC (.int 0))) (xCall m_doubled (aLen 1 (aCons (xV 2) aNil)))) (x2 ixD (xV 0) (xC (.int 1))))) (hE 5 (x2 divD (x2 mulI (x2 ixD (xV 1) (xC (.int 0))) (xCall m_doubled (aLen 1 (aCons (xV 2) aNil)))) (x2 ixD (xV 1) (xC (.int 1)))))) (zSeq (zSetN 5 (hE 5 (nLst aNil))) (zSeq (zWh (hE 5 (bV (x2 ltA (xV 3) (xV 4)))) (zSeq (zSet 6 (hE 5 (xV 2))) (zSeq (zWh (hE 5 (bAnd (bV (x2 gtD (xV 6) (xC (.int 0)))) (bAnd (bV (x2 eqD (x2 modD (xV 3) (xCall m_doubled (aLen 1 (aCons (x2 addD (x2 subD (xV 2) (xV 6)) (xC (.int 1))) aNil)))) (xC (.int 0)))) (bV (x2 leD (x2 addD (xV 3) (xCall m_doubled (aLen 1 (aCons (x2 addD (x2 subD (xV 2) (xV 6)) (xC (.int 1))) aNil)))) (xV 4)))))) (zSet 6 (hE 5 (x2 subD (xV 6) (xC (.int 1)))))) (zSeq (zF (fxApp 5 (hE 5 (xCall m_bits_in (aLen 2 (aCons (x2 divD (xV 3) (xCall m_doubled (aLen 1 (aCons (x2 subD (xV 2) (xV 6)) aNil)))) (aCons (xV 6) aNil))))))) (zSet 3 (hE 5 (x2 addD (xV 3) (xCall m_doubled (aLen 1 (aCons (x2 subD (xV 2) (xV 6)) aNil)))))))))) (zRtM 5)))))
noncomputable def m_stretch_parts : List Dt → Option (List Dt) := runN 7 e_stretch_parts
theorem c_stretch_parts (G : Gs P w K mg) : CN P w K mg base 3 "stretch_parts" 2 m_stretch_parts := by
  obtain ⟨f, fd, F, hm⟩ := G.f_stretch_parts.ex
  have S := sc_stretch_parts
  exact cn_of (mu := [5]) F hm (F.bindsN fun _ _ _ _ _ _ us hl => match us, hl with | [_, _], _ => rfl) S  rfl (by decide) fun cdv A outer s H E hr => (zs_cons (z_set 2 S.nd (em_h 5 (em0 (px_b (cd_max rfl) (ax_cons (px_call (c_power_in G) hr (ax_cons (px_ix (px_v 0) px_int) ax_nil)) (ax_cons (px_call (c_power_in G) hr (ax_cons (px_ix (px_v 1) px_int) ax_nil)) ax_nil)) G.max)))) (zs_cons (z_par 3 4 rfl S.nd (vm_d (em_h 5 (em0 (px_op od_div (px_op od_mul (px_ix (px_v 0) px_int) (px_call (c_doubled G) hr (ax_cons (px_v 2) ax_nil))) (px_ix (px_v 0) px_int))))) (vm_d (em_h 5 (em0 (px_op od_div (px_op od_mul (px_ix (px_v 1) px_int) (px_call (c_doubled G) hr (ax_cons (px_v 2) ax_nil))) (px_ix (px_v 1) px_int)))))) (zs_cons (z_setN 5 S.nd (nm_h 5 (nm0 (pn_lst ax_nil)))) (zs_cons (z_wh PassesOwn.never (bm_h 5 (bm0 (b_cmp (od_ltA (u66 hr)) (px_v 3) (px_v 4)))) (zs_cons (z_set 6 S.nd (em_h 5 (em0 (px_v 2)))) (zs_cons (z_wh PassesOwn.never (bm_h 5 (bm0 (b_w (w_and (b_cmp od_gt (px_v 6) px_int) (w_and (b_cmp (od_eq (u64 hr)) (px_op od_mod (px_v 3) (px_call (c_doubled G) hr (ax_cons (px_op od_add (px_op od_sub (px_v 2) (px_v 6)) px_int) ax_nil))) px_int) (w_and1 (b_cmp od_le (px_op od_add (px_v 3) (px_call (c_doubled G) hr (ax_cons (px_op od_add (px_op od_sub (px_v 2) (px_v 6)) px_int) ax_nil))) (px_v 4)))))))) (zs_one (z_set 6 S.nd (em_h 5 (em0 (px_op od_sub (px_v 6) px_int)))))) (zs_cons (z_f (fx_app 5 (em_h 5 (em0 (px_call (c_bits_in G) hr (ax_cons (px_op od_div (px_v 3) (px_call (c_doubled G) hr (ax_cons (px_op od_sub (px_v 2) (px_v 6)) ax_nil))) (ax_cons (px_v 6) ax_nil))))))) (zs_one (z_set 3 S.nd (em_h 5 (em0 (px_op od_add (px_v 3) (px_call (c_doubled G) hr (ax_cons (px_op od_sub (px_v 2) (px_v 6)) ax_nil))))))))))) (zs_one (z_rtM 5 rfl))))))
abbrev N_sure_stretch : List Str := ["low", "high", "one", "other"]
abbrev st_sure_stretch : Stmt := top 30
theorem sc_sure_stretch : FnScope N_sure_stretch ["low", "high"] (defScope st_sure_stretch) := C8.fnScope_by (by decide +kernel)
noncomputable def e_sure_stretch : Ex := (zSeq (zPar 2 3 (xCall m_sure_dot (aLen 1 (aCons (xV 0) aNil))) (xCall m_sure_dot (aLen 1 (aCons (xV 1) aNil)))) (zSeq (zIf (bNot (bV (xCall m_is_less (aLen 2 (aCons (xV 2) (aCons (xV 3) aNil)))))) zNo zNil) (zRt (xTup (aCons (xV 2) (aCons (xV 3) aNil))))))
noncomputable def m_sure_stretch : List Dt → Option Dt := runP 4 e_sure_stretch
theorem c_sure_stretch (G : Gs P w K mg) : CP P w K mg base 10 "sure_stretch" 2 m_sure_stretch := by
  obtain ⟨f, fd, F, hm⟩ := G.f_sure_stretch.ex
  have S := sc_sure_stretch
  exact cp_of (mu := []) F hm (F.bindsN fun _ _ _ _ _ _ us hl => match us, hl with | [_, _], _ => rfl) S  rfl (by decide) fun cdv A outer s H E hr => (zs_cons (z_par 2 3 rfl S.nd (vm_d (em0 (px_call (c_sure_dot G) hr (ax_cons (px_v 0) ax_nil)))) (vm_d (em0 (px_call (c_sure_dot G) hr (ax_cons (px_v 1) ax_nil))))) (zs_cons (z_if (bm0 (b_not (b_v (px_call (c_is_less G) hr (ax_cons (px_v 2) (ax_cons (px_v 3) ax_nil)))))) zs_no zs_nil) (zs_one (z_rt (em0 (px_tup (ax_cons (px_v 2) (ax_cons (px_v 3) ax_nil))))))))
abbrev N_between_dots : List Str := ["low", "high", "one", "other"]
abbrev st_between_dots : Stmt := top 31
theorem sc_between_dots : FnScope N_between_dots ["low", "high"] (defScope st_between_dots) := C8.fnScope_by (by decide +kernel)
noncomputable def e_between_dots : Ex := (zSeq (zUn (.tp [(.nm 2), (.nm 3)]) (xCall m_sure_stretch (aLen 2 (aCons (xV 0) (aCons (xV 1) aNil))))) (zRt (xCall tupD (aCons (dN (nCall srtD (aCons (dN (nCall m_stretch_parts (aLen 2 (aCons (xV 2) (aCons (xV 3) aNil))))) aNil))) aNil))))
noncomputable def m_between_dots : List Dt → Option Dt := runP 4 e_between_dots
theorem c_between_dots (G : Gs P w K mg) : CP P w K mg base 11 "between_dots" 2 m_between_dots := by
  obtain ⟨f, fd, F, hm⟩ := G.f_between_dots.ex
  have S := sc_between_dots
  exact cp_of (mu := []) F hm (F.bindsN fun _ _ _ _ _ _ us hl => match us, hl with | [_, _], _ => rfl) S  rfl (by decide) fun cdv A outer s H E hr => (zs_cons (z_un (em0 (px_call (c_sure_stretch G) hr (ax_cons (px_v 0) (ax_cons (px_v 1) ax_nil)))) (gm_t rfl (gms_cons (gm_n 2 S.nd) (gms_cons (gm_n 3 S.nd) gms_nil)))) (zs_one (z_rt (em0 (px_ty cd_tuple (ax_cons (px_n (pn_b (cn_sorted (u66 hr)) (ax_cons (px_n (pn_call (c_stretch_parts G) hr (ax_cons (px_v 2) (ax_cons (px_v 3) ax_nil)))) ax_nil) G.sorted)) ax_nil) G.tuple)))))
abbrev N_can_cut_stretch : List Str := ["low", "high", "many", "one", "other"]
abbrev st_can_cut_stretch : Stmt := top 32
theorem sc_can_cut_stretch : FnScope N_can_cut_stretch ["low", "high", "many"] (defScope st_can_cut_stretch) := C8.fnScope_by (by decide +kernel)
noncomputable def e_can_cut_stretch : Ex := (zSeq (zUn (.tp [(.nm 3), (.nm 4)]) (xCall m_sure_stretch (aLen 2 (aCons (xV 0) (aCons (xV 1) aNil))))) (zRt (x2 geD (xCall m_sure_number (aLen 3 (aCons (xV 2) (aCons (xC (.int 0)) (aCons (xC (.int 1000000)) aNil))))) (xCall lenD (aCons (dN (nCall m_stretch_parts (aLen 2 (aCons (xV 3) (aCons (xV 4) aNil))))) aNil)))))
noncomputable def m_can_cut_stretch : List Dt → Option Dt := runP 5 e_can_cut_stretch
theorem c_can_cut_stretch (G : Gs P w K mg) : CP P w K mg base 11 "can_cut_stretch" 3 m_can_cut_stretch := by
  obtain ⟨f, fd, F, hm⟩ := G.f_can_cut_stretch.ex
  have S := sc_can_cut_stretch
  exact cp_of (mu := []) F hm (F.bindsN fun _ _ _ _ _ _ us hl => match us, hl with | [_, _, _], _ => rfl) S  rfl (by decide) fun cdv A outer s H E hr => (zs_cons (z_un (em0 (px_call (c_sure_stretch G) hr (ax_cons (px_v 0) (ax_cons (px_v 1) ax_nil)))) (gm_t rfl (gms_cons (gm_n 3 S.nd) (gms_cons (gm_n 4 S.nd) gms_nil)))) (zs_one (z_rt (em0 (px_cmp od_ge (px_call (c_sure_number G) hr (ax_cons (px_v 2) (ax_cons px_int (ax_cons (px_g G.c_MOST_MANY) ax_nil)))) (px_b cd_len (ax_cons (px_n (pn_call (c_stretch_parts G) hr (ax_cons (px_v 3) (ax_cons (px_v 4) ax_nil)))) ax_nil) G.len))))))
abbrev N_cut_in : List Str := ["low", "high", "many", "found", "last"]
abbrev st_cut_in : Stmt := top 33
theorem sc_cut_in : FnScope N_cut_in ["low", "high", "many"] (defScope st_cut_in) := C8.fnScope_by (by decide +kernel)
noncomputable def e_cut_in : Ex := (zSeq (zSetN 3 (hE 3 (nCall m_stretch_parts (aLen 2 (aCons (xV 0) (aCons (xV 1) aNil)))))) (zSeq (zWh (bV (x2 ltA (xCall lenD (aCons (xV 3) aNil)) (xV 2))) (zSeq (zSetF 4 (fxPop 3)) (zF (fxExt 3 (hE 3 (nLst (aCons (x2 addD (xV 4) (xTup (aCons (xC (.int 0)) aNil))) (aCons (x2 addD (xV 4) (xTup (aCons (xC (.int 1)) aNil))) aNil)))))))) (zRtM 3)))
noncomputable def m_cut_in : List Dt → Option (List Dt) := runN 5 e_cut_in
theorem c_cut_in (G : Gs P w K mg) : CN P w K mg base 4 "cut_in" 3 m_cut_in := by
  obtain ⟨f, fd, F, hm⟩ := G.f_cut_in.ex
  have S := sc_cut_in
  exact cn_of (mu := [3]) F hm (F.bindsN fun _ _ _ _ _ _ us hl => match us, hl with | [_, _, _], _ => rfl) S  rfl (by decide) fun cdv A outer s H E hr => (zs_cons (z_setN 3 S.nd (nm_h 3 (nm0 (pn_call (c_stretch_parts G) hr (ax_cons (px_v 0) (ax_cons (px_v 1) ax_nil)))))) (zs_cons (z_wh PassesOwn.never (bm_b 3 (by decide) (bm0 (b_cmp (od_ltA (u66 hr)) (px_b cd_len (ax_cons (px_v 3) ax_nil) G.len) (px_v 2)))) (zs_cons (z_setF 4 S.nd (fx_pop 3)) (zs_one (z_f (fx_ext 3 (nm_h 3 (nm0 (pn_lst (ax_cons (px_op od_add (px_v 4) (px_tup (ax_cons px_int ax_nil))) (ax_cons (px_op od_add (px_v 4) (px_tup (ax_cons px_int ax_nil))) ax_nil)))))))))) (zs_one (z_rtM 3 rfl))))
abbrev N_cut_stretch : List Str := ["low", "high", "many", "one", "other", "told"]
abbrev st_cut_stretch : Stmt := top 34
theorem sc_cut_stretch : FnScope N_cut_stretch ["low", "high", "many"] (defScope st_cut_stretch) := C8.fnScope_by (by decide +kernel)
noncomputable def e_cut_stretch : Ex := (zSeq (zUn (.tp [(.nm 3), (.nm 4)]) (xCall m_sure_stretch (aLen 2 (aCons (xV 0) (aCons (xV 1) aNil))))) (zSeq (zSet 5 (xCall m_sure_number (aLen 3 (aCons (xV 2) (aCons (xC (.int 0)) (aCons (xC (.int 60)) aNil)))))) (zSeq (zIf (bV (x2 ltA (xV 5) (xCall lenD (aCons (dN (nCall m_stretch_parts (aLen 2 (aCons (xV 3) (aCons (xV 4) aNil))))) aNil)))) zNo zNil) (zRt (xCall tupD (aCons (dN (nCall m_cut_in (aLen 3 (aCons (xV 3) (aCons (xV 4) (aCons (xV 5) aNil)))))) aNil))))))
noncomputable def m_cut_stretch : List Dt → Option Dt := runP 6 e_cut_stretch
theorem c_cut_stretch (G : Gs P w K mg) : CP P w K mg base 11 "cut_stretch" 3 m_cut_stretch := by
  obtain ⟨f, fd, F, hm⟩ := G.f_cut_stretch.ex
  have S := sc_cut_stretch
  exact cp_of (mu := []) F hm (F.bindsN fun _ _ _ _ _ _ us hl => match us, hl with | [_, _, _], _ => rfl) S  rfl (by decide) fun cdv A outer s H E hr => (zs_cons (z_un (em0 (px_call (c_sure_stretch G) hr (ax_cons (px_v 0) (ax_cons (px_v 1) ax_nil)))) (gm_t rfl (gms_cons (gm_n 3 S.nd) (gms_cons (gm_n 4 S.nd) gms_nil)))) (zs_cons (z_set 5 S.nd (em0 (px_call (c_sure_number G) hr (ax_cons (px_v 2) (ax_cons px_int (ax_cons px_int ax_nil)))))) (zs_cons (z_if (bm0 (b_cmp (od_ltA (u66 hr)) (px_v 5) (px_b cd_len (ax_cons (px_n (pn_call (c_stretch_parts G) hr (ax_cons (px_v 3) (ax_cons (px_v 4) ax_nil)))) ax_nil) G.len))) zs_no zs_nil) (zs_one (z_rt (em0 (px_ty cd_tuple (ax_cons (px_n (pn_call (c_cut_in G) hr (ax_cons (px_v 3) (ax_cons (px_v 4) (ax_cons (px_v 5) ax_nil))))) ax_nil) G.tuple)))))))
abbrev N_is_part : List Str := ["thing", "bit"]
abbrev st_is_part : Stmt := top 37
theorem sc_is_part : FnScope N_is_part ["thing"] (defScope st_is_part) := C8.fnScope_by (by decide +kernel)
noncomputable def e_is_part : Ex := (zRt (xAnd (xIsi "tuple" (xV 0)) (xCall allD (aCons (dN (nLc (nSeq (xV 0)) (.nm 1) [1] bYes (xAnd (xCall m_is_number (aLen 1 (aCons (xV 1) aNil))) (x2 inA (xV 1) (xTup (aCons (xC (.int 0)) (aCons (xC (.int 1)) aNil))))))) aNil))))
noncomputable def m_is_part : List Dt → Option Dt := runP 2 e_is_part
theorem c_is_part (G : Gs P w K mg) : CP P w K mg base 2 "is_part" 1 m_is_part := by
  obtain ⟨f, fd, F, hm⟩ := G.f_is_part.ex
  have S := sc_is_part
  exact cp_of (mu := []) F hm (F.bindsN fun _ _ _ _ _ _ us hl => match us, hl with | [_], _ => rfl) S  rfl (by decide) fun cdv A outer s H E hr => (zs_one (z_rt (em0 (px_and (px_isi ot_tuple (px_v 0) G.isinstance G.tuple) (px_1 (px_b (cd_all rfl) (ax_cons (px_n (pn_lc [("bit", 1)] rfl S.nd (ix_seq (px_v 0)) (blkOk_by rfl) (fun _ _ _ _ _ => (gx_n 1 S.nd)) (fun _ _ _ _ _ => pts_yes) (fun _ _ _ _ _ => (px_and (px_call (c_is_number G) hr (ax_cons (px_v 1) ax_nil)) (px_1 (px_cmp (od_inA (u66 hr)) (px_v 1) (px_tup (ax_cons px_int (ax_cons px_int ax_nil))))))))) ax_nil) G.all))))))
abbrev N_sure_part : List Str := ["value", "own"]
abbrev st_sure_part : Stmt := top 38
theorem sc_sure_part : FnScope N_sure_part ["value"] (defScope st_sure_part) := C8.fnScope_by (by decide +kernel)
noncomputable def e_sure_part : Ex := (zSeq (zSet 1 (xCall m_tupled (aLen 1 (aCons (xV 0) aNil)))) (zSeq (zIf (bNot (bV (xCall m_is_part (aLen 1 (aCons (xV 1) aNil))))) zNo zNil) (zRt (xV 1))))
noncomputable def m_sure_part : List Dt → Option Dt := runP 2 e_sure_part
theorem c_sure_part (G : Gs P w K mg) : CP P w K mg base 9 "sure_part" 1 m_sure_part := by
  obtain ⟨f, fd, F, hm⟩ := G.f_sure_part.ex
  have S := sc_sure_part
  exact cp_of (mu := []) F hm (F.bindsN fun _ _ _ _ _ _ us hl => match us, hl with | [_], _ => rfl) S  rfl (by decide) fun cdv A outer s H E hr => (zs_cons (z_set 1 S.nd (em0 (px_call (c_tupled G) hr (ax_cons (px_v 0) ax_nil)))) (zs_cons (z_if (bm0 (b_not (b_v (px_call (c_is_part G) hr (ax_cons (px_v 1) ax_nil))))) zs_no zs_nil) (zs_one (z_rt (em0 (px_v 1))))))
abbrev N_lies_in : List Str := ["part", "other"]
abbrev st_lies_in : Stmt := top 39
theorem sc_lies_in : FnScope N_lies_in ["part", "other"] (defScope st_lies_in) := C8.fnScope_by (by decide +kernel)
noncomputable def e_lies_in : Ex := (zRt (x2 eqD (xSl slD (xV 0) oNo (oSo (xCall lenD (aCons (xV 1) aNil)))) (xV 1)))
noncomputable def m_lies_in : List Dt → Option Dt := runP 2 e_lies_in
theorem c_lies_in (G : Gs P w K mg) : CP P w K mg base 1 "lies_in" 2 m_lies_in := by
  obtain ⟨f, fd, F, hm⟩ := G.f_lies_in.ex
  have S := sc_lies_in
  exact cp_of (mu := []) F hm (F.bindsN fun _ _ _ _ _ _ us hl => match us, hl with | [_, _], _ => rfl) S  rfl (by decide) fun cdv A outer s H E hr => (zs_one (z_rt (em0 (px_cmp (od_eq (u64 hr)) (px_sl (px_v 0) ox_no (ox_so (px_b cd_len (ax_cons (px_v 1) ax_nil) G.len))) (px_v 1)))))
abbrev N_meet : List Str := ["part", "other"]
abbrev st_meet : Stmt := top 40
theorem sc_meet : FnScope N_meet ["part", "other"] (defScope st_meet) := C8.fnScope_by (by decide +kernel)
noncomputable def e_meet : Ex := (zRt (xOr (xCall m_lies_in (aLen 2 (aCons (xV 0) (aCons (xV 1) aNil)))) (xCall m_lies_in (aLen 2 (aCons (xV 1) (aCons (xV 0) aNil))))))
noncomputable def m_meet : List Dt → Option Dt := runP 2 e_meet
theorem c_meet (G : Gs P w K mg) : CP P w K mg base 2 "meet" 2 m_meet := by
  obtain ⟨f, fd, F, hm⟩ := G.f_meet.ex
  have S := sc_meet
  exact cp_of (mu := []) F hm (F.bindsN fun _ _ _ _ _ _ us hl => match us, hl with | [_, _], _ => rfl) S  rfl (by decide) fun cdv A outer s H E hr => (zs_one (z_rt (em0 (px_or (px_call (c_lies_in G) hr (ax_cons (px_v 0) (ax_cons (px_v 1) ax_nil))) (px_1 (px_call (c_lies_in G) hr (ax_cons (px_v 1) (ax_cons (px_v 0) ax_nil))))))))
abbrev N_worth_in : List Str := ["part", "found", "bit"]
abbrev st_worth_in : Stmt := top 41
theorem sc_worth_in : FnScope N_worth_in ["part"] (defScope st_worth_in) := C8.fnScope_by (by decide +kernel)
noncomputable def e_worth_in : Ex := (zSeq (zSet 1 (xC (.int 0))) (zSeq (zFor (nSeq (xV 0)) (.nm 2) (zSet 1 (x2 addD (x2 mulI (xC (.int 2)) (xV 1)) (xV 2)))) (zRt (xV 1))))
noncomputable def m_worth_in : List Dt → Option Dt := runP 3 e_worth_in
theorem c_worth_in (G : Gs P w K mg) : CP P w K mg base 1 "worth_in" 1 m_worth_in := by
  obtain ⟨f, fd, F, hm⟩ := G.f_worth_in.ex
  have S := sc_worth_in
  exact cp_of (mu := []) F hm (F.bindsN fun _ _ _ _ _ _ us hl => match us, hl with | [_], _ => rfl) S  rfl (by decide) fun cdv A outer s H E hr => (zs_cons (z_set 1 S.nd (em0 px_int)) (zs_cons (z_for PassesOwn.never rfl (im0 (ix_seq (px_v 0))) (gm_n 2 S.nd) (zs_one (z_set 1 S.nd (em0 (px_op od_add (px_op od_mul px_int (px_v 1)) (px_v 2)))))) (zs_one (z_rt (em0 (px_v 1))))))
abbrev N_begin_in : List Str := ["part"]
abbrev st_begin_in : Stmt := top 42
theorem sc_begin_in : FnScope N_begin_in ["part"] (defScope st_begin_in) := C8.fnScope_by (by decide +kernel)
noncomputable def e_begin_in : Ex := (zRt (xCall m_made (aLen 2 (aCons (xCall m_worth_in (aLen 1 (aCons (xV 0) aNil))) (aCons (xCall m_doubled (aLen 1 (aCons (xCall lenD (aCons (xV 0) aNil)) aNil))) aNil)))))
noncomputable def m_begin_in : List Dt → Option Dt := runP 1 e_begin_in
theorem c_begin_in (G : Gs P w K mg) : CP P w K mg base 3 "begin_in" 1 m_begin_in := by
  obtain ⟨f, fd, F, hm⟩ := G.f_begin_in.ex
  have S := sc_begin_in
  exact cp_of (mu := []) F hm (F.bindsN fun _ _ _ _ _ _ us hl => match us, hl with | [_], _ => rfl) S  rfl (by decide) fun cdv A outer s H E hr => (zs_one (z_rt (em0 (px_call (c_made G) hr (ax_cons (px_call (c_worth_in G) hr (ax_cons (px_v 0) ax_nil)) (ax_cons (px_call (c_doubled G) hr (ax_cons (px_b cd_len (ax_cons (px_v 0) ax_nil) G.len) ax_nil)) ax_nil))))))
abbrev N_end_in : List Str := ["part"]
abbrev st_end_in : Stmt := top 43
theorem sc_end_in : FnScope N_end_in ["part"] (defScope st_end_in) := C8.fnScope_by (by decide +kernel)
noncomputable def e_end_in : Ex := (zRt (xCall m_made (aLen 2 (aCons (x2 addD (xCall m_worth_in (aLen 1 (aCons (xV 0) aNil))) (xC (.int 1))) (aCons (xCall m_doubled (aLen 1 (aCons (xCall lenD (aCons (xV 0) aNil)) aNil))) aNil)))))
noncomputable def m_end_in : List Dt → Option Dt := runP 1 e_end_in
theorem c_end_in (G : Gs P w K mg) : CP P w K mg base 3 "end_in" 1 m_end_in := by
  obtain ⟨f, fd, F, hm⟩ := G.f_end_in.ex
  have S := sc_end_in
  exact cp_of (mu := []) F hm (F.bindsN fun _ _ _ _ _ _ us hl => match us, hl with | [_], _ => rfl) S  rfl (by decide) fun cdv A outer s H E hr => (zs_one (z_rt (em0 (px_call (c_made G) hr (ax_cons (px_op od_add (px_call (c_worth_in G) hr (ax_cons (px_v 0) ax_nil)) px_int) (ax_cons (px_call (c_doubled G) hr (ax_cons (px_b cd_len (ax_cons (px_v 0) ax_nil) G.len) ax_nil)) ax_nil))))))
abbrev N_part_begin : List Str := ["part"]
abbrev st_part_begin : Stmt := top 44
theorem sc_part_begin : FnScope N_part_begin ["part"] (defScope st_part_begin) := C8.fnScope_by (by decide +kernel)
noncomputable def e_part_begin : Ex := (zRt (xCall m_begin_in (aLen 1 (aCons (xCall m_sure_part (aLen 1 (aCons (xV 0) aNil))) aNil))))
noncomputable def m_part_begin : List Dt → Option Dt := runP 1 e_part_begin
theorem c_part_begin (G : Gs P w K mg) : CP P w K mg base 10 "part_begin" 1 m_part_begin := by
  obtain ⟨f, fd, F, hm⟩ := G.f_part_begin.ex
  have S := sc_part_begin
  exact cp_of (mu := []) F hm (F.bindsN fun _ _ _ _ _ _ us hl => match us, hl with | [_], _ => rfl) S  rfl (by decide) fun cdv A outer s H E hr => (zs_one (z_rt (em0 (px_call (c_begin_in G) hr (ax_cons (px_call (c_sure_part G) hr (ax_cons (px_v 0) ax_nil)) ax_nil)))))
abbrev N_part_end : List Str := ["part"]
abbrev st_part_end : Stmt := top 45
theorem sc_part_end : FnScope N_part_end ["part"] (defScope st_part_end) := C8.fnScope_by (by decide +kernel)
noncomputable def e_part_end : Ex := (zRt (xCall m_end_in (aLen 1 (aCons (xCall m_sure_part (aLen 1 (aCons (xV 0) aNil))) aNil))))
noncomputable def m_part_end : List Dt → Option Dt := runP 1 e_part_end
theorem c_part_end (G : Gs P w K mg) : CP P w K mg base 10 "part_end" 1 m_part_end := by
  obtain ⟨f, fd, F, hm⟩ := G.f_part_end.ex
  have S := sc_part_end
  exact cp_of (mu := []) F hm (F.bindsN fun _ _ _ _ _ _ us hl => match us, hl with | [_], _ => rfl) S  rfl (by decide) fun cdv A outer s H E hr => (zs_one (z_rt (em0 (px_call (c_end_in G) hr (ax_cons (px_call (c_sure_part G) hr (ax_cons (px_v 0) ax_nil)) ax_nil)))))
abbrev N_part_middle : List Str := ["part"]
abbrev st_part_middle : Stmt := top 46
theorem sc_part_middle : FnScope N_part_middle ["part"] (defScope st_part_middle) := C8.fnScope_by (by decide +kernel)
noncomputable def e_part_middle : Ex := (zRt (xCall m_end_in (aLen 1 (aCons (x2 addD (xCall m_sure_part (aLen 1 (aCons (xV 0) aNil))) (xTup (aCons (xC (.int 0)) aNil))) aNil))))
noncomputable def m_part_middle : List Dt → Option Dt := runP 1 e_part_middle
theorem c_part_middle (G : Gs P w K mg) : CP P w K mg base 10 "part_middle" 1 m_part_middle := by
  obtain ⟨f, fd, F, hm⟩ := G.f_part_middle.ex
  have S := sc_part_middle
  exact cp_of (mu := []) F hm (F.bindsN fun _ _ _ _ _ _ us hl => match us, hl with | [_], _ => rfl) S  rfl (by decide) fun cdv A outer s H E hr => (zs_one (z_rt (em0 (px_call (c_end_in G) hr (ax_cons (px_op od_add (px_call (c_sure_part G) hr (ax_cons (px_v 0) ax_nil)) (px_tup (ax_cons px_int ax_nil))) ax_nil)))))
abbrev N_halves_of : List Str := ["part", "own"]
abbrev st_halves_of : Stmt := top 47
theorem sc_halves_of : FnScope N_halves_of ["part"] (defScope st_halves_of) := C8.fnScope_by (by decide +kernel)
noncomputable def e_halves_of : Ex := (zSeq (zSet 1 (xCall m_sure_part (aLen 1 (aCons (xV 0) aNil)))) (zRt (xTup (aCons (x2 addD (xV 1) (xTup (aCons (xC (.int 0)) aNil))) (aCons (x2 addD (xV 1) (xTup (aCons (xC (.int 1)) aNil))) aNil)))))
noncomputable def m_halves_of : List Dt → Option Dt := runP 2 e_halves_of
theorem c_halves_of (G : Gs P w K mg) : CP P w K mg base 10 "halves_of" 1 m_halves_of := by
  obtain ⟨f, fd, F, hm⟩ := G.f_halves_of.ex
  have S := sc_halves_of
  exact cp_of (mu := []) F hm (F.bindsN fun _ _ _ _ _ _ us hl => match us, hl with | [_], _ => rfl) S  rfl (by decide) fun cdv A outer s H E hr => (zs_cons (z_set 1 S.nd (em0 (px_call (c_sure_part G) hr (ax_cons (px_v 0) ax_nil)))) (zs_one (z_rt (em0 (px_tup (ax_cons (px_op od_add (px_v 1) (px_tup (ax_cons px_int ax_nil))) (ax_cons (px_op od_add (px_v 1) (px_tup (ax_cons px_int ax_nil))) ax_nil)))))))
abbrev N_mate_of : List Str := ["part", "own"]
abbrev st_mate_of : Stmt := top 48
theorem sc_mate_of : FnScope N_mate_of ["part"] (defScope st_mate_of) := C8.fnScope_by (by decide +kernel)
noncomputable def e_mate_of : Ex := (zSeq (zSet 1 (xCall m_sure_part (aLen 1 (aCons (xV 0) aNil)))) (zSeq (zIf (bV (x2 eqD (xV 1) (xTup aNil))) zNo zNil) (zRt (x2 addD (xSl slD (xV 1) oNo (oSo (x1 negD (xC (.int 1))))) (xTup (aCons (x2 subD (xC (.int 1)) (x2 ixD (xV 1) (x1 negD (xC (.int 1))))) aNil))))))
noncomputable def m_mate_of : List Dt → Option Dt := runP 2 e_mate_of
theorem c_mate_of (G : Gs P w K mg) : CP P w K mg base 10 "mate_of" 1 m_mate_of := by
  obtain ⟨f, fd, F, hm⟩ := G.f_mate_of.ex
  have S := sc_mate_of
  exact cp_of (mu := []) F hm (F.bindsN fun _ _ _ _ _ _ us hl => match us, hl with | [_], _ => rfl) S  rfl (by decide) fun cdv A outer s H E hr => (zs_cons (z_set 1 S.nd (em0 (px_call (c_sure_part G) hr (ax_cons (px_v 0) ax_nil)))) (zs_cons (z_if (bm0 (b_cmp (od_eq (u64 hr)) (px_v 1) (px_tup ax_nil))) zs_no zs_nil) (zs_one (z_rt (em0 (px_op od_add (px_sl (px_v 1) ox_no (ox_so (px_un ud_neg px_int))) (px_tup (ax_cons (px_op od_sub px_int (px_ix (px_v 1) (px_un ud_neg px_int))) ax_nil))))))))
abbrev N_is_part_within : List Str := ["part", "other", "own"]
abbrev st_is_part_within : Stmt := top 49
theorem sc_is_part_within : FnScope N_is_part_within ["part", "other"] (defScope st_is_part_within) := C8.fnScope_by (by decide +kernel)
noncomputable def e_is_part_within : Ex := (zSeq (zSet 2 (xCall m_sure_part (aLen 1 (aCons (xV 0) aNil)))) (zRt (xCall m_lies_in (aLen 2 (aCons (xV 2) (aCons (xCall m_sure_part (aLen 1 (aCons (xV 1) aNil))) aNil))))))
noncomputable def m_is_part_within : List Dt → Option Dt := runP 3 e_is_part_within
theorem c_is_part_within (G : Gs P w K mg) : CP P w K mg base 10 "is_part_within" 2 m_is_part_within := by
  obtain ⟨f, fd, F, hm⟩ := G.f_is_part_within.ex
  have S := sc_is_part_within
  exact cp_of (mu := []) F hm (F.bindsN fun _ _ _ _ _ _ us hl => match us, hl with | [_, _], _ => rfl) S  rfl (by decide) fun cdv A outer s H E hr => (zs_cons (z_set 2 S.nd (em0 (px_call (c_sure_part G) hr (ax_cons (px_v 0) ax_nil)))) (zs_one (z_rt (em0 (px_call (c_lies_in G) hr (ax_cons (px_v 2) (ax_cons (px_call (c_sure_part G) hr (ax_cons (px_v 1) ax_nil)) ax_nil)))))))
abbrev N_are_parts_apart : List Str := ["part", "other", "own"]
abbrev st_are_parts_apart : Stmt := top 50
theorem sc_are_parts_apart : FnScope N_are_parts_apart ["part", "other"] (defScope st_are_parts_apart) := C8.fnScope_by (by decide +kernel)
noncomputable def e_are_parts_apart : Ex := (zSeq (zSet 2 (xCall m_sure_part (aLen 1 (aCons (xV 0) aNil)))) (zRt (xNot (xCall m_meet (aLen 2 (aCons (xV 2) (aCons (xCall m_sure_part (aLen 1 (aCons (xV 1) aNil))) aNil)))))))
noncomputable def m_are_parts_apart : List Dt → Option Dt := runP 3 e_are_parts_apart
theorem c_are_parts_apart (G : Gs P w K mg) : CP P w K mg base 10 "are_parts_apart" 2 m_are_parts_apart := by
  obtain ⟨f, fd, F, hm⟩ := G.f_are_parts_apart.ex
  have S := sc_are_parts_apart
  exact cp_of (mu := []) F hm (F.bindsN fun _ _ _ _ _ _ us hl => match us, hl with | [_, _], _ => rfl) S  rfl (by decide) fun cdv A outer s H E hr => (zs_cons (z_set 2 S.nd (em0 (px_call (c_sure_part G) hr (ax_cons (px_v 0) ax_nil)))) (zs_one (z_rt (em0 (px_not (px_call (c_meet G) hr (ax_cons (px_v 2) (ax_cons (px_call (c_sure_part G) hr (ax_cons (px_v 1) ax_nil)) ax_nil))))))))
abbrev N_common_in : List Str := ["part", "other", "many"]
abbrev st_common_in : Stmt := top 51
theorem sc_common_in : FnScope N_common_in ["part", "other"] (defScope st_common_in) := C8.fnScope_by (by decide +kernel)
noncomputable def e_common_in : Ex := (zSeq (zSet 2 (xC (.int 0))) (zSeq (zWh (bAnd (bV (x2 ltA (xV 2) (xCall minD (aCons (xCall lenD (aCons (xV 0) aNil)) (aCons (xCall lenD (aCons (xV 1) aNil)) aNil))))) (bV (x2 eqD (x2 ixD (xV 0) (xV 2)) (x2 ixD (xV 1) (xV 2))))) (zAug 2 (onII cYes fun i j => .int (i + j)) (xC (.int 1)))) (zRt (xSl slD (xV 0) oNo (oSo (xV 2))))))
noncomputable def m_common_in : List Dt → Option Dt := runP 3 e_common_in
theorem c_common_in (G : Gs P w K mg) : CP P w K mg base 1 "common_in" 2 m_common_in := by
  obtain ⟨f, fd, F, hm⟩ := G.f_common_in.ex
  have S := sc_common_in
  exact cp_of (mu := []) F hm (F.bindsN fun _ _ _ _ _ _ us hl => match us, hl with | [_, _], _ => rfl) S  rfl (by decide) fun cdv A outer s H E hr => (zs_cons (z_set 2 S.nd (em0 px_int)) (zs_cons (z_wh PassesOwn.never (bm0 (b_w (w_and (b_cmp (od_ltA (u66 hr)) (px_v 2) (px_b (cd_min rfl) (ax_cons (px_b cd_len (ax_cons (px_v 0) ax_nil) G.len) (ax_cons (px_b cd_len (ax_cons (px_v 1) ax_nil) G.len) ax_nil)) G.min)) (w_and1 (b_cmp (od_eq (u64 hr)) (px_ix (px_v 0) (px_v 2)) (px_ix (px_v 1) (px_v 2))))))) (zs_one (z_aug 2 S.nd ip_addD (em0 px_int)))) (zs_one (z_rt (em0 (px_sl (px_v 0) ox_no (ox_so (px_v 2))))))))
abbrev N_common_part : List Str := ["part", "other", "own"]
abbrev st_common_part : Stmt := top 52
theorem sc_common_part : FnScope N_common_part ["part", "other"] (defScope st_common_part) := C8.fnScope_by (by decide +kernel)
noncomputable def e_common_part : Ex := (zSeq (zSet 2 (xCall m_sure_part (aLen 1 (aCons (xV 0) aNil)))) (zRt (xCall m_common_in (aLen 2 (aCons (xV 2) (aCons (xCall m_sure_part (aLen 1 (aCons (xV 1) aNil))) aNil))))))
noncomputable def m_common_part : List Dt → Option Dt := runP 3 e_common_part
theorem c_common_part (G : Gs P w K mg) : CP P w K mg base 10 "common_part" 2 m_common_part := by
  obtain ⟨f, fd, F, hm⟩ := G.f_common_part.ex
  have S := sc_common_part
  exact cp_of (mu := []) F hm (F.bindsN fun _ _ _ _ _ _ us hl => match us, hl with | [_, _], _ => rfl) S  rfl (by decide) fun cdv A outer s H E hr => (zs_cons (z_set 2 S.nd (em0 (px_call (c_sure_part G) hr (ax_cons (px_v 0) ax_nil)))) (zs_one (z_rt (em0 (px_call (c_common_in G) hr (ax_cons (px_v 2) (ax_cons (px_call (c_sure_part G) hr (ax_cons (px_v 1) ax_nil)) ax_nil)))))))
abbrev N_parts_so_long : List Str := ["many", "told", "number"]
abbrev st_parts_so_long : Stmt := top 53
theorem sc_parts_so_long : FnScope N_parts_so_long ["many"] (defScope st_parts_so_long) := C8.fnScope_by (by decide +kernel)
noncomputable def e_parts_so_long : Ex := (zSeq (zSet 1 (xCall m_sure_number (aLen 3 (aCons (xV 0) (aCons (xC (.int 0)) (aCons (xC (.int 10)) aNil)))))) (zRt (dN (nLc (nCall rg1 (aCons (xCall m_doubled (aLen 1 (aCons (xV 1) aNil))) aNil)) (.nm 2) [2] bYes (xCall m_bits_in (aLen 2 (aCons (xV 2) (aCons (xV 1) aNil))))))))
noncomputable def m_parts_so_long : List Dt → Option Dt := runP 3 e_parts_so_long
theorem c_parts_so_long (G : Gs P w K mg) : CP P w K mg base 4 "parts_so_long" 1 m_parts_so_long := by
  obtain ⟨f, fd, F, hm⟩ := G.f_parts_so_long.ex
  have S := sc_parts_so_long
  exact cp_of (mu := []) F hm (F.bindsN fun _ _ _ _ _ _ us hl => match us, hl with | [_], _ => rfl) S  rfl (by decide) fun cdv A outer s H E hr => (zs_cons (z_set 1 S.nd (em0 (px_call (c_sure_number G) hr (ax_cons (px_v 0) (ax_cons px_int (ax_cons (px_g G.c_MOST_LENGTH) ax_nil)))))) (zs_one (z_rt (em0 (px_n (pn_lc [("number", 2)] rfl S.nd (ix_r1 (ax_cons (px_call (c_doubled G) hr (ax_cons (px_v 1) ax_nil)) ax_nil) G.range) (blkOk_by rfl) (fun _ _ _ _ _ => (gx_n 2 S.nd)) (fun _ _ _ _ _ => pts_yes) (fun _ _ _ _ _ => (px_call (c_bits_in G) hr (ax_cons (px_v 2) (ax_cons (px_v 1) ax_nil))))))))))
abbrev N_part_number : List Str := ["part", "own"]
abbrev st_part_number : Stmt := top 54
theorem sc_part_number : FnScope N_part_number ["part"] (defScope st_part_number) := C8.fnScope_by (by decide +kernel)
noncomputable def e_part_number : Ex := (zSeq (zSet 1 (xCall m_sure_part (aLen 1 (aCons (xV 0) aNil)))) (zRt (x2 addD (x2 subD (xCall m_doubled (aLen 1 (aCons (xCall lenD (aCons (xV 1) aNil)) aNil))) (xC (.int 1))) (xCall m_worth_in (aLen 1 (aCons (xV 1) aNil))))))
noncomputable def m_part_number : List Dt → Option Dt := runP 2 e_part_number
theorem c_part_number (G : Gs P w K mg) : CP P w K mg base 10 "part_number" 1 m_part_number := by
  obtain ⟨f, fd, F, hm⟩ := G.f_part_number.ex
  have S := sc_part_number
  exact cp_of (mu := []) F hm (F.bindsN fun _ _ _ _ _ _ us hl => match us, hl with | [_], _ => rfl) S  rfl (by decide) fun cdv A outer s H E hr => (zs_cons (z_set 1 S.nd (em0 (px_call (c_sure_part G) hr (ax_cons (px_v 0) ax_nil)))) (zs_one (z_rt (em0 (px_op od_add (px_op od_sub (px_call (c_doubled G) hr (ax_cons (px_b cd_len (ax_cons (px_v 1) ax_nil) G.len) ax_nil)) px_int) (px_call (c_worth_in G) hr (ax_cons (px_v 1) ax_nil)))))))
abbrev N_part_at : List Str := ["number", "many"]
abbrev st_part_at : Stmt := top 55
theorem sc_part_at : FnScope N_part_at ["number"] (defScope st_part_at) := C8.fnScope_by (by decide +kernel)
noncomputable def e_part_at : Ex := (zSeq (zIf (bNot (bV (xCall m_is_from (aLen 2 (aCons (xV 0) (aCons (xC (.int 0)) aNil)))))) zNo zNil) (zSeq (zSet 1 (xC (.int 0))) (zSeq (zWh (bV (x2 leD (x2 subD (xCall m_doubled (aLen 1 (aCons (x2 addD (xV 1) (xC (.int 1))) aNil))) (xC (.int 1))) (xV 0))) (zAug 1 (onII cYes fun i j => .int (i + j)) (xC (.int 1)))) (zRt (xCall m_bits_in (aLen 2 (aCons (x2 addD (x2 subD (xV 0) (xCall m_doubled (aLen 1 (aCons (xV 1) aNil)))) (xC (.int 1))) (aCons (xV 1) aNil))))))))
noncomputable def m_part_at : List Dt → Option Dt := runP 2 e_part_at
theorem c_part_at (G : Gs P w K mg) : CP P w K mg base 3 "part_at" 1 m_part_at := by
  obtain ⟨f, fd, F, hm⟩ := G.f_part_at.ex
  have S := sc_part_at
  exact cp_of (mu := []) F hm (F.bindsN fun _ _ _ _ _ _ us hl => match us, hl with | [_], _ => rfl) S  rfl (by decide) fun cdv A outer s H E hr => (zs_cons (z_if (bm0 (b_not (b_v (px_call (c_is_from G) hr (ax_cons (px_v 0) (ax_cons px_int ax_nil)))))) zs_no zs_nil) (zs_cons (z_set 1 S.nd (em0 px_int)) (zs_cons (z_wh PassesOwn.never (bm0 (b_cmp od_le (px_op od_sub (px_call (c_doubled G) hr (ax_cons (px_op od_add (px_v 1) px_int) ax_nil)) px_int) (px_v 0))) (zs_one (z_aug 1 S.nd ip_addD (em0 px_int)))) (zs_one (z_rt (em0 (px_call (c_bits_in G) hr (ax_cons (px_op od_add (px_op od_sub (px_v 0) (px_call (c_doubled G) hr (ax_cons (px_v 1) ax_nil))) px_int) (ax_cons (px_v 1) ax_nil)))))))))
abbrev N_fills : List Str := ["parts", "waits", "part", "own"]
abbrev st_fills : Stmt := top 57
theorem sc_fills : FnScope N_fills ["parts"] (defScope st_fills) := C8.fnScope_by (by decide +kernel)
noncomputable def e_fills : Ex := (zSeq (zSetN 1 (hE 1 (nLst (aCons (xTup aNil) aNil)))) (zSeq (zFor (hE 1 (nSeq (xV 0))) (.nm 2) (zSeq (zWh (bAnd (bV (x2 neD (xV 1) (dN (nLst aNil)))) (bAnd (bV (x2 neD (x2 ixD (xV 1) (x1 negD (xC (.int 1)))) (xV 2))) (bV (xCall m_lies_in (aLen 2 (aCons (xV 2) (aCons (x2 ixD (xV 1) (x1 negD (xC (.int 1)))) aNil))))))) (zSeq (zSetF 3 (fxPop 1)) (zF (fxExt 1 (hE 1 (nLst (aCons (x2 addD (xV 3) (xTup (aCons (xC (.int 1)) aNil))) (aCons (x2 addD (xV 3) (xTup (aCons (xC (.int 0)) aNil))) aNil)))))))) (zSeq (zIf (bOr (bV (x2 eqD (xV 1) (dN (nLst aNil)))) (bV (x2 neD (x2 ixD (xV 1) (x1 negD (xC (.int 1)))) (xV 2)))) (zRt (hE 1 (xC (.bool false)))) zNil) (zF (fxPop 1))))) (zRt (lE 1 (x2 eqD (xV 1) (dN (nLst aNil)))))))
noncomputable def m_fills : List Dt → Option Dt := runP 4 e_fills
theorem c_fills (G : Gs P w K mg) : CP P w K mg base 2 "fills" 1 m_fills := by
  obtain ⟨f, fd, F, hm⟩ := G.f_fills.ex
  have S := sc_fills
  exact cp_of (mu := [1]) F hm (F.bindsN fun _ _ _ _ _ _ us hl => match us, hl with | [_], _ => rfl) S  rfl (by decide) fun cdv A outer s H E hr => (zs_cons (z_setN 1 S.nd (nm_h 1 (nm0 (pn_lst (ax_cons (px_tup ax_nil) ax_nil))))) (zs_cons (z_for PassesOwn.never rfl (im_h 1 (im0 (ix_seq (px_v 0)))) (gm_n 2 S.nd) (zs_cons (z_wh PassesOwn.never (bm_b 1 (by decide) (bm0 (b_w (w_and (b_cmp (od_ne (u64 hr)) (px_v 1) (px_n (pn_lst ax_nil))) (w_and (b_cmp (od_ne (u64 hr)) (px_ix (px_v 1) (px_un ud_neg px_int)) (px_v 2)) (w_and1 (b_v (px_call (c_lies_in G) hr (ax_cons (px_v 2) (ax_cons (px_ix (px_v 1) (px_un ud_neg px_int)) ax_nil)))))))))) (zs_cons (z_setF 3 S.nd (fx_pop 1)) (zs_one (z_f (fx_ext 1 (nm_h 1 (nm0 (pn_lst (ax_cons (px_op od_add (px_v 3) (px_tup (ax_cons px_int ax_nil))) (ax_cons (px_op od_add (px_v 3) (px_tup (ax_cons px_int ax_nil))) ax_nil)))))))))) (zs_cons (z_if (bm_b 1 (by decide) (bm0 (b_w (w_or (b_cmp (od_eq (u64 hr)) (px_v 1) (px_n (pn_lst ax_nil))) (w_or1 (b_cmp (od_ne (u64 hr)) (px_ix (px_v 1) (px_un ud_neg px_int)) (px_v 2))))))) (zs_one (z_rt (em_h 1 (em0 px_bl)))) zs_nil) (zs_one (z_f (fx_pop 1)))))) (zs_one (z_rt (em_b 1 (by decide) (em0 (px_cmp (od_eq (u64 hr)) (px_v 1) (px_n (pn_lst ax_nil)))))))))
abbrev N_is_cutting : List Str := ["thing", "own"]
abbrev st_is_cutting : Stmt := top 58
theorem sc_is_cutting : FnScope N_is_cutting ["thing"] (defScope st_is_cutting) := C8.fnScope_by (by decide +kernel)
noncomputable def e_is_cutting : Ex := (zSeq (zIf (bOr (bNot (bV (xIsi "tuple" (xV 0)))) (bOr (bV (x2 eqD (xV 0) (xTup aNil))) (bNot (bV (xCall allD (aCons (dN (nLc (nSeq (xV 0)) (.nm 1) [1] bYes (xCall m_is_part (aLen 1 (aCons (xV 1) aNil))))) aNil)))))) (zRt (xC (.bool false))) zNil) (zRt (xAnd (xCall m_ascends (aLen 1 (aCons (xV 0) aNil))) (xCall m_fills (aLen 1 (aCons (xV 0) aNil))))))
noncomputable def m_is_cutting : List Dt → Option Dt := runP 2 e_is_cutting
theorem c_is_cutting (G : Gs P w K mg) : CP P w K mg base 3 "is_cutting" 1 m_is_cutting := by
  obtain ⟨f, fd, F, hm⟩ := G.f_is_cutting.ex
  have S := sc_is_cutting
  exact cp_of (mu := []) F hm (F.bindsN fun _ _ _ _ _ _ us hl => match us, hl with | [_], _ => rfl) S  rfl (by decide) fun cdv A outer s H E hr => (zs_cons (z_if (bm0 (b_w (w_or (b_not (b_v (px_isi ot_tuple (px_v 0) G.isinstance G.tuple))) (w_or (b_cmp (od_eq (u64 hr)) (px_v 0) (px_tup ax_nil)) (w_or1 (b_not (b_v (px_b (cd_all rfl) (ax_cons (px_n (pn_lc [("own", 1)] rfl S.nd (ix_seq (px_v 0)) (blkOk_by rfl) (fun _ _ _ _ _ => (gx_n 1 S.nd)) (fun _ _ _ _ _ => pts_yes) (fun _ _ _ _ _ => (px_call (c_is_part G) hr (ax_cons (px_v 1) ax_nil))))) ax_nil) G.all)))))))) (zs_one (z_rt (em0 px_bl))) zs_nil) (zs_one (z_rt (em0 (px_and (px_call (c_ascends G) hr (ax_cons (px_v 0) ax_nil)) (px_1 (px_call (c_fills G) hr (ax_cons (px_v 0) ax_nil))))))))
abbrev N_sure_cutting : List Str := ["value", "own"]
abbrev st_sure_cutting : Stmt := top 59
theorem sc_sure_cutting : FnScope N_sure_cutting ["value"] (defScope st_sure_cutting) := C8.fnScope_by (by decide +kernel)
noncomputable def e_sure_cutting : Ex := (zSeq (zSet 1 (xCall m_tupled (aLen 1 (aCons (xV 0) aNil)))) (zSeq (zIf (bNot (bV (xCall m_is_cutting (aLen 1 (aCons (xV 1) aNil))))) zNo zNil) (zRt (xV 1))))
noncomputable def m_sure_cutting : List Dt → Option Dt := runP 2 e_sure_cutting
theorem c_sure_cutting (G : Gs P w K mg) : CP P w K mg base 9 "sure_cutting" 1 m_sure_cutting := by
  obtain ⟨f, fd, F, hm⟩ := G.f_sure_cutting.ex
  have S := sc_sure_cutting
  exact cp_of (mu := []) F hm (F.bindsN fun _ _ _ _ _ _ us hl => match us, hl with | [_], _ => rfl) S  rfl (by decide) fun cdv A outer s H E hr => (zs_cons (z_set 1 S.nd (em0 (px_call (c_tupled G) hr (ax_cons (px_v 0) ax_nil)))) (zs_cons (z_if (bm0 (b_not (b_v (px_call (c_is_cutting G) hr (ax_cons (px_v 1) ax_nil))))) zs_no zs_nil) (zs_one (z_rt (em0 (px_v 1))))))
abbrev N_finest : List Str := ["parts", "known", "part", "many", "found", "waits", "own"]
abbrev st_finest : Stmt := top 60
theorem sc_finest : FnScope N_finest ["parts"] (defScope st_finest) := C8.fnScope_by (by decide +kernel)
noncomputable def e_finest : Ex := (zSeq (zDnw 1) (zSeq (zFor (hE 1 (hE 4 (hE 5 (nSeq (xV 0))))) (.nm 2) (zFor (hE 1 (hE 4 (hE 5 (nCall rg1 (aCons (xCall lenD (aCons (xV 2) aNil)) aNil))))) (.nm 3) (zDput 1 (hE 1 (hE 4 (hE 5 (xSl slD (xV 2) oNo (oSo (xV 3)))))) (hE 1 (hE 4 (hE 5 (xC (.bool true)))))))) (zSeq (zPar 4 5 (nV (hE 1 (hE 4 (hE 5 (nLst aNil))))) (nV (hE 1 (hE 4 (hE 5 (nLst (aCons (xTup aNil) aNil))))))) (zSeq (zWh (hE 1 (hE 4 (bV (x2 neD (xV 5) (dN (nLst aNil)))))) (zSeq (zSetF 6 (fxPop 5)) (zIf (hE 4 (hE 5 (bV (x2 inA (xV 6) (xV 1))))) (zF (fxExt 5 (hE 1 (hE 4 (hE 5 (nLst (aCons (x2 addD (xV 6) (xTup (aCons (xC (.int 1)) aNil))) (aCons (x2 addD (xV 6) (xTup (aCons (xC (.int 0)) aNil))) aNil)))))))) (zF (fxApp 4 (hE 1 (hE 4 (hE 5 (xV 6))))))))) (zRt (hE 1 (lE 4 (hE 5 (xCall tupD (aCons (xV 4) aNil))))))))))
noncomputable def m_finest : List Dt → Option Dt := runP 7 e_finest
theorem c_finest (G : Gs P w K mg) : CP P w K mg base 1 "finest" 1 m_finest := by
  obtain ⟨f, fd, F, hm⟩ := G.f_finest.ex
  have S := sc_finest
  exact cp_of (mu := [1, 4, 5]) F hm (F.bindsN fun _ _ _ _ _ _ us hl => match us, hl with | [_], _ => rfl) S  rfl (by decide) fun cdv A outer s H E hr => (zs_cons (z_dnw 1 S.nd) (zs_cons (z_for PassesOwn.never rfl (im_h 1 (im_h 4 (im_h 5 (im0 (ix_seq (px_v 0)))))) (gm_n 2 S.nd) (zs_one (z_for PassesOwn.never rfl (im_h 1 (im_h 4 (im_h 5 (im0 (ix_r1 (ax_cons (px_b cd_len (ax_cons (px_v 2) ax_nil) G.len) ax_nil) G.range))))) (gm_n 3 S.nd) (zs_one (z_dput 1 (u66 hr) (em_h 1 (em_h 4 (em_h 5 (em0 px_bl)))) (em_h 1 (em_h 4 (em_h 5 (em0 (px_sl (px_v 2) ox_no (ox_so (px_v 3)))))))))))) (zs_cons (z_par 4 5 rfl S.nd (vm_n (nm_h 1 (nm_h 4 (nm_h 5 (nm0 (pn_lst ax_nil)))))) (vm_n (nm_h 1 (nm_h 4 (nm_h 5 (nm0 (pn_lst (ax_cons (px_tup ax_nil) ax_nil)))))))) (zs_cons (z_wh PassesOwn.never (bm_h 1 (bm_h 4 (bm_b 5 (by decide) (bm0 (b_cmp (od_ne (u64 hr)) (px_v 5) (px_n (pn_lst ax_nil))))))) (zs_cons (z_setF 6 S.nd (fx_pop 5)) (zs_one (z_if (bm_b 1 (by decide) (bm_h 4 (bm_h 5 (bm0 (b_cmp (od_inA (u66 hr)) (px_v 6) (px_v 1)))))) (zs_one (z_f (fx_ext 5 (nm_h 1 (nm_h 4 (nm_h 5 (nm0 (pn_lst (ax_cons (px_op od_add (px_v 6) (px_tup (ax_cons px_int ax_nil))) (ax_cons (px_op od_add (px_v 6) (px_tup (ax_cons px_int ax_nil))) ax_nil)))))))))) (zs_one (z_f (fx_app 4 (em_h 1 (em_h 4 (em_h 5 (em0 (px_v 6)))))))))))) (zs_one (z_rt (em_h 1 (em_b 4 (by decide) (em_h 5 (em0 (px_ty cd_tuple (ax_cons (px_v 4) ax_nil) G.tuple)))))))))))
abbrev N_cutting_with : List Str := ["parts", "own", "far", "near", "part"]
abbrev st_cutting_with : Stmt := top 61
theorem sc_cutting_with : FnScope N_cutting_with ["parts"] (defScope st_cutting_with) := C8.fnScope_by (by decide +kernel)
noncomputable def e_cutting_with : Ex := (zSeq (zSet 1 (xCall m_tupled (aLen 1 (aCons (xV 0) aNil)))) (zSeq (zIf (bOr (bNot (bV (xIsi "tuple" (xV 1)))) (bNot (bV (xCall allD (aCons (dN (nLc (nSeq (xV 1)) (.nm 4) [4] bYes (xCall m_is_part (aLen 1 (aCons (xV 4) aNil))))) aNil))))) zNo zNil) (zSeq (zIf (bV (xCall anyD (aCons (dN (nLc2 (nCall rg1 (aCons (xCall lenD (aCons (xV 1) aNil)) aNil)) (.nm 2) [2, 3] bYes (nCall rg1 (aCons (xV 2) aNil)) (.nm 3) [3] bYes (xCall m_meet (aLen 2 (aCons (x2 ixD (xV 1) (xV 2)) (aCons (x2 ixD (xV 1) (xV 3)) aNil)))))) aNil))) zNo zNil) (zRt (xCall m_finest (aLen 1 (aCons (xV 1) aNil)))))))
noncomputable def m_cutting_with : List Dt → Option Dt := runP 5 e_cutting_with
theorem c_cutting_with (G : Gs P w K mg) : CP P w K mg base 9 "cutting_with" 1 m_cutting_with := by
  obtain ⟨f, fd, F, hm⟩ := G.f_cutting_with.ex
  have S := sc_cutting_with
  exact cp_of (mu := []) F hm (F.bindsN fun _ _ _ _ _ _ us hl => match us, hl with | [_], _ => rfl) S  rfl (by decide) fun cdv A outer s H E hr => (zs_cons (z_set 1 S.nd (em0 (px_call (c_tupled G) hr (ax_cons (px_v 0) ax_nil)))) (zs_cons (z_if (bm0 (b_w (w_or (b_not (b_v (px_isi ot_tuple (px_v 1) G.isinstance G.tuple))) (w_or1 (b_not (b_v (px_b (cd_all rfl) (ax_cons (px_n (pn_lc [("part", 4)] rfl S.nd (ix_seq (px_v 1)) (blkOk_by rfl) (fun _ _ _ _ _ => (gx_n 4 S.nd)) (fun _ _ _ _ _ => pts_yes) (fun _ _ _ _ _ => (px_call (c_is_part G) hr (ax_cons (px_v 4) ax_nil))))) ax_nil) G.all))))))) zs_no zs_nil) (zs_cons (z_if (bm0 (b_v (px_b (cd_any rfl) (ax_cons (px_n (pn_lc2 [("far", 2), ("near", 3)] [3] rfl S.nd (ix_r1 (ax_cons (px_b cd_len (ax_cons (px_v 1) ax_nil) G.len) ax_nil) G.range) (blkOk_by rfl) (fun _ _ _ _ _ => (gx_n 2 S.nd)) (fun _ _ _ _ _ => pts_yes) (fun _ _ _ _ _ => (ix_r1 (ax_cons (px_v 2) ax_nil) G.range)) (fun _ _ _ _ _ => (gx_n 3 S.nd)) (fun _ _ _ _ _ => pts_yes) (fun _ _ _ _ _ => (px_call (c_meet G) hr (ax_cons (px_ix (px_v 1) (px_v 2)) (ax_cons (px_ix (px_v 1) (px_v 3)) ax_nil)))))) ax_nil) G.any))) zs_no zs_nil) (zs_one (z_rt (em0 (px_call (c_finest G) hr (ax_cons (px_v 1) ax_nil))))))))
abbrev N_split_at : List Str := ["cutting", "part", "own", "told", "place"]
abbrev st_split_at : Stmt := top 62
theorem sc_split_at : FnScope N_split_at ["cutting", "part"] (defScope st_split_at) := C8.fnScope_by (by decide +kernel)
noncomputable def e_split_at : Ex := (zSeq (zPar 2 3 (xCall m_sure_cutting (aLen 1 (aCons (xV 0) aNil))) (xCall m_sure_part (aLen 1 (aCons (xV 1) aNil)))) (zSeq (zIf (bV (x2 ninD (xV 3) (xV 2))) zNo zNil) (zSeq (zSet 4 (xMe "tuple" indD (xV 2) (aCons (xV 3) aNil))) (zRt (x2 addD (x2 addD (xSl slD (xV 2) oNo (oSo (xV 4))) (xTup (aCons (x2 addD (xV 3) (xTup (aCons (xC (.int 0)) aNil))) (aCons (x2 addD (xV 3) (xTup (aCons (xC (.int 1)) aNil))) aNil)))) (xSl slD (xV 2) (oSo (x2 addD (xV 4) (xC (.int 1)))) oNo))))))
noncomputable def m_split_at : List Dt → Option Dt := runP 5 e_split_at
theorem c_split_at (G : Gs P w K mg) : CP P w K mg base 10 "split_at" 2 m_split_at := by
  obtain ⟨f, fd, F, hm⟩ := G.f_split_at.ex
  have S := sc_split_at
  exact cp_of (mu := []) F hm (F.bindsN fun _ _ _ _ _ _ us hl => match us, hl with | [_, _], _ => rfl) S  rfl (by decide) fun cdv A outer s H E hr => (zs_cons (z_par 2 3 rfl S.nd (vm_d (em0 (px_call (c_sure_cutting G) hr (ax_cons (px_v 0) ax_nil)))) (vm_d (em0 (px_call (c_sure_part G) hr (ax_cons (px_v 1) ax_nil))))) (zs_cons (z_if (bm0 (b_cmp (od_nin (u66 hr)) (px_v 3) (px_v 2))) zs_no zs_nil) (zs_cons (z_set 4 S.nd (em0 (px_me PySem.F.plainAttrs_tuple PySem.F.slot_tuple_index PySem.F.type_tuple_index (me_index (u66 hr)) (px_v 2) (ax_cons (px_v 3) ax_nil)))) (zs_one (z_rt (em0 (px_op od_add (px_op od_add (px_sl (px_v 2) ox_no (ox_so (px_v 4))) (px_tup (ax_cons (px_op od_add (px_v 3) (px_tup (ax_cons px_int ax_nil))) (ax_cons (px_op od_add (px_v 3) (px_tup (ax_cons px_int ax_nil))) ax_nil)))) (px_sl (px_v 2) (ox_so (px_op od_add (px_v 4) px_int)) ox_no))))))))
abbrev N_joined_at : List Str := ["cutting", "part", "own", "told", "place"]
abbrev st_joined_at : Stmt := top 63
theorem sc_joined_at : FnScope N_joined_at ["cutting", "part"] (defScope st_joined_at) := C8.fnScope_by (by decide +kernel)
noncomputable def e_joined_at : Ex := (zSeq (zPar 2 3 (xCall m_sure_cutting (aLen 1 (aCons (xV 0) aNil))) (xCall m_sure_part (aLen 1 (aCons (xV 1) aNil)))) (zSeq (zIf (bOr (bV (x2 ninD (x2 addD (xV 3) (xTup (aCons (xC (.int 0)) aNil))) (xV 2))) (bV (x2 ninD (x2 addD (xV 3) (xTup (aCons (xC (.int 1)) aNil))) (xV 2)))) zNo zNil) (zSeq (zSet 4 (xMe "tuple" indD (xV 2) (aCons (x2 addD (xV 3) (xTup (aCons (xC (.int 0)) aNil))) aNil))) (zRt (x2 addD (x2 addD (xSl slD (xV 2) oNo (oSo (xV 4))) (xTup (aCons (xV 3) aNil))) (xSl slD (xV 2) (oSo (x2 addD (xV 4) (xC (.int 2)))) oNo))))))
noncomputable def m_joined_at : List Dt → Option Dt := runP 5 e_joined_at
theorem c_joined_at (G : Gs P w K mg) : CP P w K mg base 10 "joined_at" 2 m_joined_at := by
  obtain ⟨f, fd, F, hm⟩ := G.f_joined_at.ex
  have S := sc_joined_at
  exact cp_of (mu := []) F hm (F.bindsN fun _ _ _ _ _ _ us hl => match us, hl with | [_, _], _ => rfl) S  rfl (by decide) fun cdv A outer s H E hr => (zs_cons (z_par 2 3 rfl S.nd (vm_d (em0 (px_call (c_sure_cutting G) hr (ax_cons (px_v 0) ax_nil)))) (vm_d (em0 (px_call (c_sure_part G) hr (ax_cons (px_v 1) ax_nil))))) (zs_cons (z_if (bm0 (b_w (w_or (b_cmp (od_nin (u66 hr)) (px_op od_add (px_v 3) (px_tup (ax_cons px_int ax_nil))) (px_v 2)) (w_or1 (b_cmp (od_nin (u66 hr)) (px_op od_add (px_v 3) (px_tup (ax_cons px_int ax_nil))) (px_v 2)))))) zs_no zs_nil) (zs_cons (z_set 4 S.nd (em0 (px_me PySem.F.plainAttrs_tuple PySem.F.slot_tuple_index PySem.F.type_tuple_index (me_index (u66 hr)) (px_v 2) (ax_cons (px_op od_add (px_v 3) (px_tup (ax_cons px_int ax_nil))) ax_nil)))) (zs_one (z_rt (em0 (px_op od_add (px_op od_add (px_sl (px_v 2) ox_no (ox_so (px_v 4))) (px_tup (ax_cons (px_v 3) ax_nil))) (px_sl (px_v 2) (ox_so (px_op od_add (px_v 4) px_int)) ox_no))))))))
abbrev N_is_finer_in : List Str := ["cutting", "other", "part", "wide"]
abbrev st_is_finer_in : Stmt := top 64
theorem sc_is_finer_in : FnScope N_is_finer_in ["cutting", "other"] (defScope st_is_finer_in) := C8.fnScope_by (by decide +kernel)
noncomputable def e_is_finer_in : Ex := (zRt (xCall allD (aCons (dN (nLc (nSeq (xV 0)) (.nm 2) [2] bYes (xCall anyD (aCons (dN (nLc (nSeq (xV 1)) (.nm 3) [3] bYes (xCall m_lies_in (aLen 2 (aCons (xV 2) (aCons (xV 3) aNil)))))) aNil)))) aNil)))
noncomputable def m_is_finer_in : List Dt → Option Dt := runP 4 e_is_finer_in
theorem c_is_finer_in (G : Gs P w K mg) : CP P w K mg base 2 "is_finer_in" 2 m_is_finer_in := by
  obtain ⟨f, fd, F, hm⟩ := G.f_is_finer_in.ex
  have S := sc_is_finer_in
  exact cp_of (mu := []) F hm (F.bindsN fun _ _ _ _ _ _ us hl => match us, hl with | [_, _], _ => rfl) S  rfl (by decide) fun cdv A outer s H E hr => (zs_one (z_rt (em0 (px_b (cd_all rfl) (ax_cons (px_n (pn_lc [("part", 2)] rfl S.nd (ix_seq (px_v 0)) (blkOk_by rfl) (fun _ _ _ _ _ => (gx_n 2 S.nd)) (fun _ _ _ _ _ => pts_yes) (fun _ _ _ _ _ => (px_b (cd_any rfl) (ax_cons (px_n (pn_lc [("wide", 3)] rfl S.nd (ix_seq (px_v 1)) (blkOk_by rfl) (fun _ _ _ _ _ => (gx_n 3 S.nd)) (fun _ _ _ _ _ => pts_yes) (fun _ _ _ _ _ => (px_call (c_lies_in G) hr (ax_cons (px_v 2) (ax_cons (px_v 3) ax_nil)))))) ax_nil) G.any)))) ax_nil) G.all))))
abbrev N_is_finer : List Str := ["cutting", "other", "own"]
abbrev st_is_finer : Stmt := top 65
theorem sc_is_finer : FnScope N_is_finer ["cutting", "other"] (defScope st_is_finer) := C8.fnScope_by (by decide +kernel)
noncomputable def e_is_finer : Ex := (zSeq (zSet 2 (xCall m_sure_cutting (aLen 1 (aCons (xV 0) aNil)))) (zRt (xCall m_is_finer_in (aLen 2 (aCons (xV 2) (aCons (xCall m_sure_cutting (aLen 1 (aCons (xV 1) aNil))) aNil))))))
noncomputable def m_is_finer : List Dt → Option Dt := runP 3 e_is_finer
theorem c_is_finer (G : Gs P w K mg) : CP P w K mg base 10 "is_finer" 2 m_is_finer := by
  obtain ⟨f, fd, F, hm⟩ := G.f_is_finer.ex
  have S := sc_is_finer
  exact cp_of (mu := []) F hm (F.bindsN fun _ _ _ _ _ _ us hl => match us, hl with | [_, _], _ => rfl) S  rfl (by decide) fun cdv A outer s H E hr => (zs_cons (z_set 2 S.nd (em0 (px_call (c_sure_cutting G) hr (ax_cons (px_v 0) ax_nil)))) (zs_one (z_rt (em0 (px_call (c_is_finer_in G) hr (ax_cons (px_v 2) (ax_cons (px_call (c_sure_cutting G) hr (ax_cons (px_v 1) ax_nil)) ax_nil)))))))
abbrev N_common_finer : List Str := ["cutting", "other", "own"]
abbrev st_common_finer : Stmt := top 66
theorem sc_common_finer : FnScope N_common_finer ["cutting", "other"] (defScope st_common_finer) := C8.fnScope_by (by decide +kernel)
noncomputable def e_common_finer : Ex := (zSeq (zSet 2 (xCall m_sure_cutting (aLen 1 (aCons (xV 0) aNil)))) (zRt (xCall m_finest (aLen 1 (aCons (x2 addD (xV 2) (xCall m_sure_cutting (aLen 1 (aCons (xV 1) aNil)))) aNil)))))
noncomputable def m_common_finer : List Dt → Option Dt := runP 3 e_common_finer
theorem c_common_finer (G : Gs P w K mg) : CP P w K mg base 10 "common_finer" 2 m_common_finer := by
  obtain ⟨f, fd, F, hm⟩ := G.f_common_finer.ex
  have S := sc_common_finer
  exact cp_of (mu := []) F hm (F.bindsN fun _ _ _ _ _ _ us hl => match us, hl with | [_, _], _ => rfl) S  rfl (by decide) fun cdv A outer s H E hr => (zs_cons (z_set 2 S.nd (em0 (px_call (c_sure_cutting G) hr (ax_cons (px_v 0) ax_nil)))) (zs_one (z_rt (em0 (px_call (c_finest G) hr (ax_cons (px_op od_add (px_v 2) (px_call (c_sure_cutting G) hr (ax_cons (px_v 1) ax_nil))) ax_nil))))))
abbrev N_coarsest : List Str := ["cutting", "other", "found", "near", "far", "part", "wide"]
abbrev st_coarsest : Stmt := top 67
theorem sc_coarsest : FnScope N_coarsest ["cutting", "other"] (defScope st_coarsest) := C8.fnScope_by (by decide +kernel)
noncomputable def e_coarsest : Ex := (zSeq (zSetN 2 (hE 2 (nLst aNil))) (zSeq (zFor (hE 2 (nSeq (xTup (aCons (xTup (aCons (xV 0) (aCons (xV 1) aNil))) (aCons (xTup (aCons (xV 1) (aCons (xV 0) aNil))) aNil))))) (.tp [(.nm 3), (.nm 4)]) (zF (fxExt 2 (hE 2 (nLc (nSeq (xV 3)) (.nm 5) [5] (bV (xCall anyD (aCons (dN (nLc (nSeq (xV 4)) (.nm 6) [6] bYes (xCall m_lies_in (aLen 2 (aCons (xV 6) (aCons (xV 5) aNil)))))) aNil))) (xV 5)))))) (zRt (lE 2 (xCall tupD (aCons (dN (nCall ssetD (aCons (xV 2) aNil))) aNil))))))
noncomputable def m_coarsest : List Dt → Option Dt := runP 7 e_coarsest
theorem c_coarsest (G : Gs P w K mg) : CP P w K mg base 2 "coarsest" 2 m_coarsest := by
  obtain ⟨f, fd, F, hm⟩ := G.f_coarsest.ex
  have S := sc_coarsest
  exact cp_of (mu := [2]) F hm (F.bindsN fun _ _ _ _ _ _ us hl => match us, hl with | [_, _], _ => rfl) S  rfl (by decide) fun cdv A outer s H E hr => (zs_cons (z_setN 2 S.nd (nm_h 2 (nm0 (pn_lst ax_nil)))) (zs_cons (z_for PassesOwn.never rfl (im_h 2 (im0 (ix_seq (px_tup (ax_cons (px_tup (ax_cons (px_v 0) (ax_cons (px_v 1) ax_nil))) (ax_cons (px_tup (ax_cons (px_v 1) (ax_cons (px_v 0) ax_nil))) ax_nil)))))) (gm_t rfl (gms_cons (gm_n 3 S.nd) (gms_cons (gm_n 4 S.nd) gms_nil))) (zs_one (z_f (fx_ext 2 (nm_h 2 (nm0 (pn_lc [("part", 5)] rfl S.nd (ix_seq (px_v 3)) (blkOk_by rfl) (fun _ _ _ _ _ => (gx_n 5 S.nd)) (fun _ _ _ _ _ => (pts_1 (b_v (px_b (cd_any rfl) (ax_cons (px_n (pn_lc [("wide", 6)] rfl S.nd (ix_seq (px_v 4)) (blkOk_by rfl) (fun _ _ _ _ _ => (gx_n 6 S.nd)) (fun _ _ _ _ _ => pts_yes) (fun _ _ _ _ _ => (px_call (c_lies_in G) hr (ax_cons (px_v 6) (ax_cons (px_v 5) ax_nil)))))) ax_nil) G.any)))) (fun _ _ _ _ _ => (px_v 5))))))))) (zs_one (z_rt (em_b 2 (by decide) (em0 (px_ty cd_tuple (ax_cons (px_n (pn_sset rfl (u66 hr) G.sorted G.set (px_v 2))) ax_nil) G.tuple)))))))
abbrev N_common_coarser : List Str := ["cutting", "other", "own"]
abbrev st_common_coarser : Stmt := top 68
theorem sc_common_coarser : FnScope N_common_coarser ["cutting", "other"] (defScope st_common_coarser) := C8.fnScope_by (by decide +kernel)
noncomputable def e_common_coarser : Ex := (zSeq (zSet 2 (xCall m_sure_cutting (aLen 1 (aCons (xV 0) aNil)))) (zRt (xCall m_coarsest (aLen 2 (aCons (xV 2) (aCons (xCall m_sure_cutting (aLen 1 (aCons (xV 1) aNil))) aNil))))))
noncomputable def m_common_coarser : List Dt → Option Dt := runP 3 e_common_coarser
theorem c_common_coarser (G : Gs P w K mg) : CP P w K mg base 10 "common_coarser" 2 m_common_coarser := by
  obtain ⟨f, fd, F, hm⟩ := G.f_common_coarser.ex
  have S := sc_common_coarser
  exact cp_of (mu := []) F hm (F.bindsN fun _ _ _ _ _ _ us hl => match us, hl with | [_, _], _ => rfl) S  rfl (by decide) fun cdv A outer s H E hr => (zs_cons (z_set 2 S.nd (em0 (px_call (c_sure_cutting G) hr (ax_cons (px_v 0) ax_nil)))) (zs_one (z_rt (em0 (px_call (c_coarsest G) hr (ax_cons (px_v 2) (ax_cons (px_call (c_sure_cutting G) hr (ax_cons (px_v 1) ax_nil)) ax_nil)))))))
abbrev N_splits_between : List Str := ["cutting", "other", "own", "told"]
abbrev st_splits_between : Stmt := top 69
theorem sc_splits_between : FnScope N_splits_between ["cutting", "other"] (defScope st_splits_between) := C8.fnScope_by (by decide +kernel)
noncomputable def e_splits_between : Ex := (zSeq (zSet 2 (xCall m_sure_cutting (aLen 1 (aCons (xV 0) aNil)))) (zSeq (zSet 3 (xCall m_sure_cutting (aLen 1 (aCons (xV 1) aNil)))) (zSeq (zIf (bNot (bV (xCall m_is_finer_in (aLen 2 (aCons (xV 3) (aCons (xV 2) aNil)))))) zNo zNil) (zRt (x2 subD (xCall lenD (aCons (xV 3) aNil)) (xCall lenD (aCons (xV 2) aNil)))))))
noncomputable def m_splits_between : List Dt → Option Dt := runP 4 e_splits_between
theorem c_splits_between (G : Gs P w K mg) : CP P w K mg base 10 "splits_between" 2 m_splits_between := by
  obtain ⟨f, fd, F, hm⟩ := G.f_splits_between.ex
  have S := sc_splits_between
  exact cp_of (mu := []) F hm (F.bindsN fun _ _ _ _ _ _ us hl => match us, hl with | [_, _], _ => rfl) S  rfl (by decide) fun cdv A outer s H E hr => (zs_cons (z_set 2 S.nd (em0 (px_call (c_sure_cutting G) hr (ax_cons (px_v 0) ax_nil)))) (zs_cons (z_set 3 S.nd (em0 (px_call (c_sure_cutting G) hr (ax_cons (px_v 1) ax_nil)))) (zs_cons (z_if (bm0 (b_not (b_v (px_call (c_is_finer_in G) hr (ax_cons (px_v 3) (ax_cons (px_v 2) ax_nil)))))) zs_no zs_nil) (zs_one (z_rt (em0 (px_op od_sub (px_b cd_len (ax_cons (px_v 3) ax_nil) G.len) (px_b cd_len (ax_cons (px_v 2) ax_nil) G.len))))))))
abbrev N_behind_middle : List Str := ["joint"]
abbrev st_behind_middle : Stmt := top 71
theorem sc_behind_middle : FnScope N_behind_middle ["joint"] (defScope st_behind_middle) := C8.fnScope_by (by decide +kernel)
noncomputable def e_behind_middle : Ex := (zRt (x2 addD (xV 0) (xTup (aCons (xC (.int 1)) aNil))))
noncomputable def m_behind_middle : List Dt → Option Dt := runP 1 e_behind_middle
theorem c_behind_middle (G : Gs P w K mg) : CP P w K mg base 1 "behind_middle" 1 m_behind_middle := by
  obtain ⟨f, fd, F, hm⟩ := G.f_behind_middle.ex
  have S := sc_behind_middle
  exact cp_of (mu := []) F hm (F.bindsN fun _ _ _ _ _ _ us hl => match us, hl with | [_], _ => rfl) S  rfl (by decide) fun cdv A outer s H E hr => (zs_one (z_rt (em0 (px_op od_add (px_v 0) (px_tup (ax_cons px_int ax_nil))))))
abbrev N_joints_in : List Str := ["cutting", "known", "part", "many"]
abbrev st_joints_in : Stmt := top 72
theorem sc_joints_in : FnScope N_joints_in ["cutting"] (defScope st_joints_in) := C8.fnScope_by (by decide +kernel)
noncomputable def e_joints_in : Ex := (zSeq (zDnw 1) (zSeq (zFor (hE 1 (nSeq (xV 0))) (.nm 2) (zFor (hE 1 (nCall rg1 (aCons (xCall lenD (aCons (xV 2) aNil)) aNil))) (.nm 3) (zDput 1 (hE 1 (xSl slD (xV 2) oNo (oSo (xV 3)))) (hE 1 (xC (.bool true)))))) (zRt (lE 1 (dN (nCall srtK (aCons (xV 1) aNil)))))))
noncomputable def m_joints_in : List Dt → Option Dt := runP 4 e_joints_in
theorem c_joints_in (G : Gs P w K mg) : CP P w K mg base 2 "joints_in" 1 m_joints_in := by
  obtain ⟨f, fd, F, hm⟩ := G.f_joints_in.ex
  obtain ⟨f_behind_middle, fd_behind_middle, F_behind_middle, hm_behind_middle⟩ := G.f_behind_middle.ex
  have S := sc_joints_in
  exact cp_of (mu := [1]) F hm (F.bindsN fun _ _ _ _ _ _ us hl => match us, hl with | [_], _ => rfl) S  rfl (by decide) fun cdv A outer s H E hr => (zs_cons (z_dnw 1 S.nd) (zs_cons (z_for PassesOwn.never rfl (im_h 1 (im0 (ix_seq (px_v 0)))) (gm_n 2 S.nd) (zs_one (z_for PassesOwn.never rfl (im_h 1 (im0 (ix_r1 (ax_cons (px_b cd_len (ax_cons (px_v 2) ax_nil) G.len) ax_nil) G.range))) (gm_n 3 S.nd) (zs_one (z_dput 1 (u66 hr) (em_h 1 (em0 px_bl)) (em_h 1 (em0 (px_sl (px_v 2) ox_no (ox_so (px_v 3)))))))))) (zs_one (z_rt (em_b 1 (by decide) (em0 (px_n (pn_sortk (ck_sortK rfl hr F_behind_middle sc_behind_middle (F_behind_middle.bindsN fun _ _ _ _ _ _ us hl => match us, hl with | [_], _ => rfl) (by decide) rfl) G.sorted hm_behind_middle (px_v 1)))))))))
abbrev N_joints_of : List Str := ["cutting"]
abbrev st_joints_of : Stmt := top 73
theorem sc_joints_of : FnScope N_joints_of ["cutting"] (defScope st_joints_of) := C8.fnScope_by (by decide +kernel)
noncomputable def e_joints_of : Ex := (zRt (xCall tupD (aCons (xCall m_joints_in (aLen 1 (aCons (xCall m_sure_cutting (aLen 1 (aCons (xV 0) aNil))) aNil))) aNil)))
noncomputable def m_joints_of : List Dt → Option Dt := runP 1 e_joints_of
theorem c_joints_of (G : Gs P w K mg) : CP P w K mg base 10 "joints_of" 1 m_joints_of := by
  obtain ⟨f, fd, F, hm⟩ := G.f_joints_of.ex
  have S := sc_joints_of
  exact cp_of (mu := []) F hm (F.bindsN fun _ _ _ _ _ _ us hl => match us, hl with | [_], _ => rfl) S  rfl (by decide) fun cdv A outer s H E hr => (zs_one (z_rt (em0 (px_ty cd_tuple (ax_cons (px_call (c_joints_in G) hr (ax_cons (px_call (c_sure_cutting G) hr (ax_cons (px_v 0) ax_nil)) ax_nil)) ax_nil) G.tuple))))
abbrev N_side_in : List Str := ["joint", "bit"]
abbrev st_side_in : Stmt := top 74
theorem sc_side_in : FnScope N_side_in ["joint"] (defScope st_side_in) := C8.fnScope_by (by decide +kernel)
noncomputable def e_side_in : Ex := (zSeq (zIf (bV (xCall allD (aCons (dN (nLc (nSeq (xV 0)) (.nm 1) [1] bYes (x2 eqD (xV 1) (xC (.int 0))))) aNil))) (zRt (xC (.str "left"))) zNil) (zRt (xIf (bV (xCall allD (aCons (dN (nLc (nSeq (xV 0)) (.nm 1) [1] bYes (x2 eqD (xV 1) (xC (.int 1))))) aNil))) (xC (.str "right")) (xC (.str "inner")))))
noncomputable def m_side_in : List Dt → Option Dt := runP 2 e_side_in
theorem c_side_in (G : Gs P w K mg) : CP P w K mg base 1 "side_in" 1 m_side_in := by
  obtain ⟨f, fd, F, hm⟩ := G.f_side_in.ex
  have S := sc_side_in
  exact cp_of (mu := []) F hm (F.bindsN fun _ _ _ _ _ _ us hl => match us, hl with | [_], _ => rfl) S  rfl (by decide) fun cdv A outer s H E hr => (zs_cons (z_if (bm0 (b_v (px_b (cd_all rfl) (ax_cons (px_n (pn_lc [("bit", 1)] rfl S.nd (ix_seq (px_v 0)) (blkOk_by rfl) (fun _ _ _ _ _ => (gx_n 1 S.nd)) (fun _ _ _ _ _ => pts_yes) (fun _ _ _ _ _ => (px_cmp (od_eq (u64 hr)) (px_v 1) px_int)))) ax_nil) G.all))) (zs_one (z_rt (em0 px_str))) zs_nil) (zs_one (z_rt (em0 (px_if (b_v (px_b (cd_all rfl) (ax_cons (px_n (pn_lc [("bit", 1)] rfl S.nd (ix_seq (px_v 0)) (blkOk_by rfl) (fun _ _ _ _ _ => (gx_n 1 S.nd)) (fun _ _ _ _ _ => pts_yes) (fun _ _ _ _ _ => (px_cmp (od_eq (u64 hr)) (px_v 1) px_int)))) ax_nil) G.all)) px_str px_str)))))
abbrev N_joint_side : List Str := ["part"]
abbrev st_joint_side : Stmt := top 75
theorem sc_joint_side : FnScope N_joint_side ["part"] (defScope st_joint_side) := C8.fnScope_by (by decide +kernel)
noncomputable def e_joint_side : Ex := (zRt (xCall m_side_in (aLen 1 (aCons (xCall m_sure_part (aLen 1 (aCons (xV 0) aNil))) aNil))))
noncomputable def m_joint_side : List Dt → Option Dt := runP 1 e_joint_side
theorem c_joint_side (G : Gs P w K mg) : CP P w K mg base 10 "joint_side" 1 m_joint_side := by
  obtain ⟨f, fd, F, hm⟩ := G.f_joint_side.ex
  have S := sc_joint_side
  exact cp_of (mu := []) F hm (F.bindsN fun _ _ _ _ _ _ us hl => match us, hl with | [_], _ => rfl) S  rfl (by decide) fun cdv A outer s H E hr => (zs_one (z_rt (em0 (px_call (c_side_in G) hr (ax_cons (px_call (c_sure_part G) hr (ax_cons (px_v 0) ax_nil)) ax_nil)))))
abbrev N__law_box : List Str := ["script", "k", "bit_so"]
abbrev st__law_box : Stmt := top 77
theorem sc__law_box : FnScope N__law_box ["script", "k"] (defScope st__law_box) := C8.fnScope_by (by decide +kernel)
noncomputable def e__law_box : Ex := (zSeq (zSet 2 (xIf (bV (x2 ltA (xV 1) (xCall lenD (aCons (xV 0) aNil)))) (x2 ixD (xV 0) (xV 1)) (xC (.int 0)))) (zRtN (nLst (aCons (x2 mulI (xCall absD (aCons (xV 2) aNil)) (xCall intD (aCons (x2 geD (xCall absD (aCons (xV 2) aNil)) (x2 powD (xC (.int 10)) (xC (.int 18)))) aNil))) (aCons (x2 addD (x2 addD (x2 modD (xCall intD (aCons (xV 2) aNil)) (xC (.int 2305843009213693951))) (x2 mulI (xC (.int 39373)) (xV 1))) (xC (.int 9500000))) (aCons (xC (.int 0)) aNil))))))
noncomputable def m__law_box : List Dt → Option (List Dt) := runN 3 e__law_box
theorem c__law_box (G : Gs P w K mg) : CN P w K mg base 1 "_law_box" 2 m__law_box := by
  obtain ⟨f, fd, F, hm⟩ := G.f__law_box.ex
  have S := sc__law_box
  exact cn_of (mu := []) F hm (F.bindsN fun _ _ _ _ _ _ us hl => match us, hl with | [_, _], _ => rfl) S  rfl (by decide) fun cdv A outer s H E hr => (zs_cons (z_set 2 S.nd (em0 (px_if (b_cmp (od_ltA (u66 hr)) (px_v 1) (px_b cd_len (ax_cons (px_v 0) ax_nil) G.len)) (px_ix (px_v 0) (px_v 1)) px_int))) (zs_one (z_rtN (nm0 (pn_lst (ax_cons (px_op od_mul (px_b cd_abs (ax_cons (px_v 2) ax_nil) G.abs) (px_ty cd_int (ax_cons (px_cmp od_ge (px_b cd_abs (ax_cons (px_v 2) ax_nil) G.abs) (px_op od_pow px_int px_int)) ax_nil) G.int)) (ax_cons (px_op od_add (px_op od_add (px_op od_mod (px_ty cd_int (ax_cons (px_v 2) ax_nil) G.int) px_int) (px_op od_mul px_int (px_v 1))) px_int) (ax_cons px_int ax_nil))))))))
abbrev N__law_take : List Str := ["tin", "below_so", "drawn_so", "once_so", "wide_so", "twice_so"]
abbrev st__law_take : Stmt := top 78
theorem sc__law_take : FnScope N__law_take ["tin", "below_so"] (defScope st__law_take) := C8.fnScope_by (by decide +kernel)
noncomputable def e__law_take : Ex := (zSeq (zIf (bV (x2 gtD (xTi 0) (xC (.int 0)))) (zSeq (zSet 2 (x2 modD (xCall intD (aCons (xTi 0) aNil)) (xV 1))) (zSeq (zTi 0 (x2 divD (xTi 0) (xV 1))) (zRt (xV 2)))) zNil) (zSeq (zTi 2 (x2 addD (xTi 2) (xC (.int 1)))) (zSeq (zSet 3 (x2 modD (xCall intD (aCons (x2 mulI (x2 addD (xTi 1) (x2 mulI (xC (.int 48271)) (xTi 2))) (x2 addD (xC (.int 39373)) (xTi 2))) aNil)) (xC (.int 2147483647)))) (zSeq (zSet 4 (x2 addD (x2 modD (xCall intD (aCons (xV 3) aNil)) (xC (.int 40009))) (xC (.int 7)))) (zSeq (zSet 5 (x2 modD (xCall intD (aCons (x2 mulI (x2 addD (x2 addD (xV 3) (xTi 2)) (x2 divD (xTi 1) (xC (.int 1000003)))) (xV 4)) aNil)) (xC (.int 2147483629)))) (zRt (x2 modD (xCall intD (aCons (x2 divD (x2 modD (xCall intD (aCons (x2 addD (x2 mulI (xV 5) (xC (.int 48271))) (xV 3)) aNil)) (xC (.int 2147483587))) (xC (.int 64))) aNil)) (xV 1))))))))
noncomputable def m__law_take : List Dt → Ti → Option (Dt × Ti) := runT 6 e__law_take
theorem c__law_take (G : Gs P w K mg) : CT P w K mg base 1 "_law_take" 1 m__law_take := by
  obtain ⟨f, fd, F, hm⟩ := G.f__law_take.ex
  have S := sc__law_take
  exact ct_of (mu := []) F hm (F.bindsN fun _ _ _ _ _ _ us hl => match us, hl with | [_, _], _ => rfl) S rfl rfl (by decide) fun cdv A outer s H E hr => (zs_cons (z_if (bm0 (b_cmp od_gt (px_ti 0 0) px_int)) (zs_cons (z_set 2 S.nd (em0 (px_op od_mod (px_ty cd_int (ax_cons (px_ti 0 0) ax_nil) G.int) (px_v 1)))) (zs_cons (z_ti 0 0 (em0 (px_op od_div (px_ti 0 0) (px_v 1)))) (zs_one (z_rt (em0 (px_v 2)))))) zs_nil) (zs_cons (z_ti 0 2 (em0 (px_op od_add (px_ti 0 2) px_int))) (zs_cons (z_set 3 S.nd (em0 (px_op od_mod (px_ty cd_int (ax_cons (px_op od_mul (px_op od_add (px_ti 0 1) (px_op od_mul px_int (px_ti 0 2))) (px_op od_add px_int (px_ti 0 2))) ax_nil) G.int) px_int))) (zs_cons (z_set 4 S.nd (em0 (px_op od_add (px_op od_mod (px_ty cd_int (ax_cons (px_v 3) ax_nil) G.int) px_int) px_int))) (zs_cons (z_set 5 S.nd (em0 (px_op od_mod (px_ty cd_int (ax_cons (px_op od_mul (px_op od_add (px_op od_add (px_v 3) (px_ti 0 2)) (px_op od_div (px_ti 0 1) px_int)) (px_v 4)) ax_nil) G.int) px_int))) (zs_one (z_rt (em0 (px_op od_mod (px_ty cd_int (ax_cons (px_op od_div (px_op od_mod (px_ty cd_int (ax_cons (px_op od_add (px_op od_mul (px_v 5) px_int) (px_v 3)) ax_nil) G.int) px_int) px_int) ax_nil) G.int) (px_v 1))))))))))
abbrev N__law_cells : List Str := ["script", "most_so", "cells_so", "k", "bit_so", "at_so"]
abbrev st__law_cells : Stmt := top 79
theorem sc__law_cells : FnScope N__law_cells ["script", "most_so"] (defScope st__law_cells) := C8.fnScope_by (by decide +kernel)
noncomputable def e__law_cells : Ex := (zSeq (zSetN 2 (hE 2 (nOr (nCall lstA (aCons (xSl slD (xV 0) oNo (oSo (xV 1))) aNil)) (nLst (aCons (xC (.int 0)) aNil))))) (zSeq (zFor (hE 2 (nCall enD (aCons (xSl slD (xV 0) (oSo (xV 1)) (oSo (xC (.int 63)))) aNil))) (.tp [(.nm 3), (.nm 4)]) (zSeq (zSet 5 (hE 2 (x2 modD (xCall intD (aCons (xV 3) aNil)) (xV 1)))) (zPut 2 (hE 2 (xV 5)) (lE 2 (x2 addD (x2 ixD (xV 2) (xV 5)) (x2 mulI (xV 4) (x2 addD (xV 3) (xC (.int 2))))))))) (zRtM 2)))
noncomputable def m__law_cells : List Dt → Option (List Dt) := runN 6 e__law_cells
theorem c__law_cells (G : Gs P w K mg) : CN P w K mg base 1 "_law_cells" 2 m__law_cells := by
  obtain ⟨f, fd, F, hm⟩ := G.f__law_cells.ex
  have S := sc__law_cells
  exact cn_of (mu := [2]) F hm (F.bindsN fun _ _ _ _ _ _ us hl => match us, hl with | [_, _], _ => rfl) S  rfl (by decide) fun cdv A outer s H E hr => (zs_cons (z_setN 2 S.nd (nm_h 2 (nm0 (pn_or (pn_ty (cn_listA rfl) (ax_cons (px_sl (px_v 0) ox_no (ox_so (px_v 1))) ax_nil) G.list) (pn_or1 (pn_lst (ax_cons px_int ax_nil))))))) (zs_cons (z_for PassesOwn.never rfl (im_h 2 (im0 (ix_enum (ax_cons (px_sl (px_v 0) (ox_so (px_v 1)) (ox_so px_int)) ax_nil) G.enumerate))) (gm_t rfl (gms_cons (gm_n 3 S.nd) (gms_cons (gm_n 4 S.nd) gms_nil))) (zs_cons (z_set 5 S.nd (em_h 2 (em0 (px_op od_mod (px_ty cd_int (ax_cons (px_v 3) ax_nil) G.int) (px_v 1))))) (zs_one (z_put 2 (em_b 2 (by decide) (em0 (px_op od_add (px_ix (px_v 2) (px_v 5)) (px_op od_mul (px_v 4) (px_op od_add (px_v 3) px_int))))) (em_h 2 (em0 (px_v 5))))))) (zs_one (z_rtM 2 rfl))))
abbrev N__law_of : List Str := ["tin", "goods_so"]
abbrev st__law_of : Stmt := top 80
theorem sc__law_of : FnScope N__law_of ["tin", "goods_so"] (defScope st__law_of) := C8.fnScope_by (by decide +kernel)
noncomputable def e__law_of : Ex := (zRt (x2 ixD (xV 1) (xCallT m__law_take (aLen 1 (aCons (xCall lenD (aCons (xV 1) aNil)) aNil)))))
noncomputable def m__law_of : List Dt → Ti → Option (Dt × Ti) := runT 2 e__law_of
theorem c__law_of (G : Gs P w K mg) : CT P w K mg base 2 "_law_of" 1 m__law_of := by
  obtain ⟨f, fd, F, hm⟩ := G.f__law_of.ex
  have S := sc__law_of
  exact ct_of (mu := []) F hm (F.bindsN fun _ _ _ _ _ _ us hl => match us, hl with | [_, _], _ => rfl) S rfl rfl (by decide) fun cdv A outer s H E hr => (zs_one (z_rt (em0 (px_ix (px_v 1) (px_callT (c__law_take G) hr 0 (ax_cons (px_b cd_len (ax_cons (px_v 1) ax_nil) G.len) ax_nil))))))
abbrev N__law_same : List Str := ["got", "due", "mine", "its"]
abbrev st__law_same : Stmt := top 81
theorem sc__law_same : FnScope N__law_same ["got", "due"] (defScope st__law_same) := C8.fnScope_by (by decide +kernel)
noncomputable def e__law_same (m : List Dt → Option Dt) : Ex := (zSeq (zIf (bV (xIsi2 "list" "tuple" (xV 1))) (zSeq (zIf (bOr (bV (x2 neD (xIsi "list" (xV 0)) (xIsi "list" (xV 1)))) (bV (x2 neD (xIsi "tuple" (xV 0)) (xIsi "tuple" (xV 1))))) (zRt (xC (.bool false))) zNil) (zRt (xAnd (x2 eqD (xCall lenD (aCons (xV 0) aNil)) (xCall lenD (aCons (xV 1) aNil))) (xCall allD (aCons (dN (nLc (nCall zipDD (aCons (xV 0) (aCons (xV 1) aNil))) (.tp [(.nm 2), (.nm 3)]) [2, 3] bYes (xCall m (aLen 2 (aCons (xV 2) (aCons (xV 3) aNil)))))) aNil))))) zNil) (zSeq (zIf (bV (x2 isD (xV 1) (xC .none))) (zRt (x2 isD (xV 0) (xC .none))) zNil) (zSeq (zIf (bV (xIsi2 "bool" "str" (xV 1))) (zRt (xAnd (x2 eqD (xIsi "bool" (xV 0)) (xIsi "bool" (xV 1))) (xAnd (x2 eqD (xIsi "str" (xV 0)) (xIsi "str" (xV 1))) (x2 eqD (xV 0) (xV 1))))) zNil) (zRt (xAnd (xIsi "int" (xV 0)) (xAnd (xNot (xIsi "bool" (xV 0))) (x2 eqD (xV 0) (xV 1))))))))
noncomputable def mr__law_same : Nat → List Dt → Option Dt
  | 0 => fun _ => none
  | n + 1 => runP 4 (e__law_same (mr__law_same n))
noncomputable abbrev m__law_same : List Dt → Option Dt := mr__law_same 8
theorem cr__law_same (G : Gs P w K mg) : ∀ n : Nat, CP P w K mg base n "_law_same" 2 (mr__law_same n)
  | 0 => by
    obtain ⟨f, fd, F, hm⟩ := G.f__law_same.ex
    exact cp_none F hm (F.bindsN fun _ _ _ _ _ _ us hl => match us, hl with | [_, _], _ => rfl) sc__law_same
  | n + 1 => by
    have c := cr__law_same G n
    obtain ⟨f, fd, F, hm⟩ := G.f__law_same.ex
    have S := sc__law_same
    exact cp_of (mu := []) F hm (F.bindsN fun _ _ _ _ _ _ us hl => match us, hl with | [_, _], _ => rfl) S  rfl (by decide) fun cdv A outer s H E hr => (zs_cons (z_if (bm0 (b_v (px_isi2 ot_list ot_tuple (px_v 1) G.isinstance G.list G.tuple))) (zs_cons (z_if (bm0 (b_w (w_or (b_cmp (od_ne (u64 hr)) (px_isi ot_list (px_v 0) G.isinstance G.list) (px_isi ot_list (px_v 1) G.isinstance G.list)) (w_or1 (b_cmp (od_ne (u64 hr)) (px_isi ot_tuple (px_v 0) G.isinstance G.tuple) (px_isi ot_tuple (px_v 1) G.isinstance G.tuple)))))) (zs_one (z_rt (em0 px_bl))) zs_nil) (zs_one (z_rt (em0 (px_and (px_cmp (od_eq (u64 hr)) (px_b cd_len (ax_cons (px_v 0) ax_nil) G.len) (px_b cd_len (ax_cons (px_v 1) ax_nil) G.len)) (px_1 (px_b (cd_all rfl) (ax_cons (px_n (pn_lc [("mine", 2), ("its", 3)] rfl S.nd (ix_zip (ax_cons (px_v 0) (ax_cons (px_v 1) ax_nil)) G.zip) (blkOk_by rfl) (fun _ _ _ _ _ => (gx_t rfl (gxs_cons (gx_n 2 S.nd) (gxs_cons (gx_n 3 S.nd) gxs_nil)))) (fun _ _ _ _ _ => pts_yes) (fun _ _ _ _ _ => (px_call c hr (ax_cons (px_v 2) (ax_cons (px_v 3) ax_nil)) (Nat.le_refl _))))) ax_nil) G.all))))))) zs_nil) (zs_cons (z_if (bm0 (b_cmp od_is (px_v 1) px_non)) (zs_one (z_rt (em0 (px_cmp od_is (px_v 0) px_non)))) zs_nil) (zs_cons (z_if (bm0 (b_v (px_isi2 ot_bool ot_str (px_v 1) G.isinstance G.bool G.str))) (zs_one (z_rt (em0 (px_and (px_cmp (od_eq (u64 hr)) (px_isi ot_bool (px_v 0) G.isinstance G.bool) (px_isi ot_bool (px_v 1) G.isinstance G.bool)) (px_and (px_cmp (od_eq (u64 hr)) (px_isi ot_str (px_v 0) G.isinstance G.str) (px_isi ot_str (px_v 1) G.isinstance G.str)) (px_1 (px_cmp (od_eq (u64 hr)) (px_v 0) (px_v 1)))))))) zs_nil) (zs_one (z_rt (em0 (px_and (px_isi ot_int (px_v 0) G.isinstance G.int) (px_and (px_not (px_isi ot_bool (px_v 0) G.isinstance G.bool)) (px_1 (px_cmp (od_eq (u64 hr)) (px_v 0) (px_v 1)))))))))))
theorem c__law_same (G : Gs P w K mg) : CP P w K mg base 8 "_law_same" 2 m__law_same := cr__law_same G 8
abbrev N__law_gcd : List Str := ["one_so", "two_so"]
abbrev st__law_gcd : Stmt := top 82
theorem sc__law_gcd : FnScope N__law_gcd ["one_so", "two_so"] (defScope st__law_gcd) := C8.fnScope_by (by decide +kernel)
noncomputable def e__law_gcd : Ex := (zSeq (zPar 0 1 (xCall absD (aCons (xV 0) aNil)) (xCall absD (aCons (xV 1) aNil))) (zSeq (zWh (bV (x2 gtD (xV 1) (xC (.int 0)))) (zPar 0 1 (xV 1) (x2 modD (xV 0) (xV 1)))) (zRt (xV 0))))
noncomputable def m__law_gcd : List Dt → Option Dt := runP 2 e__law_gcd
theorem c__law_gcd (G : Gs P w K mg) : CP P w K mg base 1 "_law_gcd" 2 m__law_gcd := by
  obtain ⟨f, fd, F, hm⟩ := G.f__law_gcd.ex
  have S := sc__law_gcd
  exact cp_of (mu := []) F hm (F.bindsN fun _ _ _ _ _ _ us hl => match us, hl with | [_, _], _ => rfl) S  rfl (by decide) fun cdv A outer s H E hr => (zs_cons (z_par 0 1 rfl S.nd (vm_d (em0 (px_b cd_abs (ax_cons (px_v 0) ax_nil) G.abs))) (vm_d (em0 (px_b cd_abs (ax_cons (px_v 1) ax_nil) G.abs)))) (zs_cons (z_wh PassesOwn.never (bm0 (b_cmp od_gt (px_v 1) px_int)) (zs_one (z_par 0 1 rfl S.nd (vm_d (em0 (px_v 1))) (vm_d (em0 (px_op od_mod (px_v 0) (px_v 1))))))) (zs_one (z_rt (em0 (px_v 0))))))
abbrev N__law_frac : List Str := ["top_so", "bottom_so", "shared_so"]
abbrev st__law_frac : Stmt := top 83
theorem sc__law_frac : FnScope N__law_frac ["top_so", "bottom_so"] (defScope st__law_frac) := C8.fnScope_by (by decide +kernel)
noncomputable def e__law_frac : Ex := (zSeq (zIf (bV (x2 ltA (xV 1) (xC (.int 0)))) (zPar 0 1 (x2 subD (xC (.int 0)) (xV 0)) (x2 subD (xC (.int 0)) (xV 1))) zNil) (zSeq (zSet 2 (xCall m__law_gcd (aLen 2 (aCons (xV 0) (aCons (xV 1) aNil))))) (zRt (xTup (aCons (x2 divD (xV 0) (xV 2)) (aCons (x2 divD (xV 1) (xV 2)) aNil))))))
noncomputable def m__law_frac : List Dt → Option Dt := runP 3 e__law_frac
theorem c__law_frac (G : Gs P w K mg) : CP P w K mg base 2 "_law_frac" 2 m__law_frac := by
  obtain ⟨f, fd, F, hm⟩ := G.f__law_frac.ex
  have S := sc__law_frac
  exact cp_of (mu := []) F hm (F.bindsN fun _ _ _ _ _ _ us hl => match us, hl with | [_, _], _ => rfl) S  rfl (by decide) fun cdv A outer s H E hr => (zs_cons (z_if (bm0 (b_cmp (od_ltA (u66 hr)) (px_v 1) px_int)) (zs_one (z_par 0 1 rfl S.nd (vm_d (em0 (px_op od_sub px_int (px_v 0)))) (vm_d (em0 (px_op od_sub px_int (px_v 1)))))) zs_nil) (zs_cons (z_set 2 S.nd (em0 (px_call (c__law_gcd G) hr (ax_cons (px_v 0) (ax_cons (px_v 1) ax_nil))))) (zs_one (z_rt (em0 (px_tup (ax_cons (px_op od_div (px_v 0) (px_v 2)) (ax_cons (px_op od_div (px_v 1) (px_v 2)) ax_nil))))))))
abbrev N__law_add : List Str := ["one_so", "two_so"]
abbrev st__law_add : Stmt := top 84
theorem sc__law_add : FnScope N__law_add ["one_so", "two_so"] (defScope st__law_add) := C8.fnScope_by (by decide +kernel)
noncomputable def e__law_add : Ex := (zRt (xCall m__law_frac (aLen 2 (aCons (x2 addD (x2 mulI (x2 ixD (xV 0) (xC (.int 0))) (x2 ixD (xV 1) (xC (.int 1)))) (x2 mulI (x2 ixD (xV 1) (xC (.int 0))) (x2 ixD (xV 0) (xC (.int 1))))) (aCons (x2 mulI (x2 ixD (xV 0) (xC (.int 1))) (x2 ixD (xV 1) (xC (.int 1)))) aNil)))))
noncomputable def m__law_add : List Dt → Option Dt := runP 2 e__law_add
theorem c__law_add (G : Gs P w K mg) : CP P w K mg base 3 "_law_add" 2 m__law_add := by
  obtain ⟨f, fd, F, hm⟩ := G.f__law_add.ex
  have S := sc__law_add
  exact cp_of (mu := []) F hm (F.bindsN fun _ _ _ _ _ _ us hl => match us, hl with | [_, _], _ => rfl) S  rfl (by decide) fun cdv A outer s H E hr => (zs_one (z_rt (em0 (px_call (c__law_frac G) hr (ax_cons (px_op od_add (px_op od_mul (px_ix (px_v 0) px_int) (px_ix (px_v 1) px_int)) (px_op od_mul (px_ix (px_v 1) px_int) (px_ix (px_v 0) px_int))) (ax_cons (px_op od_mul (px_ix (px_v 0) px_int) (px_ix (px_v 1) px_int)) ax_nil))))))
abbrev N__law_neg : List Str := ["one_so"]
abbrev st__law_neg : Stmt := top 85
theorem sc__law_neg : FnScope N__law_neg ["one_so"] (defScope st__law_neg) := C8.fnScope_by (by decide +kernel)
noncomputable def e__law_neg : Ex := (zRt (xTup (aCons (x2 subD (xC (.int 0)) (x2 ixD (xV 0) (xC (.int 0)))) (aCons (x2 ixD (xV 0) (xC (.int 1))) aNil))))
noncomputable def m__law_neg : List Dt → Option Dt := runP 1 e__law_neg
theorem c__law_neg (G : Gs P w K mg) : CP P w K mg base 1 "_law_neg" 1 m__law_neg := by
  obtain ⟨f, fd, F, hm⟩ := G.f__law_neg.ex
  have S := sc__law_neg
  exact cp_of (mu := []) F hm (F.bindsN fun _ _ _ _ _ _ us hl => match us, hl with | [_], _ => rfl) S  rfl (by decide) fun cdv A outer s H E hr => (zs_one (z_rt (em0 (px_tup (ax_cons (px_op od_sub px_int (px_ix (px_v 0) px_int)) (ax_cons (px_ix (px_v 0) px_int) ax_nil))))))
abbrev N__law_sum : List Str := ["row_so", "found", "own"]
abbrev st__law_sum : Stmt := top 86
theorem sc__law_sum : FnScope N__law_sum ["row_so"] (defScope st__law_sum) := C8.fnScope_by (by decide +kernel)
noncomputable def e__law_sum : Ex := (zSeq (zSet 1 (xTup (aCons (xC (.int 0)) (aCons (xC (.int 1)) aNil)))) (zSeq (zFor (nSeq (xV 0)) (.nm 2) (zSet 1 (xCall m__law_add (aLen 2 (aCons (xV 1) (aCons (xV 2) aNil)))))) (zRt (xV 1))))
noncomputable def m__law_sum : List Dt → Option Dt := runP 3 e__law_sum
theorem c__law_sum (G : Gs P w K mg) : CP P w K mg base 4 "_law_sum" 1 m__law_sum := by
  obtain ⟨f, fd, F, hm⟩ := G.f__law_sum.ex
  have S := sc__law_sum
  exact cp_of (mu := []) F hm (F.bindsN fun _ _ _ _ _ _ us hl => match us, hl with | [_], _ => rfl) S  rfl (by decide) fun cdv A outer s H E hr => (zs_cons (z_set 1 S.nd (em0 (px_tup (ax_cons px_int (ax_cons px_int ax_nil))))) (zs_cons (z_for PassesOwn.never rfl (im0 (ix_seq (px_v 0))) (gm_n 2 S.nd) (zs_one (z_set 1 S.nd (em0 (px_call (c__law_add G) hr (ax_cons (px_v 1) (ax_cons (px_v 2) ax_nil))))))) (zs_one (z_rt (em0 (px_v 1))))))
abbrev N__law_in : List Str := ["part_so", "wide_so"]
abbrev st__law_in : Stmt := top 87
theorem sc__law_in : FnScope N__law_in ["part_so", "wide_so"] (defScope st__law_in) := C8.fnScope_by (by decide +kernel)
noncomputable def e__law_in : Ex := (zRt (x2 eqD (xSl slD (xV 0) oNo (oSo (xCall lenD (aCons (xV 1) aNil)))) (xV 1)))
noncomputable def m__law_in : List Dt → Option Dt := runP 2 e__law_in
theorem c__law_in (G : Gs P w K mg) : CP P w K mg base 1 "_law_in" 2 m__law_in := by
  obtain ⟨f, fd, F, hm⟩ := G.f__law_in.ex
  have S := sc__law_in
  exact cp_of (mu := []) F hm (F.bindsN fun _ _ _ _ _ _ us hl => match us, hl with | [_, _], _ => rfl) S  rfl (by decide) fun cdv A outer s H E hr => (zs_one (z_rt (em0 (px_cmp (od_eq (u64 hr)) (px_sl (px_v 0) ox_no (ox_so (px_b cd_len (ax_cons (px_v 1) ax_nil) G.len))) (px_v 1)))))
abbrev N__law_length : List Str := ["part_so"]
abbrev st__law_length : Stmt := top 88
theorem sc__law_length : FnScope N__law_length ["part_so"] (defScope st__law_length) := C8.fnScope_by (by decide +kernel)
noncomputable def e__law_length : Ex := (zRt (xTup (aCons (xC (.int 1)) (aCons (x2 shlD (xC (.int 1)) (xCall lenD (aCons (xV 0) aNil))) aNil))))
noncomputable def m__law_length : List Dt → Option Dt := runP 1 e__law_length
theorem c__law_length (G : Gs P w K mg) : CP P w K mg base 1 "_law_length" 1 m__law_length := by
  obtain ⟨f, fd, F, hm⟩ := G.f__law_length.ex
  have S := sc__law_length
  exact cp_of (mu := []) F hm (F.bindsN fun _ _ _ _ _ _ us hl => match us, hl with | [_], _ => rfl) S  rfl (by decide) fun cdv A outer s H E hr => (zs_one (z_rt (em0 (px_tup (ax_cons px_int (ax_cons (px_op od_shl px_int (px_b cd_len (ax_cons (px_v 0) ax_nil) G.len)) ax_nil))))))
abbrev N__law_begin : List Str := ["part_so", "found", "k", "bit"]
abbrev st__law_begin : Stmt := top 89
theorem sc__law_begin : FnScope N__law_begin ["part_so"] (defScope st__law_begin) := C8.fnScope_by (by decide +kernel)
noncomputable def e__law_begin : Ex := (zSeq (zSet 1 (xTup (aCons (xC (.int 0)) (aCons (xC (.int 1)) aNil)))) (zSeq (zFor (nCall enD (aCons (xV 0) aNil)) (.tp [(.nm 2), (.nm 3)]) (zSet 1 (xCall m__law_add (aLen 2 (aCons (xV 1) (aCons (xIf (bV (x2 gtD (xV 3) (xC (.int 0)))) (xTup (aCons (xV 3) (aCons (x2 shlD (xC (.int 1)) (x2 addD (xV 2) (xC (.int 1)))) aNil))) (xTup (aCons (xC (.int 0)) (aCons (xC (.int 1)) aNil)))) aNil)))))) (zRt (xV 1))))
noncomputable def m__law_begin : List Dt → Option Dt := runP 4 e__law_begin
theorem c__law_begin (G : Gs P w K mg) : CP P w K mg base 4 "_law_begin" 1 m__law_begin := by
  obtain ⟨f, fd, F, hm⟩ := G.f__law_begin.ex
  have S := sc__law_begin
  exact cp_of (mu := []) F hm (F.bindsN fun _ _ _ _ _ _ us hl => match us, hl with | [_], _ => rfl) S  rfl (by decide) fun cdv A outer s H E hr => (zs_cons (z_set 1 S.nd (em0 (px_tup (ax_cons px_int (ax_cons px_int ax_nil))))) (zs_cons (z_for PassesOwn.never rfl (im0 (ix_enum (ax_cons (px_v 0) ax_nil) G.enumerate)) (gm_t rfl (gms_cons (gm_n 2 S.nd) (gms_cons (gm_n 3 S.nd) gms_nil))) (zs_one (z_set 1 S.nd (em0 (px_call (c__law_add G) hr (ax_cons (px_v 1) (ax_cons (px_if (b_cmp od_gt (px_v 3) px_int) (px_tup (ax_cons (px_v 3) (ax_cons (px_op od_shl px_int (px_op od_add (px_v 2) px_int)) ax_nil))) (px_tup (ax_cons px_int (ax_cons px_int ax_nil)))) ax_nil))))))) (zs_one (z_rt (em0 (px_v 1))))))
abbrev N__law_fine : List Str := ["parts_so", "found", "lap", "later_so", "is_new", "own", "part_so"]
abbrev st__law_fine : Stmt := top 90
theorem sc__law_fine : FnScope N__law_fine ["parts_so"] (defScope st__law_fine) := C8.fnScope_by (by decide +kernel)
noncomputable def e__law_fine : Ex := (zSeq (zSet 1 (hE 3 (dN (nLst (aCons (xTup aNil) aNil))))) (zSeq (zFor (hE 3 (nCall rg1 (aCons (xC (.int 3000)) aNil))) (.nm 2) (zSeq (zPar 3 4 (nV (hE 3 (nLst aNil))) (hE 3 (xC (.bool false)))) (zSeq (zFor (hE 3 (nSeq (xV 1))) (.nm 5) (zIf (hE 3 (bV (x2 neD (dN (nLc (nSeq (xV 0)) (.nm 6) [6] (bAnd (bV (x2 gtD (xCall lenD (aCons (xV 6) aNil)) (xCall lenD (aCons (xV 5) aNil)))) (bV (xCall m__law_in (aLen 2 (aCons (xV 6) (aCons (xV 5) aNil)))))) (xC (.int 1)))) (dN (nLst aNil))))) (zSeq (zF (fxExt 3 (hE 3 (nLst (aCons (x2 addD (xV 5) (xTup (aCons (xC (.int 0)) aNil))) (aCons (x2 addD (xV 5) (xTup (aCons (xC (.int 1)) aNil))) aNil)))))) (zSet 4 (hE 3 (xC (.bool true))))) (zF (fxApp 3 (hE 3 (xV 5)))))) (zSeq (zMv 1 3) (zIf (hE 3 (bNot (bV (xV 4)))) zBk zNil))))) (zRt (hE 3 (xCall tupD (aCons (xV 1) aNil))))))
noncomputable def m__law_fine : List Dt → Option Dt := runP 7 e__law_fine
theorem c__law_fine (G : Gs P w K mg) : CP P w K mg base 2 "_law_fine" 1 m__law_fine := by
  obtain ⟨f, fd, F, hm⟩ := G.f__law_fine.ex
  have S := sc__law_fine
  exact cp_of (mu := [3]) F hm (F.bindsN fun _ _ _ _ _ _ us hl => match us, hl with | [_], _ => rfl) S  rfl (by decide) fun cdv A outer s H E hr => (zs_cons (z_set 1 S.nd (em_h 3 (em0 (px_n (pn_lst (ax_cons (px_tup ax_nil) ax_nil)))))) (zs_cons (z_for PassesOwn.never rfl (im_h 3 (im0 (ix_r1 (ax_cons px_int ax_nil) G.range))) (gm_n 2 S.nd) (zs_cons (z_par 3 4 rfl S.nd (vm_n (nm_h 3 (nm0 (pn_lst ax_nil)))) (vm_d (em_h 3 (em0 px_bl)))) (zs_cons (z_for PassesOwn.never rfl (im_h 3 (im0 (ix_seq (px_v 1)))) (gm_n 5 S.nd) (zs_one (z_if (bm_h 3 (bm0 (b_cmp (od_ne (u64 hr)) (px_n (pn_lc [("part_so", 6)] rfl S.nd (ix_seq (px_v 0)) (blkOk_by rfl) (fun _ _ _ _ _ => (gx_n 6 S.nd)) (fun _ _ _ _ _ => (pts_1 (b_w (w_and (b_cmp od_gt (px_b cd_len (ax_cons (px_v 6) ax_nil) G.len) (px_b cd_len (ax_cons (px_v 5) ax_nil) G.len)) (w_and1 (b_v (px_call (c__law_in G) hr (ax_cons (px_v 6) (ax_cons (px_v 5) ax_nil))))))))) (fun _ _ _ _ _ => px_int))) (px_n (pn_lst ax_nil))))) (zs_cons (z_f (fx_ext 3 (nm_h 3 (nm0 (pn_lst (ax_cons (px_op od_add (px_v 5) (px_tup (ax_cons px_int ax_nil))) (ax_cons (px_op od_add (px_v 5) (px_tup (ax_cons px_int ax_nil))) ax_nil))))))) (zs_one (z_set 4 S.nd (em_h 3 (em0 px_bl))))) (zs_one (z_f (fx_app 3 (em_h 3 (em0 (px_v 5))))))))) (zs_cons (z_mvD 1 3 S.nd) (zs_one (z_if (bm_h 3 (bm0 (b_not (b_v (px_v 4))))) (zs_one z_bk) zs_nil)))))) (zs_one (z_rt (em_h 3 (em0 (px_ty cd_tuple (ax_cons (px_v 1) ax_nil) G.tuple)))))))
abbrev N__law_cut : List Str := ["tin", "most_so", "found", "lap", "part_so"]
abbrev st__law_cut : Stmt := top 91
theorem sc__law_cut : FnScope N__law_cut ["tin", "most_so"] (defScope st__law_cut) := C8.fnScope_by (by decide +kernel)
noncomputable def e__law_cut : Ex := (zSeq (zSetN 2 (hE 2 (nLst (aCons (xTup aNil) aNil)))) (zSeq (zFor (hE 2 (nCall rg1 (aCons (xCallT m__law_take (aLen 1 (aCons (xV 1) aNil))) aNil))) (.nm 3) (zSeq (zSetF 4 (fxPopAt 2 (lE 2 (xCallT m__law_take (aLen 1 (aCons (xCall lenD (aCons (xV 2) aNil)) aNil)))))) (zSeq (zF (fxExt 2 (hE 2 (nLst (aCons (x2 addD (xV 4) (xTup (aCons (xC (.int 0)) aNil))) (aCons (x2 addD (xV 4) (xTup (aCons (xC (.int 1)) aNil))) aNil)))))) (zSetN 2 (lN 2 (nCall srtD (aCons (xV 2) aNil))))))) (zRt (lE 2 (xCall tupD (aCons (xV 2) aNil))))))
noncomputable def m__law_cut : List Dt → Ti → Option (Dt × Ti) := runT 5 e__law_cut
theorem c__law_cut (G : Gs P w K mg) : CT P w K mg base 2 "_law_cut" 1 m__law_cut := by
  obtain ⟨f, fd, F, hm⟩ := G.f__law_cut.ex
  have S := sc__law_cut
  exact ct_of (mu := [2]) F hm (F.bindsN fun _ _ _ _ _ _ us hl => match us, hl with | [_, _], _ => rfl) S rfl rfl (by decide) fun cdv A outer s H E hr => (zs_cons (z_setN 2 S.nd (nm_h 2 (nm0 (pn_lst (ax_cons (px_tup ax_nil) ax_nil))))) (zs_cons (z_for PassesOwn.never rfl (im_h 2 (im0 (ix_r1 (ax_cons (px_callT (c__law_take G) hr 0 (ax_cons (px_v 1) ax_nil)) ax_nil) G.range))) (gm_n 3 S.nd) (zs_cons (z_setF 4 S.nd (fx_popAt 2 (em_b 2 (by decide) (em0 (px_callT (c__law_take G) hr 0 (ax_cons (px_b cd_len (ax_cons (px_v 2) ax_nil) G.len) ax_nil)))))) (zs_cons (z_f (fx_ext 2 (nm_h 2 (nm0 (pn_lst (ax_cons (px_op od_add (px_v 4) (px_tup (ax_cons px_int ax_nil))) (ax_cons (px_op od_add (px_v 4) (px_tup (ax_cons px_int ax_nil))) ax_nil))))))) (zs_one (z_setN 2 S.nd (nm_b 2 (by decide) (nm0 (pn_b (cn_sorted (u66 hr)) (ax_cons (px_v 2) ax_nil) G.sorted)))))))) (zs_one (z_rt (em_b 2 (by decide) (em0 (px_ty cd_tuple (ax_cons (px_v 2) ax_nil) G.tuple)))))))
abbrev N__law_worth : List Str := ["spots_so", "bottom_so", "own", "worth_so"]
abbrev st__law_worth : Stmt := top 92
theorem sc__law_worth : FnScope N__law_worth ["spots_so"] (defScope st__law_worth) := C8.fnScope_by (by decide +kernel)
noncomputable def e__law_worth : Ex := (zSeq (zSet 1 (xC (.int 1))) (zSeq (zFor (nSeq (xV 0)) (.nm 2) (zSet 1 (x2 divD (x2 mulI (xV 1) (x2 ixD (xV 2) (xC (.int 1)))) (xCall m__law_gcd (aLen 2 (aCons (xV 1) (aCons (x2 ixD (xV 2) (xC (.int 1))) aNil))))))) (zRt (dN (nLc (nSeq (dN (nCall ssetD (aCons (dN (nLc (nSeq (xV 0)) (.nm 2) [2] bYes (xTup (aCons (x2 mulI (x2 ixD (xV 2) (xC (.int 0))) (x2 divD (xV 1) (x2 ixD (xV 2) (xC (.int 1))))) (aCons (xV 2) aNil))))) aNil)))) (.tp [(.nm 3), (.nm 2)]) [3, 2] bYes (xV 2))))))
noncomputable def m__law_worth : List Dt → Option Dt := runP 4 e__law_worth
theorem c__law_worth (G : Gs P w K mg) : CP P w K mg base 2 "_law_worth" 1 m__law_worth := by
  obtain ⟨f, fd, F, hm⟩ := G.f__law_worth.ex
  have S := sc__law_worth
  exact cp_of (mu := []) F hm (F.bindsN fun _ _ _ _ _ _ us hl => match us, hl with | [_], _ => rfl) S  rfl (by decide) fun cdv A outer s H E hr => (zs_cons (z_set 1 S.nd (em0 px_int)) (zs_cons (z_for PassesOwn.never rfl (im0 (ix_seq (px_v 0))) (gm_n 2 S.nd) (zs_one (z_set 1 S.nd (em0 (px_op od_div (px_op od_mul (px_v 1) (px_ix (px_v 2) px_int)) (px_call (c__law_gcd G) hr (ax_cons (px_v 1) (ax_cons (px_ix (px_v 2) px_int) ax_nil)))))))) (zs_one (z_rt (em0 (px_n (pn_lc [("worth_so", 3), ("own", 2)] rfl S.nd (ix_seq (px_n (pn_sset rfl (u66 hr) G.sorted G.set (px_n (pn_lc [("own", 2)] rfl S.nd (ix_seq (px_v 0)) (blkOk_by rfl) (fun _ _ _ _ _ => (gx_n 2 S.nd)) (fun _ _ _ _ _ => pts_yes) (fun _ _ _ _ _ => (px_tup (ax_cons (px_op od_mul (px_ix (px_v 2) px_int) (px_op od_div (px_v 1) (px_ix (px_v 2) px_int))) (ax_cons (px_v 2) ax_nil))))))))) (blkOk_by rfl) (fun _ _ _ _ _ => (gx_t rfl (gxs_cons (gx_n 3 S.nd) (gxs_cons (gx_n 2 S.nd) gxs_nil)))) (fun _ _ _ _ _ => pts_yes) (fun _ _ _ _ _ => (px_v 2)))))))))
abbrev N__law_joints : List Str := ["parts_so", "found", "part_so", "by_so", "own", "k"]
abbrev st__law_joints : Stmt := top 93
theorem sc__law_joints : FnScope N__law_joints ["parts_so"] (defScope st__law_joints) := C8.fnScope_by (by decide +kernel)
noncomputable def e__law_joints : Ex := (zSeq (zSetN 1 (hE 1 (nLst aNil))) (zSeq (zFor (hE 1 (nSeq (xV 0))) (.nm 2) (zF (fxExt 1 (hE 1 (nLc (nCall rg1 (aCons (xCall lenD (aCons (xV 2) aNil)) aNil)) (.nm 5) [5] bYes (xSl slD (xV 2) oNo (oSo (xV 5)))))))) (zSeq (zSet 3 (lE 1 (xCall dictD (aCons (dN (nLc (nSeq (xV 1)) (.nm 4) [4] bYes (xTup (aCons (xCall m__law_begin (aLen 1 (aCons (x2 addD (xV 4) (xTup (aCons (xC (.int 1)) aNil))) aNil))) (aCons (xV 4) aNil))))) aNil)))) (zRt (hE 1 (dN (nLc (nSeq (xCall m__law_worth (aLen 1 (aCons (dN (nCall lstA (aCons (xV 3) aNil))) aNil)))) (.nm 4) [4] bYes (x2 dGet (xV 3) (xV 4)))))))))
noncomputable def m__law_joints : List Dt → Option Dt := runP 6 e__law_joints
theorem c__law_joints (G : Gs P w K mg) : CP P w K mg base 5 "_law_joints" 1 m__law_joints := by
  obtain ⟨f, fd, F, hm⟩ := G.f__law_joints.ex
  have S := sc__law_joints
  exact cp_of (mu := [1]) F hm (F.bindsN fun _ _ _ _ _ _ us hl => match us, hl with | [_], _ => rfl) S  rfl (by decide) fun cdv A outer s H E hr => (zs_cons (z_setN 1 S.nd (nm_h 1 (nm0 (pn_lst ax_nil)))) (zs_cons (z_for PassesOwn.never rfl (im_h 1 (im0 (ix_seq (px_v 0)))) (gm_n 2 S.nd) (zs_one (z_f (fx_ext 1 (nm_h 1 (nm0 (pn_lc [("k", 5)] rfl S.nd (ix_r1 (ax_cons (px_b cd_len (ax_cons (px_v 2) ax_nil) G.len) ax_nil) G.range) (blkOk_by rfl) (fun _ _ _ _ _ => (gx_n 5 S.nd)) (fun _ _ _ _ _ => pts_yes) (fun _ _ _ _ _ => (px_sl (px_v 2) ox_no (ox_so (px_v 5))))))))))) (zs_cons (z_set 3 S.nd (em_b 1 (by decide) (em0 (px_ty (cd_dict rfl (u66 hr)) (ax_cons (px_n (pn_lc [("own", 4)] rfl S.nd (ix_seq (px_v 1)) (blkOk_by rfl) (fun _ _ _ _ _ => (gx_n 4 S.nd)) (fun _ _ _ _ _ => pts_yes) (fun _ _ _ _ _ => (px_tup (ax_cons (px_call (c__law_begin G) hr (ax_cons (px_op od_add (px_v 4) (px_tup (ax_cons px_int ax_nil))) ax_nil)) (ax_cons (px_v 4) ax_nil)))))) ax_nil) G.dict)))) (zs_one (z_rt (em_h 1 (em0 (px_n (pn_lc [("own", 4)] rfl S.nd (ix_seq (px_call (c__law_worth G) hr (ax_cons (px_n (pn_ty (cn_listA rfl) (ax_cons (px_v 3) ax_nil) G.list)) ax_nil))) (blkOk_by rfl) (fun _ _ _ _ _ => (gx_n 4 S.nd)) (fun _ _ _ _ _ => pts_yes) (fun _ _ _ _ _ => (px_dget (u66 hr) (px_v 3) (px_v 4))))))))))))
abbrev N__law_side : List Str := ["joint_so"]
abbrev st__law_side : Stmt := top 94
theorem sc__law_side : FnScope N__law_side ["joint_so"] (defScope st__law_side) := C8.fnScope_by (by decide +kernel)
noncomputable def e__law_side : Ex := (zRt (xIf (bV (x2 ninD (xC (.int 1)) (xV 0))) (xC (.str "left")) (xIf (bV (x2 ninD (xC (.int 0)) (xV 0))) (xC (.str "right")) (xC (.str "inner")))))
noncomputable def m__law_side : List Dt → Option Dt := runP 1 e__law_side
theorem c__law_side (G : Gs P w K mg) : CP P w K mg base 1 "_law_side" 1 m__law_side := by
  obtain ⟨f, fd, F, hm⟩ := G.f__law_side.ex
  have S := sc__law_side
  exact cp_of (mu := []) F hm (F.bindsN fun _ _ _ _ _ _ us hl => match us, hl with | [_], _ => rfl) S  rfl (by decide) fun cdv A outer s H E hr => (zs_one (z_rt (em0 (px_if (b_cmp (od_nin (u66 hr)) px_int (px_v 0)) px_str (px_if (b_cmp (od_nin (u66 hr)) px_int (px_v 0)) px_str px_str)))))
abbrev N__law_right : List Str := ["tin", "net", "spots_so", "got", "k", "j", "low_so", "high_so", "few_so", "inner_so", "cut_so", "around_so", "joints_so", "middles_so", "part_so", "number_so", "told_so", "far", "fine_so", "rough_so", "dots_so", "own", "its"]
abbrev st__law_right : Stmt := top 95
theorem sc__law_right : FnScope N__law_right ["tin"] (defScope st__law_right) := C8.fnScope_by (by decide +kernel)
noncomputable def e__law_right : Ex := (zSeq (zSet 1 (xCallT m__law_cut (aLen 1 (aCons (xC (.int 12)) aNil)))) (zSeq (zSet 2 (x2 addD (dN (nLc (nSeq (xV 1)) (.nm 21) [21] bYes (xCall m_part_begin (aLen 1 (aCons (xV 21) aNil))))) (dN (nLst (aCons (xTup (aCons (xC (.int 1)) (aCons (xC (.int 1)) aNil))) aNil))))) (zSeq (zSet 3 (dN (nLst (aCons (xV 2) (aCons (dN (nLc (nSeq (xV 1)) (.nm 21) [21] bYes (xCall m_part_end (aLen 1 (aCons (xV 21) aNil))))) (aCons (dN (nLc (nSeq (xV 2)) (.nm 21) [21] bYes (xCall m_is_dot (aLen 1 (aCons (xV 21) aNil))))) (aCons (xCall m_is_cutting (aLen 1 (aCons (xV 1) aNil))) aNil))))))) (zSeq (zIf (bNot (bV (xCall m__law_same (aLen 2 (aCons (xV 3) (aCons (dN (nLst (aCons (x2 addD (dN (nLc (nSeq (xV 1)) (.nm 21) [21] bYes (xCall m__law_begin (aLen 1 (aCons (xV 21) aNil))))) (dN (nLst (aCons (xTup (aCons (xC (.int 1)) (aCons (xC (.int 1)) aNil))) aNil)))) (aCons (xSl slD (xV 2) (oSo (xC (.int 1))) oNo) (aCons (dN (nRep (nLst (aCons (xC (.bool true)) aNil)) (xCall lenD (aCons (xV 2) aNil)))) (aCons (xC (.bool true)) aNil)))))) aNil)))))) (zRt (xC (.bool false))) zNil) (zSeq (zSet 4 (xCallT m__law_take (aLen 1 (aCons (xCall lenD (aCons (xV 1) aNil)) aNil)))) (zSeq (zSet 5 (x2 addD (x2 addD (xV 4) (xC (.int 1))) (xCallT m__law_take (aLen 1 (aCons (x2 subD (xCall lenD (aCons (xV 1) aNil)) (xV 4)) aNil))))) (zSeq (zPar 6 7 (x2 ixD (xV 2) (xV 4)) (x2 ixD (xV 2) (xV 5))) (zSeq (zSet 8 (xCall m_between_dots (aLen 2 (aCons (xV 6) (aCons (xV 7) aNil))))) (zSeq (zSet 9 (xSl slD (xV 1) (oSo (xV 4)) (oSo (xV 5)))) (zSeq (zSet 3 (dN (nLst (aCons (dN (nLc (nSeq (xV 9)) (.nm 21) [21] (bV (x2 eqD (dN (nLc (nSeq (xV 8)) (.nm 22) [22] (bV (xCall m_is_part_within (aLen 2 (aCons (xV 21) (aCons (xV 22) aNil))))) (xV 22))) (dN (nLst aNil)))) (xV 21))) (aCons (xCall m__law_sum (aLen 1 (aCons (dN (nLc (nSeq (xV 8)) (.nm 21) [21] bYes (xCall m__law_length (aLen 1 (aCons (xV 21) aNil))))) aNil))) aNil))))) (zSeq (zSet 3 (x2 addD (xV 3) (dN (nLst (aCons (xCall m_can_cut_stretch (aLen 3 (aCons (xV 6) (aCons (xV 7) (aCons (xCall lenD (aCons (xV 9) aNil)) aNil))))) (aCons (xCall m_can_cut_stretch (aLen 3 (aCons (xV 6) (aCons (xV 7) (aCons (x2 subD (xCall lenD (aCons (xV 8) aNil)) (xC (.int 1))) aNil))))) aNil)))))) (zSeq (zIf (bNot (bV (xCall m__law_same (aLen 2 (aCons (xV 3) (aCons (dN (nLst (aCons (dN (nLst aNil)) (aCons (xCall m__law_add (aLen 2 (aCons (xV 7) (aCons (xCall m__law_neg (aLen 1 (aCons (xV 6) aNil))) aNil)))) (aCons (xC (.bool true)) (aCons (xC (.bool false)) aNil)))))) aNil)))))) (zRt (xC (.bool false))) zNil) (zSeq (zSet 10 (xCall m_cut_stretch (aLen 3 (aCons (xV 6) (aCons (xV 7) (aCons (xCall lenD (aCons (xV 9) aNil)) aNil)))))) (zSeq (zSet 11 (x2 addD (x2 addD (xSl slD (xV 1) oNo (oSo (xV 4))) (xV 10)) (xSl slD (xV 1) (oSo (xV 5)) oNo))) (zSeq (zSet 3 (dN (nLst (aCons (xCall lenD (aCons (xV 10) aNil)) (aCons (xCall m_is_cutting (aLen 1 (aCons (xV 11) aNil))) (aCons (xCall m_is_finer (aLen 2 (aCons (xV 11) (aCons (xCall m_cutting_with (aLen 1 (aCons (xV 8) aNil))) aNil)))) (aCons (x2 eqD (xCall m_cutting_with (aLen 1 (aCons (xV 10) aNil))) (xCall m__law_fine (aLen 1 (aCons (xV 10) aNil)))) aNil))))))) (zSeq (zSet 3 (x2 addD (xV 3) (dN (nLst (aCons (dN (nLc (nSeq (xV 8)) (.nm 21) [21] (bV (x2 ninD (xV 21) (xCall m_cutting_with (aLen 1 (aCons (xV 8) aNil))))) (xV 21))) aNil))))) (zSeq (zIf (bNot (bV (xCall m__law_same (aLen 2 (aCons (xV 3) (aCons (dN (nLst (aCons (xCall lenD (aCons (xV 9) aNil)) (aCons (xC (.bool true)) (aCons (xC (.bool true)) (aCons (xC (.bool true)) (aCons (dN (nLst aNil)) aNil))))))) aNil)))))) (zRt (xC (.bool false))) zNil) (zSeq (zSet 12 (xCall m_joints_of (aLen 1 (aCons (xV 1) aNil)))) (zSeq (zLcD 13 [] (nLc (nSeq (xV 12)) (.nm 21) [21] bYes (xCall m_part_middle (aLen 1 (aCons (xV 21) aNil))))) (zSeq (zIf (bNot (bV (xCall m__law_same (aLen 2 (aCons (dN (nLst (aCons (dN (nCall lstA (aCons (xV 12) aNil))) (aCons (xV 13) aNil)))) (aCons (dN (nLst (aCons (xCall m__law_joints (aLen 1 (aCons (xV 1) aNil))) (aCons (xCall m__law_worth (aLen 1 (aCons (dN (nLc (nSeq (xV 2)) (.nm 21) [21] (bV (x2 ninD (xV 21) (xTup (aCons (xTup (aCons (xC (.int 0)) (aCons (xC (.int 1)) aNil))) (aCons (xTup (aCons (xC (.int 1)) (aCons (xC (.int 1)) aNil))) aNil))))) (xV 21))) aNil))) aNil)))) aNil)))))) (zRt (xC (.bool false))) zNil) (zSeq (zIf (bOr (bV (x2 neD (xCall lenD (aCons (xV 12) aNil)) (x2 subD (xCall lenD (aCons (xV 1) aNil)) (xC (.int 1))))) (bV (x2 neD (dN (nLc (nSeq (xV 12)) (.nm 21) [21] (bV (x2 neD (xCall m_joint_side (aLen 1 (aCons (xV 21) aNil))) (xCall m__law_side (aLen 1 (aCons (xV 21) aNil))))) (xV 21))) (dN (nLst aNil))))) (zRt (xC (.bool false))) zNil) (zSeq (zSet 14 (xCallT m__law_of (aLen 1 (aCons (dN (nCall lstA (aCons (xV 1) aNil))) aNil)))) (zSeq (zSet 15 (xCall m_part_number (aLen 1 (aCons (xV 14) aNil)))) (zSeq (zSet 3 (dN (nLst (aCons (xCall m_part_at (aLen 1 (aCons (xV 15) aNil))) (aCons (xCall m_part_at (aLen 1 (aCons (x2 addD (x2 mulI (xC (.int 2)) (xV 15)) (xC (.int 1))) aNil))) (aCons (xCall m_part_at (aLen 1 (aCons (x2 addD (x2 mulI (xC (.int 2)) (xV 15)) (xC (.int 2))) aNil))) (aCons (xMe "list" cntD (xCall m_parts_so_long (aLen 1 (aCons (xCall minD (aCons (xCall lenD (aCons (xV 14) aNil)) (aCons (xC (.int 10)) aNil))) aNil))) (aCons (xSl slD (xV 14) oNo (oSo (xC (.int 10)))) aNil)) aNil))))))) (zSeq (zSet 3 (x2 addD (xV 3) (dN (nLst (aCons (xCall m_first_bits (aLen 2 (aCons (xCall m_part_begin (aLen 1 (aCons (xV 14) aNil))) (aCons (xCall lenD (aCons (xV 14) aNil)) aNil)))) (aCons (xCall m_dot_depth (aLen 1 (aCons (xCall m_part_middle (aLen 1 (aCons (xV 14) aNil))) aNil))) aNil)))))) (zSeq (zIf (bNot (bV (xCall m__law_same (aLen 2 (aCons (xV 3) (aCons (dN (nLst (aCons (xV 14) (aCons (x2 addD (xV 14) (xTup (aCons (xC (.int 0)) aNil))) (aCons (x2 addD (xV 14) (xTup (aCons (xC (.int 1)) aNil))) (aCons (xC (.int 1)) (aCons (xV 14) (aCons (x2 addD (xCall lenD (aCons (xV 14) aNil)) (xC (.int 1))) aNil)))))))) aNil)))))) (zRt (xC (.bool false))) zNil) (zSeq (zIf (bV (x2 neD (xV 14) (xTup aNil))) (zSeq (zSet 16 (dN (nLst (aCons (x2 ixD (xCall m_halves_of (aLen 1 (aCons (xSl slD (xV 14) oNo (oSo (x1 negD (xC (.int 1))))) aNil))) (x2 subD (xC (.int 1)) (x2 ixD (xV 14) (x1 negD (xC (.int 1)))))) (aCons (xCall m_common_part (aLen 2 (aCons (xV 14) (aCons (xCall m_mate_of (aLen 1 (aCons (xV 14) aNil))) aNil)))) (aCons (xCall m_are_parts_apart (aLen 2 (aCons (xV 14) (aCons (xCall m_mate_of (aLen 1 (aCons (xV 14) aNil))) aNil)))) aNil)))))) (zIf (bNot (bV (xCall m__law_same (aLen 2 (aCons (xV 16) (aCons (dN (nLst (aCons (xCall m_mate_of (aLen 1 (aCons (xV 14) aNil))) (aCons (xSl slD (xV 14) oNo (oSo (x1 negD (xC (.int 1))))) (aCons (xC (.bool true)) aNil))))) aNil)))))) (zRt (xC (.bool false))) zNil)) zNil) (zSeq (zSet 17 (xCallT m__law_cut (aLen 1 (aCons (xC (.int 12)) aNil)))) (zSeq (zPar 18 19 (xCall m_common_finer (aLen 2 (aCons (xV 1) (aCons (xV 17) aNil)))) (xCall m_common_coarser (aLen 2 (aCons (xV 1) (aCons (xV 17) aNil))))) (zSeq (zSet 3 (dN (nLst (aCons (xCall m_joined_at (aLen 2 (aCons (xCall m_split_at (aLen 2 (aCons (xV 1) (aCons (xV 14) aNil)))) (aCons (xV 14) aNil)))) (aCons (x2 addD (xCall m_splits_between (aLen 2 (aCons (xV 1) (aCons (xV 18) aNil)))) (xCall m_splits_between (aLen 2 (aCons (xV 17) (aCons (xV 18) aNil))))) (aCons (x2 addD (xCall m_splits_between (aLen 2 (aCons (xV 19) (aCons (xV 1) aNil)))) (xCall m_splits_between (aLen 2 (aCons (xV 19) (aCons (xV 17) aNil))))) aNil)))))) (zSeq (zSet 3 (x2 addD (xV 3) (dN (nLst (aCons (x2 addD (xCall lenD (aCons (xV 18) aNil)) (xCall lenD (aCons (xV 19) aNil))) (aCons (dN (nLc (nSeq (xCall m_joints_of (aLen 1 (aCons (xV 18) aNil)))) (.nm 21) [21] bYes (xCall m_part_middle (aLen 1 (aCons (xV 21) aNil))))) aNil)))))) (zSeq (zSet 20 (xCall m__law_worth (aLen 1 (aCons (dN (nLc (nSeq (x2 addD (xCall m_joints_of (aLen 1 (aCons (xV 1) aNil))) (xCall m_joints_of (aLen 1 (aCons (xV 17) aNil))))) (.nm 21) [21] bYes (xCall m_part_middle (aLen 1 (aCons (xV 21) aNil))))) aNil)))) (zRt (xCall m__law_same (aLen 2 (aCons (xV 3) (aCons (dN (nLst (aCons (xV 1) (aCons (x2 subD (x2 subD (x2 mulI (xC (.int 2)) (xCall lenD (aCons (xV 18) aNil))) (xCall lenD (aCons (xV 1) aNil))) (xCall lenD (aCons (xV 17) aNil))) (aCons (x2 subD (x2 addD (xCall lenD (aCons (xV 1) aNil)) (xCall lenD (aCons (xV 17) aNil))) (x2 mulI (xC (.int 2)) (xCall lenD (aCons (xV 19) aNil)))) (aCons (x2 addD (xCall lenD (aCons (xV 1) aNil)) (xCall lenD (aCons (xV 17) aNil))) (aCons (xV 20) aNil))))))) aNil)))))))))))))))))))))))))))))))))))))
noncomputable def m__law_right : List Dt → Ti → Option (Dt × Ti) := runT 23 e__law_right
theorem c__law_right (G : Gs P w K mg) : CT P w K mg base 12 "_law_right" 0 m__law_right := by
  obtain ⟨f, fd, F, hm⟩ := G.f__law_right.ex
  have S := sc__law_right
  exact ct_of (mu := []) F hm (F.bindsN fun _ _ _ _ _ _ us hl => match us, hl with | [_], _ => rfl) S rfl rfl (by decide) fun cdv A outer s H E hr => (zs_cons (z_set 1 S.nd (em0 (px_callT (c__law_cut G) hr 0 (ax_cons px_int ax_nil)))) (zs_cons (z_set 2 S.nd (em0 (px_op od_add (px_n (pn_lc [("own", 21)] rfl S.nd (ix_seq (px_v 1)) (blkOk_by rfl) (fun _ _ _ _ _ => (gx_n 21 S.nd)) (fun _ _ _ _ _ => pts_yes) (fun _ _ _ _ _ => (px_call (c_part_begin G) hr (ax_cons (px_v 21) ax_nil))))) (px_n (pn_lst (ax_cons (px_tup (ax_cons px_int (ax_cons px_int ax_nil))) ax_nil)))))) (zs_cons (z_set 3 S.nd (em0 (px_n (pn_lst (ax_cons (px_v 2) (ax_cons (px_n (pn_lc [("own", 21)] rfl S.nd (ix_seq (px_v 1)) (blkOk_by rfl) (fun _ _ _ _ _ => (gx_n 21 S.nd)) (fun _ _ _ _ _ => pts_yes) (fun _ _ _ _ _ => (px_call (c_part_end G) hr (ax_cons (px_v 21) ax_nil))))) (ax_cons (px_n (pn_lc [("own", 21)] rfl S.nd (ix_seq (px_v 2)) (blkOk_by rfl) (fun _ _ _ _ _ => (gx_n 21 S.nd)) (fun _ _ _ _ _ => pts_yes) (fun _ _ _ _ _ => (px_call (c_is_dot G) hr (ax_cons (px_v 21) ax_nil))))) (ax_cons (px_call (c_is_cutting G) hr (ax_cons (px_v 1) ax_nil)) ax_nil)))))))) (zs_cons (z_if (bm0 (b_not (b_v (px_call (c__law_same G) hr (ax_cons (px_v 3) (ax_cons (px_n (pn_lst (ax_cons (px_op od_add (px_n (pn_lc [("own", 21)] rfl S.nd (ix_seq (px_v 1)) (blkOk_by rfl) (fun _ _ _ _ _ => (gx_n 21 S.nd)) (fun _ _ _ _ _ => pts_yes) (fun _ _ _ _ _ => (px_call (c__law_begin G) hr (ax_cons (px_v 21) ax_nil))))) (px_n (pn_lst (ax_cons (px_tup (ax_cons px_int (ax_cons px_int ax_nil))) ax_nil)))) (ax_cons (px_sl (px_v 2) (ox_so px_int) ox_no) (ax_cons (px_n (pn_rep (pn_lst (ax_cons px_bl ax_nil)) (px_b cd_len (ax_cons (px_v 2) ax_nil) G.len))) (ax_cons px_bl ax_nil)))))) ax_nil)))))) (zs_one (z_rt (em0 px_bl))) zs_nil) (zs_cons (z_set 4 S.nd (em0 (px_callT (c__law_take G) hr 0 (ax_cons (px_b cd_len (ax_cons (px_v 1) ax_nil) G.len) ax_nil)))) (zs_cons (z_set 5 S.nd (em0 (px_op od_add (px_op od_add (px_v 4) px_int) (px_callT (c__law_take G) hr 0 (ax_cons (px_op od_sub (px_b cd_len (ax_cons (px_v 1) ax_nil) G.len) (px_v 4)) ax_nil))))) (zs_cons (z_par 6 7 rfl S.nd (vm_d (em0 (px_ix (px_v 2) (px_v 4)))) (vm_d (em0 (px_ix (px_v 2) (px_v 5))))) (zs_cons (z_set 8 S.nd (em0 (px_call (c_between_dots G) hr (ax_cons (px_v 6) (ax_cons (px_v 7) ax_nil))))) (zs_cons (z_set 9 S.nd (em0 (px_sl (px_v 1) (ox_so (px_v 4)) (ox_so (px_v 5))))) (zs_cons (z_set 3 S.nd (em0 (px_n (pn_lst (ax_cons (px_n (pn_lc [("own", 21)] rfl S.nd (ix_seq (px_v 9)) (blkOk_by rfl) (fun _ _ _ _ _ => (gx_n 21 S.nd)) (fun _ _ _ _ _ => (pts_1 (b_cmp (od_eq (u64 hr)) (px_n (pn_lc [("its", 22)] rfl S.nd (ix_seq (px_v 8)) (blkOk_by rfl) (fun _ _ _ _ _ => (gx_n 22 S.nd)) (fun _ _ _ _ _ => (pts_1 (b_v (px_call (c_is_part_within G) hr (ax_cons (px_v 21) (ax_cons (px_v 22) ax_nil)))))) (fun _ _ _ _ _ => (px_v 22)))) (px_n (pn_lst ax_nil))))) (fun _ _ _ _ _ => (px_v 21)))) (ax_cons (px_call (c__law_sum G) hr (ax_cons (px_n (pn_lc [("own", 21)] rfl S.nd (ix_seq (px_v 8)) (blkOk_by rfl) (fun _ _ _ _ _ => (gx_n 21 S.nd)) (fun _ _ _ _ _ => pts_yes) (fun _ _ _ _ _ => (px_call (c__law_length G) hr (ax_cons (px_v 21) ax_nil))))) ax_nil)) ax_nil)))))) (zs_cons (z_set 3 S.nd (em0 (px_op od_add (px_v 3) (px_n (pn_lst (ax_cons (px_call (c_can_cut_stretch G) hr (ax_cons (px_v 6) (ax_cons (px_v 7) (ax_cons (px_b cd_len (ax_cons (px_v 9) ax_nil) G.len) ax_nil)))) (ax_cons (px_call (c_can_cut_stretch G) hr (ax_cons (px_v 6) (ax_cons (px_v 7) (ax_cons (px_op od_sub (px_b cd_len (ax_cons (px_v 8) ax_nil) G.len) px_int) ax_nil)))) ax_nil))))))) (zs_cons (z_if (bm0 (b_not (b_v (px_call (c__law_same G) hr (ax_cons (px_v 3) (ax_cons (px_n (pn_lst (ax_cons (px_n (pn_lst ax_nil)) (ax_cons (px_call (c__law_add G) hr (ax_cons (px_v 7) (ax_cons (px_call (c__law_neg G) hr (ax_cons (px_v 6) ax_nil)) ax_nil))) (ax_cons px_bl (ax_cons px_bl ax_nil)))))) ax_nil)))))) (zs_one (z_rt (em0 px_bl))) zs_nil) (zs_cons (z_set 10 S.nd (em0 (px_call (c_cut_stretch G) hr (ax_cons (px_v 6) (ax_cons (px_v 7) (ax_cons (px_b cd_len (ax_cons (px_v 9) ax_nil) G.len) ax_nil)))))) (zs_cons (z_set 11 S.nd (em0 (px_op od_add (px_op od_add (px_sl (px_v 1) ox_no (ox_so (px_v 4))) (px_v 10)) (px_sl (px_v 1) (ox_so (px_v 5)) ox_no)))) (zs_cons (z_set 3 S.nd (em0 (px_n (pn_lst (ax_cons (px_b cd_len (ax_cons (px_v 10) ax_nil) G.len) (ax_cons (px_call (c_is_cutting G) hr (ax_cons (px_v 11) ax_nil)) (ax_cons (px_call (c_is_finer G) hr (ax_cons (px_v 11) (ax_cons (px_call (c_cutting_with G) hr (ax_cons (px_v 8) ax_nil)) ax_nil))) (ax_cons (px_cmp (od_eq (u64 hr)) (px_call (c_cutting_with G) hr (ax_cons (px_v 10) ax_nil)) (px_call (c__law_fine G) hr (ax_cons (px_v 10) ax_nil))) ax_nil)))))))) (zs_cons (z_set 3 S.nd (em0 (px_op od_add (px_v 3) (px_n (pn_lst (ax_cons (px_n (pn_lc [("own", 21)] rfl S.nd (ix_seq (px_v 8)) (blkOk_by rfl) (fun _ _ _ _ _ => (gx_n 21 S.nd)) (fun _ _ _ _ _ => (pts_1 (b_cmp (od_nin (u66 hr)) (px_v 21) (px_call (c_cutting_with G) hr (ax_cons (px_v 8) ax_nil))))) (fun _ _ _ _ _ => (px_v 21)))) ax_nil)))))) (zs_cons (z_if (bm0 (b_not (b_v (px_call (c__law_same G) hr (ax_cons (px_v 3) (ax_cons (px_n (pn_lst (ax_cons (px_b cd_len (ax_cons (px_v 9) ax_nil) G.len) (ax_cons px_bl (ax_cons px_bl (ax_cons px_bl (ax_cons (px_n (pn_lst ax_nil)) ax_nil))))))) ax_nil)))))) (zs_one (z_rt (em0 px_bl))) zs_nil) (zs_cons (z_set 12 S.nd (em0 (px_call (c_joints_of G) hr (ax_cons (px_v 1) ax_nil)))) (zs_cons (z_lcD 13 [("own", 21)] rfl S.nd (ix_seq (px_v 12)) (blkOk_by rfl) (fun _ _ _ _ _ => (gx_n 21 S.nd)) (fun _ _ _ _ _ => pts_yes) (fun _ _ _ _ _ => (px_call (c_part_middle G) hr (ax_cons (px_v 21) ax_nil)))) (zs_cons (z_if (bm0 (b_not (b_v (px_call (c__law_same G) hr (ax_cons (px_n (pn_lst (ax_cons (px_n (pn_ty (cn_listA rfl) (ax_cons (px_v 12) ax_nil) G.list)) (ax_cons (px_v 13) ax_nil)))) (ax_cons (px_n (pn_lst (ax_cons (px_call (c__law_joints G) hr (ax_cons (px_v 1) ax_nil)) (ax_cons (px_call (c__law_worth G) hr (ax_cons (px_n (pn_lc [("own", 21)] rfl S.nd (ix_seq (px_v 2)) (blkOk_by rfl) (fun _ _ _ _ _ => (gx_n 21 S.nd)) (fun _ _ _ _ _ => (pts_1 (b_cmp (od_nin (u66 hr)) (px_v 21) (px_tup (ax_cons (px_tup (ax_cons px_int (ax_cons px_int ax_nil))) (ax_cons (px_tup (ax_cons px_int (ax_cons px_int ax_nil))) ax_nil)))))) (fun _ _ _ _ _ => (px_v 21)))) ax_nil)) ax_nil)))) ax_nil)))))) (zs_one (z_rt (em0 px_bl))) zs_nil) (zs_cons (z_if (bm0 (b_w (w_or (b_cmp (od_ne (u64 hr)) (px_b cd_len (ax_cons (px_v 12) ax_nil) G.len) (px_op od_sub (px_b cd_len (ax_cons (px_v 1) ax_nil) G.len) px_int)) (w_or1 (b_cmp (od_ne (u64 hr)) (px_n (pn_lc [("own", 21)] rfl S.nd (ix_seq (px_v 12)) (blkOk_by rfl) (fun _ _ _ _ _ => (gx_n 21 S.nd)) (fun _ _ _ _ _ => (pts_1 (b_cmp (od_ne (u64 hr)) (px_call (c_joint_side G) hr (ax_cons (px_v 21) ax_nil)) (px_call (c__law_side G) hr (ax_cons (px_v 21) ax_nil))))) (fun _ _ _ _ _ => (px_v 21)))) (px_n (pn_lst ax_nil))))))) (zs_one (z_rt (em0 px_bl))) zs_nil) (zs_cons (z_set 14 S.nd (em0 (px_callT (c__law_of G) hr 0 (ax_cons (px_n (pn_ty (cn_listA rfl) (ax_cons (px_v 1) ax_nil) G.list)) ax_nil)))) (zs_cons (z_set 15 S.nd (em0 (px_call (c_part_number G) hr (ax_cons (px_v 14) ax_nil)))) (zs_cons (z_set 3 S.nd (em0 (px_n (pn_lst (ax_cons (px_call (c_part_at G) hr (ax_cons (px_v 15) ax_nil)) (ax_cons (px_call (c_part_at G) hr (ax_cons (px_op od_add (px_op od_mul px_int (px_v 15)) px_int) ax_nil)) (ax_cons (px_call (c_part_at G) hr (ax_cons (px_op od_add (px_op od_mul px_int (px_v 15)) px_int) ax_nil)) (ax_cons (px_me PySem.F.plainAttrs_list PySem.F.slot_list_count PySem.F.type_list_count (me_count (u66 hr)) (px_call (c_parts_so_long G) hr (ax_cons (px_b (cd_min rfl) (ax_cons (px_b cd_len (ax_cons (px_v 14) ax_nil) G.len) (ax_cons px_int ax_nil)) G.min) ax_nil)) (ax_cons (px_sl (px_v 14) ox_no (ox_so px_int)) ax_nil)) ax_nil)))))))) (zs_cons (z_set 3 S.nd (em0 (px_op od_add (px_v 3) (px_n (pn_lst (ax_cons (px_call (c_first_bits G) hr (ax_cons (px_call (c_part_begin G) hr (ax_cons (px_v 14) ax_nil)) (ax_cons (px_b cd_len (ax_cons (px_v 14) ax_nil) G.len) ax_nil))) (ax_cons (px_call (c_dot_depth G) hr (ax_cons (px_call (c_part_middle G) hr (ax_cons (px_v 14) ax_nil)) ax_nil)) ax_nil))))))) (zs_cons (z_if (bm0 (b_not (b_v (px_call (c__law_same G) hr (ax_cons (px_v 3) (ax_cons (px_n (pn_lst (ax_cons (px_v 14) (ax_cons (px_op od_add (px_v 14) (px_tup (ax_cons px_int ax_nil))) (ax_cons (px_op od_add (px_v 14) (px_tup (ax_cons px_int ax_nil))) (ax_cons px_int (ax_cons (px_v 14) (ax_cons (px_op od_add (px_b cd_len (ax_cons (px_v 14) ax_nil) G.len) px_int) ax_nil)))))))) ax_nil)))))) (zs_one (z_rt (em0 px_bl))) zs_nil) (zs_cons (z_if (bm0 (b_cmp (od_ne (u64 hr)) (px_v 14) (px_tup ax_nil))) (zs_cons (z_set 16 S.nd (em0 (px_n (pn_lst (ax_cons (px_ix (px_call (c_halves_of G) hr (ax_cons (px_sl (px_v 14) ox_no (ox_so (px_un ud_neg px_int))) ax_nil)) (px_op od_sub px_int (px_ix (px_v 14) (px_un ud_neg px_int)))) (ax_cons (px_call (c_common_part G) hr (ax_cons (px_v 14) (ax_cons (px_call (c_mate_of G) hr (ax_cons (px_v 14) ax_nil)) ax_nil))) (ax_cons (px_call (c_are_parts_apart G) hr (ax_cons (px_v 14) (ax_cons (px_call (c_mate_of G) hr (ax_cons (px_v 14) ax_nil)) ax_nil))) ax_nil))))))) (zs_one (z_if (bm0 (b_not (b_v (px_call (c__law_same G) hr (ax_cons (px_v 16) (ax_cons (px_n (pn_lst (ax_cons (px_call (c_mate_of G) hr (ax_cons (px_v 14) ax_nil)) (ax_cons (px_sl (px_v 14) ox_no (ox_so (px_un ud_neg px_int))) (ax_cons px_bl ax_nil))))) ax_nil)))))) (zs_one (z_rt (em0 px_bl))) zs_nil))) zs_nil) (zs_cons (z_set 17 S.nd (em0 (px_callT (c__law_cut G) hr 0 (ax_cons px_int ax_nil)))) (zs_cons (z_par 18 19 rfl S.nd (vm_d (em0 (px_call (c_common_finer G) hr (ax_cons (px_v 1) (ax_cons (px_v 17) ax_nil))))) (vm_d (em0 (px_call (c_common_coarser G) hr (ax_cons (px_v 1) (ax_cons (px_v 17) ax_nil)))))) (zs_cons (z_set 3 S.nd (em0 (px_n (pn_lst (ax_cons (px_call (c_joined_at G) hr (ax_cons (px_call (c_split_at G) hr (ax_cons (px_v 1) (ax_cons (px_v 14) ax_nil))) (ax_cons (px_v 14) ax_nil))) (ax_cons (px_op od_add (px_call (c_splits_between G) hr (ax_cons (px_v 1) (ax_cons (px_v 18) ax_nil))) (px_call (c_splits_between G) hr (ax_cons (px_v 17) (ax_cons (px_v 18) ax_nil)))) (ax_cons (px_op od_add (px_call (c_splits_between G) hr (ax_cons (px_v 19) (ax_cons (px_v 1) ax_nil))) (px_call (c_splits_between G) hr (ax_cons (px_v 19) (ax_cons (px_v 17) ax_nil)))) ax_nil))))))) (zs_cons (z_set 3 S.nd (em0 (px_op od_add (px_v 3) (px_n (pn_lst (ax_cons (px_op od_add (px_b cd_len (ax_cons (px_v 18) ax_nil) G.len) (px_b cd_len (ax_cons (px_v 19) ax_nil) G.len)) (ax_cons (px_n (pn_lc [("own", 21)] rfl S.nd (ix_seq (px_call (c_joints_of G) hr (ax_cons (px_v 18) ax_nil))) (blkOk_by rfl) (fun _ _ _ _ _ => (gx_n 21 S.nd)) (fun _ _ _ _ _ => pts_yes) (fun _ _ _ _ _ => (px_call (c_part_middle G) hr (ax_cons (px_v 21) ax_nil))))) ax_nil))))))) (zs_cons (z_set 20 S.nd (em0 (px_call (c__law_worth G) hr (ax_cons (px_n (pn_lc [("own", 21)] rfl S.nd (ix_seq (px_op od_add (px_call (c_joints_of G) hr (ax_cons (px_v 1) ax_nil)) (px_call (c_joints_of G) hr (ax_cons (px_v 17) ax_nil)))) (blkOk_by rfl) (fun _ _ _ _ _ => (gx_n 21 S.nd)) (fun _ _ _ _ _ => pts_yes) (fun _ _ _ _ _ => (px_call (c_part_middle G) hr (ax_cons (px_v 21) ax_nil))))) ax_nil)))) (zs_one (z_rt (em0 (px_call (c__law_same G) hr (ax_cons (px_v 3) (ax_cons (px_n (pn_lst (ax_cons (px_v 1) (ax_cons (px_op od_sub (px_op od_sub (px_op od_mul px_int (px_b cd_len (ax_cons (px_v 18) ax_nil) G.len)) (px_b cd_len (ax_cons (px_v 1) ax_nil) G.len)) (px_b cd_len (ax_cons (px_v 17) ax_nil) G.len)) (ax_cons (px_op od_sub (px_op od_add (px_b cd_len (ax_cons (px_v 1) ax_nil) G.len) (px_b cd_len (ax_cons (px_v 17) ax_nil) G.len)) (px_op od_mul px_int (px_b cd_len (ax_cons (px_v 19) ax_nil) G.len))) (ax_cons (px_op od_add (px_b cd_len (ax_cons (px_v 1) ax_nil) G.len) (px_b cd_len (ax_cons (px_v 17) ax_nil) G.len)) (ax_cons (px_v 20) ax_nil))))))) ax_nil))))))))))))))))))))))))))))))))))))))
abbrev N_law : List Str := ["script", "cells_so", "k"]
abbrev st_law : Stmt := top 96
theorem sc_law : FnScope N_law ["script"] (defScope st_law) := C8.fnScope_by (by decide +kernel)
noncomputable def e_law : Ex := (zSeq (zSet 1 (dN (nCall m__law_cells (aLen 2 (aCons (xV 0) (aCons (xC (.int 2)) aNil)))))) (zRt (xCall allD (aCons (dN (nLc (nCall rg1 (aCons (xCall lenD (aCons (xV 1) aNil)) aNil)) (.nm 2) [2] bYes (xCallL m__law_right (nCall m__law_box (aLen 2 (aCons (xV 1) (aCons (xV 2) aNil))))))) aNil))))
noncomputable def m_law : List Dt → Option Dt := runP 3 e_law
theorem o_law {f : Addr} {fd : FuncData} (F : FunD K "law" "law" (defArgs (top 96)) (defBody (top 96)) (defScope (top 96)) [] [] f fd) (G : Gs P w K mg) : FnOk P w K mg base CX0 13 f fd ["script"] (spP ⟨P, w, K⟩ 1 m_law) := by
  have S := sc_law
  exact fo_of (mu := []) F S rfl (by decide) fun cdv A outer s H E hr => (zs_cons (z_set 1 S.nd (em0 (px_n (pn_call (c__law_cells G) hr (ax_cons (px_v 0) (ax_cons px_int ax_nil)))))) (zs_one (z_rt (em0 (px_b (cd_all rfl) (ax_cons (px_n (pn_lc [("k", 2)] rfl S.nd (ix_r1 (ax_cons (px_b cd_len (ax_cons (px_v 1) ax_nil) G.len) ax_nil) G.range) (blkOk_by rfl) (fun _ _ _ _ _ => (gx_n 2 S.nd)) (fun _ _ _ _ _ => pts_yes) (fun _ _ _ _ _ => (px_callL (c__law_right G) hr (pn_call (c__law_box G) hr (ax_cons (px_v 1) (ax_cons (px_v 2) ax_nil))))))) ax_nil) G.all)))))
end
end K00

namespace K00
open PySem L2 HL
abbrev Pt := List Bool
def sP (p : Pt) : Prop := p.length ≤ 1000
def sC (c : List Pt) : Prop := c.length ≤ 100000 ∧ ∀ p ∈ c, sP p
theorem is_number_i (i : Int) : m_is_number [.int i] = some (.bool true) := by
  simp [m_is_number, e_is_number]
theorem is_from_i (i j : Int) : m_is_from [.int i, .int j] = some (.bool (decide (j ≤ i))) := by
  simp [m_is_from, e_is_from, is_number_i]
theorem is_among_i (i j k : Int) : m_is_among [.int i, .int j, .int k] = some (.bool (decide (j ≤ i) && decide (i ≤ k))) := by
  simp [m_is_among, e_is_among, is_number_i]
  by_cases h : j ≤ i <;> simp [h]
theorem is_long_t (l : List Dt) (n : Int) : m_is_long [.tuple l, .int n] = some (.bool (decide ((l.length : Int) = n))) := by
  simp [m_is_long, e_is_long]
theorem sure_number_i (i j k : Int) (h : j ≤ i) (h2 : i ≤ k) : m_sure_number [.int i, .int j, .int k] = some (.int i) := by
  simp [m_sure_number, e_sure_number, is_among_i, h, h2]
theorem doubled_n (n : Nat) (h : n ≤ 1000000) : m_doubled [.int n] = some (.int (2 ^ n)) := by
  have hp : cPow 1 (n : Int) = true := cPow_ok2 (by omega) (by omega) (by decide)
  simp [m_doubled, e_doubled, hp]
/-! numbers: the greatest common divisor, fractions -/
theorem shared_loop : ∀ (n m : Nat) (x y : Option Dt), ∃ z, zWh (bV (x2 gtD (xV 3) (xC (.int 0)))) (zPar 2 3 (xV 3) (x2 modD (xV 2) (xV 3))) [x, y, some (.int m), some (.int n)] [] = some (.nx [x, y, some (.int (Nat.gcd m n)), z] []) := by
  intro n
  induction n using Nat.strongRecOn with
  | ind n ih =>
    intro m x y
    rw [zWh_eq]
    by_cases h : 0 < n
    · obtain ⟨z, hz⟩ := ih (m % n) (Nat.mod_lt _ h) n x y
      refine ⟨z, ?_⟩
      simp [h]
      rw [show ((m : Int) % (n : Int)) = ((m % n : Nat) : Int) by simp, hz]
      rw [Nat.gcd_comm n (m % n), ← Nat.gcd_rec, Nat.gcd_comm]
    · have h0 : n = 0 := by omega
      subst h0
      exact ⟨some (.int 0), by simp⟩
theorem shared_i (a b : Int) : m_shared [.int a, .int b] = some (.int (Int.gcd a b)) := by
  obtain ⟨z, hz⟩ := shared_loop b.natAbs a.natAbs (some (.int a)) (some (.int b))
  simp [m_shared, e_shared, hz]
  rfl
theorem made_q (a : Int) (b k : Nat) (hb : 0 < b) (hb2 : b ≤ 2 ^ k) (hk : k ≤ 8000) : m_made [.int a, .int b] = some (en (mkRat a b)) := by
  have hg : 0 < Int.gcd a b := Int.gcd_pos_of_ne_zero_right _ (by omega)
  have hle : Int.gcd a b ≤ b := Nat.gcd_le_right _ hb
  have hd : ∀ i : Int, cDiv i (Int.gcd a b : Int) = true := fun i => cDiv_le2 hg (Nat.le_trans hle hb2) hk
  simp [m_made, e_made, shared_i, hd, en_rat]
  rw [Rat.num_mkRat, Rat.den_mkRat, if_neg (by omega), if_neg (by omega)]
  have e : Int.gcd a (b : Int) = Nat.gcd b a.natAbs := by
    show Nat.gcd a.natAbs b = _
    exact Nat.gcd_comm _ _
  rw [e]
  exact ⟨rfl, by simp⟩
/-! tuples all through -/
mutual
def okT : Nat → Dt → Prop
  | _, .int _ => True
  | n + 1, .tuple ds => ds.length ≤ 16777216 ∧ okTs n ds
  | _, _ => False
def okTs : Nat → List Dt → Prop
  | _, [] => True
  | n, d :: ds => okT n d ∧ okTs n ds
end
theorem lc_id {p : Tg} {elt : Ev} {st : DS} {t : Ti} : ∀ (ds : List Dt), (∀ d ∈ ds, ∃ st1, setTg p d st = some st1 ∧ elt st1 t = some (d, t)) → lcGo p bYes elt ds st t = some (ds, t)
  | [], _ => rfl
  | d :: ds, h => by
    obtain ⟨st1, h1, h2⟩ := h d List.mem_cons_self
    have ih := lc_id (p := p) (elt := elt) (st := st) (t := t) ds fun y hy => h y (List.mem_cons_of_mem _ hy)
    simp [lcGo, h1, h2, ih]
theorem okTs_mem : ∀ {n : Nat} {ds : List Dt}, okTs n ds → ∀ d ∈ ds, okT n d
  | n, d :: ds, h, e, he => by
    rw [okTs] at h
    rcases List.mem_cons.mp he with rfl | he
    · exact h.1
    · exact okTs_mem h.2 e he
theorem tupled_ok : ∀ (n : Nat) (d : Dt), okT n d → mr_tupled (n + 1) [d] = some d
  | n, .int i, _ => by simp [mr_tupled, e_tupled]
  | n + 1, .tuple ds, h => by
    rw [okT] at h
    have hl := lc_id (p := .nm 1) (elt := xCall (mr_tupled (n + 1)) (aLen 1 (aCons (xV 1) aNil))) (st := [some (.tuple ds), none]) (t := []) ds fun d hd => ⟨_, rfl, by
      have := tupled_ok n d (okTs_mem h.2 d hd)
      simp [this]⟩
    rw [mr_tupled]
    simp [e_tupled, h.1, hl]
  | 0, .tuple _, h => by simp [okT] at h
  | _, .none, h => by simp [okT] at h
  | _, .bool _, h => by simp [okT] at h
  | _, .str _, h => by simp [okT] at h
  | _, .list _, h => by simp [okT] at h
  | _, .dict _, h => by simp [okT] at h
theorem okTs_map {α : Type} {n : Nat} (f : α → Dt) : ∀ (l : List α), (∀ a ∈ l, okT n (f a)) → okTs n (l.map f)
  | [], _ => by simp [okTs]
  | a :: l, h => by
    rw [List.map_cons, okTs]
    exact ⟨h a List.mem_cons_self, okTs_map f l fun b hb => h b (List.mem_cons_of_mem _ hb)⟩
theorem okT_p {n : Nat} {p : Pt} (h : p.length ≤ 16777216) : okT (n + 1) (en p) := by
  rw [en_list, okT]
  refine ⟨by simpa using h, okTs_map _ p fun b _ => ?_⟩
  rw [en_bool]; simp [okT]
theorem okT_c {n : Nat} {c : List Pt} (h : sC c) : okT (n + 2) (en c) := by
  rw [en_list, okT]
  have := h.1
  refine ⟨by simp; omega, okTs_map _ c fun p hp => okT_p ?_⟩
  have := h.2 p hp
  unfold sP at this
  omega
theorem okT_q {n : Nat} {q : Rat} : okT (n + 1) (en q) := by
  simp [en_rat, okT, okTs]
theorem tupled_p {p : Pt} (h : p.length ≤ 16777216) : m_tupled [en p] = some (en p) := tupled_ok 7 _ (okT_p h)
theorem tupled_c {c : List Pt} (h : sC c) : m_tupled [en c] = some (en c) := tupled_ok 7 _ (okT_c h)
theorem tupled_q (q : Rat) : m_tupled [en q] = some (en q) := tupled_ok 7 _ okT_q
/-! PARTS -/
theorem bit01 (b : Bool) : inA (en b) (.tuple [.int 0, .int 1]) = some (.bool true) := by
  have := in_tup b [false, true] (by decide)
  cases b <;> simpa [en_bool] using this
theorem is_part_p (p : Pt) (h : p.length ≤ 16777216) : m_is_part [en p] = some (.bool true) := by
  have hl := lc_map (p := .nm 1) (elt := xAnd (xCall m_is_number (aLen 1 (aCons (xV 1) aNil))) (x2 inA (xV 1) (xTup (aCons (xC (.int 0)) (aCons (xC (.int 1)) aNil))))) (st := [some (en p), none]) (t := []) (en : Bool → Dt) (fun _ => .bool true) p fun b _ => ⟨_, rfl, by
    have h1 := is_number_i (if b then 1 else 0)
    have h2 := bit01 b
    rw [en_bool] at h2
    simp [en_bool, h1, h2]⟩
  have ha := d_allL (p.map fun _ => true)
  simp only [List.map_map] at ha
  simp [m_is_part, e_is_part, h, hl]
  rw [show (List.map (fun (_ : Bool) => PyData.bool true) p) = List.map (PyData.bool ∘ fun _ => true) p from rfl, ha]
  simp
theorem sure_part_p (p : Pt) (h : p.length ≤ 16777216) : m_sure_part [en p] = some (en p) := by
  simp [m_sure_part, e_sure_part, tupled_p h, is_part_p p h]
theorem lies_in_p (p q : Pt) : m_lies_in [en p, en q] = some (.bool (decide (p.take q.length = q))) := by
  simp [m_lies_in, e_lies_in, sl_to, eq_en]
theorem take_pre (p q : Pt) : p.take q.length = q ↔ q <+: p := by
  constructor
  · intro h; rw [← h]; exact List.take_prefix _ _
  · intro h; exact (List.prefix_iff_eq_take.mp h).symm
theorem lies_in_q (p q : Pt) : m_lies_in [en p, en q] = some (.bool (decide (q <+: p))) := by
  rw [lies_in_p]
  congr 2
  exact decide_eq_decide.mpr (take_pre p q)
theorem meet_p (p q : Pt) : m_meet [en p, en q] = some (.bool (decide (q <+: p) || decide (p <+: q))) := by
  by_cases h : q <+: p <;> simp [m_meet, e_meet, lies_in_q, h]
/-- the worth of bits -/
def wn : Pt → Nat
  | [] => 0
  | b :: p => b.toNat * 2 ^ p.length + wn p
theorem wn_lt : ∀ p : Pt, wn p < 2 ^ p.length
  | [] => by simp [wn]
  | b :: p => by
    have := wn_lt p
    rw [wn, List.length_cons, Nat.pow_succ]
    cases b <;> simp <;> omega
theorem wn_app : ∀ p q : Pt, wn (p ++ q) = wn p * 2 ^ q.length + wn q
  | [], q => by simp [wn]
  | b :: p, q => by
    rw [List.cons_append, wn, wn, wn_app p q, List.length_append, Nat.pow_add, Nat.add_mul, Nat.mul_assoc]
    omega
theorem worth_loop (x : Option Dt) : ∀ (p : Pt) (a : Nat) (y : Option Dt), ∃ z, forD (.nm 2) (zSet 1 (x2 addD (x2 mulI (xC (.int 2)) (xV 1)) (xV 2))) (p.map en) [x, some (.int a), y] [] = some (.nx [x, some (.int ((a * 2 ^ p.length + wn p : Nat) : Int)), z] [])
  | [], a, y => ⟨y, by simp [wn]⟩
  | b :: p, a, y => by
    obtain ⟨z, hz⟩ := worth_loop x p (2 * a + b.toNat) (some (en b))
    refine ⟨z, ?_⟩
    have hc : cMul 2 (a : Int) = true := cMul_small (.inl (by decide))
    rw [List.map_cons, s_for_cons]
    have e1 : (2 * (a : Int) + (if b = true then 1 else 0)) = ((2 * a + b.toNat : Nat) : Int) := by cases b <;> simp
    simp only [en_bool] at hz ⊢
    have e2 : (2 * a + b.toNat) * 2 ^ p.length + wn p = a * 2 ^ (b :: p).length + wn (b :: p) := by
      rw [List.length_cons, wn, Nat.pow_succ, Nat.add_mul, Nat.mul_comm 2 a, Nat.mul_assoc, Nat.mul_comm 2, Nat.add_assoc]
    rw [← e2]
    simp [hc]
    rw [e1, hz]
    simp
theorem worth_p (p : Pt) : m_worth_in [en p] = some (.int (wn p)) := by
  obtain ⟨z, hz⟩ := worth_loop (some (en p)) p 0 none
  simp at hz
  simp [m_worth_in, e_worth_in, hz]
theorem made_2 (a : Int) (k : Nat) (hk : k ≤ 2000) : m_made [.int a, .int (2 ^ k)] = some (en (mkRat a (2 ^ k))) := by
  have h := made_q a (2 ^ k) k (Nat.two_pow_pos k) (Nat.le_refl _) (by omega)
  rw [← h]
  simp
def bq (p : Pt) : Rat := mkRat (wn p) (2 ^ p.length)
def eq (p : Pt) : Rat := mkRat (wn p + 1 : Nat) (2 ^ p.length)
theorem begin_in_p (p : Pt) (h : p.length ≤ 2000) : m_begin_in [en p] = some (en (bq p)) := by
  simp [m_begin_in, e_begin_in, worth_p, doubled_n p.length (by omega), made_2 _ _ h, bq]
theorem end_in_p (p : Pt) (h : p.length ≤ 2000) : m_end_in [en p] = some (en (eq p)) := by
  simp [m_end_in, e_end_in, worth_p, doubled_n p.length (by omega), made_2 _ _ h, eq]
theorem part_begin_p (p : Pt) (h : sP p) : m_part_begin [en p] = some (en (bq p)) := by
  have hl : p.length ≤ 1000 := h
  simp [m_part_begin, e_part_begin, sure_part_p p (by omega), begin_in_p p (by omega)]
theorem part_end_p (p : Pt) (h : sP p) : m_part_end [en p] = some (en (eq p)) := by
  have hl : p.length ≤ 1000 := h
  simp [m_part_end, e_part_end, sure_part_p p (by omega), end_in_p p (by omega)]
theorem add_1 (p : Pt) (b : Bool) (i : Int) (hi : i = if b then 1 else 0) (h : p.length ≤ 16777215) : addD (en p) (.tuple [.int i]) = some (en (p ++ [b])) := by
  have := add_en p [b] (by simp; omega)
  rw [en_list [b], List.map_singleton, en_bool] at this
  rw [hi, this]
theorem add_f (p : Pt) (h : p.length ≤ 16777215) : addD (en p) (.tuple [.int 0]) = some (en (p ++ [false])) := add_1 p false 0 rfl h
theorem add_t (p : Pt) (h : p.length ≤ 16777215) : addD (en p) (.tuple [.int 1]) = some (en (p ++ [true])) := add_1 p true 1 rfl h
theorem part_middle_p (p : Pt) (h : sP p) : m_part_middle [en p] = some (en (eq (p ++ [false]))) := by
  have hl : p.length ≤ 1000 := h
  simp [m_part_middle, e_part_middle, sure_part_p p (by omega), add_f p (by omega), end_in_p (p ++ [false]) (by simp; omega)]
theorem halves_p (p : Pt) (h : sP p) : m_halves_of [en p] = some (en ((p ++ [false], p ++ [true]) : Pt × Pt)) := by
  have hl : p.length ≤ 1000 := h
  simp [m_halves_of, e_halves_of, sure_part_p p (by omega), add_f p (by omega), add_t p (by omega), en_pair]
theorem mate_p (p : Pt) (b : Bool) (h : sP p) : m_mate_of [en (p ++ [b])] = some (en (p ++ [!b])) := by
  have hl : p.length ≤ 1000 := h
  have hix := ix_enL p b
  have ha : addD (en p) (.tuple [.int (1 - if b = true then 1 else 0)]) = some (en (p ++ [!b])) := add_1 p (!b) _ (by cases b <;> rfl) (by omega)
  have hs := sl_butlast (p ++ [b])
  rw [List.dropLast_concat] at hs
  rw [en_bool] at hix
  simp [m_mate_of, e_mate_of, sure_part_p (p ++ [b]) (by simp; omega), eq_nilT, hs, hix, ha]
theorem within_p (p q : Pt) (h : sP p) (h2 : sP q) : m_is_part_within [en p, en q] = some (.bool (decide (q <+: p))) := by
  have hl : p.length ≤ 1000 := h
  have hl2 : q.length ≤ 1000 := h2
  simp [m_is_part_within, e_is_part_within, sure_part_p p (by omega), sure_part_p q (by omega), lies_in_q]
theorem apart_p (p q : Pt) (h : sP p) (h2 : sP q) : m_are_parts_apart [en p, en q] = some (.bool (!(decide (q <+: p) || decide (p <+: q)))) := by
  have hl : p.length ≤ 1000 := h
  have hl2 : q.length ≤ 1000 := h2
  simp [m_are_parts_apart, e_are_parts_apart, sure_part_p p (by omega), sure_part_p q (by omega), meet_p]
/-! bits of numbers -/
def bitsOf (n m : Nat) : Pt := (List.range m).map fun i => decide (n / 2 ^ (m - 1 - i) % 2 = 1)
theorem bitsOf_len (n m : Nat) : (bitsOf n m).length = m := by simp [bitsOf]
theorem en_bit (k : Nat) : (.int ((k : Int) % 2) : Dt) = en (decide (k % 2 = 1)) := by
  rw [en_bool]
  rcases Nat.mod_two_eq_zero_or_one k with h | h
  · have : (k : Int) % 2 = 0 := by omega
    simp [h, this]
  · have : (k : Int) % 2 = 1 := by omega
    simp [h, this]
theorem bits_n (n m : Nat) (hm : m ≤ 2000) : m_bits_in [.int n, .int m] = some (en (bitsOf n m)) := by
  have hl := lc_map (p := .nm 2) (elt := x2 modD (x2 divD (xV 0) (xCall m_doubled (aLen 1 (aCons (x2 subD (x2 subD (xV 1) (xC (.int 1))) (xV 2)) aNil)))) (xC (.int 2))) (st := [some (.int n), some (.int m), none]) (t := []) (fun i : Nat => (.int (0 + (i : Int)) : Dt)) (fun i => en (decide (n / 2 ^ (m - 1 - i) % 2 = 1))) (List.range m) fun i hi => ⟨_, rfl, by
    have hi2 : i < m := by simpa using hi
    have e : (m : Int) - 1 - i = ((m - 1 - i : Nat) : Int) := by omega
    have hd : cDiv (n : Int) (2 ^ (m - 1 - i)) = true := cDiv_pow (by omega)
    have e2 : ((n : Int) / 2 ^ (m - 1 - i)) = ((n / 2 ^ (m - 1 - i) : Nat) : Int) := by simp
    simp [e, doubled_n _ (show m - 1 - i ≤ 1000000 by omega), hd]
    rw [e2, en_bit]⟩
  rw [← rgD_map] at hl
  have hm2 : m ≤ 16777216 := by omega
  have e : List.map (fun i => en (decide (n / 2 ^ (m - 1 - i) % 2 = 1))) (List.range m) = (bitsOf n m).map en := by simp [bitsOf]
  rw [e] at hl
  simp [m_bits_in, e_bits_in, hm2, hl]
theorem bits_wn : ∀ p : Pt, bitsOf (wn p) p.length = p
  | [] => rfl
  | b :: p => by
    have ih := bits_wn p
    have hlt := wn_lt p
    unfold bitsOf at ih ⊢
    rw [List.length_cons, List.range_succ_eq_map, List.map_cons, List.map_map]
    refine List.cons_eq_cons.mpr ⟨?_, ?_⟩
    · rw [wn]
      simp only [Nat.add_sub_cancel, Nat.sub_zero]
      rw [Nat.mul_comm, Nat.mul_add_div (Nat.two_pow_pos _), Nat.div_eq_of_lt hlt, Nat.add_zero]
      cases b <;> rfl
    · refine Eq.trans (List.map_congr_left fun i hi => ?_) ih
      have hi2 : i < p.length := by simpa using hi
      have e : p.length + 1 - 1 - (i + 1) = p.length - 1 - i := by omega
      show decide (wn (b :: p) / 2 ^ (p.length + 1 - 1 - (i + 1)) % 2 = 1) = _
      rw [e, wn]
      have e2 : b.toNat * 2 ^ p.length = 2 ^ (p.length - 1 - i) * (2 * (b.toNat * 2 ^ i)) := by
        have : p.length = (p.length - 1 - i) + 1 + i := by omega
        conv => lhs; rw [this, Nat.pow_add, Nat.pow_add]
        rw [Nat.pow_one]
        simp only [Nat.mul_comm, Nat.mul_left_comm, Nat.mul_assoc]
      rw [e2, Nat.mul_add_div (Nat.two_pow_pos _), Nat.mul_add_mod]
/-! DOTS -/
theorem ix_q0 (q : Rat) : ixD (en q) (.int 0) = some (.int q.num) := by rw [en_rat]; rfl
theorem ix_q1 (q : Rat) : ixD (en q) (.int 1) = some (.int q.den) := by rw [en_rat]; rfl
theorem is_fraction_q (q : Rat) : m_is_fraction [en q] = some (.bool true) := by
  have h1 : m_is_long [en q, .int 2] = some (.bool true) := by rw [en_rat, is_long_t]; rfl
  have h2 : (1 : Int) ≤ q.den := by have := q.den_pos; omega
  have h3 : Int.gcd q.num (q.den : Int) = 1 := q.reduced
  simp [m_is_fraction, e_is_fraction, h1, ix_q0, ix_q1, is_number_i, is_from_i, h2, shared_i, h3]
theorem two_power_loop : ∀ (k : Nat), zWh (bV (x2 eqD (x2 modD (xV 0) (xC (.int 2))) (xC (.int 0)))) (zSet 0 (x2 divD (xV 0) (xC (.int 2)))) [some (.int (2 ^ k))] [] = some (.nx [some (.int 1)] [])
  | 0 => by
    rw [zWh_eq]
    simp
  | k + 1 => by
    have ih := two_power_loop k
    have h1 : (2 : Int) ^ (k + 1) % 2 = 0 := by rw [Int.pow_succ]; omega
    have h2 : (2 : Int) ^ (k + 1) / 2 = 2 ^ k := by rw [Int.pow_succ]; omega
    have h3 : cDiv (2 ^ (k + 1)) 2 = true := cDiv_lt64 (by decide) (by decide)
    rw [zWh_eq]
    simp [h1, h2, h3, ih]
theorem is_two_power_n (k : Nat) : m_is_two_power [.int (2 ^ k)] = some (.bool true) := by
  simp [m_is_two_power, e_is_two_power, two_power_loop]
/-- a DOT -/
structure Dot (q : Rat) : Prop where
  lo : 0 ≤ q.num
  hi : q.num ≤ q.den
  two : ∃ k, q.den = 2 ^ k ∧ k ≤ 2000
theorem is_dot_q {q : Rat} (h : Dot q) : m_is_dot [en q] = some (.bool true) := by
  obtain ⟨k, hk, _⟩ := h.two
  have h1 : m_is_two_power [.int (q.den : Int)] = some (.bool true) := by
    rw [hk]
    have := is_two_power_n k
    simpa using this
  simp [m_is_dot, e_is_dot, is_fraction_q, ix_q0, ix_q1, h.lo, h.hi, h1]
theorem sure_dot_q {q : Rat} (h : Dot q) : m_sure_dot [en q] = some (en q) := by
  simp [m_sure_dot, e_sure_dot, tupled_q, is_dot_q h]
theorem sure_fraction_q {q : Rat} (h : Dot q) : m_sure_fraction [en q] = some (en q) := by
  simp [m_sure_fraction, e_sure_fraction, tupled_q, is_fraction_q, ix_q0, ix_q1, h.lo, h.hi]
theorem Dot.natAbs {q : Rat} (h : Dot q) : q.num.natAbs.log2 ≤ 2000 := by
  obtain ⟨k, hk, hk2⟩ := h.two
  have h1 := h.lo
  have h2 := h.hi
  by_cases h0 : q.num.natAbs = 0
  · rw [h0]; decide
  · have : q.num.natAbs < 2 ^ (k + 1) := by
      have h3 : q.num.natAbs ≤ 2 ^ k := by omega
      rw [Nat.pow_succ]
      have := Nat.two_pow_pos k
      omega
    have := (Nat.log2_lt h0).mpr this
    omega
theorem den_log {q : Rat} (h : Dot q) : q.den.log2 ≤ 2000 := by
  obtain ⟨k, hk, hk2⟩ := h.two
  rw [hk, Nat.log2_two_pow]; exact hk2
theorem cMul_log {i j : Int} (h : i.natAbs.log2 + j.natAbs.log2 < 1000000) : cMul i j = true := by
  unfold cMul
  simp only [Bool.or_eq_true, decide_eq_true_eq]
  exact .inr h
theorem is_less_q {p q : Rat} (hp : Dot p) (hq : Dot q) : m_is_less [en p, en q] = some (.bool (decide (p < q))) := by
  have h1 : cMul p.num (q.den : Int) = true := cMul_log (by have := hp.natAbs; have := den_log hq; rw [Int.natAbs_natCast]; omega)
  have h2 : cMul q.num (p.den : Int) = true := cMul_log (by have := hq.natAbs; have := den_log hp; rw [Int.natAbs_natCast]; omega)
  simp [m_is_less, e_is_less, ix_q0, ix_q1, h1, h2, Rat.lt_iff]
theorem power_loop : ∀ (k a : Nat), zWh (bV (x2 gtD (xV 0) (xC (.int 1)))) (zPar 0 1 (x2 divD (xV 0) (xC (.int 2))) (x2 addD (xV 1) (xC (.int 1)))) [some (.int (2 ^ k)), some (.int a)] [] = some (.nx [some (.int 1), some (.int (a + k : Nat))] [])
  | 0, a => by
    rw [zWh_eq]
    simp
  | k + 1, a => by
    have ih := power_loop k (a + 1)
    have h1 : (1 : Int) < 2 ^ (k + 1) := by
      have : (0 : Int) < 2 ^ k := Int.pow_pos (by decide)
      rw [Int.pow_succ]; omega
    have h2 : (2 : Int) ^ (k + 1) / 2 = 2 ^ k := by rw [Int.pow_succ]; omega
    have h3 : cDiv (2 ^ (k + 1)) 2 = true := cDiv_lt64 (by decide) (by decide)
    rw [zWh_eq]
    rw [show a + (k + 1) = a + 1 + k by omega]
    simp at ih
    simp [h1, h2, h3, ih]
theorem power_in_n (k : Nat) : m_power_in [.int (2 ^ k)] = some (.int k) := by
  have h := power_loop k 0
  simp at h
  simp [m_power_in, e_power_in, h]
theorem dot_depth_q {q : Rat} (h : Dot q) (k : Nat) (hk : q.den = 2 ^ k) : m_dot_depth [en q] = some (.int k) := by
  have h1 : m_power_in [.int (q.den : Int)] = some (.int k) := by
    rw [hk]
    have := power_in_n k
    simpa using this
  simp [m_dot_depth, e_dot_depth, sure_dot_q h, ix_q1, h1]
theorem dvd_two_pow : ∀ (n d : Nat), d ∣ 2 ^ n → ∃ k, d = 2 ^ k ∧ k ≤ n
  | 0, d, h => ⟨0, by simpa using h, Nat.le_refl _⟩
  | n + 1, d, h => by
    rcases Nat.mod_two_eq_zero_or_one d with e | e
    · obtain ⟨c, rfl⟩ : 2 ∣ d := Nat.dvd_of_mod_eq_zero e
      rw [Nat.pow_succ, Nat.mul_comm (2 ^ n)] at h
      obtain ⟨k, rfl, hk⟩ := dvd_two_pow n c (Nat.dvd_of_mul_dvd_mul_left (by decide) h)
      exact ⟨k + 1, by rw [Nat.pow_succ, Nat.mul_comm], by omega⟩
    · have hc : Nat.Coprime d 2 := by
        show Nat.gcd d 2 = 1
        rw [Nat.gcd_comm, Nat.gcd_rec, e]
        rfl
      rw [Nat.pow_succ] at h
      obtain ⟨k, rfl, hk⟩ := dvd_two_pow n d (Nat.Coprime.dvd_of_dvd_mul_right hc h)
      exact ⟨k, rfl, by omega⟩
theorem dot_mk (w n : Nat) (h : w ≤ 2 ^ n) (hn : n ≤ 2000) : Dot (mkRat w (2 ^ n)) := by
  have hp := Nat.two_pow_pos n
  have e := Rat.den_mkRat (w : Int) (2 ^ n)
  have e2 := Rat.num_mkRat (w : Int) (2 ^ n)
  rw [if_neg (by omega), Int.natAbs_natCast] at e e2
  have hg : 0 < Nat.gcd (2 ^ n) w := Nat.gcd_pos_of_pos_left _ hp
  refine ⟨?_, ?_, ?_⟩
  · rw [e2]; exact Int.ediv_nonneg (by omega) (by omega)
  · rw [e, e2]
    have := Nat.div_le_div_right (c := Nat.gcd (2 ^ n) w) h
    exact_mod_cast this
  · rw [e]
    obtain ⟨k, hk, hk2⟩ := dvd_two_pow n (2 ^ n / Nat.gcd (2 ^ n) w) (Nat.div_dvd_of_dvd (Nat.gcd_dvd_left _ _))
    exact ⟨k, hk, by omega⟩
theorem dot_b (p : Pt) (h : p.length ≤ 2000) : Dot (bq p) := dot_mk _ _ (Nat.le_of_lt (wn_lt p)) h
theorem dot_e (p : Pt) (h : p.length ≤ 2000) : Dot (eq p) := dot_mk _ _ (wn_lt p) h
theorem mk_cross (w n : Nat) : (mkRat w (2 ^ n)).num * (2 ^ n : Nat) = w * (mkRat w (2 ^ n)).den := by
  have hp := Nat.two_pow_pos n
  have e := Rat.mkRat_self (mkRat w (2 ^ n))
  exact (Rat.mkRat_eq_iff (Rat.den_nz _) (by omega)).mp e
theorem first_bits_p (p : Pt) (h : p.length ≤ 60) (hne : bq p ≠ 1) : m_first_bits [en (bq p), .int p.length] = some (en p) := by
  have hd := dot_b p (by omega)
  have h1 : eqD (en (bq p)) (.tuple [.int 1, .int 1]) = some (.bool false) := by
    have := eq_en (bq p) 1 (by decide)
    rw [decide_eq_false hne] at this
    exact this
  have h2 : cMul (bq p).num (2 ^ p.length) = true := by
    have := cMul_log (i := (bq p).num) (j := ((2 ^ p.length : Nat) : Int)) (by
      have := hd.natAbs
      rw [Int.natAbs_natCast, Nat.log2_two_pow]; omega)
    simpa using this
  have hpos : (0 : Int) < (bq p).den := by have := (bq p).den_pos; omega
  have h3 : ∀ i : Int, cDiv i ((bq p).den : Int) = true := fun i => by
    obtain ⟨k, hk, hk2⟩ := hd.two
    exact cDiv_le2 (k := k) (bq p).den_pos (by omega) (by omega)
  have h4 : (bq p).num * 2 ^ p.length / ((bq p).den : Int) = (wn p : Int) := by
    have := mk_cross (wn p) p.length
    have e : (bq p).num * 2 ^ p.length = (wn p : Int) * ((bq p).den : Int) := by simpa [bq] using this
    rw [e]
    exact Int.mul_ediv_cancel _ (by omega)
  have h5 : m_sure_number [.int p.length, .int 0, .int 60] = some (.int p.length) := sure_number_i _ _ _ (by omega) (by omega)
  have h6 := bits_n (wn p) p.length (by omega)
  rw [bits_wn] at h6
  simp [m_first_bits, e_first_bits, sure_fraction_q hd, h5, h1, ix_q0, ix_q1, doubled_n p.length (by omega), h2, h3, h4, h6]
/-! PARTS by numbers -/
theorem part_number_p (p : Pt) (h : sP p) : m_part_number [en p] = some (.int (2 ^ p.length - 1 + wn p)) := by
  have hl : p.length ≤ 1000 := h
  simp [m_part_number, e_part_number, sure_part_p p (by omega), doubled_n p.length (by omega), worth_p]
theorem part_at_loop (w n : Nat) (hw : w < 2 ^ n) (hn : n ≤ 2000) : ∀ (d m : Nat), m + d = n → zWh (bV (x2 leD (x2 subD (xCall m_doubled (aLen 1 (aCons (x2 addD (xV 1) (xC (.int 1))) aNil))) (xC (.int 1))) (xV 0))) (zAug 1 (onII cYes fun i j => .int (i + j)) (xC (.int 1))) [some (.int (2 ^ n - 1 + w)), some (.int m)] [] = some (.nx [some (.int (2 ^ n - 1 + w)), some (.int n)] [])
  | 0, m, h => by
    have h0 : m = n := by omega
    subst h0
    have hc := doubled_n (m + 1) (by omega)
    have hlt : ¬ ((2 : Int) ^ (m + 1) - 1 ≤ 2 ^ m - 1 + w) := by
      have : (w : Int) < 2 ^ m := by exact_mod_cast hw
      rw [Int.pow_succ]; omega
    rw [zWh_eq]
    simp at hc
    simp [hc, hlt]
  | d + 1, m, h => by
    have ih := part_at_loop w n hw hn d (m + 1) (by omega)
    have hc := doubled_n (m + 1) (by omega)
    have hle : (2 : Int) ^ (m + 1) - 1 ≤ 2 ^ n - 1 + w := by
      have : (2 : Int) ^ (m + 1) ≤ 2 ^ n := by exact_mod_cast Nat.pow_le_pow_right (by decide) (by omega)
      omega
    rw [zWh_eq]
    simp at hc ih
    simp [hc, hle, ih]
theorem part_at_p (p : Pt) (h : p.length ≤ 2000) : m_part_at [.int (2 ^ p.length - 1 + wn p)] = some (en p) := by
  have hl := part_at_loop (wn p) p.length (wn_lt p) h p.length 0 (by omega)
  have h0 : (0 : Int) ≤ 2 ^ p.length - 1 + wn p := by
    have : (0 : Int) < 2 ^ p.length := Int.pow_pos (by decide)
    omega
  have h6 := bits_n (wn p) p.length (by omega)
  rw [bits_wn] at h6
  have e : (2 : Int) ^ p.length - 1 + wn p - 2 ^ p.length + 1 = wn p := by omega
  simp at hl
  simp [m_part_at, e_part_at, is_from_i, h0, hl, doubled_n p.length (by omega), e, h6]
theorem long_loop (n : Nat) (h : n ≤ 10) : m_parts_so_long [.int n] = some (.list ((List.range (2 ^ n)).map fun i => en (bitsOf i n))) := by
  have h5 : m_sure_number [.int n, .int 0, .int 10] = some (.int n) := sure_number_i _ _ _ (by omega) (by omega)
  have hb : (2 : Nat) ^ n ≤ 16777216 := Nat.le_trans (Nat.pow_le_pow_right (by decide) h) (by decide)
  have h7 : rg1 [.int (2 ^ n)] = some (rgD 0 (2 ^ n)) := by
    have := rg1_n (2 ^ n) hb
    simpa using this
  have hl := lc_map (p := .nm 2) (elt := xCall m_bits_in (aLen 2 (aCons (xV 2) (aCons (xV 1) aNil)))) (st := [some (.int n), some (.int n), none]) (t := []) (fun i : Nat => (.int (0 + (i : Int)) : Dt)) (fun i => en (bitsOf i n)) (List.range (2 ^ n)) fun i hi => ⟨_, rfl, by
    have := bits_n i n (by omega)
    simp [this]⟩
  rw [← rgD_map] at hl
  simp [m_parts_so_long, e_parts_so_long, h5, doubled_n n (by omega), h7, hb, hl]
theorem wn_bitsOf : ∀ (m n : Nat), n < 2 ^ m → wn (bitsOf n m) = n := by
  intro m n hn
  -- by the injectivity of the bits' worth
  have inj : ∀ (p q : Pt), p.length = q.length → wn p = wn q → p = q := by
    intro p
    induction p with
    | nil => intro q hq _; cases q with
      | nil => rfl
      | cons => simp at hq
    | cons b p ih =>
      intro q hq hw
      cases q with
      | nil => simp at hq
      | cons c q =>
        have hq2 : p.length = q.length := by simpa using hq
        have h1 := wn_lt p
        have h2 := wn_lt q
        rw [wn, wn, hq2] at hw
        rw [hq2] at h1
        have hbc : b = c := by
          cases b <;> cases c <;> simp at hw ⊢ <;> omega
        subst hbc
        rw [ih q hq2 (by omega)]
  have key : ∀ (m n : Nat), n < 2 ^ m → ∃ p : Pt, p.length = m ∧ wn p = n := by
    intro m
    induction m with
    | zero => intro n hn; exact ⟨[], rfl, by simp [wn]; omega⟩
    | succ m ih =>
      intro n hn
      rw [Nat.pow_succ] at hn
      by_cases h : n < 2 ^ m
      · obtain ⟨p, h1, h2⟩ := ih n h
        exact ⟨false :: p, by simp [h1], by simp [wn, h2]⟩
      · obtain ⟨p, h1, h2⟩ := ih (n - 2 ^ m) (by omega)
        exact ⟨true :: p, by simp [h1], by simp [wn, h1, h2]; omega⟩
  obtain ⟨p, h1, h2⟩ := key m n hn
  rw [← h2, ← h1, bits_wn]
theorem count_one (n : Nat) (p : Pt) (hp : p.length = n) : ((List.range (2 ^ n)).map fun i => bitsOf i n).count p = 1 := by
  have hw : wn p < 2 ^ n := by rw [← hp]; exact wn_lt p
  have e : ∀ i ∈ List.range (2 ^ n), (bitsOf i n = p ↔ i = wn p) := fun i hi => by
    have hi2 : i < 2 ^ n := by simpa using hi
    constructor
    · intro h; rw [← h, wn_bitsOf n i hi2]
    · intro h; rw [h, ← hp, bits_wn]
  have nd : ((List.range (2 ^ n)).map fun i => bitsOf i n).Nodup := by
    refine List.pairwise_map.mpr (List.Pairwise.imp_of_mem (fun {a b} ha hb hne h => ?_) List.nodup_range)
    have ha2 : a < 2 ^ n := by simpa using ha
    have hb2 : b < 2 ^ n := by simpa using hb
    apply hne
    rw [← wn_bitsOf n a ha2, ← wn_bitsOf n b hb2, h]
  have hm : p ∈ (List.range (2 ^ n)).map fun i => bitsOf i n := List.mem_map.mpr ⟨wn p, by simpa using hw, by rw [← hp, bits_wn]⟩
  have h1 := List.count_pos_iff.mpr hm
  have h2 := List.nodup_iff_count.mp nd p
  omega
theorem cnt_en {α : Type} [En α] [DecidableEq α] (l : List α) (a : α) (h : En.dp α ≤ 63) : cntD (.list (l.map en)) [en a] = some (.int (l.count a)) := by
  unfold cntD
  dsimp only
  rw [shp_list l h, shp_en a (by omega), if_pos (show (true && true) = true from rfl)]
  congr 2
  rw [List.countP_map, List.count]
  congr 1
  refine List.countP_congr fun b _ => ?_
  show PyData.eqv (en b) (en a) = true ↔ _
  rw [ev_en]
  simp
/-! what two PARTS have in common -/
def lcp : Pt → Pt → Pt
  | a :: p, b :: q => if a = b then a :: lcp p q else []
  | _, _ => []
theorem lcp_le : ∀ p q : Pt, lcp p q <+: p
  | [], q => by simp [lcp]
  | a :: p, [] => by simp [lcp]
  | a :: p, b :: q => by
    unfold lcp
    split
    · exact List.cons_prefix_cons.mpr ⟨rfl, lcp_le p q⟩
    · exact List.nil_prefix
theorem common_loop : ∀ (p q r : Pt), zWh (bAnd (bV (x2 ltA (xV 2) (xCall minD (aCons (xCall lenD (aCons (xV 0) aNil)) (aCons (xCall lenD (aCons (xV 1) aNil)) aNil))))) (bV (x2 eqD (x2 ixD (xV 0) (xV 2)) (x2 ixD (xV 1) (xV 2))))) (zAug 2 (onII cYes fun i j => .int (i + j)) (xC (.int 1))) [some (en (r ++ p)), some (en (r ++ q)), some (.int r.length)] [] =
    some (.nx [some (en (r ++ p)), some (en (r ++ q)), some (.int (r.length + (lcp p q).length : Nat))] [])
  | [], q, r => by
    have h : ¬ ((r.length : Int) < min (r.length : Int) ((r.length : Int) + q.length)) := by omega
    rw [zWh_eq]
    simp [lcp, h]
  | a :: p, [], r => by
    have h : ¬ ((r.length : Int) < min ((r.length : Int) + (p.length + 1)) (r.length : Int)) := by omega
    rw [zWh_eq]
    simp [lcp, h]
  | a :: p, b :: q, r => by
    have h : (r.length : Int) < min ((r.length : Int) + (p.length + 1)) ((r.length : Int) + (q.length + 1)) := by omega
    have h' : (r.length : Int) < r.length + (min (p.length : Int) q.length + 1) := by omega
    have i1 := ix_en (r ++ a :: p) r.length
    have i2 := ix_en (r ++ b :: q) r.length
    simp at i1 i2
    have e := eq_en a b (by decide)
    rw [zWh_eq]
    by_cases hab : a = b
    · subst hab
      have ih := common_loop p q (r ++ [a])
      simp at ih
      simp at e
      simp [lcp, h, h', i1, i2, e]
      rw [show (r.length : Int) + ((lcp p q).length + 1) = r.length + 1 + (lcp p q).length by omega]
      exact ih
    · simp [hab] at e
      simp [lcp, h, h', i1, i2, e, hab]
theorem common_in_p (p q : Pt) : m_common_in [en p, en q] = some (en (lcp p q)) := by
  have h := common_loop p q []
  simp at h
  have e := sl_to p (lcp p q).length
  rw [(List.prefix_iff_eq_take.mp (lcp_le p q)).symm] at e
  simp [m_common_in, e_common_in, h, e]
theorem common_part_p (p q : Pt) (h : sP p) (h2 : sP q) : m_common_part [en p, en q] = some (en (lcp p q)) := by
  have hl : p.length ≤ 1000 := h
  have hl2 : q.length ≤ 1000 := h2
  simp [m_common_part, e_common_part, sure_part_p p (by omega), sure_part_p q (by omega), common_in_p]
end K00

namespace K00
open PySem L2 HL
/-! the law's own: fractions -/
theorem lgcd_loop : ∀ (n m : Nat), ∃ z, zWh (bV (x2 gtD (xV 1) (xC (.int 0)))) (zPar 0 1 (xV 1) (x2 modD (xV 0) (xV 1))) [some (.int m), some (.int n)] [] = some (.nx [some (.int (Nat.gcd m n)), z] []) := by
  intro n
  induction n using Nat.strongRecOn with
  | ind n ih =>
    intro m
    rw [zWh_eq]
    by_cases h : 0 < n
    · obtain ⟨z, hz⟩ := ih (m % n) (Nat.mod_lt _ h) n
      refine ⟨z, ?_⟩
      simp [h]
      rw [show ((m : Int) % (n : Int)) = ((m % n : Nat) : Int) by simp, hz]
      rw [Nat.gcd_comm n (m % n), ← Nat.gcd_rec, Nat.gcd_comm]
    · have h0 : n = 0 := by omega
      subst h0
      exact ⟨some (.int 0), by simp⟩
theorem law_gcd_i (a b : Int) : m__law_gcd [.int a, .int b] = some (.int (Int.gcd a b)) := by
  obtain ⟨z, hz⟩ := lgcd_loop b.natAbs a.natAbs
  simp [m__law_gcd, e__law_gcd, hz]
  rfl
theorem law_frac_q (a : Int) (b k : Nat) (hb : 0 < b) (hb2 : b ≤ 2 ^ k) (hk : k ≤ 8000) : m__law_frac [.int a, .int b] = some (en (mkRat a b)) := by
  have hg : 0 < Int.gcd a b := Int.gcd_pos_of_ne_zero_right _ (by omega)
  have hle : Int.gcd a b ≤ b := Nat.gcd_le_right _ hb
  have hd : ∀ i : Int, cDiv i (Int.gcd a b : Int) = true := fun i => cDiv_le2 hg (Nat.le_trans hle hb2) hk
  have h0 : ¬ ((b : Int) < 0) := by omega
  simp [m__law_frac, e__law_frac, law_gcd_i, hd, en_rat, h0]
  rw [Rat.num_mkRat, Rat.den_mkRat, if_neg (by omega), if_neg (by omega)]
  have e : Int.gcd a (b : Int) = Nat.gcd b a.natAbs := by
    show Nat.gcd a.natAbs b = _
    exact Nat.gcd_comm _ _
  rw [e]
  exact ⟨rfl, by simp⟩
/-- a fraction of no great numbers -/
structure Sz (q : Rat) : Prop where
  n : q.num.natAbs.log2 ≤ 3000
  d : q.den.log2 ≤ 3000
theorem log_le {n k : Nat} (h : n ≤ 2 ^ k) : n.log2 ≤ k := by
  by_cases h0 : n = 0
  · subst h0; simp
  · have h1 : n < 2 ^ (k + 1) := by rw [Nat.pow_succ]; have := Nat.two_pow_pos k; omega
    have := (Nat.log2_lt h0).mpr h1
    omega
theorem law_add_q {p q : Rat} (hp : Sz p) (hq : Sz q) : m__law_add [en p, en q] = some (en (p + q)) := by
  have l1 := hp.n
  have l2 := hq.n
  have l3 := hp.d
  have l4 := hq.d
  have c1 : cMul p.num (q.den : Int) = true := cMul_log (by rw [Int.natAbs_natCast]; omega)
  have c2 : cMul q.num (p.den : Int) = true := cMul_log (by rw [Int.natAbs_natCast]; omega)
  have c3 : cMul (p.den : Int) (q.den : Int) = true := cMul_log (by rw [Int.natAbs_natCast, Int.natAbs_natCast]; omega)
  have hb : p.den * q.den ≤ 2 ^ (p.den.log2 + 1 + (q.den.log2 + 1)) := by
    rw [Nat.pow_add]
    exact Nat.mul_le_mul (Nat.le_of_lt Nat.lt_log2_self) (Nat.le_of_lt Nat.lt_log2_self)
  have h := law_frac_q (p.num * q.den + q.num * p.den) (p.den * q.den) _ (Nat.mul_pos p.den_pos q.den_pos) hb (by omega)
  rw [← Rat.add_def'] at h
  simp at h
  simp [m__law_add, e__law_add, ix_q0, ix_q1, c1, c2, c3, h]
theorem law_neg_q (q : Rat) : m__law_neg [en q] = some (en (-q)) := by
  rw [show en (-q) = (.tuple [.int (-q.num), .int q.den] : Dt) from rfl]
  simp [m__law_neg, e__law_neg, ix_q0, ix_q1]
theorem law_in_p (p q : Pt) : m__law_in [en p, en q] = some (.bool (decide (q <+: p))) := by
  simp [m__law_in, e__law_in, sl_to, eq_en]
  exact take_pre p q
theorem law_side_p (p : Pt) : m__law_side [en p] = some (.str (if true ∈ p then (if false ∈ p then "inner" else "right") else "left")) := by
  have h1 : ninD (.int 1) (en p) = some (.bool (decide (true ∉ p))) := nin_en true p (by decide)
  have h0 : ninD (.int 0) (en p) = some (.bool (decide (false ∉ p))) := nin_en false p (by decide)
  by_cases a : true ∈ p <;> by_cases b : false ∈ p <;> simp [m__law_side, e__law_side, h1, h0, a, b]
theorem sz_dot {q : Rat} (h : Dot q) : Sz q := ⟨by have := h.natAbs; omega, by have := den_log h; omega⟩
theorem sz_neg {q : Rat} (h : Sz q) : Sz (-q) := ⟨by have := h.n; simpa using this, by have := h.d; simpa using this⟩
/-! equal to itself, for the law's own comparing -/
mutual
def okS : Nat → Dt → Prop
  | _, .int _ => True
  | _, .bool _ => True
  | _, .str x => shp (.str x) = true
  | n + 1, .tuple ds => ds.length ≤ 16777216 ∧ okSs n ds
  | n + 1, .list ds => ds.length ≤ 16777216 ∧ okSs n ds
  | _, _ => False
def okSs : Nat → List Dt → Prop
  | _, [] => True
  | n, d :: ds => okS n d ∧ okSs n ds
end
theorem okSs_mem : ∀ {n : Nat} {ds : List Dt}, okSs n ds → ∀ d ∈ ds, okS n d
  | n, d :: ds, h, e, he => by
    rw [okSs] at h
    rcases List.mem_cons.mp he with rfl | he
    · exact h.1
    · exact okSs_mem h.2 e he
theorem zip_self (ds : List Dt) : ((ds.zip ds).map fun p => (.tuple [p.1, p.2] : Dt)) = ds.map fun d => .tuple [d, d] := by
  induction ds with
  | nil => rfl
  | cons d ds ih => simp [ih]
theorem eq_bool (a b : Bool) : eqD (.bool a) (.bool b) = some (.bool (a == b)) := (rfl)
theorem ne_bool (a b : Bool) : neD (.bool a) (.bool b) = some (.bool (!(a == b))) := (rfl)
theorem eq_str (x : Str) (h : shp (.str x) = true) : eqD (.str x) (.str x) = some (.bool true) := by
  unfold eqD
  rw [h, if_pos (show (true && true) = true from rfl)]
  simp [PyData.eqv]
theorem same_self : ∀ (n : Nat) (d : Dt), okS n d → mr__law_same (n + 1) [d, d] = some (.bool true)
  | n, .int i, _ => by simp [mr__law_same, e__law_same, isD, isNn]
  | n, .bool i, _ => by
    have := eq_bool i i
    simp [mr__law_same, e__law_same, isD, isNn, eq_bool]
  | n, .str x, h => by
    have h : shp (.str x) = true := by simpa [okS] using h
    simp [mr__law_same, e__law_same, isD, isNn, eq_bool, eq_str x h]
  | n + 1, .tuple ds, h => by
    rw [okS] at h
    have hl := lc_map (p := .tp [.nm 2, .nm 3]) (elt := xCall (mr__law_same (n + 1)) (aLen 2 (aCons (xV 2) (aCons (xV 3) aNil)))) (st := [some (.tuple ds), some (.tuple ds), none, none]) (t := []) (fun d : Dt => (.tuple [d, d] : Dt)) (fun _ => .bool true) ds fun d hd => ⟨_, rfl, by
      have := same_self n d (okSs_mem h.2 d hd)
      simp [this]⟩
    have ha := d_allL (ds.map fun _ => true)
    rw [List.map_map] at ha
    have hz : zipDD [.tuple ds, .tuple ds] = some (ds.map fun d => .tuple [d, d]) := congrArg some (zip_self ds)
    rw [mr__law_same]
    simp [e__law_same, h.1, hz, hl, ne_bool]
    rw [show (List.map (fun (_ : Dt) => PyData.bool true) ds) = List.map (PyData.bool ∘ fun _ => true) ds from rfl, ha]
    simp
  | n + 1, .list ds, h => by
    rw [okS] at h
    have hl := lc_map (p := .tp [.nm 2, .nm 3]) (elt := xCall (mr__law_same (n + 1)) (aLen 2 (aCons (xV 2) (aCons (xV 3) aNil)))) (st := [some (.list ds), some (.list ds), none, none]) (t := []) (fun d : Dt => (.tuple [d, d] : Dt)) (fun _ => .bool true) ds fun d hd => ⟨_, rfl, by
      have := same_self n d (okSs_mem h.2 d hd)
      simp [this]⟩
    have ha := d_allL (ds.map fun _ => true)
    rw [List.map_map] at ha
    have hz : zipDD [.list ds, .list ds] = some (ds.map fun d => .tuple [d, d]) := congrArg some (zip_self ds)
    rw [mr__law_same]
    simp [e__law_same, h.1, hz, hl, ne_bool]
    rw [show (List.map (fun (_ : Dt) => PyData.bool true) ds) = List.map (PyData.bool ∘ fun _ => true) ds from rfl, ha]
    simp
  | 0, .tuple _, h => by simp [okS] at h
  | 0, .list _, h => by simp [okS] at h
  | _, .none, h => by simp [okS] at h
  | _, .dict _, h => by simp [okS] at h
def half (n : Nat) : Rat := mkRat 1 (2 ^ n)
theorem en_half (n : Nat) : en (half n) = (.tuple [.int 1, .int (2 ^ n)] : Dt) := by
  have hp := Nat.two_pow_pos n
  have e := Rat.den_mkRat 1 (2 ^ n)
  have e2 := Rat.num_mkRat 1 (2 ^ n)
  rw [if_neg (by omega)] at e e2
  have hg : Nat.gcd (2 ^ n) (Int.natAbs 1) = 1 := Nat.gcd_one_right _
  rw [hg] at e e2
  rw [en_rat]
  unfold half
  rw [e, e2]
  simp
theorem en_zero : en (0 : Rat) = (.tuple [.int 0, .int 1] : Dt) := rfl
theorem sz_zero : Sz 0 := ⟨by decide, by decide⟩
theorem sz_half (n : Nat) (h : n ≤ 2000) : Sz (half n) := by
  have := dot_mk 1 n (Nat.two_pow_pos n) h
  exact sz_dot this
theorem law_length_p (p : Pt) (h : p.length ≤ 1000000) : m__law_length [en p] = some (en (half p.length)) := by
  have hp : cPow 1 (p.length : Int) = true := cPow_ok2 (by omega) (by omega) (by decide)
  rw [en_half]
  simp [m__law_length, e__law_length, hp]
theorem bq_app (r : Pt) (b : Bool) : bq (r ++ [b]) = bq r + (if b then half (r.length + 1) else 0) := by
  have h1 := Nat.two_pow_pos r.length
  have h2 := Nat.two_pow_pos (r.length + 1)
  unfold bq half
  rw [wn_app, List.length_append]
  cases b with
  | true =>
    rw [if_pos rfl, Rat.mkRat_add_mkRat _ _ (by omega) (by omega), Rat.mkRat_eq_iff (by simp) (Nat.ne_of_gt (Nat.mul_pos h1 h2))]
    simp [wn, Int.pow_succ]
    grind
  | false =>
    rw [if_neg (by simp), Rat.add_zero, Rat.mkRat_eq_iff (by simp) (by simp)]
    simp [wn, Int.pow_succ]
    grind
/-- enumerate from a place on -/
def enF : Nat → List Dt → List Dt
  | _, [] => []
  | k, d :: ds => .tuple [.int (k : Int), d] :: enF (k + 1) ds
theorem enF_eq : ∀ (k : Nat) (ds : List Dt), (ds.mapIdx fun i d => (.tuple [.int ((k + i : Nat) : Int), d] : Dt)) = enF k ds
  | k, [] => rfl
  | k, d :: ds => by
    rw [List.mapIdx_cons, enF]
    congr 1
    rw [← enF_eq (k + 1) ds]
    congr 1
    funext i d
    rw [show k + (i + 1) = k + 1 + i by omega]
theorem enL_eq (ds : List Dt) : enL ds = enF 0 ds := by
  rw [← enF_eq]
  unfold enL
  congr 1
  funext i d
  rw [Nat.zero_add]
theorem begin_loop (x : Option Dt) : ∀ (p r : Pt) (y z : Option Dt), (r ++ p).length ≤ 2000 → ∃ y' z', forD (.tp [.nm 2, .nm 3]) (zSet 1 (xCall m__law_add (aLen 2 (aCons (xV 1) (aCons (xIf (bV (x2 gtD (xV 3) (xC (.int 0)))) (xTup (aCons (xV 3) (aCons (x2 shlD (xC (.int 1)) (x2 addD (xV 2) (xC (.int 1)))) aNil))) (xTup (aCons (xC (.int 0)) (aCons (xC (.int 1)) aNil)))) aNil))))) (enF r.length (p.map en)) [x, some (en (bq r)), y, z] [] = some (.nx [x, some (en (bq (r ++ p))), y', z'] [])
  | [], r, y, z, _ => ⟨y, z, by simp [enF]⟩
  | b :: p, r, y, z, h => by
    have hr : r.length + (p.length + 1) ≤ 2000 := by simpa using h
    obtain ⟨y', z', hz⟩ := begin_loop x p (r ++ [b]) (some (.int r.length)) (some (en b)) (by simp; omega)
    refine ⟨y', z', ?_⟩
    have hp : cPow 1 ((r.length : Int) + 1) = true := cPow_ok2 (by omega) (by omega) (by decide)
    have hs := sz_dot (dot_b r (by omega))
    rw [List.map_cons, enF, s_for_cons]
    have e := bq_app r b
    rw [show (r ++ [b]).length = r.length + 1 by simp, List.append_assoc] at hz
    have e3 : ((r.length : Int) + 1).toNat = r.length + 1 := by omega
    cases b with
    | true =>
      have ha := law_add_q hs (sz_half (r.length + 1) (by omega))
      rw [if_pos rfl] at e
      rw [← e, en_half] at ha
      simp only [en_bool] at hz ⊢
      simp [hp, e3, ha]
      simpa using hz
    | false =>
      have ha := law_add_q hs sz_zero
      rw [if_neg (by simp)] at e
      rw [← e, en_zero] at ha
      simp only [en_bool] at hz ⊢
      simp [ha]
      simpa using hz
theorem bq_nil : bq [] = 0 := rfl
theorem law_begin_p (p : Pt) (h : p.length ≤ 2000) : m__law_begin [en p] = some (en (bq p)) := by
  obtain ⟨y, z, hl⟩ := begin_loop (some (en p)) p [] none none (by simpa using h)
  rw [bq_nil, en_zero, List.nil_append] at hl
  have he : enD [en p] = some (enF 0 (p.map en)) := congrArg some (enL_eq _)
  simp at hl
  simp [m__law_begin, e__law_begin, he, hl]
theorem all_map {α : Type} (f : α → Bool) (l : List α) : allD [.list (l.map fun a => .bool (f a))] = some (.bool (l.all f)) := by
  have ha := d_allL (l.map f)
  rw [List.map_map] at ha
  rw [show (l.map fun a => (.bool (f a) : Dt)) = l.map (PyData.bool ∘ f) from rfl, ha]
  simp [List.all_map]
theorem any_map {α : Type} (f : α → Bool) (l : List α) : anyD [.list (l.map fun a => .bool (f a))] = some (.bool (l.any f)) := by
  have ha := d_anyL (l.map f)
  rw [List.map_map] at ha
  rw [show (l.map fun a => (.bool (f a) : Dt)) = l.map (PyData.bool ∘ f) from rfl, ha]
  simp [List.any_map]
theorem side_in_p (p : Pt) (h : p.length ≤ 16777216) : m_side_in [en p] = some (.str (if true ∈ p then (if false ∈ p then "inner" else "right") else "left")) := by
  have hl0 := lc_map (p := .nm 1) (elt := x2 eqD (xV 1) (xC (.int 0))) (st := [some (en p), none]) (t := []) (en : Bool → Dt) (fun b => .bool (!b)) p fun b _ => ⟨_, rfl, by cases b <;> simp [en_bool]⟩
  have hl1 := lc_map (p := .nm 1) (elt := x2 eqD (xV 1) (xC (.int 1))) (st := [some (en p), none]) (t := []) (en : Bool → Dt) (fun b => .bool b) p fun b _ => ⟨_, rfl, by cases b <;> simp [en_bool]⟩
  have h0 := all_map (fun b => !b) p
  have h1 := all_map (fun b => b) p
  have e0 : p.all (fun b => !b) = decide (true ∉ p) := by
    rw [Bool.eq_iff_iff]
    simp only [List.all_eq_true, decide_eq_true_iff]
    constructor
    · intro q m; have := q true m; simp at this
    · intro q b m; cases b with
      | true => exact absurd m q
      | false => rfl
  have e1 : p.all (fun b => b) = decide (false ∉ p) := by
    rw [Bool.eq_iff_iff]
    simp only [List.all_eq_true, decide_eq_true_iff]
    constructor
    · intro q m; have := q false m; simp at this
    · intro q b m; cases b with
      | false => exact absurd m q
      | true => rfl
  rw [e0] at h0
  rw [e1] at h1
  by_cases a : true ∈ p <;> by_cases b : false ∈ p <;> simp [m_side_in, e_side_in, h, hl0, hl1, h0, h1, a, b]
theorem joint_side_p (p : Pt) (h : sP p) : m_joint_side [en p] = some (.str (if true ∈ p then (if false ∈ p then "inner" else "right") else "left")) := by
  have hl : p.length ≤ 1000 := h
  simp [m_joint_side, e_joint_side, sure_part_p p (by omega), side_in_p p (by omega)]
/-! draws -/
structure TI (n : Nat) (t : Ti) : Prop where
  ex : ∃ a b c : Int, t = [a, b, c] ∧ 0 ≤ a ∧ 0 ≤ b ∧ b.natAbs < 2 ^ 62 ∧ 0 ≤ c ∧ c.natAbs ≤ n
theorem take_t {n : Nat} {t : Ti} (h : TI n t) (hn : n ≤ 1000000) (k : Nat) (hk : 0 < k) (hk2 : k ≤ 1000000) : ∃ (i : Nat) (t' : Ti), i < k ∧ TI (n + 1) t' ∧ m__law_take [.int k] t = some (.int i, t') := by
  obtain ⟨a, b, c, rfl, ha, hb, hb2, hc, hc2⟩ := h.ex
  have hk0 : (0 : Int) < k := by omega
  by_cases h0 : 0 < a
  · have hd : cDiv a (k : Int) = true := cDiv_le2 (k := 20) hk (by omega) (by omega)
    have hm1 : 0 ≤ a % (k : Int) := Int.emod_nonneg _ (by omega)
    have hm2 : a % (k : Int) < k := Int.emod_lt_of_pos _ hk0
    refine ⟨(a % (k : Int)).toNat, [a / k, b, c], by omega, ⟨a / k, b, c, rfl, Int.ediv_nonneg ha (by omega), hb, hb2, hc, by omega⟩, ?_⟩
    have e : (((a % (k : Int)).toNat : Nat) : Int) = a % k := by omega
    rw [e]
    simp [m__law_take, e__law_take, h0, hk, hd]
  · have c1 : cMul 48271 (c + 1) = true := cMul_small (.inl (by decide))
    have c2 : cMul (b + 48271 * (c + 1)) (39373 + (c + 1)) = true := cMul_small (.inr (by omega))
    generalize hx : ((b + 48271 * (c + 1)) * (39373 + (c + 1))) % 2147483647 = x
    have hx1 : 0 ≤ x := by rw [← hx]; exact Int.emod_nonneg _ (by decide)
    have hx2 : x < 2147483647 := by rw [← hx]; exact Int.emod_lt_of_pos _ (by decide)
    have d1 : cDiv b 1000003 = true := cDiv_lt64 (by decide) (by decide)
    have c3 : cMul (x + (c + 1) + b / 1000003) (x % 40009 + 7) = true := cMul_small (.inr (by omega))
    generalize hy : ((x + (c + 1) + b / 1000003) * (x % 40009 + 7)) % 2147483629 = y
    have c4 : cMul y 48271 = true := cMul_small (.inr (by decide))
    have d2 : cDiv ((y * 48271 + x) % 2147483587) 64 = true := cDiv_lt64 (by decide) (by decide)
    generalize hz : (y * 48271 + x) % 2147483587 / 64 = z at *
    have hm1 : 0 ≤ z % (k : Int) := Int.emod_nonneg _ (by omega)
    have hm2 : z % (k : Int) < k := Int.emod_lt_of_pos _ hk0
    refine ⟨(z % (k : Int)).toNat, [a, b, c + 1], by omega, ⟨a, b, c + 1, rfl, ha, hb, hb2, by omega, by omega⟩, ?_⟩
    have e : (((z % (k : Int)).toNat : Nat) : Int) = z % k := by omega
    rw [e]
    simp [m__law_take, e__law_take, h0, hk, c1, c2, hx, d1, c3, hy, c4, d2, hz]
theorem of_t {n : Nat} {t : Ti} (h : TI n t) (hn : n ≤ 1000000) (ds : List Dt) (hk : ds ≠ []) (hk2 : ds.length ≤ 1000000) : ∃ (i : Nat) (d : Dt) (t' : Ti), ds[i]? = some d ∧ TI (n + 1) t' ∧ m__law_of [.list ds] t = some (d, t') := by
  have hp : 0 < ds.length := List.length_pos_iff.mpr hk
  obtain ⟨i, t', h1, h2, h3⟩ := take_t h hn ds.length hp hk2
  refine ⟨i, ds[i], t', List.getElem?_eq_getElem h1, h2, ?_⟩
  have hx : ixD (.list ds) (.int (i : Int)) = some ds[i] := by
    show L2.atI ds (i : Int) = _
    rw [atI_n, List.getElem?_eq_getElem h1]
  simp [m__law_of, e__law_of, h3, hx]
theorem pow18 : powD (.int 10) (.int 18) = some (.int 1000000000000000000) := by
  unfold powD onII
  dsimp only
  rw [if_pos (show cPow 10 18 = true by decide)]; rfl
theorem box_t (cs : List Int) (k : Nat) (hk : k ≤ 1000) : ∃ a b : Int, m__law_box [.list (cs.map .int), .int k] = some [.int a, .int b, .int 0] ∧ TI 0 [a, b, 0] := by
  have c1 : ∀ (v : Int) (b : Bool), cMul (v.natAbs : Int) (if b = true then 1 else 0) = true := fun v b => cMul_small (.inr (by cases b <;> decide))
  have c2 : cMul 39373 (k : Int) = true := cMul_small (.inl (by decide))
  have fin : ∀ v : Int, TI 0 [(v.natAbs : Int) * (if decide (1000000000000000000 ≤ (v.natAbs : Int)) = true then 1 else 0), v % 2305843009213693951 + 39373 * k + 9500000, 0] := fun v => by
    have m1 : 0 ≤ v % 2305843009213693951 := Int.emod_nonneg _ (by decide)
    have m2 : v % 2305843009213693951 < 2305843009213693951 := Int.emod_lt_of_pos _ (by decide)
    exact ⟨_, _, _, rfl, by split <;> omega, by omega, by omega, by omega, by omega⟩
  by_cases h : k < cs.length
  · refine ⟨_, _, ?_, fin cs[k]⟩
    have hx : ixD (.list (cs.map .int)) (.int (k : Int)) = some (.int cs[k]) := by
      show L2.atI (cs.map PyData.int) (k : Int) = _
      rw [atI_n, List.getElem?_map, List.getElem?_eq_getElem h]; rfl
    have c1' := c1 cs[k] (decide (1000000000000000000 ≤ (cs[k].natAbs : Int)))
    simp at c1'
    simp [m__law_box, e__law_box, h, hx, pow18, c1', c2]
  · refine ⟨_, _, ?_, fin 0⟩
    have c1' := c1 0 (decide ((1000000000000000000 : Int) ≤ ((0 : Int).natAbs : Int)))
    simp at c1'
    simp [m__law_box, e__law_box, h, pow18, c1', c2]
end K00

namespace K00
open PySem L2 HL
theorem cells_loop (x y : Option Dt) : ∀ (l : List Int) (k : Nat) (cs : List Int) (u v w : Option Dt), cs.length = 2 → k + l.length ≤ 1000 → ∃ (cs' : List Int) (u' v' w' : Option Dt), cs'.length = 2 ∧ forD (.tp [.nm 3, .nm 4]) (zSeq (zSet 5 (hE 2 (x2 modD (xCall intD (aCons (xV 3) aNil)) (xV 1)))) (zPut 2 (hE 2 (xV 5)) (lE 2 (x2 addD (x2 ixD (xV 2) (xV 5)) (x2 mulI (xV 4) (x2 addD (xV 3) (xC (.int 2)))))))) (enF k (l.map .int)) [x, some (.int 2), some (.list (cs.map .int)), u, v, w] [] = some (.nx [x, some (.int 2), some (.list (cs'.map .int)), u', v', w'] [])
  | [], k, cs, u, v, w, h, _ => ⟨cs, u, v, w, h, by simp [enF]⟩
  | i :: l, k, cs, u, v, w, h, hl => by
    have hl2 : k + (l.length + 1) ≤ 1000 := by simpa using hl
    match cs, h with
    | [c0, c1], _ =>
      have hc : cMul i ((k : Int) + 2) = true := cMul_small (.inr (by omega))
      rcases Nat.mod_two_eq_zero_or_one k with e | e
      · obtain ⟨cs', u', v', w', h1, h2⟩ := cells_loop x y l (k + 1) [c0 + i * (k + 2), c1] (some (.int k)) (some (.int i)) (some (.int 0)) rfl (by omega)
        refine ⟨cs', u', v', w', h1, ?_⟩
        have e2 : (k : Int) % 2 = 0 := by omega
        rw [List.map_cons, enF, s_for_cons]
        simp at h2
        simp [e2, hc, ixD, L2.atI, ixN, okE, nol]
        exact h2
      · obtain ⟨cs', u', v', w', h1, h2⟩ := cells_loop x y l (k + 1) [c0, c1 + i * (k + 2)] (some (.int k)) (some (.int i)) (some (.int 1)) rfl (by omega)
        refine ⟨cs', u', v', w', h1, ?_⟩
        have e2 : (k : Int) % 2 = 1 := by omega
        rw [List.map_cons, enF, s_for_cons]
        simp at h2
        simp [e2, hc, ixD, L2.atI, ixN, okE, nol]
        exact h2
theorem cells_p (ns : List Int) (h : ns.length ≤ 63) : ∃ cs : List Int, cs ≠ [] ∧ cs.length ≤ 2 ∧ m__law_cells [.list (ns.map .int), .int 2] = some (cs.map .int) := by
  have s1 : slD (.list (ns.map .int)) none (some 2) = some (.list ((ns.take 2).map .int)) := by
    show some (PyData.list _) = _
    unfold cutD
    have := HT.sIx_nat (ns.map PyData.int).length (ns.map PyData.int).length 2
    rw [show ((2 : Nat) : Int) = 2 from rfl] at this
    rw [this, HT.sIx_none]
    simp
  have s2 : slD (.list (ns.map .int)) (some 2) (some 63) = some (.list ((ns.drop 2).map .int)) := by
    show some (PyData.list _) = _
    unfold cutD
    have h1 := HT.sIx_nat (ns.map PyData.int).length 0 2
    have h2 := HT.sIx_nat (ns.map PyData.int).length (ns.map PyData.int).length 63
    rw [show ((2 : Nat) : Int) = 2 from rfl] at h1
    rw [show ((63 : Nat) : Int) = 63 from rfl] at h2
    rw [h1, h2, List.length_map, show min 63 ns.length = ns.length by omega]
    rw [← List.map_drop, ← List.map_take]
    congr 3
    by_cases q : 2 ≤ ns.length
    · rw [show min 2 ns.length = 2 by omega, List.take_of_length_le (by rw [List.length_drop]; omega)]
    · rw [show min 2 ns.length = ns.length by omega, List.drop_of_length_le (Nat.le_refl _), List.drop_of_length_le (by omega)]
      simp
  have e2 : enD [.list ((ns.drop 2).map .int)] = some (enF 0 ((ns.drop 2).map .int)) := congrArg some (enL_eq _)
  match ns, h, s1, s2, e2 with
  | [], _, s1, s2, e2 =>
    refine ⟨[0], by simp, by simp, ?_⟩
    simp at s1 s2 e2
    simp [m__law_cells, e__law_cells, s1, s2, e2, enF]
  | [a], _, s1, s2, e2 =>
    refine ⟨[a], by simp, by simp, ?_⟩
    simp at s1 s2 e2
    simp [m__law_cells, e__law_cells, s1, s2, e2, enF]
  | a :: b :: l, h, s1, s2, e2 =>
    have hl : l.length + 2 ≤ 63 := by simpa using h
    obtain ⟨cs', u', v', w', h1, h2⟩ := cells_loop (some (.list ((a :: b :: l).map .int))) none l 0 [a, b] none none none rfl (by omega)
    refine ⟨cs', by intro z; rw [z] at h1; simp at h1, by omega, ?_⟩
    simp at s1 s2 e2 h2
    simp [m__law_cells, e__law_cells, s1, s2, e2, h2]
end K00

namespace K00
open PySem L2 HL
/-! trees: CUTTINGS -/
inductive Tr where
  | lf
  | nd (l r : Tr)
def lv : Pt → Tr → List Pt
  | p, .lf => [p]
  | p, .nd l r => lv (p ++ [false]) l ++ lv (p ++ [true]) r
def sz : Tr → Nat
  | .lf => 1
  | .nd l r => sz l + sz r
def dep : Tr → Nat
  | .lf => 0
  | .nd l r => max (dep l) (dep r) + 1
theorem lv_len : ∀ (p : Pt) (t : Tr), (lv p t).length = sz t
  | _, .lf => rfl
  | p, .nd l r => by rw [lv, List.length_append, lv_len, lv_len, sz]
theorem sz_pos : ∀ t : Tr, 0 < sz t
  | .lf => Nat.one_pos
  | .nd l r => by have := sz_pos l; rw [sz]; omega
theorem dep_lt : ∀ t : Tr, dep t < sz t
  | .lf => by simp [dep, sz]
  | .nd l r => by
    have := dep_lt l
    have := dep_lt r
    simp only [dep, sz]
    omega
theorem lv_pre : ∀ (p : Pt) (t : Tr), ∀ q ∈ lv p t, p <+: q
  | p, .lf, q, h => by
    rw [lv, List.mem_singleton] at h
    rw [h]; exact List.prefix_rfl
  | p, .nd l r, q, h => by
    rw [lv] at h
    rcases List.mem_append.mp h with h | h
    · exact (List.prefix_append p [false]).trans (lv_pre _ l q h)
    · exact (List.prefix_append p [true]).trans (lv_pre _ r q h)
theorem lv_depth : ∀ (p : Pt) (t : Tr), ∀ q ∈ lv p t, q.length ≤ p.length + dep t
  | p, .lf, q, h => by
    rw [lv, List.mem_singleton] at h
    rw [h]; simp [dep]
  | p, .nd l r, q, h => by
    rw [lv] at h
    rw [dep]
    rcases List.mem_append.mp h with h | h
    · have := lv_depth _ l q h; simp at this; omega
    · have := lv_depth _ r q h; simp at this; omega
theorem lv_ne (p : Pt) (t : Tr) : lv p t ≠ [] := by
  have h1 := lv_len p t
  have h2 := sz_pos t
  intro h
  rw [h, List.length_nil] at h1
  omega
/-- the order of PARTS -/
def plt : Pt → Pt → Bool
  | [], [] => false
  | [], _ :: _ => true
  | _ :: _, [] => false
  | a :: p, b :: q => if a = b then plt p q else (!a && b)
theorem alikeB (a b : Bool) : PySem.W.alike (en a) (en b) = true := by simp [en_bool, PySem.W.alike]
theorem alikePA : ∀ p q : Pt, PySem.W.alikeAll (p.map en) (q.map en) = true
  | [], _ => by simp [PySem.W.alikeAll]
  | _ :: _, [] => by simp [PySem.W.alikeAll]
  | a :: p, b :: q => by
    have h1 := alikeB a b
    simp only [List.map_cons, PySem.W.alikeAll, alikePA p q, Bool.and_true]
    exact h1
theorem alikeP (p q : Pt) : PySem.W.alike (en p) (en q) = true := by
  rw [en_list, en_list, PySem.W.alike]
  exact alikePA p q
theorem ltA_P : ∀ p q : Pt, PyProof.Rows.lexLt PyProof.Rows.itemOrd (PySem.W.keyToksAll (p.map en)) (PySem.W.keyToksAll (q.map en)) = plt p q
  | [], [] => by decide
  | [], b :: q => by
    rw [List.map_cons, PySem.W.toks_all_cons]
    simp only [List.map_nil, PySem.W.keyToksAll]
    rw [PyProof.Rows.lex_diff (O := PyProof.Rows.itemOrd) (by simp)]
    rfl
  | a :: p, [] => by
    rw [List.map_cons, PySem.W.toks_all_cons]
    simp only [List.map_nil, PySem.W.keyToksAll]
    rw [PyProof.Rows.lex_diff (O := PyProof.Rows.itemOrd) (by simp)]
    rfl
  | a :: p, b :: q => by
    rw [List.map_cons, List.map_cons]
    by_cases h : a = b
    · subst h
      rw [PySem.W.dataLt_all_yes (alikeB a a) ((En.ev a a).mpr rfl), ltA_P p q]
      simp [plt]
    · have he : PyData.eqv (en a) (en b) = false := by
        rw [ev_en]; simpa using h
      rw [PySem.W.dataLt_all_no (alikeB a b) he]
      rw [en_bool, en_bool, PySem.W.dataLt_int]
      cases a <;> cases b <;> simp [plt] at h ⊢
theorem dataLt_P (p q : Pt) : PySem.W.dataLt (en p) (en q) = plt p q := by
  rw [en_list, en_list, PySem.W.dataLt_tuple]
  exact ltA_P p q
theorem lt_en (p q : Pt) : ltA (en p) (en q) = some (.bool (plt p q)) := by
  show ltT (.tuple _) (.tuple _) = _
  unfold ltT
  dsimp only
  have h1 : shp (.tuple (p.map en)) = true := shp_tup p (by decide)
  have h2 : shp (.tuple (q.map en)) = true := shp_tup q (by decide)
  have h3 := alikeP p q
  rw [en_list, en_list] at h3
  rw [h1, h2, h3, if_pos (show (true && true && true) = true from rfl)]
  have := dataLt_P p q
  rw [en_list, en_list] at this
  rw [this]
theorem plt_irr : ∀ p : Pt, plt p p = false
  | [] => rfl
  | a :: p => by simp [plt, plt_irr p]
theorem plt_pre (r : Pt) : ∀ p q : Pt, plt (r ++ p) (r ++ q) = plt p q := by
  induction r with
  | nil => intro p q; rfl
  | cons a r ih => intro p q; simp [plt, ih]
theorem plt_trans : ∀ p q r : Pt, plt p q = true → plt q r = true → plt p r = true
  | [], [], _, h, _ => by simp [plt] at h
  | [], _ :: _, [], _, h => by simp [plt] at h
  | [], _ :: _, _ :: _, _, _ => rfl
  | _ :: _, [], _, h, _ => by simp [plt] at h
  | _ :: _, _ :: _, [], _, h => by simp [plt] at h
  | a :: p, b :: q, c :: r, h1, h2 => by
    by_cases e1 : a = b
    · subst e1
      by_cases e2 : a = c
      · subst e2
        simp only [plt, if_true] at *
        exact plt_trans p q r h1 h2
      · simp only [plt, e2, if_false, if_true] at *
        exact h2
    · by_cases e2 : b = c
      · subst e2
        simp only [plt, e1, if_false, if_true] at *
        exact h1
      · cases a <;> cases b <;> cases c <;> simp [plt] at *
/-- below p0 all is less than below p1 -/
theorem plt_sides {p x y : Pt} (hx : p ++ [false] <+: x) (hy : p ++ [true] <+: y) : plt x y = true := by
  obtain ⟨u, rfl⟩ := hx
  obtain ⟨v, rfl⟩ := hy
  rw [List.append_assoc, List.append_assoc, plt_pre]
  rfl
theorem lv_sorted : ∀ (p : Pt) (t : Tr), (lv p t).Pairwise fun x y => plt x y = true
  | p, .lf => by simp [lv]
  | p, .nd l r => by
    rw [lv]
    refine List.pairwise_append.mpr ⟨lv_sorted _ l, lv_sorted _ r, fun x hx y hy => plt_sides (lv_pre _ l x hx) (lv_pre _ r y hy)⟩
theorem pw_nodup {l : List Pt} (h : l.Pairwise fun x y => plt x y = true) : l.Nodup := h.imp fun {x y} q e => by
  rw [e, plt_irr] at q; cases q
theorem lv_nodup (p : Pt) (t : Tr) : (lv p t).Nodup := pw_nodup (lv_sorted p t)
theorem plt_asymm {p q : Pt} (h : plt p q = true) : plt q p = false := by
  cases e : plt q p with
  | false => rfl
  | true => have := plt_trans p q p h e; rw [plt_irr] at this; cases this
theorem pi_P (p : Pt) : HL.pi (en p) = true := by
  rw [en_list, HL.pi]
  induction p with
  | nil => rfl
  | cons b p ih => rw [List.map_cons, piA, ih, en_bool, HL.pi]; rfl
theorem le_P (p q : Pt) : PySem.W.dataLe false id (en p) (en q) = !plt q p := by
  show (!PyProof.Rows.lexLt PyProof.Rows.itemOrd (PySem.W.keyToks (en q)) (PySem.W.keyToks (en p))) = _
  rw [show PyProof.Rows.lexLt PyProof.Rows.itemOrd (PySem.W.keyToks (en q)) (PySem.W.keyToks (en p)) = PySem.W.dataLt (en q) (en p) from rfl, dataLt_P]
theorem srtL_P (L ps : List Pt) (hs : L.Pairwise fun x y => plt x y = true) (hp : ps.Perm L) : srtL (ps.map en) = L.map en := by
  have h1 : srtL (ps.map en) = srtL (L.map en) := srtL_perm (hp.map en) (fun d hd d' hd' => by
    obtain ⟨p, _, rfl⟩ := List.mem_map.mp hd
    obtain ⟨q, _, rfl⟩ := List.mem_map.mp hd'
    exact alikeP p q) fun d hd => by
    obtain ⟨p, _, rfl⟩ := List.mem_map.mp hd
    exact pi_P p
  rw [h1]
  refine List.mergeSort_of_pairwise (List.pairwise_map.mpr (hs.imp fun {x y} h => ?_))
  rw [le_P, plt_asymm h]; rfl
theorem srtOk_P (ps : List Pt) (hne : ∀ p ∈ ps, p ≠ []) : srtOk (ps.map en) = true := by
  unfold srtOk alkB
  rw [Bool.and_eq_true, Bool.and_eq_true, Bool.or_eq_true]
  refine ⟨⟨List.all_eq_true.mpr fun d hd => List.all_eq_true.mpr fun e he => ?_, .inl (List.all_eq_true.mpr fun d hd => ?_)⟩, List.all_eq_true.mpr fun d hd => ?_⟩
  · obtain ⟨p, _, rfl⟩ := List.mem_map.mp hd
    obtain ⟨q, _, rfl⟩ := List.mem_map.mp he
    exact alikeP p q
  · obtain ⟨p, hp, rfl⟩ := List.mem_map.mp hd
    cases p with
    | nil => exact absurd rfl (hne [] hp)
    | cons b p => rfl
  · obtain ⟨p, _, rfl⟩ := List.mem_map.mp hd
    exact shp_en p (by decide)
theorem srtD_P (L ps : List Pt) (hs : L.Pairwise fun x y => plt x y = true) (hp : ps.Perm L) (hne : L.length < 2 ∨ ∀ p ∈ L, p ≠ []) : srtD [.list (ps.map en)] = some (L.map en) := by
  unfold srtD
  dsimp only
  rw [List.length_map]
  by_cases h : ps.length < 2
  · rw [if_pos h, perm_short (by rw [← hp.length_eq]; exact h) hp]
  · rw [if_neg h]
    have hne2 : ∀ p ∈ ps, p ≠ [] := fun p hm => by
      rcases hne with z | z
      · rw [← hp.length_eq] at z; exact absurd z h
      · exact z p (hp.mem_iff.mp hm)
    rw [if_pos (srtOk_P ps hne2), srtL_P L ps hs hp]
/-- a leaf halved -/
def spl : Tr → Nat → Tr
  | .lf, _ => .nd .lf .lf
  | .nd l r, i => if i < sz l then .nd (spl l i) r else .nd l (spl r (i - sz l))
theorem sz_spl : ∀ (t : Tr) (i : Nat), sz (spl t i) = sz t + 1
  | .lf, _ => rfl
  | .nd l r, i => by
    unfold spl
    split
    · simp only [sz]; rw [sz_spl l]; omega
    · simp only [sz]; rw [sz_spl r]; omega
theorem lv_spl : ∀ (t : Tr) (p : Pt) (i : Nat) (q : Pt), (lv p t)[i]? = some q → lv p (spl t i) = (lv p t).take i ++ [q ++ [false], q ++ [true]] ++ (lv p t).drop (i + 1)
  | .lf, p, i, q, h => by
    rw [lv] at h
    cases i with
    | zero =>
      simp at h
      subst h
      simp [spl, lv]
    | succ i => simp at h
  | .nd l r, p, i, q, h => by
    rw [lv] at h
    unfold spl
    by_cases hi : i < sz l
    · rw [if_pos hi]
      rw [List.getElem?_append_left (by rw [lv_len]; exact hi)] at h
      rw [lv, lv_spl l _ i q h, lv]
      rw [List.take_append_of_le_length (by rw [lv_len]; omega), List.drop_append_of_le_length (by rw [lv_len]; omega)]
      simp
    · rw [if_neg hi]
      rw [List.getElem?_append_right (by rw [lv_len]; omega), lv_len] at h
      rw [lv, lv_spl r _ _ q h, lv]
      rw [List.take_append, List.drop_append, lv_len]
      have e1 : (lv (p ++ [false]) l).take i = lv (p ++ [false]) l := List.take_of_length_le (by rw [lv_len]; omega)
      have e2 : (lv (p ++ [false]) l).drop (i + 1) = [] := List.drop_of_length_le (by rw [lv_len]; omega)
      rw [e1, e2, show i + 1 - sz l = i - sz l + 1 by omega]
      simp
end K00

namespace K00
open PySem L2 HL
/-! a drawn CUTTING -/
theorem seqIx {i n : Nat} (h : i < n) : seqIndex? (i : Int) n = some i := by
  have e : ixN n (i : Int) = some i := by
    unfold ixN
    rw [if_pos (by omega), if_pos (by omega)]
    simp
  exact (ixN_seq e).1
theorem popAt_n (ds : List Dt) (i : Nat) (d : Dt) (h : ds[i]? = some d) (hl : ds.length ≤ 16777216) : popAtF (.int i) ds = some (d, ds.eraseIdx i) := by
  have hi : i < ds.length := (List.getElem?_eq_some_iff.mp h).1
  unfold popAtF
  dsimp only
  rw [if_pos (by rw [Int.natAbs_natCast]; omega), seqIx hi]
  simp [h]
theorem okN_lst (l : List Dt) (ps : List Pt) : okN (some (some (.list l))) (ps.map en) = true := (enA_lf ps).1
theorem split_perm (l : List Pt) (i : Nat) (a b : Pt) : (l.eraseIdx i ++ [a, b]).Perm (l.take i ++ [a, b] ++ l.drop (i + 1)) := by
  rw [List.eraseIdx_eq_take_drop_succ, List.append_assoc, List.append_assoc]
  exact List.Perm.append_left _ List.perm_append_comm
theorem cut_loop (hm : Dt) : ∀ (l : List Dt) (tr : Tr) (n : Nat) (t : Ti) (u v : Option Dt), TI n t → n + l.length ≤ 1000000 → sz tr + l.length ≤ 1000 → ∃ (tr' : Tr) (t' : Ti) (u' v' : Option Dt), sz tr' = sz tr + l.length ∧ TI (n + l.length) t' ∧
    forD (.nm 3) (zSeq (zSetF 4 (fxPopAt 2 (lE 2 (xCallT m__law_take (aLen 1 (aCons (xCall lenD (aCons (xV 2) aNil)) aNil)))))) (zSeq (zF (fxExt 2 (hE 2 (nLst (aCons (x2 addD (xV 4) (xTup (aCons (xC (.int 0)) aNil))) (aCons (x2 addD (xV 4) (xTup (aCons (xC (.int 1)) aNil))) aNil)))))) (zSetN 2 (lN 2 (nCall srtD (aCons (xV 2) aNil)))))) l [none, some hm, some (.list ((lv [] tr).map en)), u, v] t = some (.nx [none, some hm, some (.list ((lv [] tr').map en)), u', v'] t')
  | [], tr, n, t, u, v, h, _, _ => ⟨tr, t, u, v, rfl, h, rfl⟩
  | d :: l, tr, n, t, u, v, h, hn, hs => by
    have hn2 : n + (l.length + 1) ≤ 1000000 := by simpa using hn
    have hs2 : sz tr + (l.length + 1) ≤ 1000 := by simpa using hs
    have hlen := lv_len [] tr
    have hpos := sz_pos tr
    obtain ⟨i, t1, hi, ht1, ht⟩ := take_t h (by omega) (sz tr) hpos (by omega)
    obtain ⟨q, hq⟩ : ∃ q, (lv [] tr)[i]? = some q := ⟨_, List.getElem?_eq_getElem (by rw [hlen]; exact hi)⟩
    have hqm := List.mem_of_getElem? hq
    have hql : q.length ≤ 1000 := by
      have h1 := lv_depth [] tr q hqm
      have h2 := dep_lt tr
      simp at h1
      omega
    obtain ⟨tr', t', u', v', h1, h2, h3⟩ := cut_loop hm l (spl tr i) (n + 1) t1 (some d) (some (en q)) ht1 (by omega) (by rw [sz_spl]; omega)
    refine ⟨tr', t', u', v', by rw [h1, sz_spl, List.length_cons]; omega, by rw [List.length_cons]; rw [show n + (l.length + 1) = n + 1 + l.length by omega]; exact h2, ?_⟩
    have hpa := popAt_n ((lv [] tr).map en) i (en q) (by rw [List.getElem?_map, hq]; rfl) (by rw [List.length_map, hlen]; omega)
    have hsp := lv_spl tr [] i q hq
    have hpm := split_perm (lv [] tr) i (q ++ [false]) (q ++ [true])
    rw [← hsp] at hpm
    have hne : ∀ p ∈ lv [] (spl tr i), p ≠ [] := fun p hp e => by
      subst e
      have hp2 := hpm.mem_iff.mpr hp
      -- the empty PART is a leaf only of the leaf
      cases hspe : spl tr i with
      | lf => have := sz_spl tr i; rw [hspe] at this; simp [sz] at this; omega
      | nd a b =>
        rw [hspe, lv] at hp
        rcases List.mem_append.mp hp with z | z
        · have := (lv_pre _ a [] z).length_le; simp at this
        · have := (lv_pre _ b [] z).length_le; simp at this
    have hsr := srtD_P (lv [] (spl tr i)) ((lv [] tr).eraseIdx i ++ [q ++ [false], q ++ [true]]) (lv_sorted [] _) hpm (.inr hne)
    have hok := okN_lst (((lv [] tr).eraseIdx i ++ [q ++ [false], q ++ [true]]).map en) (lv [] (spl tr i))
    have hel : (((lv [] tr).map en).eraseIdx i).length ≤ 1000 := by rw [List.length_eraseIdx]; split <;> (simp [hlen]; omega)
    have hex : extF [en (q ++ [false]), en (q ++ [true])] (((lv [] tr).map en).eraseIdx i) = some (.none, ((lv [] tr).eraseIdx i ++ [q ++ [false], q ++ [true]]).map en) := by
      unfold extF
      rw [if_pos (szOk_of (by simp; omega)), List.map_append, List.map_cons, List.map_cons, List.map_nil, List.eraseIdx_eq_take_drop_succ, List.eraseIdx_eq_take_drop_succ, List.map_append, List.map_take, List.map_drop]
    generalize ((lv [] tr).eraseIdx i ++ [q ++ [false], q ++ [true]]).map en = W at hex hsr hok
    rw [s_for_cons]
    simp [hlen, ht, okE, nol, hpa, add_f q (by omega), add_t q (by omega), hex, hsr]
    rw [show okN (some (some (PyData.list W))) ((lv [] (spl tr i)).map en) = true from okN_lst _ _]
    simpa using h3
theorem law_cut_t {n : Nat} {t : Ti} (h : TI n t) (hn : n ≤ 900000) : ∃ (tr : Tr) (t' : Ti), sz tr ≤ 12 ∧ TI (n + 100) t' ∧ m__law_cut [.int 12] t = some (en (lv [] tr), t') := by
  obtain ⟨i, t1, hi, ht1, ht⟩ := take_t h (by omega) 12 (by omega) (by omega)
  have hlr : (rgD 0 i).length = i := rgD_len 0 i
  obtain ⟨tr', t', u', v', h1, h2, h3⟩ := cut_loop (.int 12) (rgD 0 i) .lf (n + 1) t1 none none ht1 (by omega) (by simp [sz]; omega)
  rw [hlr] at h1 h2
  obtain ⟨a, b, c, e, p1, p2, p3, p4, p5⟩ := h2.ex
  refine ⟨tr', t', by rw [h1]; simp [sz]; omega, ⟨a, b, c, e, p1, p2, p3, p4, by omega⟩, ?_⟩
  have hr := rg1_n i (by omega)
  have e0 : ((lv [] .lf).map en : List Dt) = [.tuple []] := rfl
  rw [e0] at h3
  have ho : okE (some (some (PyData.list ((lv [] tr').map en)))) (en (lv [] tr')) = true := (En.lf (lv [] tr')).1
  simp at ht
  simp [m__law_cut, e__law_cut, ht, hr, h3, ho]
end K00

namespace K00
open PySem L2 HL
/-! is_cutting -/
theorem pop_en {α : Type} [En α] (S : List α) (p : α) : popF ((S ++ [p]).map en) = some (en p, S.map en) := by
  unfold popF
  simp
theorem ext_en {α : Type} [En α] (S R : List α) (h : S.length + R.length ≤ 16777216) : extF (R.map en) (S.map en) = some (.none, (S ++ R).map en) := by
  unfold extF
  rw [if_pos (szOk_of (by simpa using h)), List.map_append]
theorem ext_2 (S : List Pt) (a b : Pt) (h : S.length ≤ 1000000) : extF [en a, en b] (S.map en) = some (.none, (S ++ [a, b]).map en) := ext_en S [a, b] (by simp; omega)
theorem app_en {α : Type} [En α] (S : List α) (p : α) (h : S.length ≤ 16000000) : appF (en p) (S.map en) = some (.none, (S ++ [p]).map en) := by
  unfold appF
  rw [if_pos (szOk_of (by simp; omega)), List.map_append]
  rfl
noncomputable abbrev flC : EvB := bAnd (bV (x2 neD (xV 1) (dN (nLst aNil)))) (bAnd (bV (x2 neD (x2 ixD (xV 1) (x1 negD (xC (.int 1)))) (xV 2))) (bV (xCall m_lies_in (aLen 2 (aCons (xV 2) (aCons (x2 ixD (xV 1) (x1 negD (xC (.int 1)))) aNil))))))
abbrev flL : Ex := zSeq (zSetF 3 (fxPop 1)) (zF (fxExt 1 (hE 1 (nLst (aCons (x2 addD (xV 3) (xTup (aCons (xC (.int 1)) aNil))) (aCons (x2 addD (xV 3) (xTup (aCons (xC (.int 0)) aNil))) aNil))))))
noncomputable abbrev flB : Ex := zSeq (zWh flC flL) (zSeq (zIf (bOr (bV (x2 eqD (xV 1) (dN (nLst aNil)))) (bV (x2 neD (x2 ixD (xV 1) (x1 negD (xC (.int 1)))) (xV 2)))) (zRt (hE 1 (xC (.bool false)))) zNil) (zF (fxPop 1)))
theorem ne_top (S : List Pt) (p : Pt) : neD (.list ((S ++ [p]).map en)) (.list []) = some (.bool true) := by
  rw [ne_nilL _ (by decide)]; simp
theorem eq_top (S : List Pt) (p : Pt) : eqD (.list ((S ++ [p]).map en)) (.list []) = some (.bool false) := by
  rw [eq_nilL _ (by decide)]; simp
theorem flC_at (x0 u : Option Dt) (S : List Pt) (p q : Pt) : flC [x0, some (.list ((S ++ [p]).map en)), some (en q), u] [] = some (decide (p ≠ q) && decide (p <+: q), []) := by
  have h1 := ne_top S p
  have h2 := ix_lstL S p
  have h3 := ne_en p q (by decide)
  generalize (S ++ [p]).map en = W at h1 h2
  by_cases e : p = q
  · simp [e] at h3
    simp [h1, h2, h3, e]
  · simp [e] at h3
    simp [h1, h2, h3, e, lies_in_q]
theorem fl_stop (x0 u : Option Dt) (S : List Pt) (p : Pt) : zWh flC flL [x0, some (.list ((S ++ [p]).map en)), some (en p), u] [] = some (.nx [x0, some (.list ((S ++ [p]).map en)), some (en p), u] []) := by
  rw [zWh_eq, flC_at]
  simp
theorem fl_step (x0 u : Option Dt) (S : List Pt) (p q : Pt) (hne : p ≠ q) (hpre : p <+: q) (hp : p.length ≤ 1000) (hS : S.length ≤ 1000000) :
    zWh flC flL [x0, some (.list ((S ++ [p]).map en)), some (en q), u] [] = zWh flC flL [x0, some (.list ((S ++ [p ++ [true]] ++ [p ++ [false]]).map en)), some (en q), some (en p)] [] := by
  rw [zWh_eq, flC_at]
  have h1 := pop_en S p
  have h2 := ext_2 S (p ++ [true]) (p ++ [false]) hS
  rw [show S ++ [p ++ [true]] ++ [p ++ [false]] = S ++ [p ++ [true], p ++ [false]] by simp]
  generalize (S ++ [p]).map en = W at h1
  generalize (S ++ [p ++ [true], p ++ [false]]).map en = W2 at h2
  simp [hne, hpre, h1, h2, add_f p (by omega), add_t p (by omega)]
theorem fills_run (x0 : Option Dt) : ∀ (t : Tr) (p : Pt) (S rest : List Pt) (a u : Option Dt), p.length + dep t ≤ 1000 → S.length + sz t ≤ 1000000 → ∃ a' u', forD (.nm 2) flB ((lv p t ++ rest).map en) [x0, some (.list ((S ++ [p]).map en)), a, u] [] = forD (.nm 2) flB (rest.map en) [x0, some (.list (S.map en)), a', u'] []
  | .lf, p, S, rest, a, u, _, _ => by
    refine ⟨some (en p), u, ?_⟩
    rw [lv, List.singleton_append, List.map_cons, s_for_cons]
    have h0 := fl_stop x0 u S p
    have h1 := pop_en S p
    have h2 := eq_top S p
    have h3 := ix_lstL S p
    have h4 := ne_en p p (by decide)
    generalize (S ++ [p]).map en = W at h0 h1 h2 h3
    simp at h4
    simp [h0, h1, h2, h3, h4]
  | .nd l r, p, S, rest, a, u, hd, hS => by
    have hd2 : p.length + (max (dep l) (dep r) + 1) ≤ 1000 := by simpa [dep] using hd
    have hS2 : S.length + (sz l + sz r) ≤ 1000000 := by simpa [sz] using hS
    have hl := sz_pos l
    have hr := sz_pos r
    obtain ⟨a1, u1, e1⟩ := fills_run x0 l (p ++ [false]) (S ++ [p ++ [true]]) (lv (p ++ [true]) r ++ rest) a (some (en p)) (by simp; omega) (by simp; omega)
    obtain ⟨a2, u2, e2⟩ := fills_run x0 r (p ++ [true]) S rest a1 u1 (by simp; omega) (by omega)
    refine ⟨a2, u2, ?_⟩
    rw [← e2, ← e1, lv, List.append_assoc]
    -- the first PART halves p
    cases hc : lv (p ++ [false]) l with
    | nil => exact absurd hc (lv_ne _ _)
    | cons q ts =>
      have hq : p ++ [false] <+: q := lv_pre _ l q (by rw [hc]; exact List.mem_cons_self)
      have hpq : p <+: q := (List.prefix_append p [false]).trans hq
      have hne : p ≠ q := fun e => by
        subst e
        have := hq.length_le
        simp at this
        omega
      have hs := fl_step x0 u S p q hne hpq (by omega) (by omega)
      rw [List.cons_append, List.map_cons, s_for_cons, s_for_cons]
      simp only [s_setTg_nm, List.set_cons_succ, List.set_cons_zero, Option.bind_some, s_zSeq]
      rw [hs]
theorem fills_c (t : Tr) (hd : dep t ≤ 1000) (hs : sz t ≤ 100000) : m_fills [en (lv [] t)] = some (.bool true) := by
  obtain ⟨a, u, h⟩ := fills_run (some (en (lv [] t))) t [] [] [] none none (by simpa using hd) (by simp; omega)
  rw [List.append_nil, List.nil_append] at h
  rw [show (([[]] : List Pt).map en : List Dt) = [.tuple []] from rfl] at h
  have e : eqD (.list []) (.list []) = some (.bool true) := by
    have := eq_nilL ([] : List Pt) (by decide)
    simpa using this
  simp only [List.map_nil, s_for_nil] at h
  simp [m_fills, e_fills, okE, nol, h, e]
theorem ascends_c (c : List Pt) (hs : c.Pairwise fun x y => plt x y = true) (hn : c ≠ []) (hl : c.length ≤ 100000) : m_ascends [en c] = some (.bool true) := by
  have hp : 0 < c.length := List.length_pos_iff.mpr hn
  have hl2 := lc_map (p := .nm 1) (elt := x2 ltA (x2 ixD (xV 0) (xV 1)) (x2 ixD (xV 0) (x2 addD (xV 1) (xC (.int 1))))) (st := [some (en c), none]) (t := []) (fun i : Nat => (.int (0 + (i : Int)) : Dt)) (fun _ => .bool true) (List.range (c.length - 1)) fun i hi => ⟨_, rfl, by
    have hi2 : i < c.length - 1 := by simpa using hi
    have x1 := ix_en c i
    have x2 := ix_en c (i + 1)
    rw [List.getElem?_eq_getElem (by omega)] at x1 x2
    have hlt := List.pairwise_iff_getElem.mp hs i (i + 1) (by omega) (by omega) (by omega)
    have h3 := lt_en c[i] c[i + 1]
    rw [hlt] at h3
    simp at x1 x2
    simp [x1, x2, h3]⟩
  rw [← rgD_map] at hl2
  have hr : rg1 [.int ((c.length : Int) - 1)] = some (rgD 0 (c.length - 1)) := by
    rw [show ((c.length : Int) - 1) = ((c.length - 1 : Nat) : Int) by omega]
    exact rg1_n _ (by omega)
  have ha := all_map (fun _ : Nat => true) (List.range (c.length - 1))
  have e : (List.range (c.length - 1)).all (fun _ => true) = true := List.all_eq_true.mpr fun _ _ => rfl
  rw [e] at ha
  have hb : c.length - 1 ≤ 16777216 := by omega
  simp [m_ascends, e_ascends, hr, hb, hl2, ha]
theorem sC_lv (t : Tr) (hs : sz t ≤ 1000) : sC (lv [] t) := ⟨by rw [lv_len]; omega, fun p hp => by
  have h1 := lv_depth [] t p hp
  have h2 := dep_lt t
  simp at h1
  show p.length ≤ 1000
  omega⟩
theorem is_cutting_c (t : Tr) (hs : sz t ≤ 1000) : m_is_cutting [en (lv [] t)] = some (.bool true) := by
  have hd := dep_lt t
  have hc := sC_lv t hs
  have hl : (lv [] t).length ≤ 16777216 := by rw [lv_len]; omega
  have hp := lc_map (p := .nm 1) (elt := xCall m_is_part (aLen 1 (aCons (xV 1) aNil))) (st := [some (en (lv [] t)), none]) (t := []) (en : Pt → Dt) (fun _ => .bool true) (lv [] t) fun q hq => ⟨_, rfl, by
    have hq2 : q.length ≤ 1000 := hc.2 q hq
    have := is_part_p q (by omega)
    simp [this]⟩
  have ha := all_map (fun _ : Pt => true) (lv [] t)
  have e : (lv [] t).all (fun _ => true) = true := List.all_eq_true.mpr fun _ _ => rfl
  rw [e] at ha
  have he := eq_nilT (lv [] t) (by decide)
  rw [show (lv [] t).isEmpty = false by
    cases q : lv [] t with
    | nil => exact absurd q (lv_ne _ _)
    | cons _ _ => rfl] at he
  simp [m_is_cutting, e_is_cutting, hl, hp, ha, he, ascends_c _ (lv_sorted [] t) (lv_ne [] t) (by rw [lv_len]; omega), fills_c t (by omega) (by omega)]
theorem sure_cutting_c (t : Tr) (hs : sz t ≤ 1000) : m_sure_cutting [en (lv [] t)] = some (en (lv [] t)) := by
  simp [m_sure_cutting, e_sure_cutting, tupled_c (sC_lv t hs), is_cutting_c t hs]
end K00

namespace K00
open PySem L2 HL
/-! dicts keyed by PARTS -/
def kB (b : Bool) : NestedKey := .num (if b then 1 else 0)
def kP (p : Pt) : NestedKey := .tup (p.map kB)
theorem keysOf_P : ∀ p : Pt, keysOf (p.map en) = some (p.map kB)
  | [] => rfl
  | b :: p => by
    rw [List.map_cons, keysOf, keysOf_P p, en_bool]
    rfl
theorem keyOf_P (p : Pt) : HL.keyOf (en p) = some (kP p) := by
  rw [en_list, HL.keyOf, keysOf_P]; rfl
theorem kP_inj {p q : Pt} (h : kP p = kP q) : p = q := by
  unfold kP at h
  injection h with h
  induction p generalizing q with
  | nil => cases q with
    | nil => rfl
    | cons _ _ => cases h
  | cons a p ih => cases q with
    | nil => cases h
    | cons b q =>
      rw [List.map_cons, List.map_cons] at h
      injection h with h1 h2
      rw [ih h2]
      cases a <;> cases b <;> simp [kB] at h1 ⊢
theorem kP_depthA : ∀ p : Pt, NestedKey.depthAll (p.map kB) = 0
  | [] => by simp [NestedKey.depthAll]
  | b :: p => by
    rw [List.map_cons, NestedKey.depthAll, kP_depthA p]
    simp [kB, NestedKey.depth]
theorem kP_depth (p : Pt) : (kP p).depth ≤ 8 := by
  have := kP_depthA p
  unfold kP
  simp [NestedKey.depth, this]
theorem keyT_P (p : Pt) : keyT (en p) = some (kP p) := by
  rw [en_list]
  unfold keyT
  dsimp only
  rw [keysOf_P, Option.bind_some]
  exact if_pos (kP_depth p)
/-- the dict's entries -/
def kv (p : Pt) : Dt × Dt := (en p, .bool true)
theorem dAt_kv : ∀ (ks : List Pt) (p : Pt), (dAt (ks.map kv) (kP p)).isSome = decide (p ∈ ks)
  | [], p => rfl
  | q :: ks, p => by
    by_cases h : q = p
    · subst h
      have e : HL.keyOf (kv q).1 = some (kP q) := keyOf_P q
      unfold dAt
      rw [List.map_cons, List.find?_cons_of_pos (by simp [e])]
      simp
    · have e : HL.keyOf (kv q).1 ≠ some (kP p) := fun e => by
        rw [show HL.keyOf (kv q).1 = some (kP q) from keyOf_P q] at e
        exact h (kP_inj (Option.some.inj e))
      rw [List.map_cons, dAt_ne e, dAt_kv ks p]
      simp [Ne.symm h]
def insP (ks : List Pt) (p : Pt) : List Pt := if p ∈ ks then ks else ks ++ [p]
theorem dPut_kv (ks : List Pt) (p : Pt) : dPut (ks.map kv) (en p) (kP p) (.bool true) = (insP ks p).map kv := by
  unfold dPut insP
  rw [dAt_kv]
  by_cases h : p ∈ ks
  · simp only [h, decide_true, if_true]
    refine Eq.trans (List.map_congr_left fun x hx => ?_) (List.map_id _)
    obtain ⟨q, hq, rfl⟩ := List.mem_map.mp hx
    split
    · rfl
    · rfl
  · simp only [h, decide_false, if_false, Bool.false_eq_true]
    rw [List.map_append]; rfl
theorem insP_mem {ks : List Pt} {p q : Pt} : q ∈ insP ks p ↔ q ∈ ks ∨ q = p := by
  unfold insP
  split
  · rename_i h
    constructor
    · exact .inl
    · rintro (z | rfl)
      · exact z
      · exact h
  · simp
theorem insP_nodup {ks : List Pt} {p : Pt} (h : ks.Nodup) : (insP ks p).Nodup := by
  unfold insP
  split
  · exact h
  · rename_i hn
    exact List.nodup_append.mpr ⟨h, by simp, fun a ha b hb e => by
      rw [List.mem_singleton] at hb
      subst e
      subst hb
      exact hn ha⟩
theorem insP_len (ks : List Pt) (p : Pt) : (insP ks p).length ≤ ks.length + 1 := by
  unfold insP
  split
  · omega
  · simp
def pres (q : Pt) : List Pt := (List.range q.length).map fun n => q.take n
theorem mem_pres {p q : Pt} : p ∈ pres q ↔ p <+: q ∧ p ≠ q := by
  unfold pres
  rw [List.mem_map]
  constructor
  · rintro ⟨n, hn, rfl⟩
    have hn2 : n < q.length := by simpa using hn
    refine ⟨List.take_prefix _ _, fun e => ?_⟩
    have := congrArg List.length e
    rw [List.length_take] at this
    omega
  · rintro ⟨h1, h2⟩
    have hl := h1.length_le
    have e := List.prefix_iff_eq_take.mp h1
    refine ⟨p.length, ?_, e.symm⟩
    rw [List.mem_range]
    rcases Nat.lt_or_ge p.length q.length with z | z
    · exact z
    · exact absurd (by rw [e]; exact List.take_of_length_le z) h2
def knP (ks : List Pt) (q : Pt) : List Pt := (pres q).foldl insP ks
def knownOf (c : List Pt) : List Pt := c.foldl knP []
theorem foldl_mem : ∀ (l ks : List Pt) (p : Pt), p ∈ l.foldl insP ks ↔ p ∈ ks ∨ p ∈ l
  | [], ks, p => by simp
  | q :: l, ks, p => by
    rw [List.foldl_cons, foldl_mem l, insP_mem, List.mem_cons, or_assoc]
theorem foldl_nodup : ∀ (l ks : List Pt), ks.Nodup → (l.foldl insP ks).Nodup
  | [], ks, h => h
  | q :: l, ks, h => foldl_nodup l _ (insP_nodup h)
theorem foldl_len : ∀ (l ks : List Pt), (l.foldl insP ks).length ≤ ks.length + l.length
  | [], ks => by simp
  | q :: l, ks => by
    have h1 := foldl_len l (insP ks q)
    have h2 := insP_len ks q
    rw [List.foldl_cons, List.length_cons]
    omega
theorem kn_mem : ∀ (c ks : List Pt) (p : Pt), p ∈ c.foldl knP ks ↔ p ∈ ks ∨ ∃ q ∈ c, p <+: q ∧ p ≠ q
  | [], ks, p => by simp
  | q :: c, ks, p => by
    rw [List.foldl_cons, kn_mem c, knP, foldl_mem, mem_pres, or_assoc]
    simp
theorem known_mem (c : List Pt) (p : Pt) : p ∈ knownOf c ↔ ∃ q ∈ c, p <+: q ∧ p ≠ q := by
  unfold knownOf
  rw [kn_mem]; simp
theorem kn_nodup : ∀ (c ks : List Pt), ks.Nodup → (c.foldl knP ks).Nodup
  | [], _, h => h
  | q :: c, ks, h => kn_nodup c _ (foldl_nodup _ _ h)
/-- the keys, joint by joint, for the two defs that gather them -/
theorem put_f (x0 w3 w4 w5 w6 : Option Dt) (q : Pt) : ∀ (n m : Nat) (ks : List Pt) (u : Option Dt), m + n ≤ q.length → ks.length + n ≤ 16000000 → ∃ u', forD (.nm 3) (zDput 1 (hE 1 (hE 4 (hE 5 (xSl slD (xV 2) oNo (oSo (xV 3)))))) (hE 1 (hE 4 (hE 5 (xC (.bool true)))))) ((List.range' m n).map fun i : Nat => (.int (i : Int) : Dt)) [x0, some (.dict (ks.map kv)), some (en q), u, w4, w5, w6] [] =
    some (.nx [x0, some (.dict ((((List.range' m n).map fun i => q.take i).foldl insP ks).map kv)), some (en q), u', w4, w5, w6] [])
  | 0, m, ks, u, _, _ => ⟨u, by simp⟩
  | n + 1, m, ks, u, h, hk => by
    have hi := insP_len ks (q.take m)
    obtain ⟨u', hu⟩ := put_f x0 w3 w4 w5 w6 q n (m + 1) (insP ks (q.take m)) (some (.int m)) (by omega) (by omega)
    refine ⟨u', ?_⟩
    have h1 := sl_to q m
    have h2 := keyT_P (q.take m)
    have h3 := dPut_kv ks (q.take m)
    rw [List.range'_succ, List.map_cons, List.map_cons, List.foldl_cons, s_for_cons]
    have h4 : ks.length + 1 ≤ 16777216 := by omega
    simp [h1, h2, h3, h4]
    exact hu
theorem put_j (x0 : Option Dt) (q : Pt) : ∀ (n m : Nat) (ks : List Pt) (u : Option Dt), m + n ≤ q.length → ks.length + n ≤ 16000000 → ∃ u', forD (.nm 3) (zDput 1 (hE 1 (xSl slD (xV 2) oNo (oSo (xV 3)))) (hE 1 (xC (.bool true)))) ((List.range' m n).map fun i : Nat => (.int (i : Int) : Dt)) [x0, some (.dict (ks.map kv)), some (en q), u] [] =
    some (.nx [x0, some (.dict ((((List.range' m n).map fun i => q.take i).foldl insP ks).map kv)), some (en q), u'] [])
  | 0, m, ks, u, _, _ => ⟨u, by simp⟩
  | n + 1, m, ks, u, h, hk => by
    have hi := insP_len ks (q.take m)
    obtain ⟨u', hu⟩ := put_j x0 q n (m + 1) (insP ks (q.take m)) (some (.int m)) (by omega) (by omega)
    refine ⟨u', ?_⟩
    have h1 := sl_to q m
    have h2 := keyT_P (q.take m)
    have h3 := dPut_kv ks (q.take m)
    rw [List.range'_succ, List.map_cons, List.map_cons, List.foldl_cons, s_for_cons]
    have h4 : ks.length + 1 ≤ 16777216 := by omega
    simp [h1, h2, h3, h4]
    exact hu
theorem rgD_range' (n : Nat) : rgD 0 n = (List.range' 0 n).map fun i : Nat => (.int (i : Int) : Dt) := by
  unfold rgD
  rw [List.range_eq_range']
  refine List.map_congr_left fun i _ => ?_
  simp
theorem knP_len (ks : List Pt) (q : Pt) : (knP ks q).length ≤ ks.length + q.length := by
  have := foldl_len (pres q) ks
  unfold pres at this
  rw [List.length_map, List.length_range] at this
  exact this
theorem known_f (x0 w4 w5 w6 : Option Dt) : ∀ (c ks : List Pt) (v u : Option Dt), (∀ q ∈ c, q.length ≤ 1000) → ks.length + c.length * 1000 ≤ 15000000 → ∃ v' u', forD (.nm 2) (zFor (hE 1 (hE 4 (hE 5 (nCall rg1 (aCons (xCall lenD (aCons (xV 2) aNil)) aNil))))) (.nm 3) (zDput 1 (hE 1 (hE 4 (hE 5 (xSl slD (xV 2) oNo (oSo (xV 3)))))) (hE 1 (hE 4 (hE 5 (xC (.bool true))))))) (c.map en) [x0, some (.dict (ks.map kv)), v, u, w4, w5, w6] [] =
    some (.nx [x0, some (.dict ((c.foldl knP ks).map kv)), v', u', w4, w5, w6] [])
  | [], ks, v, u, _, _ => ⟨v, u, rfl⟩
  | q :: c, ks, v, u, hq, hk => by
    have hql := hq q List.mem_cons_self
    have hkl := knP_len ks q
    have hk2 : ks.length + (c.length + 1) * 1000 ≤ 15000000 := by simpa using hk
    obtain ⟨u1, h1⟩ := put_f x0 u w4 w5 w6 q q.length 0 ks u (by omega) (by omega)
    obtain ⟨v', u', h2⟩ := known_f x0 w4 w5 w6 c (knP ks q) (some (en q)) u1 (fun r hr => hq r (List.mem_cons_of_mem _ hr)) (by omega)
    refine ⟨v', u', ?_⟩
    have hr := rg1_n q.length (by omega)
    rw [rgD_range'] at hr
    have e : (List.range' 0 q.length).map (fun i => q.take i) = pres q := by rw [pres, List.range_eq_range']
    rw [e] at h1
    rw [List.map_cons, List.foldl_cons, s_for_cons]
    simp only [s_setTg_nm, List.set_cons_succ, List.set_cons_zero, Option.bind_some, s_zFor, s_hE, s_nCall, s_aCons, s_aNil, s_xCall, s_xV, List.getElem?_cons_succ, List.getElem?_cons_zero, Option.map_some, len_en, hr, h1]
    exact h2
theorem known_j (x0 : Option Dt) : ∀ (c ks : List Pt) (v u : Option Dt), (∀ q ∈ c, q.length ≤ 1000) → ks.length + c.length * 1000 ≤ 15000000 → ∃ v' u', forD (.nm 2) (zFor (hE 1 (nCall rg1 (aCons (xCall lenD (aCons (xV 2) aNil)) aNil))) (.nm 3) (zDput 1 (hE 1 (xSl slD (xV 2) oNo (oSo (xV 3)))) (hE 1 (xC (.bool true))))) (c.map en) [x0, some (.dict (ks.map kv)), v, u] [] =
    some (.nx [x0, some (.dict ((c.foldl knP ks).map kv)), v', u'] [])
  | [], ks, v, u, _, _ => ⟨v, u, rfl⟩
  | q :: c, ks, v, u, hq, hk => by
    have hql := hq q List.mem_cons_self
    have hkl := knP_len ks q
    have hk2 : ks.length + (c.length + 1) * 1000 ≤ 15000000 := by simpa using hk
    obtain ⟨u1, h1⟩ := put_j x0 q q.length 0 ks u (by omega) (by omega)
    obtain ⟨v', u', h2⟩ := known_j x0 c (knP ks q) (some (en q)) u1 (fun r hr => hq r (List.mem_cons_of_mem _ hr)) (by omega)
    refine ⟨v', u', ?_⟩
    have hr := rg1_n q.length (by omega)
    rw [rgD_range'] at hr
    have e : (List.range' 0 q.length).map (fun i => q.take i) = pres q := by rw [pres, List.range_eq_range']
    rw [e] at h1
    rw [List.map_cons, List.foldl_cons, s_for_cons]
    simp only [s_setTg_nm, List.set_cons_succ, List.set_cons_zero, Option.bind_some, s_zFor, s_hE, s_nCall, s_aCons, s_aNil, s_xCall, s_xV, List.getElem?_cons_succ, List.getElem?_cons_zero, Option.map_some, len_en, hr, h1]
    exact h2
end K00

namespace K00
open PySem L2 HL
/-! finest: the leaves of what is known -/
/-- the tree of a set that holds the PARTS that are halved; d bounds its depth -/
def bld (K : Pt → Bool) : Nat → Pt → Tr
  | 0, _ => .lf
  | d + 1, p => if K p = true then .nd (bld K d (p ++ [false])) (bld K d (p ++ [true])) else .lf
/-- K holds just of the inner nodes of t, laid at p -/
def Inn (K : Pt → Bool) : Pt → Tr → Prop
  | p, .lf => K p = false
  | p, .nd l r => K p = true ∧ Inn K (p ++ [false]) l ∧ Inn K (p ++ [true]) r
theorem in_kv (ks : List Pt) (p : Pt) : inA (en p) (.dict (ks.map kv)) = some (.bool (decide (p ∈ ks))) := by
  show (inDc _ _).map _ = _
  rw [en_list]
  unfold inDc
  dsimp only
  rw [keysOf_P, Option.bind_some]
  have h := kP_depth p
  have e := dAt_kv ks p
  unfold kP at h e
  rw [if_pos h, e]
  rfl
theorem fin_loop (x0 a b : Option Dt) (ks : List Pt) : ∀ (t : Tr) (p : Pt) (S F : List Pt) (u : Option Dt), Inn (fun q => decide (q ∈ ks)) p t → p.length + dep t ≤ 1000 → S.length + sz t ≤ 1000000 → F.length + sz t ≤ 1000000 →
    ∃ u', zWh (hE 1 (hE 4 (bV (x2 neD (xV 5) (dN (nLst aNil)))))) (zSeq (zSetF 6 (fxPop 5)) (zIf (hE 4 (hE 5 (bV (x2 inA (xV 6) (xV 1))))) (zF (fxExt 5 (hE 1 (hE 4 (hE 5 (nLst (aCons (x2 addD (xV 6) (xTup (aCons (xC (.int 1)) aNil))) (aCons (x2 addD (xV 6) (xTup (aCons (xC (.int 0)) aNil))) aNil)))))))) (zF (fxApp 4 (hE 1 (hE 4 (hE 5 (xV 6)))))))) [x0, some (.dict (ks.map kv)), a, b, some (.list (F.map en)), some (.list ((S ++ [p]).map en)), u] [] =
     zWh (hE 1 (hE 4 (bV (x2 neD (xV 5) (dN (nLst aNil)))))) (zSeq (zSetF 6 (fxPop 5)) (zIf (hE 4 (hE 5 (bV (x2 inA (xV 6) (xV 1))))) (zF (fxExt 5 (hE 1 (hE 4 (hE 5 (nLst (aCons (x2 addD (xV 6) (xTup (aCons (xC (.int 1)) aNil))) (aCons (x2 addD (xV 6) (xTup (aCons (xC (.int 0)) aNil))) aNil)))))))) (zF (fxApp 4 (hE 1 (hE 4 (hE 5 (xV 6)))))))) [x0, some (.dict (ks.map kv)), a, b, some (.list ((F ++ lv p t).map en)), some (.list (S.map en)), u'] []
  | .lf, p, S, F, u, hi, hd, hS, hF => by
    refine ⟨some (en p), ?_⟩
    have hF2 : F.length + 1 ≤ 1000000 := by simpa [sz] using hF
    have h1 := ne_top S p
    have h2 := pop_en S p
    have h3 := in_kv ks p
    have h4 : decide (p ∈ ks) = false := hi
    rw [h4] at h3
    have h5 := app_en F p (by omega)
    rw [zWh_eq]
    rw [lv]
    generalize (S ++ [p]).map en = W at h1 h2
    generalize (F ++ [p]).map en = W2 at h5
    simp [h1, h2, h3, h5]
  | .nd l r, p, S, F, u, hi, hd, hS, hF => by
    obtain ⟨hi1, hi2, hi3⟩ := hi
    have hd2 : p.length + (max (dep l) (dep r) + 1) ≤ 1000 := by simpa [dep] using hd
    have hS2 : S.length + (sz l + sz r) ≤ 1000000 := by simpa [sz] using hS
    have hF2 : F.length + (sz l + sz r) ≤ 1000000 := by simpa [sz] using hF
    have hl := sz_pos l
    have hr := sz_pos r
    obtain ⟨u1, e1⟩ := fin_loop x0 a b ks l (p ++ [false]) (S ++ [p ++ [true]]) F (some (en p)) hi2 (by simp; omega) (by simp; omega) (by omega)
    obtain ⟨u2, e2⟩ := fin_loop x0 a b ks r (p ++ [true]) S (F ++ lv (p ++ [false]) l) u1 hi3 (by simp; omega) (by omega) (by rw [List.length_append, lv_len]; omega)
    refine ⟨u2, ?_⟩
    rw [lv, ← List.append_assoc, ← e2, ← e1]
    have h1 := ne_top S p
    have h2 := pop_en S p
    have h3 := in_kv ks p
    rw [show decide (p ∈ ks) = true from hi1] at h3
    have h5 := ext_2 S (p ++ [true]) (p ++ [false]) (by omega)
    rw [show S ++ [p ++ [true]] ++ [p ++ [false]] = S ++ [p ++ [true], p ++ [false]] by simp]
    generalize (S ++ [p]).map en = W at h1 h2
    generalize (S ++ [p ++ [true], p ++ [false]]).map en = W2 at h5
    rw [zWh_eq]
    simp [h1, h2, h3, h5, add_f p (by omega), add_t p (by omega)]
theorem finest_t (c : List Pt) (t : Tr) (hc : c.length ≤ 10000) (hq : ∀ q ∈ c, q.length ≤ 1000) (hi : Inn (fun p => decide (p ∈ knownOf c)) [] t) (hd : dep t ≤ 1000) (hs : sz t ≤ 100000) : m_finest [en c] = some (en (lv [] t)) := by
  obtain ⟨v', u', h1⟩ := known_f (some (en c)) none none none c [] none none hq (by simp; omega)
  obtain ⟨w, h2⟩ := fin_loop (some (en c)) v' u' (knownOf c) t [] [] [] none hi (by simpa using hd) (by simp; omega) (by simp; omega)
  rw [List.nil_append, List.nil_append] at h2
  rw [show (([[]] : List Pt).map en : List Dt) = [.tuple []] from rfl] at h2
  rw [show c.foldl knP [] = knownOf c from rfl] at h1
  have e : neD (.list []) (.list []) = some (.bool false) := by
    have := ne_nilL ([] : List Pt) (by decide)
    simpa using this
  have h3 : zWh (hE 1 (hE 4 (bV (x2 neD (xV 5) (dN (nLst aNil)))))) (zSeq (zSetF 6 (fxPop 5)) (zIf (hE 4 (hE 5 (bV (x2 inA (xV 6) (xV 1))))) (zF (fxExt 5 (hE 1 (hE 4 (hE 5 (nLst (aCons (x2 addD (xV 6) (xTup (aCons (xC (.int 1)) aNil))) (aCons (x2 addD (xV 6) (xTup (aCons (xC (.int 0)) aNil))) aNil)))))))) (zF (fxApp 4 (hE 1 (hE 4 (hE 5 (xV 6)))))))) [some (en c), some (.dict ((knownOf c).map kv)), v', u', some (.list ((lv [] t).map en)), some (.list (([] : List Pt).map en)), w] [] = some (.nx [some (en c), some (.dict ((knownOf c).map kv)), v', u', some (.list ((lv [] t).map en)), some (.list []), w] []) := by
    rw [zWh_eq]
    simp [e]
  rw [h3] at h2
  have ho : okE (some (some (PyData.list ((lv [] t).map en)))) (en (lv [] t)) = true := (En.lf (lv [] t)).1
  simp only [List.map_nil] at h1 h2
  simp [m_finest, e_finest, h1, h2, ho]
end K00

namespace K00
open PySem L2 HL
/-! inner nodes -/
def inr : Pt → Tr → List Pt
  | _, .lf => []
  | p, .nd l r => inr (p ++ [false]) l ++ [p] ++ inr (p ++ [true]) r
theorem inr_pre : ∀ (p : Pt) (t : Tr), ∀ q ∈ inr p t, p <+: q
  | p, .lf, q, h => by simp [inr] at h
  | p, .nd l r, q, h => by
    rw [inr] at h
    rcases List.mem_append.mp h with h | h
    · rcases List.mem_append.mp h with h | h
      · exact (List.prefix_append p [false]).trans (inr_pre _ l q h)
      · rw [List.mem_singleton] at h; rw [h]; exact List.prefix_rfl
    · exact (List.prefix_append p [true]).trans (inr_pre _ r q h)
theorem inr_len : ∀ (p : Pt) (t : Tr), (inr p t).length + 1 = sz t
  | _, .lf => rfl
  | p, .nd l r => by
    have h1 := inr_len (p ++ [false]) l
    have h2 := inr_len (p ++ [true]) r
    rw [inr, sz]
    simp
    omega
theorem snoc_ne {p q : Pt} {b : Bool} (h : p ++ [b] <+: q) : q ≠ p := fun e => by
  subst e
  have := h.length_le
  simp at this
  omega
theorem two_sides {p q : Pt} (h1 : p ++ [false] <+: q) (h2 : p ++ [true] <+: q) : False := by
  obtain ⟨u, rfl⟩ := h1
  obtain ⟨v, e⟩ := h2
  rw [List.append_assoc, List.append_assoc] at e
  have := List.append_cancel_left e
  simp at this
/-- a leaf is no inner node -/
theorem lv_inr : ∀ (p : Pt) (t : Tr) (q : Pt), q ∈ lv p t → q ∉ inr p t
  | p, .lf, q, _, h => by simp [inr] at h
  | p, .nd l r, q, h1, h2 => by
    rw [lv] at h1
    rw [inr] at h2
    rcases List.mem_append.mp h1 with a | a
    · have hp := lv_pre _ l q a
      rcases List.mem_append.mp h2 with b | b
      · rcases List.mem_append.mp b with b | b
        · exact lv_inr _ l q a b
        · rw [List.mem_singleton] at b; exact snoc_ne hp b
      · exact two_sides hp (inr_pre _ r q b)
    · have hp := lv_pre _ r q a
      rcases List.mem_append.mp h2 with b | b
      · rcases List.mem_append.mp b with b | b
        · exact two_sides (inr_pre _ l q b) hp
        · rw [List.mem_singleton] at b; exact snoc_ne hp b
      · exact lv_inr _ r q a b
theorem inn_of {K : Pt → Bool} : ∀ (p : Pt) (t : Tr), (∀ x ∈ inr p t, K x = true) → (∀ x ∈ lv p t, K x = false) → Inn K p t
  | p, .lf, _, h2 => h2 p (by simp [lv])
  | p, .nd l r, h1, h2 => ⟨h1 p (by simp [inr]), inn_of _ l (fun x hx => h1 x (by rw [inr]; simp [hx])) (fun x hx => h2 x (by rw [lv]; simp [hx])), inn_of _ r (fun x hx => h1 x (by rw [inr]; simp [hx])) (fun x hx => h2 x (by rw [lv]; simp [hx]))⟩
/-- what lies strictly around some leaf -/
theorem around_lv : ∀ (p : Pt) (t : Tr) (x : Pt), (∃ q ∈ lv p t, x <+: q ∧ x ≠ q) ↔ (x <+: p ∧ x ≠ p) ∨ x ∈ inr p t
  | p, .lf, x => by simp [lv, inr]
  | p, .nd l r, x => by
    have h1 := around_lv (p ++ [false]) l x
    have h2 := around_lv (p ++ [true]) r x
    have sn : ∀ b : Bool, (x <+: p ++ [b] ∧ x ≠ p ++ [b]) ↔ (x <+: p) := fun b => by
      rw [List.prefix_concat_iff]
      constructor
      · rintro ⟨e | e, h⟩
        · exact absurd e h
        · exact e
      · intro h
        refine ⟨.inr h, fun e => ?_⟩
        have := h.length_le
        rw [e] at this
        simp at this
        omega
    rw [sn] at h1 h2
    have e : (∃ q ∈ lv p (.nd l r), x <+: q ∧ x ≠ q) ↔ (∃ q ∈ lv (p ++ [false]) l, x <+: q ∧ x ≠ q) ∨ (∃ q ∈ lv (p ++ [true]) r, x <+: q ∧ x ≠ q) := by
      rw [lv]
      constructor
      · rintro ⟨q, hq, h⟩
        rcases List.mem_append.mp hq with z | z
        · exact .inl ⟨q, z, h⟩
        · exact .inr ⟨q, z, h⟩
      · rintro (⟨q, hq, h⟩ | ⟨q, hq, h⟩)
        · exact ⟨q, List.mem_append_left _ hq, h⟩
        · exact ⟨q, List.mem_append_right _ hq, h⟩
    rw [e, h1, h2, inr]
    simp only [List.mem_append, List.mem_singleton]
    by_cases hx : x = p
    · subst hx; simp
    · simp only [hx, ne_eq, not_false_eq_true, and_true, or_false]
      grind
theorem around_0 (t : Tr) (x : Pt) : (∃ q ∈ lv [] t, x <+: q ∧ x ≠ q) ↔ x ∈ inr [] t := by
  rw [around_lv]
  constructor
  · rintro (⟨h1, h2⟩ | h)
    · exact absurd (List.prefix_nil.mp h1) h2
    · exact h
  · exact .inr
/-- finest, told by the inner nodes -/
theorem finest_i (c : List Pt) (t : Tr) (hc : c.length ≤ 10000) (hq : ∀ q ∈ c, q.length ≤ 1000) (h : ∀ x, x ∈ inr [] t ↔ ∃ q ∈ c, x <+: q ∧ x ≠ q) (hs : sz t ≤ 1000) : m_finest [en c] = some (en (lv [] t)) := by
  have hd := dep_lt t
  refine finest_t c t hc hq (inn_of [] t (fun x hx => ?_) fun x hx => ?_) (by omega) (by omega)
  · rw [decide_eq_true_iff, known_mem]; exact (h x).mp hx
  · rw [decide_eq_false_iff_not, known_mem, ← h x]; exact lv_inr [] t x hx
end K00

namespace K00
open PySem L2 HL
/-! two CUTTINGS: the finer and the coarser one -/
def un : Tr → Tr → Tr
  | .lf, t => t
  | .nd a b, .lf => .nd a b
  | .nd a b, .nd c d => .nd (un a c) (un b d)
def it : Tr → Tr → Tr
  | .lf, _ => .lf
  | .nd _ _, .lf => .lf
  | .nd a b, .nd c d => .nd (it a c) (it b d)
theorem sz_un_it : ∀ a b : Tr, sz (un a b) + sz (it a b) = sz a + sz b
  | .lf, t => by simp [un, it, sz]; omega
  | .nd a b, .lf => by simp [un, it, sz]
  | .nd a b, .nd c d => by
    have h1 := sz_un_it a c
    have h2 := sz_un_it b d
    simp only [un, it, sz]
    omega
theorem inr_un : ∀ (p : Pt) (a b : Tr) (x : Pt), x ∈ inr p (un a b) ↔ x ∈ inr p a ∨ x ∈ inr p b
  | p, .lf, t, x => by simp [un, inr]
  | p, .nd a b, .lf, x => by simp [un, inr]
  | p, .nd a b, .nd c d, x => by
    have h1 := inr_un (p ++ [false]) a c x
    have h2 := inr_un (p ++ [true]) b d x
    simp only [un, inr, List.mem_append, List.mem_singleton, h1, h2]
    grind
theorem inr_it : ∀ (p : Pt) (a b : Tr) (x : Pt), x ∈ inr p (it a b) ↔ x ∈ inr p a ∧ x ∈ inr p b
  | p, .lf, t, x => by simp [it, inr]
  | p, .nd a b, .lf, x => by simp [it, inr]
  | p, .nd a b, .nd c d, x => by
    have h1 := inr_it (p ++ [false]) a c x
    have h2 := inr_it (p ++ [true]) b d x
    simp only [it, inr, List.mem_append, List.mem_singleton, h1, h2]
    constructor
    · rintro ((⟨u, v⟩ | rfl) | ⟨u, v⟩)
      · exact ⟨.inl (.inl u), .inl (.inl v)⟩
      · exact ⟨.inl (.inr rfl), .inl (.inr rfl)⟩
      · exact ⟨.inr u, .inr v⟩
    · rintro ⟨(u | rfl) | u, (v | e) | v⟩
      · exact .inl (.inl ⟨u, v⟩)
      · exact absurd e (snoc_ne (inr_pre _ _ _ u))
      · exact (two_sides (inr_pre _ _ _ u) (inr_pre _ _ _ v)).elim
      · exact absurd rfl (snoc_ne (inr_pre _ _ _ v))
      · exact .inl (.inr rfl)
      · exact absurd rfl (snoc_ne (inr_pre _ _ _ v))
      · exact (two_sides (inr_pre _ _ _ v) (inr_pre _ _ _ u)).elim
      · exact absurd e (snoc_ne (inr_pre _ _ _ u))
      · exact .inr ⟨u, v⟩
theorem common_finer_c (a b : Tr) (ha : sz a ≤ 400) (hb : sz b ≤ 400) : m_common_finer [en (lv [] a), en (lv [] b)] = some (en (lv [] (un a b))) := by
  have hu := sz_un_it a b
  have h1 := sC_lv a (by omega)
  have h2 := sC_lv b (by omega)
  have la := lv_len [] a
  have lb := lv_len [] b
  have hf := finest_i (lv [] a ++ lv [] b) (un a b) (by rw [List.length_append]; omega) (fun q hq => by
    rcases List.mem_append.mp hq with z | z
    · exact h1.2 q z
    · exact h2.2 q z) (fun x => by
    rw [inr_un, ← around_0, ← around_0]
    constructor
    · rintro (⟨q, z, h⟩ | ⟨q, z, h⟩)
      · exact ⟨q, List.mem_append_left _ z, h⟩
      · exact ⟨q, List.mem_append_right _ z, h⟩
    · rintro ⟨q, z, h⟩
      rcases List.mem_append.mp z with z | z
      · exact .inl ⟨q, z, h⟩
      · exact .inr ⟨q, z, h⟩) (by omega)
  have had := add_en (lv [] a) (lv [] b) (by omega)
  simp [m_common_finer, e_common_finer, sure_cutting_c a (by omega), sure_cutting_c b (by omega), had, hf]
/-! is one finer -/
theorem has_lv (c d : List Pt) (hc : c.length ≤ 100000) (hd : d.length ≤ 100000) : m_is_finer_in [en c, en d] = some (.bool (c.all fun p => d.any fun w => decide (w <+: p))) := by
  have hl := lc_map (p := .nm 2) (elt := xCall anyD (aCons (dN (nLc (nSeq (xV 1)) (.nm 3) [3] bYes (xCall m_lies_in (aLen 2 (aCons (xV 2) (aCons (xV 3) aNil)))))) aNil)) (st := [some (en c), some (en d), none, none]) (t := []) (en : Pt → Dt) (fun p => .bool (d.any fun w => decide (w <+: p))) c fun p _ => ⟨_, rfl, by
    have hi := lc_map (p := .nm 3) (elt := xCall m_lies_in (aLen 2 (aCons (xV 2) (aCons (xV 3) aNil)))) (st := [some (en c), some (en d), some (en p), none]) (t := []) (en : Pt → Dt) (fun w => .bool (decide (w <+: p))) d fun w _ => ⟨_, rfl, by simp [lies_in_q]⟩
    have ha := any_map (fun w : Pt => decide (w <+: p)) d
    have hd2 : d.length ≤ 16777216 := by omega
    simp [hd2, hi, ha]⟩
  have ha := all_map (fun p : Pt => d.any fun w => decide (w <+: p)) c
  have hc2 : c.length ≤ 16777216 := by omega
  simp [m_is_finer_in, e_is_finer_in, hc2, hl, ha]
/-- t has all inner nodes of s -/
def Sub (s t : Tr) : Prop := ∀ x, x ∈ inr [] s → x ∈ inr [] t
theorem finer_at : ∀ (p : Pt) (s t : Tr), (∀ x, x ∈ inr p s → x ∈ inr p t) → ∀ q ∈ lv p t, ∃ w ∈ lv p s, w <+: q
  | p, .lf, t, _, q, hq => ⟨p, by simp [lv], lv_pre p t q hq⟩
  | p, .nd a b, .lf, h, q, hq => by
    have := h p (by simp [inr])
    simp [inr] at this
  | p, .nd a b, .nd c d, h, q, hq => by
    rw [lv] at hq
    have ha : ∀ x, x ∈ inr (p ++ [false]) a → x ∈ inr (p ++ [false]) c := fun x hx => by
      have := h x (by rw [inr]; simp [hx])
      rw [inr] at this
      rcases List.mem_append.mp this with z | z
      · rcases List.mem_append.mp z with z | z
        · exact z
        · rw [List.mem_singleton] at z; exact absurd z (snoc_ne (inr_pre _ _ _ hx))
      · exact (two_sides (inr_pre _ _ _ hx) (inr_pre _ _ _ z)).elim
    have hb : ∀ x, x ∈ inr (p ++ [true]) b → x ∈ inr (p ++ [true]) d := fun x hx => by
      have := h x (by rw [inr]; simp [hx])
      rw [inr] at this
      rcases List.mem_append.mp this with z | z
      · rcases List.mem_append.mp z with z | z
        · exact (two_sides (inr_pre _ _ _ z) (inr_pre _ _ _ hx)).elim
        · rw [List.mem_singleton] at z; exact absurd z (snoc_ne (inr_pre _ _ _ hx))
      · exact z
    rcases List.mem_append.mp hq with z | z
    · obtain ⟨w, hw, e⟩ := finer_at _ a c ha q z
      exact ⟨w, by rw [lv]; exact List.mem_append_left _ hw, e⟩
    · obtain ⟨w, hw, e⟩ := finer_at _ b d hb q z
      exact ⟨w, by rw [lv]; exact List.mem_append_right _ hw, e⟩
theorem finer_in_t (s t : Tr) (hs : sz s ≤ 1000) (ht : sz t ≤ 1000) (h : Sub s t) : m_is_finer_in [en (lv [] t), en (lv [] s)] = some (.bool true) := by
  rw [has_lv _ _ (by rw [lv_len]; omega) (by rw [lv_len]; omega)]
  congr 2
  refine List.all_eq_true.mpr fun q hq => ?_
  obtain ⟨w, hw, e⟩ := finer_at [] s t h q hq
  exact List.any_eq_true.mpr ⟨w, hw, by simpa using e⟩
theorem is_finer_t (s t : Tr) (hs : sz s ≤ 1000) (ht : sz t ≤ 1000) (h : Sub s t) : m_is_finer [en (lv [] t), en (lv [] s)] = some (.bool true) := by
  simp [m_is_finer, e_is_finer, sure_cutting_c t ht, sure_cutting_c s hs, finer_in_t s t hs ht h]
theorem splits_t (s t : Tr) (hs : sz s ≤ 1000) (ht : sz t ≤ 1000) (h : Sub s t) : m_splits_between [en (lv [] s), en (lv [] t)] = some (.int ((sz t : Int) - sz s)) := by
  simp [m_splits_between, e_splits_between, sure_cutting_c t ht, sure_cutting_c s hs, finer_in_t s t hs ht h, lv_len]
theorem sub_un_l (a b : Tr) : Sub a (un a b) := fun x h => (inr_un [] a b x).mpr (.inl h)
theorem sub_un_r (a b : Tr) : Sub b (un a b) := fun x h => (inr_un [] a b x).mpr (.inr h)
theorem sub_it_l (a b : Tr) : Sub (it a b) a := fun x h => ((inr_it [] a b x).mp h).1
theorem sub_it_r (a b : Tr) : Sub (it a b) b := fun x h => ((inr_it [] a b x).mp h).2
end K00

namespace K00
open PySem L2 HL
/-! the coarser one -/
theorem lv_it : ∀ (p : Pt) (a b : Tr) (q : Pt), q ∈ lv p (it a b) ↔ (q ∈ lv p a ∧ ∃ w ∈ lv p b, q <+: w) ∨ (q ∈ lv p b ∧ ∃ w ∈ lv p a, q <+: w)
  | p, .lf, t, q => by
    simp only [it, lv, List.mem_singleton]
    constructor
    · rintro rfl
      cases hl : lv q t with
      | nil => exact absurd hl (lv_ne _ _)
      | cons w ws =>
        have hw : w ∈ lv q t := by rw [hl]; exact List.mem_cons_self
        exact .inl ⟨rfl, w, by simp, lv_pre q t w hw⟩
    · rintro (⟨h, _⟩ | ⟨h, w, rfl, e⟩)
      · exact h
      · have h1 := lv_pre w t q h
        exact (e.eq_of_length (by have := h1.length_le; have := e.length_le; omega))
  | p, .nd a b, .lf, q => by
    have hl := lv_ne p (.nd a b)
    simp only [it, lv, List.mem_singleton]
    constructor
    · rintro rfl
      cases hl : lv (q ++ [false]) a with
      | nil => exact absurd hl (lv_ne _ _)
      | cons w ws =>
        have hw : w ∈ lv (q ++ [false]) a := by rw [hl]; exact List.mem_cons_self
        exact .inr ⟨rfl, w, by simp, (List.prefix_append q [false]).trans (lv_pre _ a w hw)⟩
    · rintro (⟨h, w, rfl, e⟩ | ⟨h, _⟩)
      · have h1 := lv_pre w (.nd a b) q (by rw [lv]; exact h)
        exact (e.eq_of_length (by have := h1.length_le; have := e.length_le; omega))
      · exact h
  | p, .nd a b, .nd c d, q => by
    have h1 := lv_it (p ++ [false]) a c q
    have h2 := lv_it (p ++ [true]) b d q
    have sd : ∀ {x y : Tr} {u w : Pt}, u ∈ lv (p ++ [false]) x → w ∈ lv (p ++ [true]) y → ¬ u <+: w := fun hu hw e => two_sides ((lv_pre _ _ _ hu).trans e) (lv_pre _ _ _ hw)
    have sd2 : ∀ {x y : Tr} {u w : Pt}, u ∈ lv (p ++ [true]) x → w ∈ lv (p ++ [false]) y → ¬ u <+: w := fun hu hw e => two_sides (lv_pre _ _ _ hw) ((lv_pre _ _ _ hu).trans e)
    simp only [it, lv, List.mem_append]
    rw [h1, h2]
    constructor
    · rintro ((⟨u, w, hw, e⟩ | ⟨u, w, hw, e⟩) | (⟨u, w, hw, e⟩ | ⟨u, w, hw, e⟩))
      · exact .inl ⟨.inl u, w, .inl hw, e⟩
      · exact .inr ⟨.inl u, w, .inl hw, e⟩
      · exact .inl ⟨.inr u, w, .inr hw, e⟩
      · exact .inr ⟨.inr u, w, .inr hw, e⟩
    · rintro (⟨u | u, w, hw | hw, e⟩ | ⟨u | u, w, hw | hw, e⟩)
      · exact .inl (.inl ⟨u, w, hw, e⟩)
      · exact absurd e (sd u hw)
      · exact absurd e (sd2 u hw)
      · exact .inr (.inl ⟨u, w, hw, e⟩)
      · exact .inl (.inr ⟨u, w, hw, e⟩)
      · exact absurd e (sd u hw)
      · exact absurd e (sd2 u hw)
      · exact .inr (.inr ⟨u, w, hw, e⟩)
theorem sset_P (L F : List Pt) (hs : L.Pairwise fun x y => plt x y = true) (hm : ∀ q, q ∈ F ↔ q ∈ L) (hl : F.length < 64) (hne : L.length < 2 ∨ ∀ p ∈ L, p ≠ []) : ssetD [.list (F.map en)] = some (L.map en) := by
  have nd : (L.map en : List Dt).Nodup := List.pairwise_map.mpr ((pw_nodup hs).imp fun {x y} h e => h ((En.ev x y).mp (by have e' : En.en x = En.en y := e; rw [e']; exact (En.ev y y).mpr rfl)))
  have hp : (ddup (F.map en)).Perm (L.map en) := (List.perm_ext_iff_of_nodup (ddup_nodup _) nd).mpr fun d => by
    rw [ddup_mem]
    constructor
    · intro h
      obtain ⟨q, hq, rfl⟩ := List.mem_map.mp h
      exact List.mem_map_of_mem ((hm q).mp hq)
    · intro h
      obtain ⟨q, hq, rfl⟩ := List.mem_map.mp h
      exact List.mem_map_of_mem ((hm q).mpr hq)
  have al : ∀ d ∈ ddup (F.map en), ∃ q ∈ L, d = en q := fun d hd => by
    obtain ⟨q, hq, rfl⟩ := List.mem_map.mp (hp.mem_iff.mp hd)
    exact ⟨q, hq, rfl⟩
  have ok1 : setOk (F.map en) = true := by
    unfold setOk
    rw [Bool.and_eq_true]
    refine ⟨List.all_eq_true.mpr fun d hd => ?_, by simpa using hl⟩
    obtain ⟨q, _, rfl⟩ := List.mem_map.mp hd
    rw [Bool.and_eq_true, Bool.and_eq_true]
    refine ⟨⟨rfl, pi_P q⟩, ?_⟩
    unfold kd8
    rw [keyOf_P]
    simpa using kP_depth q
  have ok2 : (ddup (F.map en)).length < 2 ∨ srtOk (ddup (F.map en)) = true := by
    rcases hne with z | z
    · left; rw [hp.length_eq, List.length_map]; exact z
    · right
      have := srtOk_P L z
      unfold srtOk alkB at this ⊢
      simp only [Bool.and_eq_true, Bool.or_eq_true, List.all_eq_true] at this ⊢
      obtain ⟨⟨t1, t2⟩, t3⟩ := this
      refine ⟨⟨fun d hd e he => t1 d (hp.mem_iff.mp hd) e (hp.mem_iff.mp he), ?_⟩, fun d hd => t3 d (hp.mem_iff.mp hd)⟩
      rcases t2 with t2 | t2
      · exact .inl fun d hd => t2 d (hp.mem_iff.mp hd)
      · exact .inr fun d hd => t2 d (hp.mem_iff.mp hd)
  have h1 : srtL (ddup (F.map en)) = srtL (L.map en) := srtL_perm hp (fun d hd d' hd' => by
    obtain ⟨p, _, rfl⟩ := al d hd
    obtain ⟨q, _, rfl⟩ := al d' hd'
    exact alikeP p q) fun d hd => by
    obtain ⟨p, _, rfl⟩ := al d hd
    exact pi_P p
  unfold ssetD
  dsimp only
  rw [if_pos ⟨ok1, ok2⟩, h1, srtL_P L L hs (List.Perm.refl _)]
end K00

namespace K00
open PySem L2 HL
/-! coarsest -/
theorem coarse_lc (x0 x1 x5 x6 : Option Dt) (c d : List Pt) (hc : c.length ≤ 100000) (hd : d.length ≤ 100000) :
    nLc (nSeq (xV 3)) (.nm 5) [5] (bV (xCall anyD (aCons (dN (nLc (nSeq (xV 4)) (.nm 6) [6] bYes (xCall m_lies_in (aLen 2 (aCons (xV 6) (aCons (xV 5) aNil)))))) aNil))) (xV 5) [x0, x1, none, some (en c), some (en d), x5, x6] [] =
    some ((c.filter fun p => d.any fun w => decide (p <+: w)).map en, []) := by
  have hl := lc_enc (p := .nm 5) (cnd := bV (xCall anyD (aCons (dN (nLc (nSeq (xV 4)) (.nm 6) [6] bYes (xCall m_lies_in (aLen 2 (aCons (xV 6) (aCons (xV 5) aNil)))))) aNil))) (elt := xV 5) (st := [x0, x1, none, some (en c), some (en d), none, x6]) (t := []) (en : Pt → Dt) (fun p => d.any fun w => decide (p <+: w)) (en : Pt → Dt) c fun p _ => ⟨_, rfl, by
    have hi := lc_map (p := .nm 6) (elt := xCall m_lies_in (aLen 2 (aCons (xV 6) (aCons (xV 5) aNil)))) (st := [x0, x1, none, some (en c), some (en d), some (en p), none]) (t := []) (en : Pt → Dt) (fun w => .bool (decide (p <+: w))) d fun w _ => ⟨_, rfl, by simp [lies_in_q]⟩
    have ha := any_map (fun w : Pt => decide (p <+: w)) d
    have hd2 : d.length ≤ 16777216 := by omega
    simp [hd2, hi, ha], fun _ => by simp⟩
  have hc2 : c.length ≤ 16777216 := by omega
  simp only [s_nLc, s_nSeq, s_xV, List.getElem?_cons_succ, List.getElem?_cons_zero, Option.bind_some, Option.map_some, seq_en, List.length_map, szOk_of hc2, if_true, s_wipe_cons, s_wipe_nil, List.set_cons_succ, List.set_cons_zero]
  rw [hl]
theorem any_pre (d : List Pt) (p : Pt) : (d.any fun w => decide (p <+: w)) = true ↔ ∃ w ∈ d, p <+: w := by simp
theorem coarsest_t (a b : Tr) (ha : sz a ≤ 30) (hb : sz b ≤ 30) : m_coarsest [en (lv [] a), en (lv [] b)] = some (en (lv [] (it a b))) := by
  have la := lv_len [] a
  have lb := lv_len [] b
  have k1 := coarse_lc (some (en (lv [] a))) (some (en (lv [] b))) none none (lv [] a) (lv [] b) (by omega) (by omega)
  generalize hF1 : ((lv [] a).filter fun p => (lv [] b).any fun w => decide (p <+: w)) = F1 at k1
  have k2 := coarse_lc (some (en (lv [] a))) (some (en (lv [] b))) none none (lv [] b) (lv [] a) (by omega) (by omega)
  generalize hF2 : ((lv [] b).filter fun p => (lv [] a).any fun w => decide (p <+: w)) = F2 at k2
  have l1 : F1.length ≤ sz a := by rw [← hF1, ← la]; exact List.length_filter_le _ _
  have l2 : F2.length ≤ sz b := by rw [← hF2, ← lb]; exact List.length_filter_le _ _
  have e1 := ext_en ([] : List Pt) F1 (by simp; omega)
  have e2 := ext_en F1 F2 (by omega)
  have hm : ∀ q, q ∈ F1 ++ F2 ↔ q ∈ lv [] (it a b) := fun q => by
    rw [lv_it, List.mem_append, ← hF1, ← hF2, List.mem_filter, List.mem_filter, any_pre, any_pre]
  have hs := sset_P (lv [] (it a b)) (F1 ++ F2) (lv_sorted [] _) hm (by rw [List.length_append]; omega) (by
    cases h : it a b with
    | lf => left; simp [lv]
    | nd l r =>
      right
      intro p hp e
      subst e
      rw [lv] at hp
      rcases List.mem_append.mp hp with z | z
      · have := (lv_pre _ _ _ z).length_le; simp at this
      · have := (lv_pre _ _ _ z).length_le; simp at this)
  have ho : okE (some (some (PyData.list ((F1 ++ F2).map en)))) (en (lv [] (it a b))) = true := (En.lf (lv [] (it a b))).1
  simp only [List.map_nil, List.nil_append] at e1
  generalize (F1 ++ F2).map en = W at e2 hs ho
  simp only [m_coarsest, e_coarsest, s_runP, s_zSeq, s_zSetN, s_hE, s_nLst, s_aNil, List.map_cons, List.map_nil, List.length_cons, List.length_nil, List.replicate, List.cons_append, List.nil_append, List.set_cons_succ, List.set_cons_zero, Option.bind_some, Option.map_some, szOk_of (show 0 ≤ 16777216 by omega), if_true, s_zFor, s_nSeq, s_xTup, s_aCons, s_xV, List.getElem?_cons_succ, List.getElem?_cons_zero, d_seqT, szOk_of (show 0 + 1 + 1 ≤ 16777216 by omega), s_for_cons, s_for_nil, s_setTg_tp, s_setTgs_cons, s_setTgs_nil, s_setTg_nm, s_zF, s_fxExt, k1, k2, s_fL, e1, e2, s_zRt, s_lE, s_xCall, s_dN, s_nCall, hs, tup_en, ho]
theorem common_coarser_c (a b : Tr) (ha : sz a ≤ 30) (hb : sz b ≤ 30) : m_common_coarser [en (lv [] a), en (lv [] b)] = some (en (lv [] (it a b))) := by
  simp [m_common_coarser, e_common_coarser, sure_cutting_c a (by omega), sure_cutting_c b (by omega), coarsest_t a b ha hb]
/-! split_at, joined_at -/
theorem ind_en {α : Type} [En α] [DecidableEq α] (l : List α) (a : α) (i : Nat) (h : l[i]? = some a) (nd : l.Nodup) (hd : En.dp α ≤ 63) : indD (en l) [en a] = some (.int i) := by
  have hi : i < l.length := (List.getElem?_eq_some_iff.mp h).1
  have ha : l[i] = a := (List.getElem?_eq_some_iff.mp h).2
  rw [en_list]
  unfold indD
  dsimp only
  rw [shp_tup l hd, shp_en a (by omega), if_pos (show (true && true) = true from rfl)]
  have : fxD (l.map en) (en a) = some i := by
    unfold fxD
    rw [List.findIdx?_eq_some_iff_getElem]
    refine ⟨by simpa using hi, ?_, fun j hj => ?_⟩
    · rw [List.getElem_map, ha]
      exact (En.ev a a).mpr rfl
    · rw [List.getElem_map]
      intro e
      have e2 := (En.ev l[j] a).mp e
      rw [← ha] at e2
      have := (List.getElem_inj nd).mp e2
      omega
  rw [this]; rfl
theorem isT_en {α : Type} [En α] (l : List α) : isT "tuple" (en l) = true := rfl
theorem split_at_t (t : Tr) (i : Nat) (q : Pt) (ht : sz t ≤ 900) (h : (lv [] t)[i]? = some q) : m_split_at [en (lv [] t), en q] = some (en (lv [] (spl t i))) := by
  have hl := lv_len [] t
  have hi : i < sz t := by rw [← hl]; exact (List.getElem?_eq_some_iff.mp h).1
  have hqm := List.mem_of_getElem? h
  have hql : q.length ≤ 1000 := (sC_lv t (by omega)).2 q hqm
  have h1 := ind_en (lv [] t) q i h (lv_nodup [] t) (by decide)
  have h2 := nin_en q (lv [] t) (by decide)
  have h3 := sl_to (lv [] t) i
  have h4 := sl_from (lv [] t) (i + 1)
  rw [lv_spl t [] i q h]
  have a1 := add_en ((lv [] t).take i) [q ++ [false], q ++ [true]] (by simp; omega)
  have a2 := add_en ((lv [] t).take i ++ [q ++ [false], q ++ [true]]) ((lv [] t).drop (i + 1)) (by simp; omega)
  rw [en_list [q ++ [false], q ++ [true]]] at a1
  simp only [List.map_cons, List.map_nil] at a1
  simp at h4
  simp only [hqm, not_true, decide_false] at h2
  simp [m_split_at, e_split_at, sure_cutting_c t (by omega), sure_part_p q (by omega), h1, h2, h3, h4, isT_en, add_f q (by omega), add_t q (by omega), a1, a2]
theorem joined_at_t (t : Tr) (i : Nat) (q : Pt) (ht : sz t ≤ 900) (h : (lv [] t)[i]? = some q) : m_joined_at [en (lv [] (spl t i)), en q] = some (en (lv [] t)) := by
  have hl := lv_len [] t
  have hi : i < sz t := by rw [← hl]; exact (List.getElem?_eq_some_iff.mp h).1
  have hqm := List.mem_of_getElem? h
  have hql : q.length ≤ 1000 := (sC_lv t (by omega)).2 q hqm
  have e := lv_spl t [] i q h
  have hs := sz_spl t i
  have hls := lv_len [] (spl t i)
  have htk : ((lv [] t).take i).length = i := by rw [List.length_take]; omega
  have hg : (lv [] (spl t i))[i]? = some (q ++ [false]) := by
    rw [e, List.append_assoc, List.getElem?_append_right (by omega), htk, Nat.sub_self]; rfl
  have h1 := ind_en (lv [] (spl t i)) (q ++ [false]) i hg (lv_nodup [] _) (by decide)
  have h2 := nin_en (q ++ [false]) (lv [] (spl t i)) (by decide)
  have h2' := nin_en (q ++ [true]) (lv [] (spl t i)) (by decide)
  have m1 : q ++ [false] ∈ lv [] (spl t i) := by rw [e]; simp
  have m2 : q ++ [true] ∈ lv [] (spl t i) := by rw [e]; simp
  have h3 := sl_to (lv [] (spl t i)) i
  have h4 := sl_from (lv [] (spl t i)) (i + 2)
  have t1 : (lv [] (spl t i)).take i = (lv [] t).take i := by
    rw [e, List.append_assoc, List.take_append_of_le_length (by omega), List.take_take, Nat.min_self]
  have t2 : (lv [] (spl t i)).drop (i + 2) = (lv [] t).drop (i + 1) := by
    rw [e, List.drop_append, List.drop_of_length_le (by simp; omega)]
    have : i + 2 - ((lv [] t).take i ++ [q ++ [false], q ++ [true]]).length = 0 := by simp; omega
    rw [this, List.drop_zero, List.nil_append]
  rw [t1] at h3
  rw [t2] at h4
  have a1 := add_en ((lv [] t).take i) [q] (by simp; omega)
  have a2 := add_en ((lv [] t).take i ++ [q]) ((lv [] t).drop (i + 1)) (by simp; omega)
  rw [en_list [q]] at a1
  simp only [List.map_cons, List.map_nil] at a1
  have t3 : (lv [] t).take i ++ [q] ++ (lv [] t).drop (i + 1) = lv [] t := by
    have := List.getElem?_eq_some_iff.mp h
    obtain ⟨hh, rfl⟩ := this
    simp
  rw [t3] at a2
  simp at h4
  simp only [m1, m2, not_true, decide_false] at h2 h2'
  simp [m_joined_at, e_joined_at, sure_cutting_c (spl t i) (by omega), sure_part_p q (by omega), h1, h2, h2', h3, h4, isT_en, add_f q (by omega), add_t q (by omega), a1, a2]
/-! joints -/
theorem inr_mid_sorted : ∀ (p : Pt) (t : Tr), (inr p t).Pairwise fun x y => plt (x ++ [true]) (y ++ [true]) = true
  | p, .lf => by simp [inr]
  | p, .nd l r => by
    rw [inr]
    refine List.pairwise_append.mpr ⟨List.pairwise_append.mpr ⟨inr_mid_sorted _ l, by simp, fun x hx y hy => ?_⟩, inr_mid_sorted _ r, fun x hx y hy => ?_⟩
    · rw [List.mem_singleton] at hy
      subst hy
      exact plt_sides ((inr_pre _ l x hx).trans (List.prefix_append _ _)) List.prefix_rfl
    · have hy2 := inr_pre _ r y hy
      rcases List.mem_append.mp hx with hx | hx
      · exact plt_sides ((inr_pre _ l x hx).trans (List.prefix_append _ _)) (hy2.trans (List.prefix_append _ _))
      · rw [List.mem_singleton] at hx
        subst hx
        obtain ⟨u, rfl⟩ := hy2
        rw [List.append_assoc, List.append_assoc, plt_pre]
        show plt [true] (true :: (u ++ [true])) = true
        cases u <;> rfl
theorem inr_nodup (p : Pt) (t : Tr) : (inr p t).Nodup := (inr_mid_sorted p t).imp fun {x y} q e => by
  rw [e, plt_irr] at q; cases q
theorem midD_P (p : Pt) : midD (en p) = en (p ++ [true]) := by
  rw [en_list, en_list, List.map_append]; rfl
theorem leM_P (p q : Pt) : PySem.W.dataLe false midD (en p) (en q) = !plt (q ++ [true]) (p ++ [true]) := by
  have := le_P (p ++ [true]) (q ++ [true])
  rw [← midD_P, ← midD_P] at this
  exact this
theorem plt_conn : ∀ p q : Pt, plt p q = false → plt q p = false → p = q
  | [], [], _, _ => rfl
  | [], _ :: _, h, _ => by simp [plt] at h
  | _ :: _, [], _, h => by simp [plt] at h
  | a :: p, b :: q, h1, h2 => by
    by_cases e : a = b
    · subst e
      simp only [plt, if_true] at h1 h2
      rw [plt_conn p q h1 h2]
    · cases a <;> cases b <;> simp [plt] at h1 h2 e
theorem lfP (p : Pt) : lf (en p) = true := by
  rw [en_list, lf]
  induction p with
  | nil => rfl
  | cons b p ih => rw [List.map_cons, lfA, ih, en_bool, lf]; rfl
theorem srtK_P (L ks : List Pt) (hs : L.Pairwise fun x y => plt (x ++ [true]) (y ++ [true]) = true) (hp : ks.Perm L) (hl : ∀ p ∈ L, p.length ≤ 1000) : srtK [.dict (ks.map kv)] = some (L.map en) := by
  have e1 : (ks.map kv).map (·.1) = ks.map en := by rw [List.map_map]; rfl
  unfold srtK
  dsimp only
  rw [e1]
  have ok : srtKok (ks.map en) = true := by
    unfold srtKok alkB
    rw [Bool.and_eq_true]
    refine ⟨List.all_eq_true.mpr fun d hd => ?_, List.all_eq_true.mpr fun d hd => List.all_eq_true.mpr fun e he => ?_⟩
    · obtain ⟨p, hm, rfl⟩ := List.mem_map.mp hd
      have hlen := hl p (hp.mem_iff.mp hm)
      have h1 := shp_en (p ++ [true]) (by decide)
      rw [← midD_P] at h1
      rw [h1]
      have h2 : lf (en p) = true := lfP p
      rw [h2]
      have h3 : isTp (en p) = true := rfl
      rw [h3]
      show szOk ((p.map en).length + 1) = true
      exact szOk_of (by rw [List.length_map]; omega)
    · rw [List.mem_map] at hd he
      obtain ⟨d', hd, rfl⟩ := hd
      obtain ⟨e', he, rfl⟩ := he
      obtain ⟨p, _, rfl⟩ := List.mem_map.mp hd
      obtain ⟨q, _, rfl⟩ := List.mem_map.mp he
      rw [midD_P, midD_P]
      exact alikeP _ _
  rw [if_pos ok]
  congr 1
  have T := PySem.W.sortLe_total (PyProof.Rows.listOrd PyProof.Rows.itemOrd) false fun b : Dt => PySem.W.keyToks (midD b)
  have s1 : ((ks.map en).mergeSort (PySem.W.dataLe false midD)).Pairwise fun a b => PySem.W.dataLe false midD a b = true := List.pairwise_mergeSort (le := PySem.W.dataLe false midD) (fun a b c => T.trans a b c) (fun a b => Bool.or_eq_true_iff.mpr (T.total a b)) (ks.map en)
  have s2 : (L.map en).Pairwise fun a b : Dt => PySem.W.dataLe false midD a b = true := List.pairwise_map.mpr (hs.imp fun {x y} h => by rw [leM_P, plt_asymm h]; rfl)
  have pm : ((ks.map en).mergeSort (PySem.W.dataLe false midD)).Perm (L.map en) := (List.mergeSort_perm _ _).trans (hp.map en)
  refine List.Perm.eq_of_pairwise ?_ s1 s2 pm
  intro a b hma hmb h1 h2
  obtain ⟨p, _, rfl⟩ := List.mem_map.mp (pm.mem_iff.mp hma)
  obtain ⟨q, _, rfl⟩ := List.mem_map.mp hmb
  rw [leM_P] at h1 h2
  have := plt_conn (p ++ [true]) (q ++ [true]) (by simpa using h2) (by simpa using h1)
  rw [List.append_cancel_right this]
theorem joints_in_t (t : Tr) (ht : sz t ≤ 1000) : m_joints_in [en (lv [] t)] = some (.list ((inr [] t).map en)) := by
  have hc := sC_lv t ht
  have hl := lv_len [] t
  obtain ⟨v', u', h1⟩ := known_j (some (en (lv [] t))) (lv [] t) [] none none (fun q hq => hc.2 q hq) (by simp; omega)
  rw [show (lv [] t).foldl knP [] = knownOf (lv [] t) from rfl] at h1
  have pm : (knownOf (lv [] t)).Perm (inr [] t) := (List.perm_ext_iff_of_nodup (kn_nodup _ _ List.nodup_nil) (inr_nodup [] t)).mpr fun x => by
    show x ∈ knownOf (lv [] t) ↔ _
    rw [known_mem, around_0]
  have h2 := srtK_P (inr [] t) (knownOf (lv [] t)) (inr_mid_sorted [] t) pm fun p hp => by
    obtain ⟨q, hq, h, _⟩ := (around_0 t p).mpr hp
    have h3 : q.length ≤ 1000 := hc.2 q hq
    have := h.length_le
    omega
  have ho : okE (some (some (PyData.dict ((knownOf (lv [] t)).map kv)))) (.list ((inr [] t).map en)) = true := by
    show nod (.list _) = true
    exact (enA_lf (inr [] t)).2
  simp only [List.map_nil] at h1
  simp [m_joints_in, e_joints_in, h1, h2, ho]
theorem joints_of_t (t : Tr) (ht : sz t ≤ 1000) : m_joints_of [en (lv [] t)] = some (en (inr [] t)) := by
  simp [m_joints_of, e_joints_of, sure_cutting_c t ht, joints_in_t t ht]
end K00

namespace K00
open PySem L2 HL
/-! places of PARTS, in numbers -/
def wE (E : Nat) (p : Pt) : Nat := wn p * 2 ^ (E - p.length)
def tot (E : Nat) (l : List Pt) : Nat := (l.map fun q => 2 ^ (E - q.length)).sum
theorem tot_nil (E : Nat) : tot E [] = 0 := rfl
theorem tot_cons (E : Nat) (q : Pt) (l : List Pt) : tot E (q :: l) = 2 ^ (E - q.length) + tot E l := by simp [tot]
theorem tot_app (E : Nat) (l m : List Pt) : tot E (l ++ m) = tot E l + tot E m := by simp [tot]
theorem pow_half {E n : Nat} (h : n + 1 ≤ E) : 2 ^ (E - n) = 2 ^ (E - (n + 1)) + 2 ^ (E - (n + 1)) := by
  rw [show E - n = E - (n + 1) + 1 by omega, Nat.pow_succ]; omega
theorem wE_f {E : Nat} {p : Pt} (h : p.length + 1 ≤ E) : wE E (p ++ [false]) = wE E p := by
  unfold wE
  rw [wn_app, List.length_append, List.length_singleton, show E - p.length = E - (p.length + 1) + 1 by omega, Nat.pow_succ]
  simp [wn]
  rw [Nat.mul_assoc, Nat.mul_comm 2, ← Nat.pow_succ]
theorem wE_t {E : Nat} {p : Pt} (h : p.length + 1 ≤ E) : wE E (p ++ [true]) = wE E p + 2 ^ (E - (p.length + 1)) := by
  unfold wE
  rw [wn_app, List.length_append, List.length_singleton, show E - p.length = E - (p.length + 1) + 1 by omega, Nat.pow_succ]
  simp [wn]
  rw [Nat.add_mul, Nat.mul_assoc, Nat.mul_comm 2, Nat.one_mul, ← Nat.pow_succ]
theorem tot_lv (E : Nat) : ∀ (t : Tr) (p : Pt), p.length + dep t ≤ E → tot E (lv p t) = 2 ^ (E - p.length)
  | .lf, p, _ => by simp [lv, tot]
  | .nd l r, p, h => by
    have h2 : p.length + (max (dep l) (dep r) + 1) ≤ E := by simpa [dep] using h
    rw [lv, tot_app, tot_lv E l _ (by simp; omega), tot_lv E r _ (by simp; omega), List.length_append, List.length_append, List.length_singleton, List.length_singleton, ← pow_half (by omega)]
/-- where a leaf begins -/
theorem lv_at (E : Nat) : ∀ (t : Tr) (p : Pt) (k : Nat) (q : Pt), p.length + dep t ≤ E → (lv p t)[k]? = some q → wE E q = wE E p + tot E ((lv p t).take k)
  | .lf, p, k, q, _, h => by
    rw [lv] at h
    cases k with
    | zero => simp at h; subst h; simp [tot]
    | succ k => simp at h
  | .nd l r, p, k, q, hd, h => by
    have h2 : p.length + (max (dep l) (dep r) + 1) ≤ E := by simpa [dep] using hd
    rw [lv] at h ⊢
    by_cases hk : k < (lv (p ++ [false]) l).length
    · rw [List.getElem?_append_left hk] at h
      rw [lv_at E l _ k q (by simp; omega) h, wE_f (by omega), List.take_append_of_le_length (by omega)]
    · rw [List.getElem?_append_right (by omega)] at h
      have e1 : (lv (p ++ [false]) l).take k = lv (p ++ [false]) l := List.take_of_length_le (by omega)
      rw [lv_at E r _ _ q (by simp; omega) h, wE_t (by omega), List.take_append, e1, tot_app, tot_lv E l _ (by simp; omega)]
      rw [List.length_append, List.length_singleton]
      omega
theorem tot_pos (E : Nat) (l : List Pt) (h : l ≠ []) : 0 < tot E l := by
  cases l with
  | nil => exact absurd rfl h
  | cons q l => rw [tot_cons]; have := Nat.two_pow_pos (E - q.length); omega
theorem tot_take_lt {E : Nat} (l : List Pt) (k j : Nat) (h : k < j) (h2 : k < l.length) : tot E (l.take k) < tot E (l.take j) := by
  have e : l.take j = l.take k ++ (l.take j).drop k := by
    have := (List.take_append_drop k (l.take j)).symm
    rw [List.take_take, Nat.min_eq_left (by omega)] at this
    exact this
  rw [e, tot_app]
  have := tot_pos E ((l.take j).drop k) (by
    intro z
    have := congrArg List.length z
    rw [List.length_drop, List.length_take, List.length_nil] at this
    omega)
  omega
/-! a tree with a stretch of its leaves marked -/
inductive Mt where
  | oL (t : Tr)
  | fu (t : Tr)
  | oR (t : Tr)
  | no (l r : Mt)
def mk : Tr → Nat → Nat → Mt
  | .lf, k, j => if k = 0 ∧ 1 ≤ j then .fu .lf else if 1 ≤ k then .oL .lf else .oR .lf
  | .nd l r, k, j => if k = 0 ∧ sz l + sz r ≤ j then .fu (.nd l r) else if sz l + sz r ≤ k then .oL (.nd l r) else if j = 0 then .oR (.nd l r) else .no (mk l k j) (mk r (k - sz l) (j - sz l))
def pcs : Pt → Mt → List Pt
  | _, .oL _ => []
  | p, .fu _ => [p]
  | _, .oR _ => []
  | p, .no l r => pcs (p ++ [false]) l ++ pcs (p ++ [true]) r
def md : Pt → Mt → List Pt
  | _, .oL _ => []
  | p, .fu t => lv p t
  | _, .oR _ => []
  | p, .no l r => md (p ++ [false]) l ++ md (p ++ [true]) r
def rp : Mt → Tr
  | .oL t => t
  | .fu _ => .lf
  | .oR t => t
  | .no l r => .nd (rp l) (rp r)
def fn : Mt → Tr
  | .oL _ => .lf
  | .fu _ => .lf
  | .oR _ => .lf
  | .no l r => .nd (fn l) (fn r)
theorem mk_out (t : Tr) (k j : Nat) (h : sz t ≤ k) : mk t k j = .oL t := by
  cases t with
  | lf => have h : 1 ≤ k := h; rw [mk, if_neg (by omega), if_pos h]
  | nd l r =>
    have h : sz l + sz r ≤ k := h
    have := sz_pos l
    rw [mk, if_neg (by omega), if_pos h]
theorem mk_zero (t : Tr) : mk t 0 0 = .oR t := by
  cases t with
  | lf => rfl
  | nd l r =>
    have := sz_pos l
    rw [mk, if_neg (by omega), if_neg (by omega), if_pos rfl]
theorem md_mk : ∀ (t : Tr) (p : Pt) (k j : Nat), md p (mk t k j) = ((lv p t).take j).drop k
  | .lf, p, k, j => by
    rw [mk, lv]
    split
    · rename_i h
      obtain ⟨rfl, h⟩ := h
      rw [md, lv, List.take_of_length_le (by simpa using h), List.drop_zero]
    · split
      · rename_i h
        rw [md, List.drop_of_length_le (by rw [List.length_take]; simp; omega)]
      · have : k = 0 := by omega
        have : j = 0 := by omega
        subst k j
        rfl
  | .nd l r, p, k, j => by
    have hl := lv_len (p ++ [false]) l
    have hr := lv_len (p ++ [true]) r
    rw [mk, lv]
    split
    · rename_i h
      obtain ⟨rfl, h⟩ := h
      rw [md, lv, List.take_of_length_le (by rw [List.length_append]; omega), List.drop_zero]
    · split
      · rename_i h
        rw [md, List.drop_of_length_le (by rw [List.length_take, List.length_append]; omega)]
      · split
        · rename_i h
          subst h
          simp [md]
        · rw [md, md_mk l, md_mk r, List.take_append, List.drop_append, hl, List.length_take, hl]
          by_cases h : sz l ≤ j
          · rw [Nat.min_eq_right h]
          · rw [show j - sz l = 0 by omega]; simp
theorem lv_rp : ∀ (t : Tr) (p : Pt) (k j : Nat), k ≤ j → lv p (rp (mk t k j)) = (lv p t).take k ++ pcs p (mk t k j) ++ (lv p t).drop j
  | .lf, p, k, j, hkj => by
    rw [mk, lv]
    split
    · rename_i h
      obtain ⟨rfl, h⟩ := h
      rw [rp, pcs, lv, List.drop_of_length_le (by simpa using h)]; rfl
    · split
      · rename_i h
        rw [rp, pcs, lv, List.drop_of_length_le (by simp; omega), List.take_of_length_le (by simpa using h)]; rfl
      · have : k = 0 := by omega
        have : j = 0 := by omega
        subst k j
        rfl
  | .nd l r, p, k, j, hkj => by
    have hl := lv_len (p ++ [false]) l
    have hr := lv_len (p ++ [true]) r
    rw [mk, lv]
    split
    · rename_i h
      obtain ⟨rfl, h⟩ := h
      rw [rp, pcs, lv, List.drop_of_length_le (by rw [List.length_append]; omega)]; rfl
    · split
      · rename_i h
        rw [rp, pcs, lv, List.drop_of_length_le (by rw [List.length_append]; omega), List.take_of_length_le (by rw [List.length_append]; omega)]; simp
      · split
        · rename_i h
          subst h
          have : k = 0 := by omega
          subst this
          simp [rp, pcs, lv]
        · rw [rp, pcs, lv, lv_rp l _ k j hkj, lv_rp r _ (k - sz l) (j - sz l) (by omega), List.take_append, List.drop_append, hl]
          by_cases h : sz l ≤ j
          · have e1 : (lv (p ++ [false]) l).drop j = [] := List.drop_of_length_le (by omega)
            rw [e1]
            by_cases h2 : sz l ≤ k
            · rw [mk_out l k j h2]
              simp [pcs]
            · rw [show k - sz l = 0 by omega]
              simp
          · rw [show k - sz l = 0 by omega, show j - sz l = 0 by omega, mk_zero]
            simp [pcs]
theorem pcs_pre : ∀ (m : Mt) (p : Pt), ∀ q ∈ pcs p m, p <+: q
  | .oL _, p, q, h => by simp [pcs] at h
  | .oR _, p, q, h => by simp [pcs] at h
  | .fu _, p, q, h => by rw [pcs, List.mem_singleton] at h; rw [h]; exact List.prefix_rfl
  | .no l r, p, q, h => by
    rw [pcs] at h
    rcases List.mem_append.mp h with h | h
    · exact (List.prefix_append p [false]).trans (pcs_pre l _ q h)
    · exact (List.prefix_append p [true]).trans (pcs_pre r _ q h)
theorem pcs_ne : ∀ (t : Tr) (p : Pt) (k j : Nat), k < j → k < sz t → pcs p (mk t k j) ≠ []
  | .lf, p, k, j, h, h2 => by
    have h2 : k < 1 := h2
    have : k = 0 := by omega
    subst this
    rw [mk, if_pos ⟨rfl, by omega⟩]
    simp [pcs]
  | .nd l r, p, k, j, h, h2 => by
    have h2 : k < sz l + sz r := h2
    rw [mk]
    split
    · simp [pcs]
    · rw [if_neg (by omega), if_neg (by omega), pcs]
      intro e
      have e2 := List.append_eq_nil_iff.mp e
      by_cases hk : k < sz l
      · exact pcs_ne l _ k j h hk e2.1
      · exact pcs_ne r _ (k - sz l) (j - sz l) (by omega) (by omega) e2.2
theorem pcs_len : ∀ (m : Mt) (p : Pt), (pcs p m).length ≤ (md p m).length
  | .oL _, p => by simp [pcs]
  | .oR _, p => by simp [pcs]
  | .fu t, p => by
    have := sz_pos t
    rw [pcs, md, lv_len]; simp; omega
  | .no l r, p => by
    have h1 := pcs_len l (p ++ [false])
    have h2 := pcs_len r (p ++ [true])
    rw [pcs, md, List.length_append, List.length_append]
    omega
theorem md_in : ∀ (m : Mt) (p q : Pt), q ∈ md p m → ∃ w ∈ pcs p m, w <+: q
  | .oL _, p, q, h => by simp [md] at h
  | .oR _, p, q, h => by simp [md] at h
  | .fu t, p, q, h => ⟨p, by simp [pcs], lv_pre p t q h⟩
  | .no l r, p, q, h => by
    rw [md] at h
    rcases List.mem_append.mp h with h | h
    · obtain ⟨w, a, b⟩ := md_in l _ q h
      exact ⟨w, by rw [pcs]; exact List.mem_append_left _ a, b⟩
    · obtain ⟨w, a, b⟩ := md_in r _ q h
      exact ⟨w, by rw [pcs]; exact List.mem_append_right _ a, b⟩
theorem fn_sub : ∀ (m : Mt) (p x : Pt), x ∈ inr p (fn m) → x ∈ inr p (rp m)
  | .oL _, p, x, h => by simp [fn, inr] at h
  | .oR _, p, x, h => by simp [fn, inr] at h
  | .fu t, p, x, h => by simp [fn, inr] at h
  | .no l r, p, x, h => by
    have h1 := fn_sub l (p ++ [false]) x
    have h2 := fn_sub r (p ++ [true]) x
    rw [fn, inr] at h
    rw [rp, inr]
    simp only [List.mem_append, List.mem_singleton] at h ⊢
    rcases h with (h | h) | h
    · exact .inl (.inl (h1 h))
    · exact .inl (.inr h)
    · exact .inr (h2 h)
theorem pcs_fn : ∀ (m : Mt) (p q : Pt), q ∈ pcs p m → q ∈ lv p (fn m)
  | .oL _, p, x, h => by simp [pcs] at h
  | .oR _, p, x, h => by simp [pcs] at h
  | .fu t, p, x, h => by simpa [pcs, fn, lv] using h
  | .no l r, p, x, h => by
    rw [pcs] at h
    rw [fn, lv]
    rcases List.mem_append.mp h with h | h
    · exact List.mem_append_left _ (pcs_fn l _ x h)
    · exact List.mem_append_right _ (pcs_fn r _ x h)
theorem inr_fn : ∀ (t : Tr) (p : Pt) (k j : Nat), k < j → k < sz t → ∀ x, x ∈ inr p (fn (mk t k j)) ↔ p <+: x ∧ ∃ q ∈ pcs p (mk t k j), x <+: q ∧ x ≠ q
  | .lf, p, k, j, h, h2, x => by
    have h2 : k < 1 := h2
    have : k = 0 := by omega
    subst this
    rw [mk, if_pos ⟨rfl, by omega⟩]
    simp only [fn, inr, pcs, List.mem_singleton, List.not_mem_nil, false_iff]
    rintro ⟨h1, q, rfl, h3, h4⟩
    exact h4 (h3.eq_of_length (by have := h1.length_le; have := h3.length_le; omega))
  | .nd l r, p, k, j, h, h2, x => by
    have h2 : k < sz l + sz r := h2
    have pl := sz_pos l
    have pr := sz_pos r
    have ne := pcs_ne (.nd l r) p k j h h2
    rw [mk] at ne ⊢
    split
    · simp only [fn, inr, pcs, List.mem_singleton, List.not_mem_nil, false_iff]
      rintro ⟨h1, q, rfl, h3, h4⟩
      exact h4 (h3.eq_of_length (by have := h1.length_le; have := h3.length_le; omega))
    · rename_i hf
      rw [if_neg hf] at ne
      rw [if_neg (by omega), if_neg (by omega)] at ne ⊢
      rw [fn, inr, pcs]
      rw [pcs] at ne
      have IL : k < sz l → (x ∈ inr (p ++ [false]) (fn (mk l k j)) ↔ p ++ [false] <+: x ∧ ∃ q ∈ pcs (p ++ [false]) (mk l k j), x <+: q ∧ x ≠ q) := fun hk => inr_fn l _ k j h hk x
      have IR : sz l < j → (x ∈ inr (p ++ [true]) (fn (mk r (k - sz l) (j - sz l))) ↔ p ++ [true] <+: x ∧ ∃ q ∈ pcs (p ++ [true]) (mk r (k - sz l) (j - sz l)), x <+: q ∧ x ≠ q) := fun hk => inr_fn r _ _ _ (by omega) (by omega) x
      simp only [List.mem_append, List.mem_singleton]
      constructor
      · rintro ((hx | rfl) | hx)
        · by_cases hk : k < sz l
          · obtain ⟨a, q, hq, b⟩ := (IL hk).mp hx
            exact ⟨(List.prefix_append p [false]).trans a, q, .inl hq, b⟩
          · rw [mk_out l k j (by omega)] at hx; simp [fn, inr] at hx
        · refine ⟨List.prefix_rfl, ?_⟩
          cases e : pcs (x ++ [false]) (mk l k j) ++ pcs (x ++ [true]) (mk r (k - sz l) (j - sz l)) with
          | nil => exact absurd e ne
          | cons q qs =>
            have hq : q ∈ pcs (x ++ [false]) (mk l k j) ++ pcs (x ++ [true]) (mk r (k - sz l) (j - sz l)) := by rw [e]; exact List.mem_cons_self
            rcases List.mem_append.mp hq with z | z
            · have := pcs_pre _ _ q z
              exact ⟨q, .inl z, (List.prefix_append x [false]).trans this, (snoc_ne this).symm⟩
            · have := pcs_pre _ _ q z
              exact ⟨q, .inr z, (List.prefix_append x [true]).trans this, (snoc_ne this).symm⟩
        · by_cases hk : sz l < j
          · obtain ⟨a, q, hq, b⟩ := (IR hk).mp hx
            exact ⟨(List.prefix_append p [true]).trans a, q, .inr hq, b⟩
          · rw [show k - sz l = 0 by omega, show j - sz l = 0 by omega, mk_zero] at hx; simp [fn, inr] at hx
      · rintro ⟨hp, q, hq, hxq, hne⟩
        by_cases hx : x = p
        · exact .inl (.inr hx)
        · rcases hq with hq | hq
          · have hk : k < sz l := by
              rcases Nat.lt_or_ge k (sz l) with z | z
              · exact z
              · rw [mk_out l k j z] at hq; simp [pcs] at hq
            have hpq := pcs_pre _ _ q hq
            refine .inl (.inl ((IL hk).mpr ⟨?_, q, hq, hxq, hne⟩))
            exact List.prefix_of_prefix_length_le hpq hxq (by
              have h1 := hp.length_le
              have : x.length ≠ p.length := fun e => hx (hp.eq_of_length e.symm).symm
              simp; omega)
          · have hk : sz l < j := by
              rcases Nat.lt_or_ge (sz l) j with z | z
              · exact z
              · rw [show k - sz l = 0 by omega, show j - sz l = 0 by omega, mk_zero] at hq; simp [pcs] at hq
            have hpq := pcs_pre _ _ q hq
            refine .inr ((IR hk).mpr ⟨?_, q, hq, hxq, hne⟩)
            exact List.prefix_of_prefix_length_le hpq hxq (by
              have h1 := hp.length_le
              have : x.length ≠ p.length := fun e => hx (hp.eq_of_length e.symm).symm
              simp; omega)
/-- leaves are two by two apart -/
theorem lv_apart : ∀ (p : Pt) (t : Tr), (lv p t).Pairwise fun x y => ¬ x <+: y ∧ ¬ y <+: x
  | p, .lf => by simp [lv]
  | p, .nd l r => by
    rw [lv]
    refine List.pairwise_append.mpr ⟨lv_apart _ l, lv_apart _ r, fun x hx y hy => ⟨fun e => ?_, fun e => ?_⟩⟩
    · exact two_sides ((lv_pre _ l x hx).trans e) (lv_pre _ r y hy)
    · exact two_sides (lv_pre _ l x hx) ((lv_pre _ r y hy).trans e)
theorem sz_rp (m : Mt) (p : Pt) : sz (rp m) = (lv p (rp m)).length := (lv_len p _).symm
theorem sz_fn_rp : ∀ m : Mt, sz (fn m) ≤ sz (rp m)
  | .oL t => by have := sz_pos t; simp [fn, rp, sz]; omega
  | .oR t => by have := sz_pos t; simp [fn, rp, sz]; omega
  | .fu t => by simp [fn, rp, sz]
  | .no l r => by
    have h1 := sz_fn_rp l
    have h2 := sz_fn_rp r
    simp only [fn, rp, sz]; omega
theorem dep_rp : ∀ (t : Tr) (k j : Nat), dep (rp (mk t k j)) ≤ dep t
  | .lf, k, j => by rw [mk]; split <;> (try split) <;> simp [rp, dep]
  | .nd l r, k, j => by
    have h1 := dep_rp l k j
    have h2 := dep_rp r (k - sz l) (j - sz l)
    rw [mk]
    split
    · simp [rp, dep]
    · split
      · simp [rp]
      · split
        · simp [rp]
        · simp only [rp, dep]; omega
theorem tot_pcs {E : Nat} (t : Tr) (p : Pt) (k j : Nat) (h : k ≤ j) (hd : p.length + dep t ≤ E) : tot E ((lv p t).take k) + tot E (pcs p (mk t k j)) = tot E ((lv p t).take j) := by
  have h1 := tot_lv E (rp (mk t k j)) p (by have := dep_rp t k j; omega)
  have h2 := tot_lv E t p hd
  rw [lv_rp t p k j h, tot_app, tot_app] at h1
  rw [← List.take_append_drop j (lv p t), tot_app] at h2
  omega
end K00

namespace K00
open PySem L2 HL
/-! stretch_parts: the greedy walk takes the pieces -/
noncomputable abbrev mnC : EvB := hE 5 (bAnd (bV (x2 gtD (xV 6) (xC (.int 0)))) (bAnd (bV (x2 eqD (x2 modD (xV 3) (xCall m_doubled (aLen 1 (aCons (x2 addD (x2 subD (xV 2) (xV 6)) (xC (.int 1))) aNil)))) (xC (.int 0)))) (bV (x2 leD (x2 addD (xV 3) (xCall m_doubled (aLen 1 (aCons (x2 addD (x2 subD (xV 2) (xV 6)) (xC (.int 1))) aNil)))) (xV 4)))))
noncomputable abbrev mnB : Ex := zSet 6 (hE 5 (x2 subD (xV 6) (xC (.int 1))))
noncomputable abbrev spC : EvB := hE 5 (bV (x2 ltA (xV 3) (xV 4)))
noncomputable abbrev spB : Ex := zSeq (zSet 6 (hE 5 (xV 2))) (zSeq (zWh mnC mnB) (zSeq (zF (fxApp 5 (hE 5 (xCall m_bits_in (aLen 2 (aCons (x2 divD (xV 3) (xCall m_doubled (aLen 1 (aCons (x2 subD (xV 2) (xV 6)) aNil)))) (aCons (xV 6) aNil))))))) (zSet 3 (hE 5 (x2 addD (xV 3) (xCall m_doubled (aLen 1 (aCons (x2 subD (xV 2) (xV 6)) aNil))))))))
theorem doubled_1 (d : Nat) (h : d ≤ 100000) : m_doubled [.int ((d : Int) + 1)] = some (.int (2 ^ (d + 1))) := by
  have := doubled_n (d + 1) (by omega)
  simpa using this
theorem pow_posI (d : Nat) : (0 : Int) < 2 ^ d := Int.pow_pos (by decide)
theorem many_cond (lo hi u : Option Dt) (D m x g : Nat) (hm : m ≤ D) (hD : D ≤ 2000) : mnC [lo, hi, some (.int D), some (.int x), some (.int g), u, some (.int m)] [] = some (decide (0 < m) && (decide (x % 2 ^ (D - m + 1) = 0) && decide (x + 2 ^ (D - m + 1) ≤ g)), []) := by
  have e : (D : Int) - m = ((D - m : Nat) : Int) := by omega
  have hd := doubled_1 (D - m) (by omega)
  have hp := pow_posI (D - m + 1)
  have e2 : ((x : Int) % 2 ^ (D - m + 1) = 0) ↔ (x % 2 ^ (D - m + 1) = 0) := by
    have : ((x % 2 ^ (D - m + 1) : Nat) : Int) = (x : Int) % 2 ^ (D - m + 1) := by simp
    omega
  have e3 : ((x : Int) + 2 ^ (D - m + 1) ≤ g) ↔ (x + 2 ^ (D - m + 1) ≤ g) := by
    have : ((2 ^ (D - m + 1) : Nat) : Int) = 2 ^ (D - m + 1) := by simp
    omega
  by_cases h1 : 0 < m
  · by_cases h2 : x % 2 ^ (D - m + 1) = 0
    · simp only [mnC, s_hE, List.set_cons_succ, List.set_cons_zero, s_bAnd, s_bV, s_x2, s_xV, s_xC, List.getElem?_cons_succ, List.getElem?_cons_zero, Option.bind_some, Option.map_some, d_gt, s_xCall, s_aLen, s_aCons, s_aNil, d_sub, d_add, e, List.length_cons, List.length_nil, if_true, hd, d_mod, hp, d_eqI, e2, h2, d_le, e3]
      simp [h1, h2]
    · simp only [mnC, s_hE, List.set_cons_succ, List.set_cons_zero, s_bAnd, s_bV, s_x2, s_xV, s_xC, List.getElem?_cons_succ, List.getElem?_cons_zero, Option.bind_some, Option.map_some, d_gt, s_xCall, s_aLen, s_aCons, s_aNil, d_sub, d_add, e, List.length_cons, List.length_nil, if_true, hd, d_mod, hp, d_eqI, e2, h2, d_le, e3]
      simp [h1, h2]
  · have h0 : m = 0 := by omega
    subst h0
    simp [mnC]
theorem many_loop (lo hi u : Option Dt) (D n x g : Nat) (hn : n ≤ D) (hD : D ≤ 2000) (hdiv : 2 ^ (D - n) ∣ x) (hfit : x + 2 ^ (D - n) ≤ g) (hstop : n = 0 ∨ ¬ (2 ^ (D - n + 1) ∣ x ∧ x + 2 ^ (D - n + 1) ≤ g)) :
    ∀ (d m : Nat), m = n + d → m ≤ D → zWh mnC mnB [lo, hi, some (.int D), some (.int x), some (.int g), u, some (.int m)] [] = some (.nx [lo, hi, some (.int D), some (.int x), some (.int g), u, some (.int n)] [])
  | 0, m, hm, hmD => by
    have : m = n := by omega
    subst this
    rw [zWh_eq, many_cond _ _ _ _ _ _ _ hn hD]
    have : (decide (0 < m) && (decide (x % 2 ^ (D - m + 1) = 0) && decide (x + 2 ^ (D - m + 1) ≤ g))) = false := by
      rcases hstop with z | z
      · simp [z]
      · simp only [Bool.and_eq_false_iff, decide_eq_false_iff_not]
        by_cases h2 : x % 2 ^ (D - m + 1) = 0
        · exact .inr (.inr fun h3 => z ⟨Nat.dvd_of_mod_eq_zero h2, h3⟩)
        · exact .inr (.inl h2)
    rw [this]
    simp
  | d + 1, m, hm, hmD => by
    have ih := many_loop lo hi u D n x g hn hD hdiv hfit hstop d (m - 1) (by omega) (by omega)
    rw [zWh_eq, many_cond _ _ _ _ _ _ _ hmD hD]
    have hle : 2 ^ (D - m + 1) ≤ 2 ^ (D - n) := Nat.pow_le_pow_right (by decide) (by omega)
    have h2 : x % 2 ^ (D - m + 1) = 0 := Nat.mod_eq_zero_of_dvd (Nat.dvd_trans (Nat.pow_dvd_pow 2 (by omega)) hdiv)
    have h3 : x + 2 ^ (D - m + 1) ≤ g := by omega
    have e : (m : Int) - 1 = ((m - 1 : Nat) : Int) := by omega
    have h1 : 0 < m := by omega
    simp [h1, h2, h3, e, ih]
theorem sp_step (lo hi u : Option Dt) (D g : Nat) (F : List Pt) (p : Pt) (x : Nat) (hx : x = wn p * 2 ^ (D - p.length)) (hp : p.length ≤ D) (hD : D ≤ 2000) (hF : F.length ≤ 1000000) (hfit : x + 2 ^ (D - p.length) ≤ g) (hstop : p.length = 0 ∨ ¬ (2 ^ (D - p.length + 1) ∣ x ∧ x + 2 ^ (D - p.length + 1) ≤ g)) :
    zWh spC spB [lo, hi, some (.int D), some (.int x), some (.int g), some (.list (F.map en)), u] [] = zWh spC spB [lo, hi, some (.int D), some (.int ((x + 2 ^ (D - p.length) : Nat) : Int)), some (.int g), some (.list ((F ++ [p]).map en)), some (.int p.length)] [] := by
  have hdv : 2 ^ (D - p.length) ∣ x := by rw [hx]; exact Nat.dvd_mul_left _ _
  have hm := many_loop lo hi (some (.list (F.map en))) D p.length x g hp hD hdv hfit hstop (D - p.length) D (by omega) (Nat.le_refl _)
  have hpos := Nat.two_pow_pos (D - p.length)
  have hlt : (x : Int) < g := by omega
  have e : (D : Int) - p.length = ((D - p.length : Nat) : Int) := by omega
  have hd := doubled_n (D - p.length) (by omega)
  have hdv2 : cDiv (x : Int) (2 ^ (D - p.length)) = true := cDiv_pow (by omega)
  have hq : (x : Int) / 2 ^ (D - p.length) = (wn p : Int) := by
    have : ((x / 2 ^ (D - p.length) : Nat) : Int) = (x : Int) / 2 ^ (D - p.length) := by simp
    rw [← this, hx, Nat.mul_div_cancel _ hpos]
  have hb := bits_n (wn p) p.length (by omega)
  rw [bits_wn] at hb
  have ha := app_en F p (by omega)
  have e4 : ((x + 2 ^ (D - p.length) : Nat) : Int) = (x : Int) + 2 ^ (D - p.length) := by simp
  rw [e4]
  generalize (F ++ [p]).map en = W at ha
  rw [zWh_eq]
  simp [hlt, hm, e, hd, hdv2, hq, hb, ha]
/-- the walk over the marked leaves -/
theorem sp_run (lo hi : Option Dt) (E D g G : Nat) (hDE : D ≤ E) (hE : E ≤ 2000) (hg : G = g * 2 ^ (E - D)) : ∀ (t : Tr) (p : Pt) (k j x : Nat) (F : List Pt) (u : Option Dt), k < j → k < sz t → p.length + dep t ≤ E → p.length ≤ D → F.length + sz t ≤ 100000 →
    x * 2 ^ (E - D) = wE E p + tot E ((lv p t).take k) → (j < sz t → G = wE E p + tot E ((lv p t).take j)) → (sz t ≤ j → wE E p + 2 ^ (E - p.length) ≤ G) →
    (k = 0 → p.length = 0 ∨ ¬ (2 ^ (E - p.length + 1) ∣ wE E p ∧ wE E p + 2 ^ (E - p.length + 1) ≤ G)) →
    ∃ (x' : Nat) (u' : Option Dt), x' * 2 ^ (E - D) = wE E p + tot E ((lv p t).take j) ∧
      zWh spC spB [lo, hi, some (.int D), some (.int x), some (.int g), some (.list (F.map en)), u] [] = zWh spC spB [lo, hi, some (.int D), some (.int x'), some (.int g), some (.list ((F ++ pcs p (mk t k j)).map en)), u'] [] := by
  have hpD := Nat.two_pow_pos (E - D)
  -- one PART, all of it marked
  have full : ∀ (t : Tr) (p : Pt) (j x : Nat) (F : List Pt) (u : Option Dt), sz t ≤ j → p.length + dep t ≤ E → p.length ≤ D → F.length + sz t ≤ 100000 → x * 2 ^ (E - D) = wE E p + tot E ((lv p t).take 0) → (sz t ≤ j → wE E p + 2 ^ (E - p.length) ≤ G) →
      (p.length = 0 ∨ ¬ (2 ^ (E - p.length + 1) ∣ wE E p ∧ wE E p + 2 ^ (E - p.length + 1) ≤ G)) →
      ∃ (x' : Nat) (u' : Option Dt), x' * 2 ^ (E - D) = wE E p + tot E ((lv p t).take j) ∧
        zWh spC spB [lo, hi, some (.int D), some (.int x), some (.int g), some (.list (F.map en)), u] [] = zWh spC spB [lo, hi, some (.int D), some (.int x'), some (.int g), some (.list ((F ++ [p]).map en)), u'] [] := by
    intro t p j x F u hj hd hpl hF hx hG hs
    have ht : (lv p t).take j = lv p t := List.take_of_length_le (by rw [lv_len]; exact hj)
    have pw : ∀ a : Nat, p.length ≤ a → 2 ^ (E - p.length) = 2 ^ (D - p.length) * 2 ^ (E - D) := fun a _ => by rw [← Nat.pow_add]; congr 1; omega
    have e1 := pw _ (Nat.le_refl _)
    have hx2 : x = wn p * 2 ^ (D - p.length) := by
      have : x * 2 ^ (E - D) = wn p * 2 ^ (D - p.length) * 2 ^ (E - D) := by
        rw [hx, Nat.mul_assoc, ← e1]; simp [tot, wE]
      exact Nat.eq_of_mul_eq_mul_right hpD this
    have hG2 := hG hj
    have hw : wE E p = x * 2 ^ (E - D) := by rw [hx]; simp [tot]
    have e3 : 2 ^ (E - p.length + 1) = 2 ^ (D - p.length + 1) * 2 ^ (E - D) := by rw [← Nat.pow_add]; congr 1; omega
    refine ⟨x + 2 ^ (D - p.length), _, ?_, sp_step lo hi u D g F p x hx2 hpl (by omega) (by omega) ?_ ?_⟩
    · rw [ht, tot_lv E t p hd, Nat.add_mul, ← e1, hw]
    · rw [hw, e1, hg, ← Nat.add_mul] at hG2
      exact Nat.le_of_mul_le_mul_right hG2 hpD
    · rcases hs with z | z
      · exact .inl z
      · refine .inr fun ⟨a, b⟩ => z ⟨?_, ?_⟩
        · rw [hw, e3]; exact Nat.mul_dvd_mul_right a _
        · rw [hw, e3, hg, ← Nat.add_mul]; exact Nat.mul_le_mul_right _ b
  intro t
  induction t with
  | lf =>
    intro p k j x F u hkj hk hd hpl hF hx hG1 hG2 hs
    have hk : k < 1 := hk
    have h0 : k = 0 := by omega
    subst h0
    rw [mk, if_pos ⟨rfl, by omega⟩, pcs]
    exact full .lf p j x F u (by show 1 ≤ j; omega) hd hpl hF hx hG2 (hs rfl)
  | nd l r ihl ihr =>
    intro p k j x F u hkj hk hd hpl hF hx hG1 hG2 hs
    have hk : k < sz l + sz r := hk
    have pl := sz_pos l
    have pr := sz_pos r
    by_cases hf : k = 0 ∧ sz l + sz r ≤ j
    · obtain ⟨rfl, hf⟩ := hf
      rw [mk, if_pos ⟨rfl, hf⟩, pcs]
      exact full (.nd l r) p j x F u hf hd hpl hF hx hG2 (hs rfl)
    · have hd2 : p.length + (max (dep l) (dep r) + 1) ≤ E := by simpa [dep] using hd
      have hF2 : F.length + (sz l + sz r) ≤ 100000 := by simpa [sz] using hF
      have ll := lv_len (p ++ [false]) l
      have lr := lv_len (p ++ [true]) r
      have la := lv_len p (.nd l r)
      have tl := tot_lv E l (p ++ [false]) (by simp; omega)
      have tr := tot_lv E r (p ++ [true]) (by simp; omega)
      have tp := tot_lv E (.nd l r) p hd
      rw [List.length_append, List.length_singleton] at tl tr
      have hh := pow_half (E := E) (n := p.length) (by omega)
      have wl := wE_f (E := E) (p := p) (by omega)
      have wr := wE_t (E := E) (p := p) (by omega)
      have hG2' : sz l + sz r ≤ j → wE E p + 2 ^ (E - p.length) ≤ G := hG2
      have hG1' : j < sz l + sz r → G = wE E p + tot E ((lv p (.nd l r)).take j) := hG1
      -- some end lies strictly within p: so p is halved within the depth
      have strict : ∀ i, 0 < i → i < sz l + sz r → 0 < tot E ((lv p (.nd l r)).take i) ∧ tot E ((lv p (.nd l r)).take i) < 2 ^ (E - p.length) := fun i h1 h2 => by
        have a := tot_take_lt (E := E) (lv p (.nd l r)) 0 i h1 (by rw [la]; show 0 < sz l + sz r; omega)
        have b := tot_take_lt (E := E) (lv p (.nd l r)) i (sz l + sz r) h2 (by rw [la]; exact h2)
        rw [List.take_of_length_le (i := sz l + sz r) (by rw [la]; exact Nat.le_refl _), tp] at b
        simp only [List.take_zero, tot_nil] at a
        exact ⟨a, b⟩
      have nodiv : ∀ i, 0 < i → i < sz l + sz r → ¬ 2 ^ (E - p.length) ∣ wE E p + tot E ((lv p (.nd l r)).take i) := fun i h1 h2 e => by
        obtain ⟨a, b⟩ := strict i h1 h2
        have c : 2 ^ (E - p.length) ∣ wE E p := Nat.dvd_mul_left _ _
        have d := (Nat.dvd_add_right c).mp e
        have := Nat.le_of_dvd a d
        omega
      have hpD2 : p.length + 1 ≤ D := by
        rcases Nat.lt_or_ge p.length D with z | z
        · exact z
        · have e : p.length = D := by omega
          exfalso
          rw [← e] at hx hg
          rcases Nat.lt_or_ge 0 k with y | y
          · exact nodiv k y hk (by rw [← hx]; exact Nat.dvd_mul_left _ _)
          · have hj : j < sz l + sz r := by omega
            exact nodiv j (by omega) hj (by rw [← hG1' hj, hg]; exact Nat.dvd_mul_left _ _)
      have ltk : ∀ i, i ≤ sz l → (lv p (.nd l r)).take i = (lv (p ++ [false]) l).take i := fun i h => by
        rw [lv, List.take_append_of_le_length (by rw [ll]; exact h)]
      have rtk : ∀ i, sz l ≤ i → (lv p (.nd l r)).take i = lv (p ++ [false]) l ++ (lv (p ++ [true]) r).take (i - sz l) := fun i h => by
        rw [lv, List.take_append, List.take_of_length_le (by rw [ll]; exact h), ll]
      have rtot : ∀ i, sz l ≤ i → wE E p + tot E ((lv p (.nd l r)).take i) = wE E (p ++ [true]) + tot E ((lv (p ++ [true]) r).take (i - sz l)) := fun i h => by
        rw [rtk i h, tot_app, tl, wr]; omega
      have mono : ∀ i i', i ≤ i' → tot E ((lv p (.nd l r)).take i) ≤ tot E ((lv p (.nd l r)).take i') := fun i i' h => by
        rcases Nat.lt_or_ge i i' with z | z
        · rcases Nat.lt_or_ge i (sz l + sz r) with y | y
          · exact Nat.le_of_lt (tot_take_lt _ i i' z (by rw [la]; exact y))
          · rw [List.take_of_length_le (by rw [la]; exact y), List.take_of_length_le (by rw [la]; show sz l + sz r ≤ i'; omega)]
            exact Nat.le_refl _
        · rw [show i = i' by omega]; exact Nat.le_refl _
      have Gr1 : j - sz l < sz r → sz l ≤ j → G = wE E (p ++ [true]) + tot E ((lv (p ++ [true]) r).take (j - sz l)) := fun h h2 => by
        rw [hG1' (by omega), rtot j h2]
      have Gr2 : sz r ≤ j - sz l → wE E (p ++ [true]) + 2 ^ (E - (p ++ [true]).length) ≤ G := fun h => by
        have := hG2' (by omega)
        rw [wr, List.length_append, List.length_singleton]; omega
      -- the right half's begin is no multiple of the whole
      have okr : (p ++ [true]).length = 0 ∨ ¬ (2 ^ (E - (p ++ [true]).length + 1) ∣ wE E (p ++ [true]) ∧ wE E (p ++ [true]) + 2 ^ (E - (p ++ [true]).length + 1) ≤ G) := by
        refine .inr fun ⟨a, _⟩ => ?_
        rw [List.length_append, List.length_singleton, show E - (p.length + 1) + 1 = E - p.length by omega] at a
        have hl2 := rtot (sz l) (Nat.le_refl _)
        rw [Nat.sub_self, List.take_zero, tot_nil, Nat.add_zero] at hl2
        rw [← hl2] at a
        exact nodiv (sz l) pl (by omega) a
      rw [mk, if_neg hf, if_neg (by omega), if_neg (by omega), pcs]
      by_cases hkl : k < sz l
      · have ihl' := ihl (p ++ [false]) k j x F u hkj hkl (by simp; omega) (by simp; omega) (by omega) (by rw [hx, wl, ltk k (by omega)])
          (fun h => by rw [hG1' (by omega), wl, ltk j (by omega)])
          (fun h => by
            rw [wl, List.length_append, List.length_singleton]
            rcases Nat.lt_or_ge j (sz l + sz r) with z | z
            · rw [hG1' z]
              have := mono (sz l) j h
              rw [ltk (sz l) (Nat.le_refl _), List.take_of_length_le (by rw [ll]; exact Nat.le_refl _), tl] at this
              omega
            · have := hG2' z
              omega)
          (fun h0 => .inr fun ⟨a, b⟩ => by
            have hj : j < sz l + sz r := by omega
            rw [List.length_append, List.length_singleton, show E - (p.length + 1) + 1 = E - p.length by omega, wl, hG1' hj] at b
            have := (strict j (by omega) hj).2
            omega)
        obtain ⟨x1, u1, hx1, e1⟩ := ihl'
        by_cases hj : j ≤ sz l
        · refine ⟨x1, u1, by rw [hx1, wl, ltk j hj], ?_⟩
          rw [show k - sz l = 0 by omega, show j - sz l = 0 by omega, mk_zero, pcs, List.append_nil]
          exact e1
        · have ht : (lv (p ++ [false]) l).take j = lv (p ++ [false]) l := List.take_of_length_le (by rw [ll]; omega)
          have hFl : (F ++ pcs (p ++ [false]) (mk l k j)).length + sz r ≤ 100000 := by
            have h1 := pcs_len (mk l k j) (p ++ [false])
            rw [md_mk] at h1
            have h2 : (((lv (p ++ [false]) l).take j).drop k).length ≤ sz l := by rw [List.length_drop, List.length_take, ll]; omega
            rw [List.length_append]; omega
          have ihr' := ihr (p ++ [true]) 0 (j - sz l) x1 (F ++ pcs (p ++ [false]) (mk l k j)) u1 (by omega) pr (by simp; omega) (by simp; omega) hFl
            (by rw [hx1, ht, tl, wl, wr, List.take_zero, tot_nil]; omega) (fun h => Gr1 h (by omega)) Gr2 (fun _ => okr)
          obtain ⟨x2, u2, hx2, e2⟩ := ihr'
          refine ⟨x2, u2, by rw [hx2, rtot j (by omega)], ?_⟩
          rw [e1, e2, show k - sz l = 0 by omega, List.append_assoc]
      · rw [mk_out l k j (by omega), pcs, List.nil_append]
        have ihr' := ihr (p ++ [true]) (k - sz l) (j - sz l) x F u (by omega) (by omega) (by simp; omega) (by simp; omega) (by omega)
          (by rw [hx, rtot k (by omega)]) (fun h => Gr1 h (by omega)) Gr2 (fun _ => okr)
        obtain ⟨x2, u2, hx2, e2⟩ := ihr'
        exact ⟨x2, u2, by rw [hx2, rtot j (by omega)], e2⟩
end K00

namespace K00
open PySem L2 HL
/-! DOTS by places -/
def dq (E X : Nat) : Rat := mkRat X (2 ^ E)
theorem dq_parts (E X : Nat) (h : X ≤ 2 ^ E) : ∃ n a : Nat, a ≤ E ∧ (dq E X).num = n ∧ (dq E X).den = 2 ^ a ∧ X = n * 2 ^ (E - a) := by
  have hp := Nat.two_pow_pos E
  have e1 := Rat.den_mkRat (X : Int) (2 ^ E)
  rw [if_neg (by omega), Int.natAbs_natCast] at e1
  obtain ⟨a, ha, hae⟩ := dvd_two_pow E (dq E X).den (by
    show (mkRat (X : Int) (2 ^ E)).den ∣ _
    rw [e1]; exact Nat.div_dvd_of_dvd (Nat.gcd_dvd_left _ _))
  have h0 : 0 ≤ (dq E X).num := by
    have := Rat.num_mkRat (X : Int) (2 ^ E)
    rw [if_neg (by omega), Int.natAbs_natCast] at this
    show 0 ≤ (mkRat (X : Int) (2 ^ E)).num
    rw [this]; exact Int.ediv_nonneg (by omega) (by omega)
  have hc := mk_cross X E
  rw [show mkRat (X : Int) (2 ^ E) = dq E X from rfl, ha] at hc
  refine ⟨(dq E X).num.toNat, a, hae, by omega, ha, ?_⟩
  have hn : (dq E X).num = ((dq E X).num.toNat : Int) := by omega
  generalize (dq E X).num.toNat = n at hn
  rw [hn] at hc
  have hc2 : n * 2 ^ E = X * 2 ^ a := by exact_mod_cast hc
  rw [show E = (E - a) + a by omega, Nat.pow_add, ← Nat.mul_assoc] at hc2
  exact (Nat.eq_of_mul_eq_mul_right (Nat.two_pow_pos a) hc2).symm
theorem dq_dot (E X : Nat) (h : X ≤ 2 ^ E) (hE : E ≤ 2000) : Dot (dq E X) := dot_mk X E h hE
theorem dq_lt (E X Y : Nat) (hX : X ≤ 2 ^ E) (hY : Y ≤ 2 ^ E) : dq E X < dq E Y ↔ X < Y := by
  obtain ⟨n, a, ha, h1, h2, h3⟩ := dq_parts E X hX
  obtain ⟨m, b, hb, k1, k2, k3⟩ := dq_parts E Y hY
  rw [Rat.lt_iff, h1, h2, k1, k2]
  have pa := Nat.two_pow_pos a
  have pb := Nat.two_pow_pos b
  have pE := Nat.two_pow_pos E
  have e1 : n * 2 ^ b * 2 ^ E = X * (2 ^ a * 2 ^ b) := by
    rw [h3, show (2 : Nat) ^ E = 2 ^ (E - a) * 2 ^ a by rw [← Nat.pow_add]; congr 1; omega]
    simp only [Nat.mul_comm, Nat.mul_left_comm, Nat.mul_assoc]
  have e2 : m * 2 ^ a * 2 ^ E = Y * (2 ^ a * 2 ^ b) := by
    rw [k3, show (2 : Nat) ^ E = 2 ^ (E - b) * 2 ^ b by rw [← Nat.pow_add]; congr 1; omega]
    simp only [Nat.mul_comm, Nat.mul_left_comm, Nat.mul_assoc]
  have g : ((n : Int) * ((2 ^ b : Nat) : Int) < (m : Int) * ((2 ^ a : Nat) : Int)) ↔ n * 2 ^ b < m * 2 ^ a := by exact_mod_cast Iff.rfl
  rw [g]
  constructor
  · intro h
    have := Nat.mul_lt_mul_of_pos_right h pE
    rw [e1, e2] at this
    exact Nat.lt_of_mul_lt_mul_right this
  · intro h
    have := Nat.mul_lt_mul_of_pos_right h (Nat.mul_pos pa pb)
    rw [← e1, ← e2] at this
    exact Nat.lt_of_mul_lt_mul_right this
theorem dq_bq (E : Nat) (p : Pt) (h : p.length ≤ E) : bq p = dq E (wE E p) := by
  unfold bq dq wE
  have h1 := Nat.two_pow_pos p.length
  have h2 := Nat.two_pow_pos E
  rw [Rat.mkRat_eq_iff (by omega) (by omega)]
  have : wn p * 2 ^ E = wn p * 2 ^ (E - p.length) * 2 ^ p.length := by
    rw [Nat.mul_assoc, ← Nat.pow_add, show E - p.length + p.length = E by omega]
  exact_mod_cast this
theorem dq_eq (E : Nat) (p : Pt) (h : p.length ≤ E) : eq p = dq E (wE E p + 2 ^ (E - p.length)) := by
  unfold eq dq wE
  have h1 := Nat.two_pow_pos p.length
  have h2 := Nat.two_pow_pos E
  rw [Rat.mkRat_eq_iff (by omega) (by omega)]
  have : (wn p + 1) * 2 ^ E = (wn p * 2 ^ (E - p.length) + 2 ^ (E - p.length)) * 2 ^ p.length := by
    rw [Nat.add_mul, Nat.add_mul, Nat.mul_assoc, ← Nat.pow_add, show E - p.length + p.length = E by omega]
    omega
  exact_mod_cast this
theorem dq_one (E : Nat) : dq E (2 ^ E) = 1 := by
  unfold dq
  have h2 := Nat.two_pow_pos E
  have : (1 : Rat) = mkRat 1 1 := by rfl
  rw [this, Rat.mkRat_eq_iff (by omega) (by decide)]
  simp
theorem dq_zero (E : Nat) : dq E 0 = 0 := by
  unfold dq; simp
theorem tot_le (E : Nat) (t : Tr) (h : dep t ≤ E) (k : Nat) : tot E ((lv [] t).take k) ≤ 2 ^ E := by
  have h1 := tot_lv E t [] (by simpa using h)
  rw [← List.take_append_drop k (lv [] t), tot_app] at h1
  simp at h1
  omega
theorem stretch_parts_t (E : Nat) (t : Tr) (k j : Nat) (hE : E ≤ 1000) (hd : dep t ≤ E) (hs : sz t ≤ 1000) (hkj : k < j) (hj : j ≤ sz t) :
    m_stretch_parts [en (dq E (tot E ((lv [] t).take k))), en (dq E (tot E ((lv [] t).take j)))] = some ((pcs [] (mk t k j)).map en) := by
  have hX := tot_le E t hd k
  have hG := tot_le E t hd j
  have hlt := tot_take_lt (E := E) (lv [] t) k j hkj (by rw [lv_len]; omega)
  generalize eX : tot E ((lv [] t).take k) = X at hX hlt
  generalize eG : tot E ((lv [] t).take j) = G at hG hlt
  obtain ⟨n, a, ha, h1, h2, h3⟩ := dq_parts E X hX
  obtain ⟨m, b, hb, k1, k2, k3⟩ := dq_parts E G hG
  have hD : max a b ≤ E := by omega
  have pX : n * 2 ^ (max a b - a) * 2 ^ (E - max a b) = X := by
    rw [Nat.mul_assoc, ← Nat.pow_add, h3]; congr 2; omega
  have pG : m * 2 ^ (max a b - b) * 2 ^ (E - max a b) = G := by
    rw [Nat.mul_assoc, ← Nat.pow_add, k3]; congr 2; omega
  have hj2 : sz t ≤ j → wE E [] + 2 ^ (E - ([] : Pt).length) ≤ G := fun h => by
    rw [← eG, List.take_of_length_le (by rw [lv_len]; exact h), tot_lv E t [] (by simpa using hd)]
    simp [wE, wn]
  obtain ⟨x', u', hx', hl⟩ := sp_run (some (en (dq E X))) (some (en (dq E G))) E (max a b) (m * 2 ^ (max a b - b)) G hD (by omega) pG.symm t [] k j (n * 2 ^ (max a b - a)) [] none hkj (by omega) (by simpa using hd) (by simp) (by simp; omega)
    (by rw [pX, eX]; simp [wE, wn]) (fun _ => by rw [eG]; simp [wE, wn]) hj2 (fun _ => .inl rfl)
  have hxg : x' = m * 2 ^ (max a b - b) := by
    rw [eG, ← pG] at hx'
    rw [show wE E [] = 0 by simp [wE, wn], Nat.zero_add] at hx'
    exact Nat.eq_of_mul_eq_mul_right (Nat.two_pow_pos _) hx'
  subst hxg
  have hstop : zWh spC spB [some (en (dq E X)), some (en (dq E G)), some (.int ((max a b : Nat) : Int)), some (.int ((m * 2 ^ (max a b - b) : Nat) : Int)), some (.int ((m * 2 ^ (max a b - b) : Nat) : Int)), some (.list (([] ++ pcs [] (mk t k j)).map en)), u'] [] = some (.nx [some (en (dq E X)), some (en (dq E G)), some (.int ((max a b : Nat) : Int)), some (.int ((m * 2 ^ (max a b - b) : Nat) : Int)), some (.int ((m * 2 ^ (max a b - b) : Nat) : Int)), some (.list (([] ++ pcs [] (mk t k j)).map en)), u'] []) := by
    rw [zWh_eq]; simp
  rw [hstop] at hl
  have pw1 : m_power_in [.int ((2 ^ a : Nat) : Int)] = some (.int a) := by have := power_in_n a; simpa using this
  have pw2 : m_power_in [.int ((2 ^ b : Nat) : Int)] = some (.int b) := by have := power_in_n b; simpa using this
  have dM : maxD [.int (a : Int), .int (b : Int)] = some (.int ((max a b : Nat) : Int)) := by rw [d_max]; congr 2; omega
  generalize hM : max a b = M at *
  have hdb := doubled_n M (by omega)
  have c1 : cMul (n : Int) (2 ^ M) = true := by
    have := cMul_log (i := (n : Int)) (j := ((2 ^ M : Nat) : Int)) (by
      rw [Int.natAbs_natCast, Int.natAbs_natCast, Nat.log2_two_pow]
      have : n.log2 ≤ E := log_le (Nat.le_trans (by rw [h3]; exact Nat.le_mul_of_pos_right _ (Nat.two_pow_pos _)) hX)
      omega)
    simpa using this
  have c2 : cMul (m : Int) (2 ^ M) = true := by
    have := cMul_log (i := (m : Int)) (j := ((2 ^ M : Nat) : Int)) (by
      rw [Int.natAbs_natCast, Int.natAbs_natCast, Nat.log2_two_pow]
      have : m.log2 ≤ E := log_le (Nat.le_trans (by rw [k3]; exact Nat.le_mul_of_pos_right _ (Nat.two_pow_pos _)) hG)
      omega)
    simpa using this
  have d1 : ∀ i : Int, cDiv i ((2 ^ a : Nat) : Int) = true := fun i => cDiv_le2 (k := a) (Nat.two_pow_pos a) (Nat.le_refl _) (by omega)
  have d2 : ∀ i : Int, cDiv i ((2 ^ b : Nat) : Int) = true := fun i => cDiv_le2 (k := b) (Nat.two_pow_pos b) (Nat.le_refl _) (by omega)
  have q1 : (n : Int) * 2 ^ M / ((2 ^ a : Nat) : Int) = ((n * 2 ^ (M - a) : Nat) : Int) := by
    have e : n * 2 ^ M / 2 ^ a = n * 2 ^ (M - a) := by
      rw [show (2 : Nat) ^ M = 2 ^ (M - a) * 2 ^ a by rw [← Nat.pow_add]; congr 1; omega, ← Nat.mul_assoc, Nat.mul_div_cancel _ (Nat.two_pow_pos a)]
    rw [← e]; simp
  have q2 : (m : Int) * 2 ^ M / ((2 ^ b : Nat) : Int) = ((m * 2 ^ (M - b) : Nat) : Int) := by
    have e : m * 2 ^ M / 2 ^ b = m * 2 ^ (M - b) := by
      rw [show (2 : Nat) ^ M = 2 ^ (M - b) * 2 ^ b by rw [← Nat.pow_add]; congr 1; omega, ← Nat.mul_assoc, Nat.mul_div_cancel _ (Nat.two_pow_pos b)]
    rw [← e]; simp
  simp only [List.map_nil, List.nil_append] at hl
  simp only [m_stretch_parts, e_stretch_parts, s_runN, s_zSeq, s_zSet, s_hE, s_xCall, s_aLen, s_aCons, s_aNil, s_x2, s_xV, s_xC, List.map_cons, List.map_nil, List.length_cons, List.length_nil, List.replicate, List.cons_append, List.nil_append, List.set_cons_succ, List.set_cons_zero, List.getElem?_cons_succ, List.getElem?_cons_zero, Option.bind_some, Option.map_some, ix_q0, ix_q1, if_true, h1, h2, k1, k2, pw1, pw2, dM, s_zPar, hdb, d_mul, c1, c2, d_div, d1, d2, q1, q2, s_zSetN, s_nLst, szOk_of (show 0 ≤ 16777216 by omega), hl, s_zRtM]
theorem sure_stretch_q {p q : Rat} (hp : Dot p) (hq : Dot q) (h : p < q) : m_sure_stretch [en p, en q] = some (en ((p, q) : Rat × Rat)) := by
  simp [m_sure_stretch, e_sure_stretch, sure_dot_q hp, sure_dot_q hq, is_less_q hp hq, h, en_pair]
theorem pcs_self : ∀ (m : Mt) (p : Pt), p ∈ pcs p m → pcs p m = [p]
  | .oL _, p, h => by simp [pcs] at h
  | .oR _, p, h => by simp [pcs] at h
  | .fu _, p, _ => rfl
  | .no l r, p, h => by
    rw [pcs] at h
    rcases List.mem_append.mp h with h | h
    · have := (pcs_pre _ _ _ h).length_le; simp at this; omega
    · have := (pcs_pre _ _ _ h).length_le; simp at this; omega
theorem pcs_sub (t : Tr) (k j : Nat) (h : k ≤ j) : (pcs [] (mk t k j)).Sublist (lv [] (rp (mk t k j))) := by
  rw [lv_rp t [] k j h, List.append_assoc]
  exact (List.sublist_append_left _ _).trans (List.sublist_append_right _ _)
theorem pcs_sorted (t : Tr) (k j : Nat) (h : k ≤ j) : (pcs [] (mk t k j)).Pairwise fun x y => plt x y = true := (lv_sorted [] _).sublist (pcs_sub t k j h)
theorem pcs_apart (t : Tr) (k j : Nat) (h : k ≤ j) : (pcs [] (mk t k j)).Pairwise fun x y => ¬ x <+: y ∧ ¬ y <+: x := (lv_apart [] _).sublist (pcs_sub t k j h)
theorem srtD_pcs (t : Tr) (k j : Nat) (h : k ≤ j) : srtD [.list ((pcs [] (mk t k j)).map en)] = some ((pcs [] (mk t k j)).map en) := by
  refine srtD_P _ _ (pcs_sorted t k j h) (List.Perm.refl _) ?_
  by_cases e : [] ∈ pcs [] (mk t k j)
  · left; rw [pcs_self _ _ e]; simp
  · right
    intro p hp z
    subst z
    exact e hp
section
variable (E : Nat) (t : Tr) (k j : Nat) (hE : E ≤ 1000) (hd : dep t ≤ E) (hs : sz t ≤ 1000) (hkj : k < j) (hj : j ≤ sz t)
include hE hd hs hkj hj
theorem sure_stretch_t : m_sure_stretch [en (dq E (tot E ((lv [] t).take k))), en (dq E (tot E ((lv [] t).take j)))] = some (en ((dq E (tot E ((lv [] t).take k)), dq E (tot E ((lv [] t).take j))) : Rat × Rat)) := by
  refine sure_stretch_q (dq_dot _ _ (tot_le E t hd k) (by omega)) (dq_dot _ _ (tot_le E t hd j) (by omega)) ?_
  rw [dq_lt _ _ _ (tot_le E t hd k) (tot_le E t hd j)]
  exact tot_take_lt _ _ _ hkj (by rw [lv_len]; omega)
theorem between_dots_t : m_between_dots [en (dq E (tot E ((lv [] t).take k))), en (dq E (tot E ((lv [] t).take j)))] = some (en (pcs [] (mk t k j))) := by
  simp [m_between_dots, e_between_dots, sure_stretch_t E t k j hE hd hs hkj hj, stretch_parts_t E t k j hE hd hs hkj hj, en_pair (α := Rat) (β := Rat), srtD_pcs t k j (Nat.le_of_lt hkj)]
theorem can_cut_t (n : Nat) (hn : n ≤ 1000000) : m_can_cut_stretch [en (dq E (tot E ((lv [] t).take k))), en (dq E (tot E ((lv [] t).take j))), .int n] = some (.bool (decide ((pcs [] (mk t k j)).length ≤ n))) := by
  have h5 : m_sure_number [.int n, .int 0, .int 1000000] = some (.int n) := sure_number_i _ _ _ (by omega) (by omega)
  simp [m_can_cut_stretch, e_can_cut_stretch, sure_stretch_t E t k j hE hd hs hkj hj, stretch_parts_t E t k j hE hd hs hkj hj, en_pair (α := Rat) (β := Rat), h5]
end
/-! cutting the last piece again and again -/
def cl : Nat → List Pt → Pt → List Pt
  | 0, A, q => A ++ [q]
  | m + 1, A, q => cl m (A ++ [q ++ [false]]) (q ++ [true])
theorem cl_len : ∀ (m : Nat) (A : List Pt) (q : Pt), (cl m A q).length = A.length + 1 + m
  | 0, A, q => by simp [cl]
  | m + 1, A, q => by rw [cl, cl_len m]; simp; omega
theorem cut_in_loop (x0 x1 : Option Dt) (n : Nat) (hn : n ≤ 1000) : ∀ (m : Nat) (A : List Pt) (q : Pt) (u : Option Dt), A.length + 1 + m = n → q.length + m ≤ 10000 → ∃ u', zWh (bV (x2 ltA (xCall lenD (aCons (xV 3) aNil)) (xV 2))) (zSeq (zSetF 4 (fxPop 3)) (zF (fxExt 3 (hE 3 (nLst (aCons (x2 addD (xV 4) (xTup (aCons (xC (.int 0)) aNil))) (aCons (x2 addD (xV 4) (xTup (aCons (xC (.int 1)) aNil))) aNil))))))) [x0, x1, some (.int n), some (.list ((A ++ [q]).map en)), u] [] =
    some (.nx [x0, x1, some (.int n), some (.list ((cl m A q).map en)), u'] [])
  | 0, A, q, u, h, _ => by
    refine ⟨u, ?_⟩
    have h1 : ¬ (((A ++ [q]).map (en : Pt → Dt)).length : Int) < n := by simp; omega
    rw [cl]
    generalize (A ++ [q]).map (en : Pt → Dt) = W at h1
    rw [zWh_eq]
    simp only [s_bV, s_x2, s_xCall, s_aCons, s_aNil, s_xV, List.getElem?_cons_succ, List.getElem?_cons_zero, Option.bind_some, Option.map_some, d_lenL, d_lt, h1, decide_false, Bool.false_eq_true, if_false]
  | m + 1, A, q, u, h, hq => by
    obtain ⟨u', hu⟩ := cut_in_loop x0 x1 n hn m (A ++ [q ++ [false]]) (q ++ [true]) (some (en q)) (by simp; omega) (by simp; omega)
    refine ⟨u', ?_⟩
    have h1 : (((A ++ [q]).map (en : Pt → Dt)).length : Int) < n := by simp; omega
    have h2 := pop_en A q
    have h3 := ext_2 A (q ++ [false]) (q ++ [true]) (by omega)
    rw [cl, ← hu, zWh_eq]
    rw [show A ++ [q ++ [false]] ++ [q ++ [true]] = A ++ [q ++ [false], q ++ [true]] by simp]
    generalize (A ++ [q]).map (en : Pt → Dt) = W at h1 h2
    generalize (A ++ [q ++ [false], q ++ [true]]).map (en : Pt → Dt) = W2 at h3
    simp only [s_bV, s_x2, s_xCall, s_aCons, s_aNil, s_xV, List.getElem?_cons_succ, List.getElem?_cons_zero, Option.bind_some, Option.map_some, d_lenL, d_lt, h1, decide_true, if_true, s_zSeq, s_zSetF, s_fxPop, s_fL, h2, List.set_cons_succ, List.set_cons_zero, s_zF, s_fxExt, s_hE, s_nLst, s_xTup, s_xC, List.length_cons, List.length_nil, szOk_of (show 0 + 1 ≤ 16777216 by omega), szOk_of (show 0 + 1 + 1 ≤ 16777216 by omega), add_f q (by omega), add_t q (by omega), h3]
section
variable (E : Nat) (t : Tr) (k j : Nat) (hE : E ≤ 1000) (hd : dep t ≤ E) (hs : sz t ≤ 1000) (hkj : k < j) (hj : j ≤ sz t)
include hE hd hs hkj hj
theorem cut_stretch_t (A : List Pt) (q : Pt) (m : Nat) (hA : pcs [] (mk t k j) = A ++ [q]) (hq : q.length ≤ 1000) (hm : A.length + 1 + m ≤ 60) : m_cut_stretch [en (dq E (tot E ((lv [] t).take k))), en (dq E (tot E ((lv [] t).take j))), .int ((A.length + 1 + m : Nat) : Int)] = some (en (cl m A q)) := by
  generalize hn : A.length + 1 + m = n at hm
  have h5 : m_sure_number [.int n, .int 0, .int 60] = some (.int n) := sure_number_i _ _ _ (by omega) (by omega)
  have hsp := stretch_parts_t E t k j hE hd hs hkj hj
  rw [hA] at hsp
  obtain ⟨u', hu⟩ := cut_in_loop (some (en (dq E (tot E ((lv [] t).take k))))) (some (en (dq E (tot E ((lv [] t).take j))))) n (by omega) m A q none hn (by omega)
  have h6 : ¬ ((n : Int) < (((A ++ [q]).map (en : Pt → Dt)).length : Int)) := by simp; omega
  generalize (A ++ [q]).map (en : Pt → Dt) = W at hsp hu h6
  have h7 : m_cut_in [en (dq E (tot E ((lv [] t).take k))), en (dq E (tot E ((lv [] t).take j))), .int n] = some ((cl m A q).map en) := by
    simp [m_cut_in, e_cut_in, hsp, hu]
  simp [m_cut_stretch, e_cut_stretch, sure_stretch_t E t k j hE hd hs hkj hj, en_pair (α := Rat) (β := Rat), h5, hsp, h6, h7]
end
end K00

namespace K00
open PySem L2 HL
/-! a leaf halved: inner nodes -/
theorem inr_spl : ∀ (t : Tr) (p : Pt) (i : Nat) (q x : Pt), (lv p t)[i]? = some q → (x ∈ inr p (spl t i) ↔ x ∈ inr p t ∨ x = q)
  | .lf, p, i, q, x, h => by
    rw [lv] at h
    cases i with
    | zero =>
      simp at h
      subst h
      simp [spl, inr]
    | succ i => simp at h
  | .nd l r, p, i, q, x, h => by
    rw [lv] at h
    unfold spl
    by_cases hi : i < sz l
    · rw [if_pos hi]
      rw [List.getElem?_append_left (by rw [lv_len]; exact hi)] at h
      have := inr_spl l _ i q x h
      simp only [inr, List.mem_append, List.mem_singleton, this]
      grind
    · rw [if_neg hi]
      rw [List.getElem?_append_right (by rw [lv_len]; omega), lv_len] at h
      have := inr_spl r _ (i - sz l) q x h
      simp only [inr, List.mem_append, List.mem_singleton, this]
      grind
/-- the PARTS strictly around some of a list -/
def Ar (c : List Pt) (x : Pt) : Prop := ∃ q ∈ c, x <+: q ∧ x ≠ q
theorem ar_two (A : List Pt) (q x : Pt) : Ar (A ++ [q ++ [false]] ++ [q ++ [true]]) x ↔ Ar (A ++ [q]) x ∨ x = q := by
  have sn : ∀ b : Bool, (x <+: q ++ [b] ∧ x ≠ q ++ [b]) ↔ (x <+: q) := fun b => by
    rw [List.prefix_concat_iff]
    constructor
    · rintro ⟨e | e, h⟩
      · exact absurd e h
      · exact e
    · intro h
      refine ⟨.inr h, fun e => ?_⟩
      have := h.length_le
      rw [e] at this
      simp at this
      omega
  unfold Ar
  simp only [List.mem_append, List.mem_singleton]
  constructor
  · rintro ⟨w, (hw | rfl) | rfl, h⟩
    · exact .inl ⟨w, .inl hw, h⟩
    · have := (sn false).mp h
      by_cases e : x = q
      · exact .inr e
      · exact .inl ⟨q, .inr rfl, this, e⟩
    · have := (sn true).mp h
      by_cases e : x = q
      · exact .inr e
      · exact .inl ⟨q, .inr rfl, this, e⟩
  · rintro (⟨w, hw | rfl, h⟩ | rfl)
    · exact ⟨w, .inl (.inl hw), h⟩
    · exact ⟨w ++ [false], .inl (.inr rfl), (sn false).mpr h.1⟩
    · exact ⟨x ++ [false], .inl (.inr rfl), (sn false).mpr List.prefix_rfl⟩
theorem lv_spl_mem (t : Tr) (i : Nat) (q a : Pt) (h : (lv [] t)[i]? = some q) (ha : a ∈ lv [] t) (hne : a ≠ q) : a ∈ lv [] (spl t i) := by
  rw [lv_spl t [] i q h]
  obtain ⟨hi, e⟩ := List.getElem?_eq_some_iff.mp h
  have e2 : lv [] t = (lv [] t).take i ++ [q] ++ (lv [] t).drop (i + 1) := by rw [← e]; simp
  rw [e2] at ha
  simp only [List.mem_append, List.mem_singleton, List.mem_cons, List.not_mem_nil, or_false] at ha ⊢
  rcases ha with (h1 | h1) | h1
  · exact .inl (.inl h1)
  · exact absurd h1 hne
  · exact .inr h1
/-- the trees of what is cut further -/
theorem cl_trees (L R : List Pt) : ∀ (m : Nat) (A : List Pt) (q : Pt) (T Tc : Tr), lv [] T = L ++ (A ++ [q]) ++ R → (∀ x, x ∈ inr [] Tc ↔ Ar (A ++ [q]) x) → (∀ w ∈ A ++ [q], w ∈ lv [] Tc) →
    ∃ T' Tc', lv [] T' = L ++ cl m A q ++ R ∧ Sub T T' ∧ sz T' = sz T + m ∧ (∀ x, x ∈ inr [] Tc' ↔ Ar (cl m A q) x) ∧ sz Tc' = sz Tc + m
  | 0, A, q, T, Tc, h1, h2, h3 => ⟨T, Tc, h1, fun x h => h, rfl, h2, rfl⟩
  | m + 1, A, q, T, Tc, h1, h2, h3 => by
    have hq : (lv [] T)[L.length + A.length]? = some q := by
      rw [h1, ← List.append_assoc, List.append_assoc, List.getElem?_append_right (by simp), List.length_append, Nat.sub_self]; rfl
    have e1 : lv [] (spl T (L.length + A.length)) = L ++ ((A ++ [q ++ [false]]) ++ [q ++ [true]]) ++ R := by
      rw [lv_spl T [] _ q hq, h1]
      have t1 : (L ++ (A ++ [q]) ++ R).take (L.length + A.length) = L ++ A := by
        rw [show L ++ (A ++ [q]) ++ R = (L ++ A) ++ ([q] ++ R) by simp, show L.length + A.length = (L ++ A).length by simp, List.take_left]
      have t2 : (L ++ (A ++ [q]) ++ R).drop (L.length + A.length + 1) = R := by
        rw [show L.length + A.length + 1 = (L ++ (A ++ [q])).length by simp; omega, List.drop_left]
      rw [t1, t2]; simp
    obtain ⟨i, hi⟩ := List.getElem?_of_mem (h3 q (by simp))
    have nd := lv_nodup [] T
    rw [h1] at nd
    have hAq : q ∉ A := fun hm => by
      have n2 := ((List.nodup_append.mp nd).1 |> List.nodup_append.mp).2.1
      exact (List.nodup_append.mp n2).2.2 q hm q (by simp) rfl
    obtain ⟨T', Tc', a, b, c, d, e⟩ := cl_trees L R m (A ++ [q ++ [false]]) (q ++ [true]) (spl T (L.length + A.length)) (spl Tc i) e1
      (fun x => by rw [inr_spl Tc [] i q x hi, h2, ar_two]) (fun w hw => by
        simp only [List.mem_append, List.mem_singleton] at hw
        rcases hw with (hw | rfl) | rfl
        · exact lv_spl_mem Tc i q w hi (h3 w (by simp [hw])) fun e => hAq (e ▸ hw)
        · rw [lv_spl Tc [] i q hi]; simp
        · rw [lv_spl Tc [] i q hi]; simp)
    refine ⟨T', Tc', a, fun x hx => b x ((inr_spl T [] _ q x hq).mpr (.inl hx)), by rw [c, sz_spl]; omega, d, by rw [e, sz_spl]; omega⟩
/-! cutting_with -/
theorem meet_go (x0 x4 : Option Dt) (c : List Pt) (hap : c.Pairwise fun x y => ¬ x <+: y ∧ ¬ y <+: x) (hc : c.length ≤ 100) : ∀ (ks : List Nat), (∀ i ∈ ks, i < c.length) → ∃ n, n ≤ ks.length * 100 ∧
    lc2Go (.nm 2) bYes (nCall rg1 (aCons (xV 2) aNil)) (.nm 3) [3] bYes (xCall m_meet (aLen 2 (aCons (x2 ixD (xV 1) (xV 2)) (aCons (x2 ixD (xV 1) (xV 3)) aNil)))) (ks.map fun i : Nat => (.int (i : Int) : Dt)) [x0, some (en c), none, none, x4] [] = some (List.replicate n (.bool false), [])
  | [], _ => ⟨0, by simp, rfl⟩
  | i :: ks, h => by
    obtain ⟨n, hn, e⟩ := meet_go x0 x4 c hap hc ks fun j hj => h j (List.mem_cons_of_mem _ hj)
    have hi := h i List.mem_cons_self
    have hl := lc_map (p := .nm 3) (elt := xCall m_meet (aLen 2 (aCons (x2 ixD (xV 1) (xV 2)) (aCons (x2 ixD (xV 1) (xV 3)) aNil)))) (st := [x0, some (en c), some (.int i), none, x4]) (t := []) (fun j : Nat => (.int (0 + (j : Int)) : Dt)) (fun _ => .bool false) (List.range i) fun j hj => ⟨_, rfl, by
      have hj2 : j < i := by simpa using hj
      have x1 := ix_en c i
      have x2 := ix_en c j
      rw [List.getElem?_eq_getElem (by omega)] at x1 x2
      have hne := List.pairwise_iff_getElem.mp hap j i (by omega) (by omega) hj2
      have hm := meet_p c[i] c[j]
      have n1 : ¬ c[j] <+: c[i] := hne.1
      have n2 : ¬ c[i] <+: c[j] := hne.2
      simp only [n1, n2, decide_false, Bool.or_false] at hm
      simp at x1 x2
      simp [x1, x2, hm]⟩
    rw [← rgD_map] at hl
    refine ⟨i + n, by rw [List.length_cons]; omega, ?_⟩
    have hr := rg1_n i (by omega)
    rw [List.map_cons, lc2Go]
    simp only [s_setTg_nm, Option.bind_some, s_bYes, if_true, s_nCall, s_aCons, s_aNil, s_xV, List.set_cons_succ, List.set_cons_zero, List.getElem?_cons_succ, List.getElem?_cons_zero, Option.map_some, hr, s_wipe_cons, s_wipe_nil, hl, e]
    rw [List.map_const', List.length_range, List.replicate_append_replicate]
theorem any_rep (n : Nat) : anyD [.list (List.replicate n (.bool false))] = some (.bool false) := by
  have := any_map (fun _ : Nat => false) (List.replicate n 0)
  rw [List.map_replicate] at this
  rw [this]
  congr 2
  rw [List.any_eq_false]
  simp
theorem cutting_with_c (c : List Pt) (T : Tr) (hap : c.Pairwise fun x y => ¬ x <+: y ∧ ¬ y <+: x) (hc : c.length ≤ 100) (hl : ∀ q ∈ c, q.length ≤ 1000) (h : ∀ x, x ∈ inr [] T ↔ Ar c x) (hs : sz T ≤ 1000) : m_cutting_with [en c] = some (en (lv [] T)) := by
  have hf := finest_i c T (by omega) hl h hs
  have hsc : sC c := ⟨by omega, hl⟩
  have hp := lc_map (p := .nm 4) (elt := xCall m_is_part (aLen 1 (aCons (xV 4) aNil))) (st := [some (en c), some (en c), none, none, none]) (t := []) (en : Pt → Dt) (fun _ => .bool true) c fun q hq => ⟨_, rfl, by
    have := is_part_p q (by have := hl q hq; omega)
    simp [this]⟩
  have ha := all_map (fun _ : Pt => true) c
  rw [show c.all (fun _ => true) = true from List.all_eq_true.mpr fun _ _ => rfl] at ha
  obtain ⟨n, hn, hm⟩ := meet_go (some (en c)) none c hap hc (List.range c.length) fun i hi => by simpa using hi
  rw [show (List.range c.length).map (fun i : Nat => (.int (i : Int) : Dt)) = rgD 0 c.length by rw [rgD_range', List.range_eq_range']] at hm
  have hn2 : n ≤ 16777216 := by rw [List.length_range] at hn; omega
  have hr := rg1_n c.length (by omega)
  have hc2 : c.length ≤ 16777216 := by omega
  simp [m_cutting_with, e_cutting_with, tupled_c hsc, hc2, hp, ha, hr, hm, hn2, any_rep, hf]
/-! the law's own finest -/
def tru : Nat → Tr → Tr
  | 0, _ => .lf
  | _ + 1, .lf => .lf
  | n + 1, .nd l r => .nd (tru n l) (tru n r)
theorem tru_dep : ∀ (n : Nat) (t : Tr), dep t ≤ n → tru n t = t
  | 0, .lf, _ => rfl
  | 0, .nd l r, h => by simp [dep] at h
  | n + 1, .lf, _ => rfl
  | n + 1, .nd l r, h => by
    have h2 : max (dep l) (dep r) + 1 ≤ n + 1 := h
    rw [tru, tru_dep n l (by omega), tru_dep n r (by omega)]
theorem sz_tru : ∀ (n : Nat) (t : Tr), sz (tru n t) ≤ sz t
  | 0, t => by have := sz_pos t; simp [tru, sz]; omega
  | n + 1, .lf => by simp [tru]
  | n + 1, .nd l r => by
    have h1 := sz_tru n l
    have h2 := sz_tru n r
    simp only [tru, sz]; omega
def twoP (K : Pt → Bool) (p : Pt) : List Pt := if K p = true then [p ++ [false], p ++ [true]] else [p]
theorem lv_tru (K : Pt → Bool) : ∀ (n : Nat) (t : Tr) (p : Pt), Inn K p t → (lv p (tru n t)).flatMap (twoP K) = lv p (tru (n + 1) t)
  | 0, .lf, p, h => by
    have h : K p = false := h
    simp [tru, lv, twoP, h]
  | 0, .nd l r, p, h => by
    have h : K p = true := h.1
    simp [tru, lv, twoP, h]
  | n + 1, .lf, p, h => by
    have h : K p = false := h
    simp [tru, lv, twoP, h]
  | n + 1, .nd l r, p, h => by
    rw [tru, lv, List.flatMap_append, lv_tru K n l _ h.2.1, lv_tru K n r _ h.2.2]
    simp [tru, lv]
theorem tru_same (K : Pt → Bool) : ∀ (n : Nat) (t : Tr) (p : Pt), Inn K p t → (lv p (tru n t)).any K = false → tru n t = t
  | 0, .lf, p, _, _ => rfl
  | 0, .nd l r, p, h, e => by
    have h : K p = true := h.1
    simp [tru, lv, h] at e
  | n + 1, .lf, p, _, _ => rfl
  | n + 1, .nd l r, p, h, e => by
    rw [tru, lv, List.any_append, Bool.or_eq_false_iff] at e
    rw [tru, tru_same K n l _ h.2.1 e.1, tru_same K n r _ h.2.2 e.2]
theorem any_lv (K : Pt → Bool) : ∀ (t : Tr) (p : Pt), Inn K p t → (lv p t).any K = false
  | .lf, p, h => by
    have h : K p = false := h
    simp [lv, h]
  | .nd l r, p, h => by rw [lv, List.any_append, any_lv K l _ h.2.1, any_lv K r _ h.2.2]; rfl
noncomputable abbrev lfC : EvB := hE 3 (bV (x2 neD (dN (nLc (nSeq (xV 0)) (.nm 6) [6] (bAnd (bV (x2 gtD (xCall lenD (aCons (xV 6) aNil)) (xCall lenD (aCons (xV 5) aNil)))) (bV (xCall m__law_in (aLen 2 (aCons (xV 6) (aCons (xV 5) aNil)))))) (xC (.int 1)))) (dN (nLst aNil))))
noncomputable abbrev lfB : Ex := zIf lfC (zSeq (zF (fxExt 3 (hE 3 (nLst (aCons (x2 addD (xV 5) (xTup (aCons (xC (.int 0)) aNil))) (aCons (x2 addD (xV 5) (xTup (aCons (xC (.int 1)) aNil))) aNil)))))) (zSet 4 (hE 3 (xC (.bool true))))) (zF (fxApp 3 (hE 3 (xV 5))))
theorem ne_ones {α : Type} (F : List α) : neD (.list (F.map fun _ => (.int 1 : Dt))) (.list []) = some (.bool !F.isEmpty) := by
  have h := ne_nilL (F.map fun _ => (1 : Int)) (by decide)
  rw [List.map_map] at h
  rw [show (F.map fun _ => (.int 1 : Dt)) = F.map ((en : Int → Dt) ∘ fun _ => (1 : Int)) from rfl, h]
  cases F <;> rfl
def KA (c : List Pt) (x : Pt) : Bool := c.any fun q => decide (x.length < q.length) && decide (x <+: q)
theorem KA_ar (c : List Pt) (x : Pt) : KA c x = true ↔ Ar c x := by
  unfold KA Ar
  rw [List.any_eq_true]
  constructor
  · rintro ⟨q, hq, h⟩
    simp only [Bool.and_eq_true, decide_eq_true_eq] at h
    exact ⟨q, hq, h.2, fun e => by rw [e] at h; omega⟩
  · rintro ⟨q, hq, h1, h2⟩
    refine ⟨q, hq, ?_⟩
    simp only [Bool.and_eq_true, decide_eq_true_eq]
    refine ⟨?_, h1⟩
    have := h1.length_le
    rcases Nat.lt_or_ge x.length q.length with z | z
    · exact z
    · exact absurd (h1.eq_of_length (by omega)) h2
theorem lfC_at (x1 x2 x3 x4 u : Option Dt) (c : List Pt) (p : Pt) (hc : c.length ≤ 1000) : lfC [some (en c), x1, x2, x3, x4, some (en p), u] [] = some (KA c p, []) := by
  have hl := lc_enc (p := .nm 6) (cnd := bAnd (bV (HL.x2 gtD (xCall lenD (aCons (xV 6) aNil)) (xCall lenD (aCons (xV 5) aNil)))) (bV (xCall m__law_in (aLen 2 (aCons (xV 6) (aCons (xV 5) aNil)))))) (elt := xC (.int 1)) (st := [some (en c), x1, x2, none, x4, some (en p), none]) (t := []) (en : Pt → Dt) (fun q => decide (p.length < q.length) && decide (p <+: q)) (fun _ => .int 1) c fun q _ => ⟨_, rfl, by
    by_cases h : p.length < q.length
    · simp [law_in_p, h]
    · simp [law_in_p, h], fun _ => rfl⟩
  have hn := ne_ones (c.filter fun q => decide (p.length < q.length) && decide (p <+: q))
  have hk : (!(c.filter fun q => decide (p.length < q.length) && decide (p <+: q)).isEmpty) = KA c p := by
    unfold KA
    rw [Bool.eq_iff_iff]
    simp [List.isEmpty_iff, List.filter_eq_nil_iff]
  rw [hk] at hn
  have hc2 : c.length ≤ 16777216 := by omega
  generalize (c.filter fun q => decide (p.length < q.length) && decide (p <+: q)).map (fun _ => (.int 1 : Dt)) = W at hl hn
  simp [lfC, hc2, hl, hn]
theorem lf_inner (x1 x2 : Option Dt) (c : List Pt) (hc : c.length ≤ 1000) : ∀ (l F : List Pt) (b : Bool) (u v : Option Dt), (∀ p ∈ l, p.length ≤ 10000) → F.length + 2 * l.length ≤ 100000 → ∃ u', forD (.nm 5) lfB (l.map en) [some (en c), x1, x2, some (.list (F.map en)), some (.bool b), u, v] [] =
    some (.nx [some (en c), x1, x2, some (.list ((F ++ l.flatMap (twoP (KA c))).map en)), some (.bool (b || l.any (KA c))), u', v] [])
  | [], F, b, u, v, _, _ => ⟨u, by simp⟩
  | p :: l, F, b, u, v, hl, hF => by
    have hp := hl p List.mem_cons_self
    have hF2 : F.length + 2 * (l.length + 1) ≤ 100000 := by simpa using hF
    rw [List.map_cons, s_for_cons]
    have hcd := lfC_at x1 x2 (some (.list (F.map en))) (some (.bool b)) v c p hc
    simp only [lfC, s_hE, List.set_cons_succ, List.set_cons_zero] at hcd
    cases hk : KA c p with
    | true =>
      rw [hk] at hcd
      obtain ⟨u', hu⟩ := lf_inner x1 x2 c hc l (F ++ [p ++ [false], p ++ [true]]) true (some (en p)) v (fun q hq => hl q (List.mem_cons_of_mem _ hq)) (by simp; omega)
      refine ⟨u', ?_⟩
      have h3 := ext_2 F (p ++ [false]) (p ++ [true]) (by omega)
      rw [List.flatMap_cons, show twoP (KA c) p = [p ++ [false], p ++ [true]] by simp [twoP, hk], ← List.append_assoc, List.any_cons, hk, Bool.true_or, Bool.or_true]
      rw [Bool.true_or] at hu
      rw [← hu]
      generalize (F ++ [p ++ [false], p ++ [true]]).map (en : Pt → Dt) = W2 at h3
      simp only [s_setTg_nm, List.set_cons_succ, List.set_cons_zero, Option.bind_some, s_zIf, hcd, if_true, s_zSeq, s_zF, s_fxExt, s_hE, s_nLst, s_aCons, s_aNil, s_x2, s_xV, s_xTup, s_xC, List.getElem?_cons_succ, List.getElem?_cons_zero, Option.map_some, List.length_cons, List.length_nil, szOk_of (show 0 + 1 ≤ 16777216 by omega), szOk_of (show 0 + 1 + 1 ≤ 16777216 by omega), add_f p (by omega), add_t p (by omega), s_fL, h3, s_zSet]
    | false =>
      rw [hk] at hcd
      obtain ⟨u', hu⟩ := lf_inner x1 x2 c hc l (F ++ [p]) b (some (en p)) v (fun q hq => hl q (List.mem_cons_of_mem _ hq)) (by simp; omega)
      refine ⟨u', ?_⟩
      have h3 := app_en F p (by omega)
      rw [List.flatMap_cons, show twoP (KA c) p = [p] by simp [twoP, hk], ← List.append_assoc, List.any_cons, hk, Bool.false_or, ← hu]
      generalize (F ++ [p]).map (en : Pt → Dt) = W2 at h3
      simp only [s_setTg_nm, List.set_cons_succ, List.set_cons_zero, Option.bind_some, s_zIf, hcd, Bool.false_eq_true, if_false, s_zF, s_fxApp, s_hE, s_xV, List.getElem?_cons_succ, List.getElem?_cons_zero, Option.map_some, s_fL, h3]
noncomputable abbrev lfO : Ex := zSeq (zPar 3 4 (nV (hE 3 (nLst aNil))) (hE 3 (xC (.bool false)))) (zSeq (zFor (hE 3 (nSeq (xV 1))) (.nm 5) lfB) (zSeq (zMv 1 3) (zIf (hE 3 (bNot (bV (xV 4)))) zBk zNil)))
theorem lf_outer (c : List Pt) (hc : c.length ≤ 1000) (T : Tr) (hT : Inn (KA c) [] T) (hs : sz T ≤ 1000) : ∀ (ds : List Dt) (i : Nat) (a b d e f : Option Dt), i ≤ dep T → dep T - i < ds.length → ∃ a' b' d' e' f', forD (.nm 2) lfO ds [some (en c), some (.list ((lv [] (tru i T)).map en)), a, b, d, e, f] [] = some (.nx [some (en c), some (.list ((lv [] T).map en)), a', b', d', e', f'] [])
  | [], i, a, b, d, e, f, _, h => by simp at h
  | z :: ds, i, a, b, d, e, f, hi, hds => by
    have hds2 : dep T - i < ds.length + 1 := by simpa using hds
    have hsz := sz_tru i T
    have hsC := sC_lv (tru i T) (by omega)
    have hlen := lv_len [] (tru i T)
    obtain ⟨u', hu⟩ := lf_inner (some (.list ((lv [] (tru i T)).map en))) (some z) c hc (lv [] (tru i T)) [] false e f (fun p hp => by have h : p.length ≤ 1000 := hsC.2 p hp; omega) (by simp; omega)
    rw [List.nil_append, lv_tru (KA c) i T [] hT, Bool.false_or] at hu
    rw [s_for_cons]
    simp only [List.map_nil] at hu
    cases hk : (lv [] (tru i T)).any (KA c) with
    | false =>
      have hsame := tru_same (KA c) i T [] hT hk
      have hnx : tru (i + 1) T = T := by
        have h1 := lv_tru (KA c) i T [] hT
        rw [hsame] at h1 hk
        rcases Nat.lt_or_ge i (dep T) with y | y
        · -- cut at i all the same: its depth is at most i
          have hd : ∀ (n : Nat) (t : Tr), dep (tru n t) ≤ n := by
            intro n
            induction n with
            | zero => intro t; simp [tru, dep]
            | succ n ih => intro t; cases t with
              | lf => simp [tru, dep]
              | nd l r => have := ih l; have := ih r; simp only [tru, dep]; omega
          have := hd i T
          rw [hsame] at this
          omega
        · exact tru_dep _ _ (by omega)
      rw [hk, hnx] at hu
      refine ⟨some z, none, some (.bool false), u', f, ?_⟩
      simp only [lfO, s_setTg_nm, List.set_cons_succ, List.set_cons_zero, Option.bind_some, s_zSeq, s_zPar, s_nV, s_hE, s_nLst, s_aNil, s_xC, List.length_nil, szOk_of (show 0 ≤ 16777216 by omega), if_true, Option.map_some, s_zFor, s_nSeq, s_xV, List.getElem?_cons_succ, List.getElem?_cons_zero, d_seqL, hu, s_zMv, s_zIf, s_bNot, s_bV, Bool.not_false, s_zBk]
    | true =>
      rw [hk] at hu
      have hlt : i < dep T := by
        rcases Nat.lt_or_ge i (dep T) with y | y
        · exact y
        · rw [tru_dep i T y, any_lv (KA c) T [] hT] at hk; cases hk
      obtain ⟨a', b', d', e', f', h⟩ := lf_outer c hc T hT hs ds (i + 1) (some z) none (some (.bool true)) u' f (by omega) (by omega)
      refine ⟨a', b', d', e', f', ?_⟩
      rw [← h]
      simp only [lfO, s_setTg_nm, List.set_cons_succ, List.set_cons_zero, Option.bind_some, s_zSeq, s_zPar, s_nV, s_hE, s_nLst, s_aNil, s_xC, List.length_nil, szOk_of (show 0 ≤ 16777216 by omega), if_true, Option.map_some, s_zFor, s_nSeq, s_xV, List.getElem?_cons_succ, List.getElem?_cons_zero, d_seqL, hu, s_zMv, s_zIf, s_bNot, s_bV, Bool.not_true, Bool.false_eq_true, if_false, s_zNil]
theorem law_fine_c (c : List Pt) (T : Tr) (hc : c.length ≤ 1000) (h : ∀ x, x ∈ inr [] T ↔ Ar c x) (hs : sz T ≤ 1000) : m__law_fine [en c] = some (en (lv [] T)) := by
  have hT : Inn (KA c) [] T := inn_of [] T (fun x hx => (KA_ar c x).mpr ((h x).mp hx)) fun x hx => by
    cases e : KA c x with
    | false => rfl
    | true => exact absurd ((h x).mpr ((KA_ar c x).mp e)) (lv_inr [] T x hx)
  have hd := dep_lt T
  obtain ⟨a', b', d', e', f', hl⟩ := lf_outer c hc T hT hs (rgD 0 3000) 0 none none none none none (Nat.zero_le _) (by rw [rgD_len]; omega)
  rw [show ((lv [] (tru 0 T)).map en : List Dt) = [.tuple []] from rfl] at hl
  have hr : rg1 [.int 3000] = some (rgD 0 3000) := rg1_n 3000 (by omega)
  simp [m__law_fine, e__law_fine, hr, hl]
end K00

namespace K00
open PySem L2 HL
/-! sets of numbers with FRACTIONS, sorted -/
def wq (w : Int) (q : Rat) : Dt := .tuple [.int w, en q]
theorem wq_en (w : Int) (q : Rat) : wq w q = en ((w, q) : Int × Rat) := rfl
theorem wq_lt {w w' : Int} {q q' : Rat} (h : w < w') : PySem.W.dataLe false id (wq w q) (wq w' q') = true := by
  show (!PyProof.Rows.lexLt PyProof.Rows.itemOrd (PySem.W.keyToks (wq w' q')) (PySem.W.keyToks (wq w q))) = true
  have e : PyProof.Rows.lexLt PyProof.Rows.itemOrd (PySem.W.keyToks (wq w' q')) (PySem.W.keyToks (wq w q)) = PySem.W.dataLt (.int w') (.int w) := by
    show PyProof.Rows.lexLt PyProof.Rows.itemOrd (PySem.W.keyToksAll [.int w', en q']) (PySem.W.keyToksAll [.int w, en q]) = _
    exact PySem.W.dataLt_all_no (x := .int w') (y := .int w) rfl (by simp [PyData.eqv]; omega)
  rw [e, PySem.W.dataLt_int]
  have : ¬ (w' < w) := by omega
  simp [this]
theorem wq_alike (w w' : Int) (q q' : Rat) : PySem.W.alike (wq w q) (wq w' q') = true := by
  simp [wq, en_rat, PySem.W.alike, PySem.W.alikeAll]
theorem wq_pi (w : Int) (q : Rat) : HL.pi (wq w q) = true := by simp [wq, en_rat, HL.pi, piA]
theorem wq_kd (w : Int) (q : Rat) : kd8 (wq w q) = true := by
  simp [kd8, wq, en_rat, HL.keyOf, keysOf, NestedKey.depth, NestedKey.depthAll]
theorem wq_shp (w : Int) (q : Rat) : shp (wq w q) = true := shp_en ((w, q) : Int × Rat) (by decide)
theorem sset_wq {α : Type} (f : α → Int) (g : α → Rat) (L F : List α) (hs : L.Pairwise fun x y => f x < f y) (hm : ∀ q, q ∈ F ↔ q ∈ L) (hl : F.length < 64) : ssetD [.list (F.map fun a => wq (f a) (g a))] = some (L.map fun a => wq (f a) (g a)) := by
  have nd : (L.map fun a => wq (f a) (g a)).Nodup := List.pairwise_map.mpr (hs.imp fun {x y} h e => by
    unfold wq at e
    injection e with e
    injection e with e1 _
    injection e1 with e1
    omega)
  have hp : (ddup (F.map fun a => wq (f a) (g a))).Perm (L.map fun a => wq (f a) (g a)) := (List.perm_ext_iff_of_nodup (ddup_nodup _) nd).mpr fun d => by
    rw [ddup_mem]
    constructor
    · intro h
      obtain ⟨q, hq, rfl⟩ := List.mem_map.mp h
      exact List.mem_map.mpr ⟨q, (hm q).mp hq, rfl⟩
    · intro h
      obtain ⟨q, hq, rfl⟩ := List.mem_map.mp h
      exact List.mem_map.mpr ⟨q, (hm q).mpr hq, rfl⟩
  have al : ∀ d ∈ ddup (F.map fun a => wq (f a) (g a)), ∃ a, d = wq (f a) (g a) := fun d hd => by
    obtain ⟨q, hq, rfl⟩ := List.mem_map.mp (hp.mem_iff.mp hd)
    exact ⟨q, rfl⟩
  have ok1 : setOk (F.map fun a => wq (f a) (g a)) = true := by
    unfold setOk
    rw [Bool.and_eq_true]
    refine ⟨List.all_eq_true.mpr fun d hd => ?_, by simpa using hl⟩
    obtain ⟨q, _, rfl⟩ := List.mem_map.mp hd
    rw [wq_pi, wq_kd]; rfl
  have ok2 : srtOk (ddup (F.map fun a => wq (f a) (g a))) = true := by
    unfold srtOk alkB
    simp only [Bool.and_eq_true, Bool.or_eq_true, List.all_eq_true]
    refine ⟨⟨fun d hd e he => ?_, .inl fun d hd => ?_⟩, fun d hd => ?_⟩
    · obtain ⟨a, rfl⟩ := al d hd
      obtain ⟨b, rfl⟩ := al e he
      exact wq_alike _ _ _ _
    · obtain ⟨a, rfl⟩ := al d hd
      rfl
    · obtain ⟨a, rfl⟩ := al d hd
      exact wq_shp _ _
  have h1 : srtL (ddup (F.map fun a => wq (f a) (g a))) = srtL (L.map fun a => wq (f a) (g a)) := srtL_perm hp (fun d hd d' hd' => by
    obtain ⟨a, rfl⟩ := al d hd
    obtain ⟨b, rfl⟩ := al d' hd'
    exact wq_alike _ _ _ _) fun d hd => by
    obtain ⟨a, rfl⟩ := al d hd
    exact wq_pi _ _
  unfold ssetD
  dsimp only
  rw [if_pos ⟨ok1, .inr ok2⟩, h1]
  congr 1
  exact List.mergeSort_of_pairwise (List.pairwise_map.mpr (hs.imp fun {x y} h => wq_lt h))
/-! by worth -/
theorem max_pow (a b : Nat) : 2 ^ a * 2 ^ b / Nat.gcd (2 ^ a) (2 ^ b) = 2 ^ max a b := by
  rcases Nat.le_total a b with h | h
  · rw [Nat.gcd_eq_left (Nat.pow_dvd_pow 2 h), Nat.mul_comm, Nat.mul_div_cancel _ (Nat.two_pow_pos a), Nat.max_eq_right h]
  · rw [Nat.gcd_eq_right (Nat.pow_dvd_pow 2 h), Nat.mul_div_cancel _ (Nat.two_pow_pos b), Nat.max_eq_left h]
theorem worth_loop2 (x0 : Option Dt) (E : Nat) (hE : E ≤ 1000) (v : Option Dt) : ∀ (F : List Nat) (b : Nat) (u : Option Dt), (∀ x ∈ F, x ≤ 2 ^ E) → b ≤ E → ∃ (c : Nat) (u' : Option Dt), b ≤ c ∧ c ≤ E ∧ (∀ x ∈ F, ∃ a ≤ c, (dq E x).den = 2 ^ a) ∧
    forD (.nm 2) (zSet 1 (x2 divD (x2 mulI (xV 1) (x2 ixD (xV 2) (xC (.int 1)))) (xCall m__law_gcd (aLen 2 (aCons (xV 1) (aCons (x2 ixD (xV 2) (xC (.int 1))) aNil)))))) (F.map fun x => en (dq E x)) [x0, some (.int ((2 ^ b : Nat) : Int)), u, v] [] = some (.nx [x0, some (.int ((2 ^ c : Nat) : Int)), u', v] [])
  | [], b, u, _, hb => ⟨b, u, Nat.le_refl _, hb, fun x h => by simp at h, rfl⟩
  | x :: F, b, u, h, hb => by
    obtain ⟨n, a, ha, h1, h2, h3⟩ := dq_parts E x (h x List.mem_cons_self)
    obtain ⟨c, u', hc1, hc2, hc3, hl⟩ := worth_loop2 x0 E hE v F (max b a) (some (en (dq E x))) (fun y hy => h y (List.mem_cons_of_mem _ hy)) (by omega)
    refine ⟨c, u', by omega, hc2, fun y hy => ?_, ?_⟩
    · rcases List.mem_cons.mp hy with rfl | hy
      · exact ⟨a, by omega, h2⟩
      · exact hc3 y hy
    · rw [List.map_cons, s_for_cons, ← hl]
      have c1 : cMul ((2 ^ b : Nat) : Int) ((2 ^ a : Nat) : Int) = true := cMul_log (by rw [Int.natAbs_natCast, Int.natAbs_natCast, Nat.log2_two_pow, Nat.log2_two_pow]; omega)
      have g : Int.gcd ((2 ^ b : Nat) : Int) ((2 ^ a : Nat) : Int) = Nat.gcd (2 ^ b) (2 ^ a) := rfl
      have gp : 0 < Nat.gcd (2 ^ b) (2 ^ a) := Nat.gcd_pos_of_pos_left _ (Nat.two_pow_pos b)
      have gl : Nat.gcd (2 ^ b) (2 ^ a) ≤ 2 ^ b := Nat.gcd_le_left _ (Nat.two_pow_pos b)
      have d1 : ∀ i : Int, cDiv i ((Nat.gcd (2 ^ b) (2 ^ a) : Nat) : Int) = true := fun i => cDiv_le2 gp gl (by omega)
      have q1 : ((2 ^ b : Nat) : Int) * ((2 ^ a : Nat) : Int) / ((Nat.gcd (2 ^ b) (2 ^ a) : Nat) : Int) = ((2 ^ max b a : Nat) : Int) := by
        rw [← max_pow]; exact_mod_cast rfl
      simp only [s_setTg_nm, List.set_cons_succ, List.set_cons_zero, Option.bind_some, s_zSet, s_x2, s_xV, s_xC, List.getElem?_cons_succ, List.getElem?_cons_zero, Option.map_some, ix_q1, h2, d_mul, c1, if_true, s_xCall, s_aLen, s_aCons, s_aNil, List.length_cons, List.length_nil, law_gcd_i, g, d_div, d1, q1]
theorem law_worth_x (E : Nat) (F L : List Nat) (hm : ∀ x, x ∈ F ↔ x ∈ L) (hs : L.Pairwise (· < ·)) (hb : ∀ x ∈ F, x ≤ 2 ^ E) (hl : F.length < 64) (hLl : L.length ≤ 16777216) (hE : E ≤ 1000) : m__law_worth [.list (F.map fun x => en (dq E x))] = some (.list (L.map fun x => en (dq E x))) := by
  obtain ⟨c, u', _, hc, hden, hlp⟩ := worth_loop2 (some (.list (F.map fun x => en (dq E x)))) E hE none F 0 none hb (Nat.zero_le _)
  have key : ∀ x ∈ F, ∃ n a : Nat, a ≤ c ∧ (dq E x).num = n ∧ (dq E x).den = 2 ^ a ∧ x = n * 2 ^ (c - a) * 2 ^ (E - c) := fun x hx => by
    obtain ⟨n, a, ha, h1, h2, h3⟩ := dq_parts E x (hb x hx)
    obtain ⟨a', ha', h4⟩ := hden x hx
    have e : a' = a := by
      rw [h2] at h4
      have := congrArg Nat.log2 h4
      rw [Nat.log2_two_pow, Nat.log2_two_pow] at this
      exact this.symm
    subst e
    refine ⟨n, a', ha', h1, h2, ?_⟩
    rw [Nat.mul_assoc, ← Nat.pow_add, show c - a' + (E - c) = E - a' by omega]
    exact h3
  let f : Nat → Int := fun x => (dq E x).num * (2 ^ c / ((dq E x).den : Int))
  have hf : ∀ x ∈ F, f x * ((2 ^ (E - c) : Nat) : Int) = x := fun x hx => by
    obtain ⟨n, a, ha, h1, h2, h3⟩ := key x hx
    have e : (2 : Int) ^ c / ((2 ^ a : Nat) : Int) = ((2 ^ (c - a) : Nat) : Int) := by
      have : 2 ^ c / 2 ^ a = 2 ^ (c - a) := Nat.pow_div ha (by decide)
      rw [← this]; simp
    show (dq E x).num * (2 ^ c / ((dq E x).den : Int)) * _ = _
    rw [h1, h2, e]
    exact_mod_cast h3.symm
  have hfs : L.Pairwise fun x y => f x < f y := hs.imp_of_mem fun {x y} hx hy h => by
    have h1 := hf x ((hm x).mpr hx)
    have h2 := hf y ((hm y).mpr hy)
    have hp := Nat.two_pow_pos (E - c)
    have h3 : f x * ((2 ^ (E - c) : Nat) : Int) < f y * ((2 ^ (E - c) : Nat) : Int) := by rw [h1, h2]; omega
    exact Int.lt_of_mul_lt_mul_right h3 (by omega)
  have hss := sset_wq f (fun x => dq E x) L F hfs hm hl
  have hl1 := lc_map (p := .nm 2) (elt := xTup (aCons (x2 mulI (x2 ixD (xV 2) (xC (.int 0))) (x2 divD (xV 1) (x2 ixD (xV 2) (xC (.int 1))))) (aCons (xV 2) aNil))) (st := [some (.list (F.map fun x => en (dq E x))), some (.int (2 ^ c)), none, none]) (t := []) (fun x : Nat => (en (dq E x) : Dt)) (fun x => wq (f x) (dq E x)) F fun x hx => ⟨_, rfl, by
    obtain ⟨n, a, ha, h1, h2, h3⟩ := key x hx
    have d1 : cDiv (2 ^ c) ((dq E x).den : Int) = true := by rw [h2]; exact cDiv_le2 (k := a) (Nat.two_pow_pos a) (Nat.le_refl _) (by omega)
    have e : (2 : Int) ^ c / ((2 ^ a : Nat) : Int) = ((2 ^ (c - a) : Nat) : Int) := by
      have : 2 ^ c / 2 ^ a = 2 ^ (c - a) := Nat.pow_div ha (by decide)
      rw [← this]; simp
    have c1 : cMul (dq E x).num (2 ^ c / ((dq E x).den : Int)) = true := by
      rw [h1, h2, e]
      exact cMul_log (by
        rw [Int.natAbs_natCast, Int.natAbs_natCast, Nat.log2_two_pow]
        have : n.log2 ≤ E := log_le (by
          have := hb x hx
          have h4 := Nat.two_pow_pos (c - a)
          have h5 := Nat.two_pow_pos (E - c)
          have : n ≤ n * 2 ^ (c - a) * 2 ^ (E - c) := by rw [Nat.mul_assoc]; exact Nat.le_mul_of_pos_right _ (Nat.mul_pos h4 h5)
          omega)
        omega)
    simp [ix_q0, ix_q1, d1, c1]
    rfl⟩
  have hl2 := lc_map (p := .tp [.nm 3, .nm 2]) (elt := xV 2) (st := [some (.list (F.map fun x => en (dq E x))), some (.int (2 ^ c)), none, none]) (t := []) (fun x : Nat => wq (f x) (dq E x)) (fun x => (en (dq E x) : Dt)) L fun x hx => ⟨[some (.list (F.map fun x => en (dq E x))), some (.int (2 ^ c)), some (en (dq E x)), some (.int (f x))], by simp [wq], by simp⟩
  have hFl : F.length ≤ 16777216 := by omega
  have hlp2 : forD (.nm 2) (zSet 1 (x2 divD (x2 mulI (xV 1) (x2 ixD (xV 2) (xC (.int 1)))) (xCall m__law_gcd (aLen 2 (aCons (xV 1) (aCons (x2 ixD (xV 2) (xC (.int 1))) aNil)))))) (F.map fun x => en (dq E x)) [some (.list (F.map fun x => en (dq E x))), some (.int 1), none, none] [] = some (.nx [some (.list (F.map fun x => en (dq E x))), some (.int (2 ^ c)), u', none] []) := by
    rw [show ((2 ^ 0 : Nat) : Int) = 1 from rfl] at hlp
    rw [hlp]
    simp
  have hu : ∀ u'' : Option Dt, lcGo (.nm 2) bYes (xTup (aCons (x2 mulI (x2 ixD (xV 2) (xC (.int 0))) (x2 divD (xV 1) (x2 ixD (xV 2) (xC (.int 1))))) (aCons (xV 2) aNil))) (F.map fun x => en (dq E x)) [some (.list (F.map fun x => en (dq E x))), some (.int (2 ^ c)), none, none] [] = some (F.map fun x => wq (f x) (dq E x), []) := fun _ => hl1
  generalize hFW : F.map (fun x => (en (dq E x) : Dt)) = FW at *
  have hFWl : FW.length ≤ 16777216 := by rw [← hFW]; simpa using hFl
  simp only [m__law_worth, e__law_worth, s_runP, s_zSeq, s_zSet, s_xC, List.map_cons, List.map_nil, List.length_cons, List.length_nil, List.replicate, List.cons_append, List.nil_append, List.set_cons_succ, List.set_cons_zero, Option.bind_some, Option.map_some, s_zFor, s_nSeq, s_xV, List.getElem?_cons_succ, List.getElem?_cons_zero, d_seqL, hlp2, s_zRt, s_dN, s_nLc, hFWl, szOk_of, if_true, s_wipe_cons, s_wipe_nil, s_nCall, s_aCons, s_aNil, hl1, hss, hl2, List.length_map, hFl, hLl]
/-! places of middles -/
def mx (E : Nat) (p : Pt) : Nat := wE E (p ++ [true])
theorem wE_pre (E : Nat) (p q : Pt) (h : p <+: q) (hq : q.length ≤ E) : wE E p ≤ wE E q ∧ wE E q + 2 ^ (E - q.length) ≤ wE E p + 2 ^ (E - p.length) := by
  obtain ⟨r, rfl⟩ := h
  rw [List.length_append] at hq ⊢
  unfold wE
  rw [wn_app, List.length_append, Nat.add_mul]
  have hr := wn_lt r
  have e : 2 ^ (E - p.length) = 2 ^ r.length * 2 ^ (E - (p.length + r.length)) := by rw [← Nat.pow_add]; congr 1; omega
  have e2 : wn p * 2 ^ r.length * 2 ^ (E - (p.length + r.length)) = wn p * 2 ^ (E - p.length) := by rw [e, Nat.mul_assoc]
  rw [e2]
  refine ⟨by omega, ?_⟩
  rw [Nat.add_assoc]
  refine Nat.add_le_add_left ?_ _
  rw [e]
  have : wn r * 2 ^ (E - (p.length + r.length)) + 2 ^ (E - (p.length + r.length)) = (wn r + 1) * 2 ^ (E - (p.length + r.length)) := by rw [Nat.add_mul, Nat.one_mul]
  rw [this]
  exact Nat.mul_le_mul_right _ hr
theorem mx_in (E : Nat) (p x : Pt) (h : p <+: x) (hx : x.length + 1 ≤ E) : wE E p < mx E x ∧ mx E x < wE E p + 2 ^ (E - p.length) := by
  have h1 := wE_pre E p x h (by omega)
  unfold mx
  rw [wE_t hx]
  have := pow_half hx
  have := Nat.two_pow_pos (E - (x.length + 1))
  omega
theorem inr_dep : ∀ (p : Pt) (t : Tr), ∀ x ∈ inr p t, x.length + 1 ≤ p.length + dep t
  | p, .lf, x, h => by simp [inr] at h
  | p, .nd l r, x, h => by
    rw [inr] at h
    rw [dep]
    rcases List.mem_append.mp h with h | h
    · rcases List.mem_append.mp h with h | h
      · have := inr_dep _ l x h; simp at this; omega
      · rw [List.mem_singleton] at h; subst h; omega
    · have := inr_dep _ r x h; simp at this; omega
theorem mids_sorted (E : Nat) : ∀ (t : Tr) (p : Pt), p.length + dep t ≤ E → ((inr p t).map (mx E)).Pairwise (· < ·)
  | .lf, p, _ => by simp [inr]
  | .nd l r, p, h => by
    have h2 : p.length + (max (dep l) (dep r) + 1) ≤ E := by simpa [dep] using h
    have dl := inr_dep (p ++ [false]) l
    have dr := inr_dep (p ++ [true]) r
    simp only [List.length_append, List.length_singleton] at dl dr
    rw [inr, List.map_append, List.map_append, List.map_singleton]
    have wl := wE_f (E := E) (p := p) (by omega)
    have wr := wE_t (E := E) (p := p) (by omega)
    have hm : mx E p = wE E p + 2 ^ (E - (p.length + 1)) := wr
    have L : ∀ a ∈ (inr (p ++ [false]) l).map (mx E), a < mx E p := fun a ha => by
      obtain ⟨x, hx, rfl⟩ := List.mem_map.mp ha
      have := (mx_in E (p ++ [false]) x (inr_pre _ _ x hx) (by have := dl x hx; omega)).2
      rw [wl, List.length_append, List.length_singleton] at this
      omega
    have R : ∀ a ∈ (inr (p ++ [true]) r).map (mx E), mx E p < a := fun a ha => by
      obtain ⟨x, hx, rfl⟩ := List.mem_map.mp ha
      exact (mx_in E (p ++ [true]) x (inr_pre _ _ x hx) (by have := dr x hx; omega)).1
    refine List.pairwise_append.mpr ⟨List.pairwise_append.mpr ⟨mids_sorted E l _ (by simp; omega), by simp, fun a ha b hb => ?_⟩, mids_sorted E r _ (by simp; omega), fun a ha b hb => ?_⟩
    · rw [List.mem_singleton] at hb; subst hb; exact L a ha
    · rcases List.mem_append.mp ha with ha | ha
      · have := L a ha; have := R b hb; omega
      · rw [List.mem_singleton] at ha; subst ha; exact R b hb
/-- the middles of the inner nodes are the places between the leaves -/
theorem mids_tot (E : Nat) : ∀ (t : Tr) (p : Pt), p.length + dep t ≤ E → (inr p t).map (mx E) = (List.range' 1 (sz t - 1)).map fun k => wE E p + tot E ((lv p t).take k)
  | .lf, p, _ => by simp [inr, sz]
  | .nd l r, p, h => by
    have h2 : p.length + (max (dep l) (dep r) + 1) ≤ E := by simpa [dep] using h
    have pl := sz_pos l
    have pr := sz_pos r
    have ll := lv_len (p ++ [false]) l
    have tl := tot_lv E l (p ++ [false]) (by simp; omega)
    rw [List.length_append, List.length_singleton] at tl
    have wl := wE_f (E := E) (p := p) (by omega)
    have wr := wE_t (E := E) (p := p) (by omega)
    rw [inr, List.map_append, List.map_append, List.map_singleton, mids_tot E l _ (by simp; omega), mids_tot E r _ (by simp; omega)]
    rw [show sz (.nd l r) - 1 = (sz l - 1) + 1 + (sz r - 1) by simp only [sz]; omega, ← List.range'_append_1, ← List.range'_append_1, List.map_append, List.map_append]
    congr 1
    · congr 1
      · refine List.map_congr_left fun k hk => ?_
        have hk2 := (List.mem_range'_1.mp hk).2
        rw [wl, lv, List.take_append_of_le_length (by rw [ll]; omega)]
      · rw [show 1 + (sz l - 1) = sz l by omega, List.range'_one, List.map_singleton, lv, List.take_append_of_le_length (by rw [ll]; exact Nat.le_refl _), List.take_of_length_le (by rw [ll]; exact Nat.le_refl _), tl]
        unfold mx
        rw [wr]
    · rw [show 1 + (sz l - 1 + 1) = sz l + 1 by omega, ← List.map_add_range' (a := sz l), List.map_map]
      refine List.map_congr_left fun k hk => ?_
      simp only [Function.comp]
      have e1 : (lv (p ++ [false]) l).take (sz l + k) = lv (p ++ [false]) l := List.take_of_length_le (by rw [ll]; omega)
      rw [lv, List.take_append, e1, tot_app, tl, wr, ll, show sz l + k - sz l = k by omega]
      omega
end K00

namespace K00
open PySem L2 HL
/-! sums -/
theorem dq_add (E a b : Nat) : dq E (a + b) = dq E a + dq E b := by
  unfold dq
  have h := Nat.two_pow_pos E
  rw [Rat.mkRat_add_mkRat _ _ (by omega) (by omega), Rat.mkRat_eq_iff (by omega) (Nat.ne_of_gt (Nat.mul_pos h h))]
  simp
  grind
theorem dq_half (E n : Nat) (h : n ≤ E) : half n = dq E (2 ^ (E - n)) := by
  unfold half dq
  rw [Rat.mkRat_eq_iff (by have := Nat.two_pow_pos n; omega) (by have := Nat.two_pow_pos E; omega)]
  have : (2 : Nat) ^ E = 2 ^ (E - n) * 2 ^ n := by rw [← Nat.pow_add]; congr 1; omega
  exact_mod_cast (by omega : 1 * 2 ^ E = 2 ^ (E - n) * 2 ^ n)
theorem sum_loop (x0 : Option Dt) (E : Nat) (hE : E ≤ 1000) : ∀ (l : List Pt) (a : Nat) (u : Option Dt), (∀ p ∈ l, p.length ≤ E) → a + tot E l ≤ 2 ^ E → ∃ u', forD (.nm 2) (zSet 1 (xCall m__law_add (aLen 2 (aCons (xV 1) (aCons (xV 2) aNil))))) (l.map fun p => en (half p.length)) [x0, some (en (dq E a)), u] [] = some (.nx [x0, some (en (dq E (a + tot E l))), u'] [])
  | [], a, u, _, _ => ⟨u, by simp [tot]⟩
  | p :: l, a, u, h, ha => by
    have hp := h p List.mem_cons_self
    rw [tot_cons] at ha
    have hpp := Nat.two_pow_pos (E - p.length)
    obtain ⟨u', hu⟩ := sum_loop x0 E hE l (a + 2 ^ (E - p.length)) (some (en (half p.length))) (fun q hq => h q (List.mem_cons_of_mem _ hq)) (by omega)
    refine ⟨u', ?_⟩
    have hadd := law_add_q (sz_dot (dq_dot E a (by omega) (by omega))) (sz_half p.length (by omega))
    rw [dq_half E p.length hp, ← dq_add] at hadd
    rw [List.map_cons, s_for_cons, tot_cons, ← Nat.add_assoc, ← hu, dq_half E p.length hp]
    simp only [s_setTg_nm, List.set_cons_succ, List.set_cons_zero, Option.bind_some, s_zSet, s_xCall, s_aLen, s_aCons, s_aNil, s_xV, List.getElem?_cons_succ, List.getElem?_cons_zero, Option.map_some, List.length_cons, List.length_nil, if_true, hadd]
theorem law_sum_l (E : Nat) (hE : E ≤ 1000) (l : List Pt) (h : ∀ p ∈ l, p.length ≤ E) (ht : tot E l ≤ 2 ^ E) : m__law_sum [.list (l.map fun p => en (half p.length))] = some (en (dq E (tot E l))) := by
  obtain ⟨u', hu⟩ := sum_loop (some (.list (l.map fun p => en (half p.length)))) E hE l 0 none h (by omega)
  rw [dq_zero, en_zero, Nat.zero_add] at hu
  generalize l.map (fun p => (en (half p.length) : Dt)) = W at hu
  simp [m__law_sum, e__law_sum, hu]
theorem dq_sub (E a b : Nat) (h : a ≤ b) : dq E b + -(dq E a) = dq E (b - a) := by
  have e := dq_add E a (b - a)
  rw [show a + (b - a) = b by omega] at e
  rw [e, Rat.add_comm (dq E a), Rat.add_assoc, Rat.add_neg_cancel, Rat.add_zero]
/-! the law's joints -/
def kQ (q : Rat) : NestedKey := .tup [.num q.num, .num q.den]
theorem keyT_q (q : Rat) : keyT (en q) = some (kQ q) := by
  rw [en_rat]
  unfold keyT
  simp [keysOf, HL.keyOf, NestedKey.depth, NestedKey.depthAll, kQ]
theorem keyOf_q (q : Rat) : HL.keyOf (en q) = some (kQ q) := by
  rw [en_rat]
  simp [keysOf, HL.keyOf, kQ]
theorem kQ_inj {p q : Rat} (h : kQ p = kQ q) : p = q := by
  unfold kQ at h
  injection h with h
  injection h with h1 h2
  injection h1 with h1
  injection h2 with h2 _
  injection h2 with h2
  exact Rat.ext h1 (by omega)
section
variable (md : Pt → Rat)
def kw (p : Pt) : Dt × Dt := (en (md p), en p)
theorem dAt_kw : ∀ (ks : List Pt) (p : Pt), (∀ q ∈ ks, md q = md p → q = p) → dAt (ks.map (kw md)) (kQ (md p)) = if p ∈ ks then some (en p) else none
  | [], p, _ => rfl
  | q :: ks, p, hI => by
    have ih := dAt_kw ks p fun r hr => hI r (List.mem_cons_of_mem _ hr)
    by_cases h : q = p
    · subst h
      have e : HL.keyOf (kw md q).1 = some (kQ (md q)) := keyOf_q _
      unfold dAt
      rw [List.map_cons, List.find?_cons_of_pos (by simp [e])]
      simp [kw]
    · have e : HL.keyOf (kw md q).1 ≠ some (kQ (md p)) := fun e => by
        rw [show HL.keyOf (kw md q).1 = some (kQ (md q)) from keyOf_q _] at e
        exact h (hI q List.mem_cons_self (kQ_inj (Option.some.inj e)))
      rw [List.map_cons, dAt_ne e, ih]
      simp [Ne.symm h]
theorem dPut_kw (ks : List Pt) (p : Pt) (hI : ∀ q ∈ ks, md q = md p → q = p) : dPut (ks.map (kw md)) (en (md p)) (kQ (md p)) (en p) = (insP ks p).map (kw md) := by
  unfold dPut insP
  rw [dAt_kw md ks p hI]
  by_cases h : p ∈ ks
  · simp only [h, if_true, Option.isSome_some]
    refine Eq.trans (List.map_congr_left fun x hx => ?_) (List.map_id _)
    obtain ⟨q, hq, rfl⟩ := List.mem_map.mp hx
    split
    · rename_i e
      rw [show HL.keyOf (kw md q).1 = some (kQ (md q)) from keyOf_q _] at e
      rw [hI q hq (kQ_inj (Option.some.inj e))]; rfl
    · rfl
  · simp only [h, if_false, Option.isSome_none, Bool.false_eq_true]
    rw [List.map_append]; rfl
theorem dFold_kw (G : List Pt) (hI : ∀ p ∈ G, ∀ q ∈ G, md q = md p → q = p) : ∀ (J ks : List Pt), (∀ p ∈ J, p ∈ G) → (∀ p ∈ ks, p ∈ G) → dFold (J.map fun p => .tuple [en (md p), en p]) (ks.map (kw md)) = some ((J.foldl insP ks).map (kw md))
  | [], ks, _, _ => rfl
  | p :: J, ks, hJ, hk => by
    have hp := hJ p List.mem_cons_self
    rw [List.map_cons, dFold, keyT_q, Option.bind_some, dPut_kw md ks p fun q hq => hI p hp q (hk q hq), List.foldl_cons]
    exact dFold_kw G hI J (insP ks p) (fun q hq => hJ q (List.mem_cons_of_mem _ hq)) fun q hq => by
      rcases insP_mem.mp hq with z | rfl
      · exact hk q z
      · exact hp
theorem dGet_kw (ks : List Pt) (p : Pt) (hI : ∀ q ∈ ks, md q = md p → q = p) (hp : p ∈ ks) : dGet (.dict (ks.map (kw md))) (en (md p)) = some (en p) := by
  have h := dAt_kw md ks p hI
  rw [if_pos hp] at h
  rw [en_rat]
  unfold dGet
  simp only [keysOf, HL.keyOf, Option.bind_some, Option.map_some]
  rw [if_pos (by simp [NestedKey.depth, NestedKey.depthAll])]
  exact h
end
theorem lj_loop (x0 w4 : Option Dt) : ∀ (l F : List Pt) (u v : Option Dt), (∀ p ∈ l, p.length ≤ 1000) → F.length + l.length * 1000 ≤ 16000000 → ∃ u' v', forD (.nm 2) (zF (fxExt 1 (hE 1 (nLc (nCall rg1 (aCons (xCall lenD (aCons (xV 2) aNil)) aNil)) (.nm 5) [5] bYes (xSl slD (xV 2) oNo (oSo (xV 5))))))) (l.map en) [x0, some (.list (F.map en)), u, none, w4, v] [] =
    some (.nx [x0, some (.list ((F ++ l.flatMap pres).map en)), u', none, w4, v'] [])
  | [], F, u, v, _, _ => ⟨u, v, by simp⟩
  | p :: l, F, u, v, h, hF => by
    have hp := h p List.mem_cons_self
    have hF2 : F.length + (l.length + 1) * 1000 ≤ 16000000 := by simpa using hF
    have hpl : (pres p).length = p.length := by simp [pres]
    obtain ⟨u', v', hu⟩ := lj_loop x0 w4 l (F ++ pres p) (some (en p)) v (fun q hq => h q (List.mem_cons_of_mem _ hq)) (by rw [List.length_append]; omega)
    refine ⟨u', v', ?_⟩
    have hl := lc_map (p := .nm 5) (elt := xSl slD (xV 2) oNo (oSo (xV 5))) (st := [x0, none, some (en p), none, w4, none]) (t := []) (fun i : Nat => (.int (0 + (i : Int)) : Dt)) (fun i => (en (p.take i) : Dt)) (List.range p.length) fun i hi => ⟨_, rfl, by
      have := sl_to p i
      simp [this]⟩
    rw [← rgD_map, show (List.range p.length).map (fun i => (en (p.take i) : Dt)) = (pres p).map en by simp [pres]] at hl
    have hr := rg1_n p.length (by omega)
    have hx := ext_en F (pres p) (by omega)
    have hpl2 : p.length ≤ 16777216 := by omega
    rw [List.flatMap_cons, ← List.append_assoc, ← hu, List.map_cons, s_for_cons]
    generalize (F ++ pres p).map (en : Pt → Dt) = W at hx
    simp only [s_setTg_nm, List.set_cons_succ, List.set_cons_zero, Option.bind_some, s_zF, s_fxExt, s_hE, s_nLc, s_nCall, s_aCons, s_aNil, s_xCall, s_xV, List.getElem?_cons_succ, List.getElem?_cons_zero, Option.map_some, len_en, hr, rgD_len, hpl2, szOk_of, if_true, s_wipe_cons, s_wipe_nil, hl, s_fL, hx]
theorem mid_dq (E : Nat) (p : Pt) (h : p.length + 1 ≤ E) : bq (p ++ [true]) = dq E (mx E p) := dq_bq E (p ++ [true]) (by simpa using h)
theorem law_joints_t (t : Tr) (ht : sz t ≤ 60) : m__law_joints [en (lv [] t)] = some (.list ((inr [] t).map en)) := by
  have hc := sC_lv t (by omega)
  have hd := dep_lt t
  have hl := lv_len [] t
  have hil := inr_len [] t
  have hE : ∀ p ∈ inr [] t, p.length + 1 ≤ 1000 := fun p hp => by have := inr_dep [] t p hp; simp at this; omega
  have hms := mids_sorted 1000 t [] (by simp; omega)
  obtain ⟨u', v', h1⟩ := lj_loop (some (en (lv [] t))) none (lv [] t) [] none none (fun p hp => hc.2 p hp) (by simp; omega)
  rw [List.nil_append] at h1
  generalize hJ : (lv [] t).flatMap pres = J at h1
  have hJm : ∀ p, p ∈ J ↔ p ∈ inr [] t := fun p => by
    rw [← around_0, ← hJ, List.mem_flatMap]
    constructor
    · rintro ⟨q, hq, h⟩; exact ⟨q, hq, mem_pres.mp h⟩
    · rintro ⟨q, hq, h⟩; exact ⟨q, hq, mem_pres.mpr h⟩
  have hI : ∀ p ∈ inr [] t, ∀ q ∈ inr [] t, bq (q ++ [true]) = bq (p ++ [true]) → q = p := fun p hp q hq e => by
    rw [mid_dq 1000 p (hE p hp), mid_dq 1000 q (hE q hq)] at e
    have hlt : ∀ r ∈ inr [] t, mx 1000 r ≤ 2 ^ 1000 := fun r hr => by
      have := (mx_in 1000 [] r (List.nil_prefix) (hE r hr)).2
      simp only [wE, wn, List.length_nil, Nat.zero_mul, Nat.zero_add, Nat.sub_zero] at this
      omega
    have hpw : (inr [] t).Pairwise fun x y => mx 1000 x < mx 1000 y := List.pairwise_map.mp hms
    obtain ⟨i, hi, rfl⟩ := List.getElem_of_mem hp
    obtain ⟨j, hj, rfl⟩ := List.getElem_of_mem hq
    rcases Nat.lt_trichotomy i j with z | z | z
    · have a := List.pairwise_iff_getElem.mp hpw i j hi hj z
      have := (dq_lt 1000 _ _ (hlt _ hp) (hlt _ hq)).mpr a
      rw [e] at this
      exact absurd this (Rat.lt_irrefl)
    · subst z; rfl
    · have a := List.pairwise_iff_getElem.mp hpw j i hj hi z
      have := (dq_lt 1000 _ _ (hlt _ hq) (hlt _ hp)).mpr a
      rw [e] at this
      exact absurd this (Rat.lt_irrefl)
  have hJl : J.length ≤ 16777216 := by
    have : ∀ (l : List Pt), (∀ p ∈ l, p.length ≤ 1000) → (l.flatMap pres).length ≤ l.length * 1000 := by
      intro l
      induction l with
      | nil => intro _; simp
      | cons p l ih =>
        intro h
        have h2 := h p List.mem_cons_self
        have h3 := ih fun q hq => h q (List.mem_cons_of_mem _ hq)
        rw [List.flatMap_cons, List.length_append, List.length_cons]
        have : (pres p).length = p.length := by simp [pres]
        omega
    have := this (lv [] t) fun p hp => hc.2 p hp
    rw [hJ, hl] at this
    omega
  have hf := dFold_kw (fun p => bq (p ++ [true])) (inr [] t) hI J [] (fun p hp => (hJm p).mp hp) (fun p hp => by simp at hp)
  generalize hks : J.foldl insP [] = ks at hf
  have hkm : ∀ p, p ∈ ks ↔ p ∈ inr [] t := fun p => by rw [← hks, foldl_mem, hJm]; simp
  have hkn : ks.Nodup := by rw [← hks]; exact foldl_nodup _ _ List.nodup_nil
  have hkl : ks.length = (inr [] t).length := ((List.perm_ext_iff_of_nodup hkn (inr_nodup [] t)).mpr hkm).length_eq
  have hw := law_worth_x 1000 (ks.map (mx 1000)) ((inr [] t).map (mx 1000)) (fun x => by
    simp only [List.mem_map, hkm]) hms (fun x hx => by
    obtain ⟨p, hp, rfl⟩ := List.mem_map.mp hx
    have := (mx_in 1000 [] p (List.nil_prefix) (hE p ((hkm p).mp hp))).2
    simp only [wE, wn, List.length_nil, Nat.zero_mul, Nat.zero_add, Nat.sub_zero] at this
    omega) (by rw [List.length_map]; omega) (by rw [List.length_map]; omega) (Nat.le_refl _)
  rw [List.map_map, List.map_map] at hw
  have ek : ((ks.map (kw fun p => bq (p ++ [true]))).map (·.1)) = ks.map ((fun x => en (dq 1000 x)) ∘ mx 1000) := by
    rw [List.map_map]
    refine List.map_congr_left fun p hp => ?_
    show en (bq (p ++ [true])) = en (dq 1000 (mx 1000 p))
    rw [mid_dq 1000 p (hE p ((hkm p).mp hp))]
  have hlc := lc_map (p := .nm 4) (elt := xCall m__law_begin (aLen 1 (aCons (x2 addD (xV 4) (xTup (aCons (xC (.int 1)) aNil))) aNil))) (st := [some (en (lv [] t)), some (.list (J.map en)), u', none, none, v']) (t := []) (en : Pt → Dt) (fun p => (en (bq (p ++ [true])) : Dt)) J fun p hp => ⟨_, rfl, by
    have h2 := hE p ((hJm p).mp hp)
    have h3 := law_begin_p (p ++ [true]) (by simp; omega)
    simp [add_t p (by omega), h3]⟩
  have hlc1 := lc_map (p := .nm 4) (elt := xTup (aCons (xCall m__law_begin (aLen 1 (aCons (x2 addD (xV 4) (xTup (aCons (xC (.int 1)) aNil))) aNil))) (aCons (xV 4) aNil))) (st := [some (en (lv [] t)), some (.list (J.map en)), u', none, none, v']) (t := []) (en : Pt → Dt) (fun p => (.tuple [en (bq (p ++ [true])), en p] : Dt)) J fun p hp => ⟨_, rfl, by
    have h2 := hE p ((hJm p).mp hp)
    have h3 := law_begin_p (p ++ [true]) (by simp; omega)
    simp [add_t p (by omega), h3]⟩
  have hlc2 := lc_map (p := .nm 4) (elt := x2 dGet (xV 3) (xV 4)) (st := [some (en (lv [] t)), none, u', some (.dict (ks.map (kw fun p => bq (p ++ [true])))), none, v']) (t := []) ((fun x => (en (dq 1000 x) : Dt)) ∘ mx 1000) (en : Pt → Dt) (inr [] t) fun p hp => ⟨_, rfl, by
    have h3 := dGet_kw (fun p => bq (p ++ [true])) ks p (fun q hq => hI p hp q ((hkm q).mp hq)) ((hkm p).mpr hp)
    rw [show bq (p ++ [true]) = dq 1000 (mx 1000 p) from mid_dq 1000 p (hE p hp)] at h3
    simp [h3]⟩
  have ho : okE (some (some (PyData.list (J.map (en : Pt → Dt))))) (.dict (ks.map (kw fun p => bq (p ++ [true])))) = true := by
    show nol (.dict _) = true
    rw [nol]
    generalize ks = ks
    induction ks with
    | nil => rfl
    | cons p ks ih =>
      rw [List.map_cons]
      unfold nolD
      simp only [Bool.and_eq_true]
      exact ⟨(En.lf _).1, (En.lf _).1, ih⟩
  have hil2 : (inr [] t).length ≤ 16777216 := by omega
  have hdict : dictD [.list (J.map fun p => .tuple [en (bq (p ++ [true])), en p])] = some (.dict (ks.map (kw fun p => bq (p ++ [true])))) := by
    unfold dictD
    dsimp only
    rw [List.length_map, szOk_of hJl, if_pos rfl]
    rw [show ((List.map (kw fun p => bq (p ++ [true])) []) : List (Dt × Dt)) = [] from rfl] at hf
    rw [hf]; rfl
  have hla : lstA [.dict (ks.map (kw fun p => bq (p ++ [true])))] = some (ks.map ((fun x => en (dq 1000 x)) ∘ mx 1000)) := by
    show some _ = _
    rw [ek]
  simp only [List.map_nil] at h1
  simp [m__law_joints, e__law_joints, h1, hJl, hlc1, hdict, ho, hla, hw, hil2, hlc2]
end K00

namespace K00
open PySem L2 HL
/-! facts for the law's walk -/
theorem seq_nx {a b : Ex} {st st' : DS} {t t' : Ti} (h : a st t = some (.nx st' t')) : zSeq a b st t = b st' t' := by simp [h]
theorem bq_list (E : Nat) (t : Tr) (h : dep t ≤ E) : (lv [] t).map bq = (List.range (sz t)).map fun k => dq E (tot E ((lv [] t).take k)) := by
  have hl := lv_len [] t
  refine List.ext_getElem (by simp [hl]) fun i h1 h2 => ?_
  have hi : i < (lv [] t).length := by simpa using h1
  rw [List.getElem_map, List.getElem_map, List.getElem_range]
  have hq := List.getElem?_eq_getElem hi
  have hd := lv_depth [] t _ (List.getElem_mem hi)
  have := lv_at E t [] i _ (by simpa using h) hq
  rw [dq_bq E _ (by simp at hd; omega), this]
  simp [wE, wn]
theorem eq_list (E : Nat) (t : Tr) (h : dep t ≤ E) : (lv [] t).map eq = (List.range (sz t)).map fun k => dq E (tot E ((lv [] t).take (k + 1))) := by
  have hl := lv_len [] t
  refine List.ext_getElem (by simp [hl]) fun i h1 h2 => ?_
  have hi : i < (lv [] t).length := by simpa using h1
  rw [List.getElem_map, List.getElem_map, List.getElem_range]
  have hq := List.getElem?_eq_getElem hi
  have hd := lv_depth [] t _ (List.getElem_mem hi)
  have := lv_at E t [] i _ (by simpa using h) hq
  rw [dq_eq E _ (by simp at hd; omega), this, List.take_add_one, hq, tot_app]
  congr 1
  simp [wE, wn, tot]
def SPq (t : Tr) : List Rat := (lv [] t).map bq ++ [1]
theorem sp_list (E : Nat) (t : Tr) (h : dep t ≤ E) : SPq t = (List.range (sz t + 1)).map fun k => dq E (tot E ((lv [] t).take k)) := by
  unfold SPq
  rw [bq_list E t h, List.range_succ, List.map_append, List.map_singleton]
  congr 2
  rw [List.take_of_length_le (by rw [lv_len]; exact Nat.le_refl _), tot_lv E t [] (by simpa using h)]
  exact (dq_one E).symm
theorem sp_drop (E : Nat) (t : Tr) (h : dep t ≤ E) : (SPq t).drop 1 = (lv [] t).map eq := by
  rw [sp_list E t h, eq_list E t h, List.range_succ_eq_map, List.map_cons, List.drop_one, List.tail_cons, List.map_map]
  rfl
theorem sp_get (E : Nat) (t : Tr) (h : dep t ≤ E) (k : Nat) (hk : k ≤ sz t) : (SPq t)[k]? = some (dq E (tot E ((lv [] t).take k))) := by
  rw [sp_list E t h, List.getElem?_map, List.getElem?_range (by omega)]; rfl
theorem sp_inner (E : Nat) (t : Tr) (h : dep t ≤ E) : (SPq t).filter (fun q => decide (q ∉ ([0, 1] : List Rat))) = (inr [] t).map fun p => dq E (mx E p) := by
  have hp := sz_pos t
  have e1 := mids_tot E t [] (by simpa using h)
  have e2 : (inr [] t).map (fun p => dq E (mx E p)) = ((inr [] t).map (mx E)).map (dq E) := by rw [List.map_map]; rfl
  have hle := tot_le E t h
  have hlast : tot E ((lv [] t).take (sz t)) = 2 ^ E := by
    rw [List.take_of_length_le (by rw [lv_len]; exact Nat.le_refl _), tot_lv E t [] (by simpa using h)]
    rfl
  rw [e2, e1, List.map_map, sp_list E t h]
  rw [show List.range (sz t + 1) = [0] ++ (List.range' 1 (sz t - 1) ++ [sz t]) by
    rw [List.range_eq_range', show sz t + 1 = 1 + ((sz t - 1) + 1) by omega, ← List.range'_append_1, ← List.range'_append_1]
    congr 2
    rw [List.range'_one]
    congr 1
    omega]
  rw [List.map_append, List.map_append, List.filter_append, List.filter_append]
  have z0 : dq E (tot E ((lv [] t).take 0)) = 0 := by rw [List.take_zero, tot_nil, dq_zero]
  have z1 : dq E (tot E ((lv [] t).take (sz t))) = 1 := by rw [hlast, dq_one]
  simp only [List.map_singleton, z0, z1]
  rw [show List.filter (fun q => decide (q ∉ ([0, 1] : List Rat))) [0] = [] by simp, show List.filter (fun q => decide (q ∉ ([0, 1] : List Rat))) [1] = [] by simp, List.nil_append, List.append_nil]
  rw [List.filter_eq_self.mpr]
  · refine List.map_congr_left fun k _ => ?_
    simp [wE, wn]
  · intro q hq
    obtain ⟨k, hk, rfl⟩ := List.mem_map.mp hq
    obtain ⟨k1, k2⟩ := List.mem_range'_1.mp hk
    have a := tot_take_lt (E := E) (lv [] t) 0 k (by omega) (by rw [lv_len]; omega)
    have b := tot_take_lt (E := E) (lv [] t) k (sz t) (by omega) (by rw [lv_len]; omega)
    rw [List.take_zero, tot_nil] at a
    rw [hlast] at b
    have c1 := (dq_lt E 0 _ (Nat.zero_le _) (hle k)).mpr a
    have c2 := (dq_lt E _ (2 ^ E) (hle k) (Nat.le_refl _)).mpr b
    rw [dq_zero] at c1
    rw [dq_one] at c2
    simp only [decide_eq_true_iff, List.mem_cons, List.not_mem_nil, or_false, not_or]
    exact ⟨fun e => by rw [e] at c1; exact Rat.lt_irrefl c1, fun e => by rw [e] at c2; exact Rat.lt_irrefl c2⟩
/-! what is compared -/
theorem okSs_map {α : Type} {n : Nat} (f : α → Dt) : ∀ (l : List α), (∀ a ∈ l, okS n (f a)) → okSs n (l.map f)
  | [], _ => by simp [okSs]
  | a :: l, h => by
    rw [List.map_cons, okSs]
    exact ⟨h a List.mem_cons_self, okSs_map f l fun b hb => h b (List.mem_cons_of_mem _ hb)⟩
theorem okS_p {n : Nat} {p : Pt} (h : p.length ≤ 16777216) : okS (n + 1) (en p) := by
  rw [en_list, okS]
  refine ⟨by simpa using h, okSs_map _ p fun b _ => ?_⟩
  rw [en_bool]; simp [okS]
theorem okS_q {n : Nat} {q : Rat} : okS (n + 1) (en q) := by
  simp [en_rat, okS, okSs]
theorem okS_c {n : Nat} {c : List Pt} (h : c.length ≤ 16777216) (h2 : ∀ p ∈ c, p.length ≤ 16777216) : okS (n + 2) (en c) := by
  rw [en_list, okS]
  exact ⟨by simpa using h, okSs_map _ c fun p hp => okS_p (h2 p hp)⟩
theorem okS_lc {n : Nat} {c : List Pt} (h : c.length ≤ 16777216) (h2 : ∀ p ∈ c, p.length ≤ 16777216) : okS (n + 2) (.list (c.map en)) := by
  rw [okS]
  exact ⟨by simpa using h, okSs_map _ c fun p hp => okS_p (h2 p hp)⟩
theorem okS_lq {n : Nat} {c : List Rat} (h : c.length ≤ 16777216) : okS (n + 2) (.list (c.map en)) := by
  rw [okS]
  exact ⟨by simpa using h, okSs_map _ c fun p hp => okS_q⟩
theorem okS_lb {n : Nat} {c : List Bool} (h : c.length ≤ 16777216) : okS (n + 1) (.list (c.map .bool)) := by
  rw [okS]
  exact ⟨by simpa using h, okSs_map _ c fun p hp => by simp [okS]⟩
theorem same_l {ds : List Dt} (h : ds.length ≤ 100) (hd : ∀ d ∈ ds, okS 6 d) : m__law_same [.list ds, .list ds] = some (.bool true) := by
  refine same_self 7 _ ?_
  rw [okS]
  refine ⟨by omega, ?_⟩
  have := okSs_map (n := 6) id ds hd
  simpa using this
/-! middles of PARTS -/
theorem mid_eq (p : Pt) : eq (p ++ [false]) = bq (p ++ [true]) := by
  unfold eq bq
  rw [wn_app, wn_app, List.length_append, List.length_append]
  rfl
theorem mid_den (p : Pt) : (eq (p ++ [false])).den = 2 ^ (p.length + 1) := by
  rw [mid_eq]
  unfold bq
  have e := Rat.den_mkRat (wn (p ++ [true]) : Int) (2 ^ (p ++ [true]).length)
  rw [if_neg (by have := Nat.two_pow_pos (p ++ [true]).length; omega), Int.natAbs_natCast] at e
  rw [e, List.length_append, List.length_singleton, wn_app]
  have hc : Nat.gcd (2 ^ (p.length + 1)) (wn p * 2 ^ [true].length + wn [true]) = 1 := by
    have h2 : Nat.Coprime 2 (wn p * 2 ^ [true].length + wn [true]) := by
      show Nat.gcd 2 _ = 1
      have : (wn p * 2 ^ [true].length + wn [true]) % 2 = 1 := by simp [wn]
      rw [Nat.gcd_rec, this]; rfl
    exact Nat.Coprime.pow_left _ h2
  rw [hc, Nat.div_one]
theorem bq_ne_one (E : Nat) (p : Pt) (h : p.length ≤ E) : bq p ≠ 1 := by
  rw [dq_bq E p h]
  intro e
  have hlt : wE E p < 2 ^ E := by
    have := (wE_pre E [] p List.nil_prefix h).2
    simp only [wE, wn, List.length_nil, Nat.zero_mul, Nat.zero_add, Nat.sub_zero] at this
    have := Nat.two_pow_pos (E - p.length)
    unfold wE
    omega
  have := (dq_lt E _ (2 ^ E) (Nat.le_of_lt hlt) (Nat.le_refl _)).mpr hlt
  rw [e, dq_one] at this
  exact Rat.lt_irrefl this
theorem lcp_mate (p : Pt) (b : Bool) : lcp (p ++ [b]) (p ++ [!b]) = p := by
  induction p with
  | nil => cases b <;> rfl
  | cons a p ih => simp only [List.cons_append, lcp, if_true]; rw [ih]
theorem okS_b {n : Nat} {b : Bool} : okS n (.bool b) := by simp [okS]
theorem okS_i {n : Nat} {b : Int} : okS n (.int b) := by simp [okS]
end K00

namespace K00
open PySem L2 HL
theorem sl_lst {α : Type} [En α] (l : List α) (n : Nat) : slD (.list (l.map en)) (some (n : Int)) none = some (.list ((l.drop n).map en)) := by
  show some (PyData.list _) = _
  rw [cut_map]
  rw [HT.sIx_nat]
  simp only [HT.sIx]
  rw [List.take_of_length_le (by rw [List.length_drop]; omega)]
  by_cases h : n ≤ l.length
  · rw [Nat.min_eq_left h]
  · rw [Nat.min_eq_right (by omega), List.drop_of_length_le (by omega), List.drop_of_length_le (by omega)]
theorem rep_one (n : Nat) (h : n ≤ 1000000) : repN [.bool true] (.int n) = some (List.replicate n (.bool true)) := by
  unfold repN
  dsimp only
  rw [if_pos]
  · congr 1
    rw [show ((n : Int)).toNat = n by omega]
    induction n with
    | zero => rfl
    | succ n ih => rw [List.replicate_succ, List.flatten_cons, ih (by omega)]; rfl
  · have h1 : ((n : Int).natAbs ≤ 2 ^ 61) := by omega
    have h2 : szOk (([PyData.bool true] : List Dt).length * (n : Int).toNat) = true := szOk_of (by simp; omega)
    rw [h2]
    simp only [h1, decide_true, Bool.and_self]
theorem ix_lstq {α : Type} [En α] (l : List α) (n : Nat) (a : α) (h : l[n]? = some a) : ixD (.list (l.map en)) (.int (n : Int)) = some (en a) := by
  rw [ix_lst, h]; rfl
theorem r_0 {P : List Pt} {a0 a1 a2 a3 a4 a5 a6 a7 a8 a9 a10 a11 a12 a13 a14 a15 a16 a17 a18 a19 a20 a21 a22 : Option Dt} {t t1 : Ti} (hcut : m__law_cut [.int 12] t = some (en P, t1)) :
    (zSet 1 (xCallT m__law_cut (aLen 1 (aCons (xC (.int 12)) aNil)))) [a0, a1, a2, a3, a4, a5, a6, a7, a8, a9, a10, a11, a12, a13, a14, a15, a16, a17, a18, a19, a20, a21, a22] t = some (.nx [a0, some (en P), a2, a3, a4, a5, a6, a7, a8, a9, a10, a11, a12, a13, a14, a15, a16, a17, a18, a19, a20, a21, a22] t1) := by
  simp [hcut]
theorem r_1 {P : List Pt} {a0 a2 a3 a4 a5 a6 a7 a8 a9 a10 a11 a12 a13 a14 a15 a16 a17 a18 a19 a20 a21 a22 : Option Dt} {t : Ti} (hl : P.length ≤ 1000) (hb : ∀ p ∈ P, m_part_begin [en p] = some (en (bq p))) :
    (zSet 2 (x2 addD (dN (nLc (nSeq (xV 1)) (.nm 21) [21] bYes (xCall m_part_begin (aLen 1 (aCons (xV 21) aNil))))) (dN (nLst (aCons (xTup (aCons (xC (.int 1)) (aCons (xC (.int 1)) aNil))) aNil))))) [a0, some (en P), a2, a3, a4, a5, a6, a7, a8, a9, a10, a11, a12, a13, a14, a15, a16, a17, a18, a19, a20, a21, a22] t = some (.nx [a0, some (en P), some (.list ((P.map bq ++ [1]).map en)), a3, a4, a5, a6, a7, a8, a9, a10, a11, a12, a13, a14, a15, a16, a17, a18, a19, a20, a21, a22] t) := by
  have hc := lc_map (p := .nm 21) (elt := xCall m_part_begin (aLen 1 (aCons (xV 21) aNil))) (st := [a0, some (en P), a2, a3, a4, a5, a6, a7, a8, a9, a10, a11, a12, a13, a14, a15, a16, a17, a18, a19, a20, none, a22]) (t := t) (en : Pt → Dt) (fun p => (en (bq p) : Dt)) P fun x hx => ⟨_, rfl, by simp [hb x hx]⟩
  rw [show P.map (fun p => (en (bq p) : Dt)) = (P.map bq).map en by rw [List.map_map]; rfl] at hc
  have ha := add_lst (P.map bq) [(1 : Rat)] (by simp; omega)
  rw [show (([(1 : Rat)] : List Rat).map en : List Dt) = [.tuple [.int 1, .int 1]] from rfl] at ha
  have hl2 : P.length ≤ 16777216 := by omega
  generalize (P.map bq).map (en : Rat → Dt) = W at hc ha
  generalize (P.map bq ++ [1]).map (en : Rat → Dt) = W2 at ha
  simp [hl2, hc, ha]
theorem r_2 {P : List Pt} {Q : List Rat} {a0 a3 a4 a5 a6 a7 a8 a9 a10 a11 a12 a13 a14 a15 a16 a17 a18 a19 a20 a21 a22 : Option Dt} {t : Ti} (hl : P.length ≤ 1000) (hq : Q.length ≤ 1001) (he : ∀ p ∈ P, m_part_end [en p] = some (en (eq p))) (hd : ∀ q ∈ Q, m_is_dot [en q] = some (.bool true)) (hcu : m_is_cutting [en P] = some (.bool true)) :
    (zSet 3 (dN (nLst (aCons (xV 2) (aCons (dN (nLc (nSeq (xV 1)) (.nm 21) [21] bYes (xCall m_part_end (aLen 1 (aCons (xV 21) aNil))))) (aCons (dN (nLc (nSeq (xV 2)) (.nm 21) [21] bYes (xCall m_is_dot (aLen 1 (aCons (xV 21) aNil))))) (aCons (xCall m_is_cutting (aLen 1 (aCons (xV 1) aNil))) aNil))))))) [a0, some (en P), some (.list (Q.map en)), a3, a4, a5, a6, a7, a8, a9, a10, a11, a12, a13, a14, a15, a16, a17, a18, a19, a20, a21, a22] t = some (.nx [a0, some (en P), some (.list (Q.map en)), some (.list [.list (Q.map en), .list ((P.map eq).map en), .list (Q.map fun _ => .bool true), .bool true]), a4, a5, a6, a7, a8, a9, a10, a11, a12, a13, a14, a15, a16, a17, a18, a19, a20, a21, a22] t) := by
  have hc := lc_map (p := .nm 21) (elt := xCall m_part_end (aLen 1 (aCons (xV 21) aNil))) (st := [a0, some (en P), some (.list (Q.map en)), a3, a4, a5, a6, a7, a8, a9, a10, a11, a12, a13, a14, a15, a16, a17, a18, a19, a20, none, a22]) (t := t) (en : Pt → Dt) (fun p => (en (eq p) : Dt)) P fun x hx => ⟨_, rfl, by simp [he x hx]⟩
  have hc2 := lc_map (p := .nm 21) (elt := xCall m_is_dot (aLen 1 (aCons (xV 21) aNil))) (st := [a0, some (en P), some (.list (Q.map en)), a3, a4, a5, a6, a7, a8, a9, a10, a11, a12, a13, a14, a15, a16, a17, a18, a19, a20, none, a22]) (t := t) (en : Rat → Dt) (fun _ => .bool true) Q fun x hx => ⟨_, rfl, by simp [hd x hx]⟩
  rw [show P.map (fun p => (en (eq p) : Dt)) = (P.map eq).map en by rw [List.map_map]; rfl] at hc
  have hl2 : P.length ≤ 16777216 := by omega
  have hq2 : Q.length ≤ 16777216 := by omega
  have hW : (Q.map (en : Rat → Dt)).length ≤ 16777216 := by simpa using hq2
  generalize (P.map eq).map (en : Rat → Dt) = W at hc
  generalize Q.map (en : Rat → Dt) = W2 at hc hc2 hW
  simp [hl2, hW, hc, hc2, hcu]
theorem r_3 {P : List Pt} {Q : List Rat} {a0 a4 a5 a6 a7 a8 a9 a10 a11 a12 a13 a14 a15 a16 a17 a18 a19 a20 a21 a22 : Option Dt} {t : Ti} (hl : P.length ≤ 1000) (hq : Q.length ≤ 1001) (hQ : P.map bq ++ [1] = Q) (hdr : Q.drop 1 = P.map eq) (hlb : ∀ p ∈ P, m__law_begin [en p] = some (en (bq p))) :
    (zIf (bNot (bV (xCall m__law_same (aLen 2 (aCons (xV 3) (aCons (dN (nLst (aCons (x2 addD (dN (nLc (nSeq (xV 1)) (.nm 21) [21] bYes (xCall m__law_begin (aLen 1 (aCons (xV 21) aNil))))) (dN (nLst (aCons (xTup (aCons (xC (.int 1)) (aCons (xC (.int 1)) aNil))) aNil)))) (aCons (xSl slD (xV 2) (oSo (xC (.int 1))) oNo) (aCons (dN (nRep (nLst (aCons (xC (.bool true)) aNil)) (xCall lenD (aCons (xV 2) aNil)))) (aCons (xC (.bool true)) aNil)))))) aNil)))))) (zRt (xC (.bool false))) zNil) [a0, some (en P), some (.list (Q.map en)), some (.list [.list (Q.map en), .list ((P.map eq).map en), .list (Q.map fun _ => .bool true), .bool true]), a4, a5, a6, a7, a8, a9, a10, a11, a12, a13, a14, a15, a16, a17, a18, a19, a20, a21, a22] t = some (.nx [a0, some (en P), some (.list (Q.map en)), some (.list [.list (Q.map en), .list ((P.map eq).map en), .list (Q.map fun _ => .bool true), .bool true]), a4, a5, a6, a7, a8, a9, a10, a11, a12, a13, a14, a15, a16, a17, a18, a19, a20, a21, a22] t) := by
  have hc := lc_map (p := .nm 21) (elt := xCall m__law_begin (aLen 1 (aCons (xV 21) aNil))) (st := [a0, some (en P), some (.list (Q.map en)), some (.list [.list (Q.map en), .list ((P.map eq).map en), .list (Q.map fun _ => .bool true), .bool true]), a4, a5, a6, a7, a8, a9, a10, a11, a12, a13, a14, a15, a16, a17, a18, a19, a20, none, a22]) (t := t) (en : Pt → Dt) (fun p => (en (bq p) : Dt)) P fun x hx => ⟨_, rfl, by simp [hlb x hx]⟩
  rw [show P.map (fun p => (en (bq p) : Dt)) = (P.map bq).map en by rw [List.map_map]; rfl] at hc
  have ha := add_lst (P.map bq) [(1 : Rat)] (by simp; omega)
  rw [show (([(1 : Rat)] : List Rat).map en : List Dt) = [.tuple [.int 1, .int 1]] from rfl, hQ] at ha
  have hs := sl_lst Q 1
  rw [hdr] at hs
  have hr := rep_one Q.length (by omega)
  have hm : Q.map (fun _ => (.bool true : Dt)) = List.replicate Q.length (.bool true) := List.map_const' ..
  rw [hm] at hc ⊢
  have hlen : lenD [.list (Q.map (en : Rat → Dt))] = some (.int Q.length) := by rw [d_lenL, List.length_map]
  have hsame := same_l (ds := [.list (Q.map en), .list ((P.map eq).map en), .list (List.replicate Q.length (.bool true)), .bool true]) (by simp) fun d hd => by
    simp only [List.mem_cons, List.not_mem_nil, or_false] at hd
    rcases hd with rfl | rfl | rfl | rfl
    · exact okS_lq (by omega)
    · exact okS_lq (by rw [List.length_map]; omega)
    · have := okS_lb (n := 5) (c := List.replicate Q.length true) (by simp; omega)
      rwa [List.map_replicate] at this
    · exact okS_b
  have hl2 : P.length ≤ 16777216 := by omega
  rw [show ((1 : Nat) : Int) = 1 from rfl] at hs
  generalize (P.map bq).map (en : Rat → Dt) = W at hc ha
  generalize (P.map eq).map (en : Rat → Dt) = W3 at hc hs hsame ⊢
  generalize Q.map (en : Rat → Dt) = W2 at hc ha hs hlen hsame ⊢
  generalize List.replicate Q.length (PyData.bool true) = W4 at hr hsame hc ⊢
  simp [hl2, hc, ha, hs, hlen, hr, hsame]
theorem r_4 {P : List Pt} {k : Nat} {a0 a2 a3 a4 a5 a6 a7 a8 a9 a10 a11 a12 a13 a14 a15 a16 a17 a18 a19 a20 a21 a22 : Option Dt} {t t1 : Ti} (hk : m__law_take [.int P.length] t = some (.int (k : Int), t1)) :
    (zSet 4 (xCallT m__law_take (aLen 1 (aCons (xCall lenD (aCons (xV 1) aNil)) aNil)))) [a0, some (en P), a2, a3, a4, a5, a6, a7, a8, a9, a10, a11, a12, a13, a14, a15, a16, a17, a18, a19, a20, a21, a22] t = some (.nx [a0, some (en P), a2, a3, some (.int (k : Int)), a5, a6, a7, a8, a9, a10, a11, a12, a13, a14, a15, a16, a17, a18, a19, a20, a21, a22] t1) := by
  simp [hk]
theorem r_5 {P : List Pt} {k i : Nat} {a0 a2 a3 a5 a6 a7 a8 a9 a10 a11 a12 a13 a14 a15 a16 a17 a18 a19 a20 a21 a22 : Option Dt} {t t1 : Ti} (hkn : k < P.length) (hj : m__law_take [.int ((P.length - k : Nat) : Int)] t = some (.int (i : Int), t1)) :
    (zSet 5 (x2 addD (x2 addD (xV 4) (xC (.int 1))) (xCallT m__law_take (aLen 1 (aCons (x2 subD (xCall lenD (aCons (xV 1) aNil)) (xV 4)) aNil))))) [a0, some (en P), a2, a3, some (.int (k : Int)), a5, a6, a7, a8, a9, a10, a11, a12, a13, a14, a15, a16, a17, a18, a19, a20, a21, a22] t = some (.nx [a0, some (en P), a2, a3, some (.int (k : Int)), some (.int ((k + 1 + i : Nat) : Int)), a6, a7, a8, a9, a10, a11, a12, a13, a14, a15, a16, a17, a18, a19, a20, a21, a22] t1) := by
  have e : (P.length : Int) - k = ((P.length - k : Nat) : Int) := by omega
  rw [← e] at hj
  simp [hj]
theorem r_6 {Q : List Rat} {k j : Nat} {lo hi : Rat} {a0 a1 a3 a6 a7 a8 a9 a10 a11 a12 a13 a14 a15 a16 a17 a18 a19 a20 a21 a22 : Option Dt} {t : Ti} (h1 : Q[k]? = some lo) (h2 : Q[j]? = some hi) :
    (zPar 6 7 (x2 ixD (xV 2) (xV 4)) (x2 ixD (xV 2) (xV 5))) [a0, a1, some (.list (Q.map en)), a3, some (.int (k : Int)), some (.int (j : Int)), a6, a7, a8, a9, a10, a11, a12, a13, a14, a15, a16, a17, a18, a19, a20, a21, a22] t = some (.nx [a0, a1, some (.list (Q.map en)), a3, some (.int (k : Int)), some (.int (j : Int)), some (en lo), some (en hi), a8, a9, a10, a11, a12, a13, a14, a15, a16, a17, a18, a19, a20, a21, a22] t) := by
  have e1 := ix_lstq Q k lo h1
  have e2 := ix_lstq Q j hi h2
  generalize Q.map (en : Rat → Dt) = W at e1 e2
  simp [e1, e2]
theorem r_7 {F : List Pt} {lo hi : Rat} {a0 a1 a2 a3 a4 a5 a8 a9 a10 a11 a12 a13 a14 a15 a16 a17 a18 a19 a20 a21 a22 : Option Dt} {t : Ti} (h : m_between_dots [en lo, en hi] = some (en F)) :
    (zSet 8 (xCall m_between_dots (aLen 2 (aCons (xV 6) (aCons (xV 7) aNil))))) [a0, a1, a2, a3, a4, a5, some (en lo), some (en hi), a8, a9, a10, a11, a12, a13, a14, a15, a16, a17, a18, a19, a20, a21, a22] t = some (.nx [a0, a1, a2, a3, a4, a5, some (en lo), some (en hi), some (en F), a9, a10, a11, a12, a13, a14, a15, a16, a17, a18, a19, a20, a21, a22] t) := by
  simp [h]
theorem r_8 {P : List Pt} {k j : Nat} {a0 a2 a3 a6 a7 a8 a9 a10 a11 a12 a13 a14 a15 a16 a17 a18 a19 a20 a21 a22 : Option Dt} {t : Ti}  :
    (zSet 9 (xSl slD (xV 1) (oSo (xV 4)) (oSo (xV 5)))) [a0, some (en P), a2, a3, some (.int (k : Int)), some (.int (j : Int)), a6, a7, a8, a9, a10, a11, a12, a13, a14, a15, a16, a17, a18, a19, a20, a21, a22] t = some (.nx [a0, some (en P), a2, a3, some (.int (k : Int)), some (.int (j : Int)), a6, a7, a8, some (en ((P.take j).drop k)), a10, a11, a12, a13, a14, a15, a16, a17, a18, a19, a20, a21, a22] t) := by
  have e := sl_fromto P k j
  simp [e]
theorem r_9 {F I : List Pt} {s : Rat} {a0 a1 a2 a3 a4 a5 a6 a7 a10 a11 a12 a13 a14 a15 a16 a17 a18 a19 a20 a21 a22 : Option Dt} {t : Ti} (hF : F.length ≤ 1000) (hI : I.length ≤ 1000) (hFs : ∀ p ∈ F, sP p) (hIs : ∀ p ∈ I, sP p) (hin : ∀ q ∈ I, ∃ w ∈ F, w <+: q) (hsum : m__law_sum [.list (F.map fun p => en (half p.length))] = some (en (s : Rat))) :
    (zSet 3 (dN (nLst (aCons (dN (nLc (nSeq (xV 9)) (.nm 21) [21] (bV (x2 eqD (dN (nLc (nSeq (xV 8)) (.nm 22) [22] (bV (xCall m_is_part_within (aLen 2 (aCons (xV 21) (aCons (xV 22) aNil))))) (xV 22))) (dN (nLst aNil)))) (xV 21))) (aCons (xCall m__law_sum (aLen 1 (aCons (dN (nLc (nSeq (xV 8)) (.nm 21) [21] bYes (xCall m__law_length (aLen 1 (aCons (xV 21) aNil))))) aNil))) aNil))))) [a0, a1, a2, a3, a4, a5, a6, a7, some (en F), some (en I), a10, a11, a12, a13, a14, a15, a16, a17, a18, a19, a20, a21, a22] t = some (.nx [a0, a1, a2, some (.list [.list [], en s]), a4, a5, a6, a7, some (en F), some (en I), a10, a11, a12, a13, a14, a15, a16, a17, a18, a19, a20, a21, a22] t) := by
  have hc := lc_enc (p := .nm 21) (cnd := bV (x2 eqD (dN (nLc (nSeq (xV 8)) (.nm 22) [22] (bV (xCall m_is_part_within (aLen 2 (aCons (xV 21) (aCons (xV 22) aNil))))) (xV 22))) (dN (nLst aNil)))) (elt := xV 21) (st := [a0, a1, a2, a3, a4, a5, a6, a7, some (en F), some (en I), a10, a11, a12, a13, a14, a15, a16, a17, a18, a19, a20, none, a22]) (t := t) (en : Pt → Dt) (fun _ => false) (en : Pt → Dt) I fun x hx => ⟨_, rfl, by
    have hi := lc_enc (p := .nm 22) (cnd := bV (xCall m_is_part_within (aLen 2 (aCons (xV 21) (aCons (xV 22) aNil))))) (elt := xV 22) (st := [a0, a1, a2, a3, a4, a5, a6, a7, some (en F), some (en I), a10, a11, a12, a13, a14, a15, a16, a17, a18, a19, a20, some (en x), none]) (t := t) (en : Pt → Dt) (fun w => decide (w <+: x)) (en : Pt → Dt) F fun w hw => ⟨_, rfl, by simp [within_p x w (hIs x hx) (hFs w hw)], fun _ => by simp⟩
    obtain ⟨w, hw, hwx⟩ := hin x hx
    have he := eq_nilL (F.filter fun w => decide (w <+: x)) (by decide)
    rw [show (F.filter fun w => decide (w <+: x)).isEmpty = false by
      cases e : F.filter fun w => decide (w <+: x) with
      | nil =>
        have := List.filter_eq_nil_iff.mp e w hw
        simp [hwx] at this
      | cons _ _ => rfl] at he
    have hF2 : F.length ≤ 16777216 := by omega
    generalize (F.filter fun w => decide (w <+: x)).map (en : Pt → Dt) = W at hi he
    simp [hF2, hi, he], fun h => by cases h⟩
  have hc2 := lc_map (p := .nm 21) (elt := xCall m__law_length (aLen 1 (aCons (xV 21) aNil))) (st := [a0, a1, a2, a3, a4, a5, a6, a7, some (en F), some (en I), a10, a11, a12, a13, a14, a15, a16, a17, a18, a19, a20, none, a22]) (t := t) (en : Pt → Dt) (fun p => (en (half p.length) : Dt)) F fun x hx => ⟨_, rfl, by have : x.length ≤ 1000 := hFs x hx; simp [law_length_p x (by omega)]⟩
  have hF2 : F.length ≤ 16777216 := by omega
  have hI2 : I.length ≤ 16777216 := by omega
  rw [show (I.filter fun _ => false) = [] by simp] at hc
  simp only [List.map_nil] at hc
  generalize F.map (fun p => (en (half p.length) : Dt)) = W at hc2 hsum
  simp [hF2, hI2, hc, hc2, hsum]
theorem r_10 {F I : List Pt} {s lo hi : Rat} {a0 a1 a2 a4 a5 a10 a11 a12 a13 a14 a15 a16 a17 a18 a19 a20 a21 a22 : Option Dt} {t : Ti} (hF : 0 < F.length) (h1 : m_can_cut_stretch [en lo, en hi, .int (I.length : Int)] = some (.bool true)) (h2 : m_can_cut_stretch [en lo, en hi, .int ((F.length - 1 : Nat) : Int)] = some (.bool false)) :
    (zSet 3 (x2 addD (xV 3) (dN (nLst (aCons (xCall m_can_cut_stretch (aLen 3 (aCons (xV 6) (aCons (xV 7) (aCons (xCall lenD (aCons (xV 9) aNil)) aNil))))) (aCons (xCall m_can_cut_stretch (aLen 3 (aCons (xV 6) (aCons (xV 7) (aCons (x2 subD (xCall lenD (aCons (xV 8) aNil)) (xC (.int 1))) aNil))))) aNil)))))) [a0, a1, a2, some (.list [.list [], en s]), a4, a5, some (en lo), some (en hi), some (en F), some (en I), a10, a11, a12, a13, a14, a15, a16, a17, a18, a19, a20, a21, a22] t = some (.nx [a0, a1, a2, some (.list [.list [], en s, .bool true, .bool false]), a4, a5, some (en lo), some (en hi), some (en F), some (en I), a10, a11, a12, a13, a14, a15, a16, a17, a18, a19, a20, a21, a22] t) := by
  have e : (F.length : Int) - 1 = ((F.length - 1 : Nat) : Int) := by omega
  rw [← e] at h2
  have ha : addD (.list [.list [], en s]) (.list [.bool true, .bool false]) = some (.list [.list [], en s, .bool true, .bool false]) := (rfl)
  simp [h1, h2, ha]
theorem r_11 {s lo hi : Rat} {a0 a1 a2 a4 a5 a8 a9 a10 a11 a12 a13 a14 a15 a16 a17 a18 a19 a20 a21 a22 : Option Dt} {t : Ti} (hlo : Sz lo) (hhi : Sz hi) (hs : hi + -lo = s) :
    (zIf (bNot (bV (xCall m__law_same (aLen 2 (aCons (xV 3) (aCons (dN (nLst (aCons (dN (nLst aNil)) (aCons (xCall m__law_add (aLen 2 (aCons (xV 7) (aCons (xCall m__law_neg (aLen 1 (aCons (xV 6) aNil))) aNil)))) (aCons (xC (.bool true)) (aCons (xC (.bool false)) aNil)))))) aNil)))))) (zRt (xC (.bool false))) zNil) [a0, a1, a2, some (.list [.list [], en s, .bool true, .bool false]), a4, a5, some (en lo), some (en hi), a8, a9, a10, a11, a12, a13, a14, a15, a16, a17, a18, a19, a20, a21, a22] t = some (.nx [a0, a1, a2, some (.list [.list [], en s, .bool true, .bool false]), a4, a5, some (en lo), some (en hi), a8, a9, a10, a11, a12, a13, a14, a15, a16, a17, a18, a19, a20, a21, a22] t) := by
  have h1 := law_neg_q lo
  have h2 := law_add_q hhi (sz_neg hlo)
  rw [hs] at h2
  have hsame := same_l (ds := [.list [], en s, .bool true, .bool false]) (by simp) fun d hd => by
    simp only [List.mem_cons, List.not_mem_nil, or_false] at hd
    rcases hd with rfl | rfl | rfl | rfl
    · simp [okS, okSs]
    · exact okS_q
    · exact okS_b
    · exact okS_b
  simp [h1, h2, hsame]
theorem r_12 {I K : List Pt} {lo hi : Rat} {a0 a1 a2 a3 a4 a5 a8 a10 a11 a12 a13 a14 a15 a16 a17 a18 a19 a20 a21 a22 : Option Dt} {t : Ti} (h : m_cut_stretch [en lo, en hi, .int (I.length : Int)] = some (en K)) :
    (zSet 10 (xCall m_cut_stretch (aLen 3 (aCons (xV 6) (aCons (xV 7) (aCons (xCall lenD (aCons (xV 9) aNil)) aNil)))))) [a0, a1, a2, a3, a4, a5, some (en lo), some (en hi), a8, some (en I), a10, a11, a12, a13, a14, a15, a16, a17, a18, a19, a20, a21, a22] t = some (.nx [a0, a1, a2, a3, a4, a5, some (en lo), some (en hi), a8, some (en I), some (en K), a11, a12, a13, a14, a15, a16, a17, a18, a19, a20, a21, a22] t) := by
  simp [h]
theorem r_13 {P K : List Pt} {k j : Nat} {a0 a2 a3 a6 a7 a8 a9 a11 a12 a13 a14 a15 a16 a17 a18 a19 a20 a21 a22 : Option Dt} {t : Ti} (hl : P.length + K.length ≤ 1000) :
    (zSet 11 (x2 addD (x2 addD (xSl slD (xV 1) oNo (oSo (xV 4))) (xV 10)) (xSl slD (xV 1) (oSo (xV 5)) oNo))) [a0, some (en P), a2, a3, some (.int (k : Int)), some (.int (j : Int)), a6, a7, a8, a9, some (en K), a11, a12, a13, a14, a15, a16, a17, a18, a19, a20, a21, a22] t = some (.nx [a0, some (en P), a2, a3, some (.int (k : Int)), some (.int (j : Int)), a6, a7, a8, a9, some (en K), some (en (P.take k ++ K ++ P.drop j)), a12, a13, a14, a15, a16, a17, a18, a19, a20, a21, a22] t) := by
  have e1 := sl_to P k
  have e2 := sl_from P j
  have e3 := add_en (P.take k) K (by rw [List.length_take]; omega)
  have e4 := add_en (P.take k ++ K) (P.drop j) (by simp; omega)
  simp [e1, e2, e3, e4]
theorem r_14 {F F1 K K1 R : List Pt} {a0 a1 a2 a3 a4 a5 a6 a7 a9 a12 a13 a14 a15 a16 a17 a18 a19 a20 a21 a22 : Option Dt} {t : Ti} (h1 : m_is_cutting [en R] = some (.bool true)) (h2 : m_cutting_with [en F] = some (en F1)) (h3 : m_is_finer [en R, en F1] = some (.bool true)) (h4 : m_cutting_with [en K] = some (en K1)) (h5 : m__law_fine [en K] = some (en K1)) :
    (zSet 3 (dN (nLst (aCons (xCall lenD (aCons (xV 10) aNil)) (aCons (xCall m_is_cutting (aLen 1 (aCons (xV 11) aNil))) (aCons (xCall m_is_finer (aLen 2 (aCons (xV 11) (aCons (xCall m_cutting_with (aLen 1 (aCons (xV 8) aNil))) aNil)))) (aCons (x2 eqD (xCall m_cutting_with (aLen 1 (aCons (xV 10) aNil))) (xCall m__law_fine (aLen 1 (aCons (xV 10) aNil)))) aNil))))))) [a0, a1, a2, a3, a4, a5, a6, a7, some (en F), a9, some (en K), some (en R), a12, a13, a14, a15, a16, a17, a18, a19, a20, a21, a22] t = some (.nx [a0, a1, a2, some (.list [.int (K.length : Int), .bool true, .bool true, .bool true]), a4, a5, a6, a7, some (en F), a9, some (en K), some (en R), a12, a13, a14, a15, a16, a17, a18, a19, a20, a21, a22] t) := by
  have he := eq_en K1 K1 (by decide)
  simp at he
  simp [h1, h2, h3, h4, h5, he]
theorem r_15 {F F1 K : List Pt} {a0 a1 a2 a4 a5 a6 a7 a9 a10 a11 a12 a13 a14 a15 a16 a17 a18 a19 a20 a21 a22 : Option Dt} {t : Ti} (hF : F.length ≤ 1000) (h2 : m_cutting_with [en F] = some (en F1)) (hsub : ∀ p ∈ F, p ∈ F1) :
    (zSet 3 (x2 addD (xV 3) (dN (nLst (aCons (dN (nLc (nSeq (xV 8)) (.nm 21) [21] (bV (x2 ninD (xV 21) (xCall m_cutting_with (aLen 1 (aCons (xV 8) aNil))))) (xV 21))) aNil))))) [a0, a1, a2, some (.list [.int (K.length : Int), .bool true, .bool true, .bool true]), a4, a5, a6, a7, some (en F), a9, a10, a11, a12, a13, a14, a15, a16, a17, a18, a19, a20, a21, a22] t = some (.nx [a0, a1, a2, some (.list [.int (K.length : Int), .bool true, .bool true, .bool true, .list []]), a4, a5, a6, a7, some (en F), a9, a10, a11, a12, a13, a14, a15, a16, a17, a18, a19, a20, a21, a22] t) := by
  have hc := lc_enc (p := .nm 21) (cnd := bV (x2 ninD (xV 21) (xCall m_cutting_with (aLen 1 (aCons (xV 8) aNil))))) (elt := xV 21) (st := [a0, a1, a2, some (.list [.int (K.length : Int), .bool true, .bool true, .bool true]), a4, a5, a6, a7, some (en F), a9, a10, a11, a12, a13, a14, a15, a16, a17, a18, a19, a20, none, a22]) (t := t) (en : Pt → Dt) (fun _ => false) (en : Pt → Dt) F fun x hx => ⟨_, rfl, by
    have hn := nin_en x F1 (by decide)
    simp only [hsub x hx, not_true, decide_false] at hn
    simp [h2, hn], fun h => by cases h⟩
  rw [show (F.filter fun _ => false) = [] by simp] at hc
  simp only [List.map_nil] at hc
  have hF2 : F.length ≤ 16777216 := by omega
  have ha : addD (.list [.int (K.length : Int), .bool true, .bool true, .bool true]) (.list [.list []]) = some (.list [.int (K.length : Int), .bool true, .bool true, .bool true, .list []]) := (rfl)
  simp [hF2, hc, ha]
theorem r_16 {K I : List Pt} {a0 a1 a2 a4 a5 a6 a7 a8 a10 a11 a12 a13 a14 a15 a16 a17 a18 a19 a20 a21 a22 : Option Dt} {t : Ti} (hl : K.length = I.length) :
    (zIf (bNot (bV (xCall m__law_same (aLen 2 (aCons (xV 3) (aCons (dN (nLst (aCons (xCall lenD (aCons (xV 9) aNil)) (aCons (xC (.bool true)) (aCons (xC (.bool true)) (aCons (xC (.bool true)) (aCons (dN (nLst aNil)) aNil))))))) aNil)))))) (zRt (xC (.bool false))) zNil) [a0, a1, a2, some (.list [.int (K.length : Int), .bool true, .bool true, .bool true, .list []]), a4, a5, a6, a7, a8, some (en I), a10, a11, a12, a13, a14, a15, a16, a17, a18, a19, a20, a21, a22] t = some (.nx [a0, a1, a2, some (.list [.int (K.length : Int), .bool true, .bool true, .bool true, .list []]), a4, a5, a6, a7, a8, some (en I), a10, a11, a12, a13, a14, a15, a16, a17, a18, a19, a20, a21, a22] t) := by
  have hsame := same_l (ds := [.int (I.length : Int), .bool true, .bool true, .bool true, .list []]) (by simp) fun d hd => by
    simp only [List.mem_cons, List.not_mem_nil, or_false] at hd
    rcases hd with rfl | rfl | rfl | rfl | rfl
    · exact okS_i
    · exact okS_b
    · exact okS_b
    · exact okS_b
    · simp [okS, okSs]
  simp [hl, hsame]
theorem r_17 {P J : List Pt} {a0 a2 a3 a4 a5 a6 a7 a8 a9 a10 a11 a12 a13 a14 a15 a16 a17 a18 a19 a20 a21 a22 : Option Dt} {t : Ti} (h : m_joints_of [en P] = some (en J)) :
    (zSet 12 (xCall m_joints_of (aLen 1 (aCons (xV 1) aNil)))) [a0, some (en P), a2, a3, a4, a5, a6, a7, a8, a9, a10, a11, a12, a13, a14, a15, a16, a17, a18, a19, a20, a21, a22] t = some (.nx [a0, some (en P), a2, a3, a4, a5, a6, a7, a8, a9, a10, a11, some (en J), a13, a14, a15, a16, a17, a18, a19, a20, a21, a22] t) := by
  simp [h]
theorem r_18 {J : List Pt} {md : Pt → Rat} {a0 a1 a2 a3 a4 a5 a6 a7 a8 a9 a10 a11 a13 a14 a15 a16 a17 a18 a19 a20 a21 a22 : Option Dt} {t : Ti} (hJ : J.length ≤ 1000) (h : ∀ p ∈ J, m_part_middle [en p] = some (en (md p))) :
    (zLcD 13 [] (nLc (nSeq (xV 12)) (.nm 21) [21] bYes (xCall m_part_middle (aLen 1 (aCons (xV 21) aNil))))) [a0, a1, a2, a3, a4, a5, a6, a7, a8, a9, a10, a11, some (en J), a13, a14, a15, a16, a17, a18, a19, a20, a21, a22] t = some (.nx [a0, a1, a2, a3, a4, a5, a6, a7, a8, a9, a10, a11, some (en J), some (.list ((J.map md).map en)), a14, a15, a16, a17, a18, a19, a20, a21, a22] t) := by
  have hc := lc_map (p := .nm 21) (elt := xCall m_part_middle (aLen 1 (aCons (xV 21) aNil))) (st := [a0, a1, a2, a3, a4, a5, a6, a7, a8, a9, a10, a11, some (en J), a13, a14, a15, a16, a17, a18, a19, a20, none, a22]) (t := t) (en : Pt → Dt) (fun p => (en (md p) : Dt)) J fun x hx => ⟨_, rfl, by simp [h x hx]⟩
  rw [show J.map (fun p => (en (md p) : Dt)) = (J.map md).map en by rw [List.map_map]; rfl] at hc
  have hJ2 : J.length ≤ 16777216 := by omega
  generalize (J.map md).map (en : Rat → Dt) = W at hc
  simp [hJ2, hc]
theorem r_19 {P J : List Pt} {Q M : List Rat} {a0 a3 a4 a5 a6 a7 a8 a9 a10 a11 a14 a15 a16 a17 a18 a19 a20 a21 a22 : Option Dt} {t : Ti} (hJ : J.length ≤ 1000) (hJs : ∀ p ∈ J, sP p) (hM : M.length ≤ 1000) (hQ : Q.length ≤ 1001) (h1 : m__law_joints [en P] = some (.list (J.map en))) (h2 : m__law_worth [.list ((Q.filter fun q => decide (q ∉ ([0, 1] : List Rat))).map en)] = some (.list (M.map en))) :
    (zIf (bNot (bV (xCall m__law_same (aLen 2 (aCons (dN (nLst (aCons (dN (nCall lstA (aCons (xV 12) aNil))) (aCons (xV 13) aNil)))) (aCons (dN (nLst (aCons (xCall m__law_joints (aLen 1 (aCons (xV 1) aNil))) (aCons (xCall m__law_worth (aLen 1 (aCons (dN (nLc (nSeq (xV 2)) (.nm 21) [21] (bV (x2 ninD (xV 21) (xTup (aCons (xTup (aCons (xC (.int 0)) (aCons (xC (.int 1)) aNil))) (aCons (xTup (aCons (xC (.int 1)) (aCons (xC (.int 1)) aNil))) aNil))))) (xV 21))) aNil))) aNil)))) aNil)))))) (zRt (xC (.bool false))) zNil) [a0, some (en P), some (.list (Q.map en)), a3, a4, a5, a6, a7, a8, a9, a10, a11, some (en J), some (.list (M.map en)), a14, a15, a16, a17, a18, a19, a20, a21, a22] t = some (.nx [a0, some (en P), some (.list (Q.map en)), a3, a4, a5, a6, a7, a8, a9, a10, a11, some (en J), some (.list (M.map en)), a14, a15, a16, a17, a18, a19, a20, a21, a22] t) := by
  have hc := lc_enc (p := .nm 21) (cnd := bV (x2 ninD (xV 21) (xTup (aCons (xTup (aCons (xC (.int 0)) (aCons (xC (.int 1)) aNil))) (aCons (xTup (aCons (xC (.int 1)) (aCons (xC (.int 1)) aNil))) aNil))))) (elt := xV 21) (st := [a0, some (en P), some (.list (Q.map en)), a3, a4, a5, a6, a7, a8, a9, a10, a11, some (en J), some (.list (M.map en)), a14, a15, a16, a17, a18, a19, a20, none, a22]) (t := t) (en : Rat → Dt) (fun q => decide (q ∉ ([0, 1] : List Rat))) (en : Rat → Dt) Q fun x hx => ⟨_, rfl, by
    have hn := nin_en x [0, 1] (by decide)
    rw [show (en ([0, 1] : List Rat) : Dt) = .tuple [.tuple [.int 0, .int 1], .tuple [.int 1, .int 1]] from rfl] at hn
    generalize decide (x ∉ ([0, 1] : List Rat)) = b at hn
    simp [hn], fun _ => by simp⟩
  have hQ2 : (Q.map (en : Rat → Dt)).length ≤ 16777216 := by rw [List.length_map]; omega
  have hsame := same_l (ds := [.list (J.map en), .list (M.map en)]) (by simp) fun d hd => by
    simp only [List.mem_cons, List.not_mem_nil, or_false] at hd
    rcases hd with rfl | rfl
    · exact okS_lc (by omega) fun p hp => by have : p.length ≤ 1000 := hJs p hp; omega
    · exact okS_lq (by omega)
  generalize (Q.filter fun q => decide (q ∉ ([0, 1] : List Rat))).map (en : Rat → Dt) = W at hc h2
  generalize Q.map (en : Rat → Dt) = W2 at hc hQ2
  generalize M.map (en : Rat → Dt) = W3 at hc h2 hsame
  have hla := lst_en J
  generalize J.map (en : Pt → Dt) = W4 at hla h1 hsame
  simp [hc, hQ2, h1, h2, hla, hsame]
theorem r_20 {P J : List Pt} {a0 a2 a3 a4 a5 a6 a7 a8 a9 a10 a11 a13 a14 a15 a16 a17 a18 a19 a20 a21 a22 : Option Dt} {t : Ti} (hJ : J.length ≤ 1000) (hJs : ∀ p ∈ J, sP p) (hlen : J.length + 1 = P.length) :
    (zIf (bOr (bV (x2 neD (xCall lenD (aCons (xV 12) aNil)) (x2 subD (xCall lenD (aCons (xV 1) aNil)) (xC (.int 1))))) (bV (x2 neD (dN (nLc (nSeq (xV 12)) (.nm 21) [21] (bV (x2 neD (xCall m_joint_side (aLen 1 (aCons (xV 21) aNil))) (xCall m__law_side (aLen 1 (aCons (xV 21) aNil))))) (xV 21))) (dN (nLst aNil))))) (zRt (xC (.bool false))) zNil) [a0, some (en P), a2, a3, a4, a5, a6, a7, a8, a9, a10, a11, some (en J), a13, a14, a15, a16, a17, a18, a19, a20, a21, a22] t = some (.nx [a0, some (en P), a2, a3, a4, a5, a6, a7, a8, a9, a10, a11, some (en J), a13, a14, a15, a16, a17, a18, a19, a20, a21, a22] t) := by
  have hc := lc_enc (p := .nm 21) (cnd := bV (x2 neD (xCall m_joint_side (aLen 1 (aCons (xV 21) aNil))) (xCall m__law_side (aLen 1 (aCons (xV 21) aNil))))) (elt := xV 21) (st := [a0, some (en P), a2, a3, a4, a5, a6, a7, a8, a9, a10, a11, some (en J), a13, a14, a15, a16, a17, a18, a19, a20, none, a22]) (t := t) (en : Pt → Dt) (fun _ => false) (en : Pt → Dt) J fun x hx => ⟨_, rfl, by
    have h1 := joint_side_p x (hJs x hx)
    have h2 := law_side_p x
    generalize hS : (if true ∈ x then (if false ∈ x then ("inner" : Str) else "right") else "left") = S at h1 h2
    have hsh : shp (.str S) = true := shp_of (by
      rw [PyData.canLay0, ← hS]
      split
      · split <;> decide +kernel
      · decide +kernel) (by simp [PyData.depth])
    have hn : neD (.str S) (.str S) = some (.bool false) := by
      unfold neD
      rw [hsh, if_pos (show (true && true) = true from rfl)]
      simp [PyData.eqv]
    simp [h1, h2, hn], fun h => by cases h⟩
  rw [show (J.filter fun _ => false) = [] by simp] at hc
  simp only [List.map_nil] at hc
  have hJ2 : J.length ≤ 16777216 := by omega
  have hn : neD (.list []) (.list []) = some (.bool false) := by
    have := ne_nilL ([] : List Pt) (by decide)
    simpa using this
  have e : (J.length : Int) = (P.length : Int) - 1 := by omega
  simp [e, hJ2, hc, hn]
theorem r_21 {P : List Pt} {pt : Pt} {a0 a2 a3 a4 a5 a6 a7 a8 a9 a10 a11 a12 a13 a14 a15 a16 a17 a18 a19 a20 a21 a22 : Option Dt} {t t1 : Ti} (h : m__law_of [.list (P.map en)] t = some (en pt, t1)) :
    (zSet 14 (xCallT m__law_of (aLen 1 (aCons (dN (nCall lstA (aCons (xV 1) aNil))) aNil)))) [a0, some (en P), a2, a3, a4, a5, a6, a7, a8, a9, a10, a11, a12, a13, a14, a15, a16, a17, a18, a19, a20, a21, a22] t = some (.nx [a0, some (en P), a2, a3, a4, a5, a6, a7, a8, a9, a10, a11, a12, a13, some (en pt), a15, a16, a17, a18, a19, a20, a21, a22] t1) := by
  have hla := lst_en P
  generalize P.map (en : Pt → Dt) = W4 at hla h
  simp [hla, h]
theorem r_22 {pt : Pt} {n : Int} {a0 a1 a2 a3 a4 a5 a6 a7 a8 a9 a10 a11 a12 a13 a15 a16 a17 a18 a19 a20 a21 a22 : Option Dt} {t : Ti} (h : m_part_number [en pt] = some (.int n)) :
    (zSet 15 (xCall m_part_number (aLen 1 (aCons (xV 14) aNil)))) [a0, a1, a2, a3, a4, a5, a6, a7, a8, a9, a10, a11, a12, a13, some (en pt), a15, a16, a17, a18, a19, a20, a21, a22] t = some (.nx [a0, a1, a2, a3, a4, a5, a6, a7, a8, a9, a10, a11, a12, a13, some (en pt), some (.int n), a16, a17, a18, a19, a20, a21, a22] t) := by
  simp [h]
theorem r_23 {pt : Pt} {n : Int} {L : List Pt} {a0 a1 a2 a3 a4 a5 a6 a7 a8 a9 a10 a11 a12 a13 a16 a17 a18 a19 a20 a21 a22 : Option Dt} {t : Ti} (h1 : m_part_at [.int n] = some (en pt)) (h2 : m_part_at [.int (2 * n + 1)] = some (en (pt ++ [false]))) (h3 : m_part_at [.int (2 * n + 2)] = some (en (pt ++ [true]))) (h4 : m_parts_so_long [.int (min (pt.length : Int) 10)] = some (.list (L.map en))) (hcn : cntD (.list (L.map en)) [en (pt.take 10)] = some (.int 1)) :
    (zSet 3 (dN (nLst (aCons (xCall m_part_at (aLen 1 (aCons (xV 15) aNil))) (aCons (xCall m_part_at (aLen 1 (aCons (x2 addD (x2 mulI (xC (.int 2)) (xV 15)) (xC (.int 1))) aNil))) (aCons (xCall m_part_at (aLen 1 (aCons (x2 addD (x2 mulI (xC (.int 2)) (xV 15)) (xC (.int 2))) aNil))) (aCons (xMe "list" cntD (xCall m_parts_so_long (aLen 1 (aCons (xCall minD (aCons (xCall lenD (aCons (xV 14) aNil)) (aCons (xC (.int 10)) aNil))) aNil))) (aCons (xSl slD (xV 14) oNo (oSo (xC (.int 10)))) aNil)) aNil))))))) [a0, a1, a2, a3, a4, a5, a6, a7, a8, a9, a10, a11, a12, a13, some (en pt), some (.int n), a16, a17, a18, a19, a20, a21, a22] t = some (.nx [a0, a1, a2, some (.list [en pt, en (pt ++ [false]), en (pt ++ [true]), .int 1]), a4, a5, a6, a7, a8, a9, a10, a11, a12, a13, some (en pt), some (.int n), a16, a17, a18, a19, a20, a21, a22] t) := by
  have c1 : cMul 2 n = true := cMul_small (.inl (by decide))
  have hs := sl_to pt 10
  rw [show ((10 : Nat) : Int) = 10 from rfl] at hs
  have hT : isT "list" (.list (L.map (en : Pt → Dt))) = true := rfl
  generalize L.map (en : Pt → Dt) = W at h4 hcn hT
  simp [h1, h2, h3, h4, c1, hs, hcn, hT]
theorem r_24 {pt : Pt} {b m : Rat} {a0 a1 a2 a4 a5 a6 a7 a8 a9 a10 a11 a12 a13 a15 a16 a17 a18 a19 a20 a21 a22 : Option Dt} {t : Ti} (h1 : m_part_begin [en pt] = some (en b)) (h2 : m_first_bits [en b, .int (pt.length : Int)] = some (en pt)) (h3 : m_part_middle [en pt] = some (en m)) (h4 : m_dot_depth [en m] = some (.int ((pt.length : Int) + 1))) :
    (zSet 3 (x2 addD (xV 3) (dN (nLst (aCons (xCall m_first_bits (aLen 2 (aCons (xCall m_part_begin (aLen 1 (aCons (xV 14) aNil))) (aCons (xCall lenD (aCons (xV 14) aNil)) aNil)))) (aCons (xCall m_dot_depth (aLen 1 (aCons (xCall m_part_middle (aLen 1 (aCons (xV 14) aNil))) aNil))) aNil)))))) [a0, a1, a2, some (.list [en pt, en (pt ++ [false]), en (pt ++ [true]), .int 1]), a4, a5, a6, a7, a8, a9, a10, a11, a12, a13, some (en pt), a15, a16, a17, a18, a19, a20, a21, a22] t = some (.nx [a0, a1, a2, some (.list [en pt, en (pt ++ [false]), en (pt ++ [true]), .int 1, en pt, .int ((pt.length : Int) + 1)]), a4, a5, a6, a7, a8, a9, a10, a11, a12, a13, some (en pt), a15, a16, a17, a18, a19, a20, a21, a22] t) := by
  have ha : addD (.list [en pt, en (pt ++ [false]), en (pt ++ [true]), .int 1]) (.list [en pt, .int ((pt.length : Int) + 1)]) = some (.list [en pt, en (pt ++ [false]), en (pt ++ [true]), .int 1, en pt, .int ((pt.length : Int) + 1)]) := (rfl)
  simp [h1, h2, h3, h4, ha]
theorem r_25 {pt : Pt} {a0 a1 a2 a4 a5 a6 a7 a8 a9 a10 a11 a12 a13 a15 a16 a17 a18 a19 a20 a21 a22 : Option Dt} {t : Ti} (hp : sP pt) :
    (zIf (bNot (bV (xCall m__law_same (aLen 2 (aCons (xV 3) (aCons (dN (nLst (aCons (xV 14) (aCons (x2 addD (xV 14) (xTup (aCons (xC (.int 0)) aNil))) (aCons (x2 addD (xV 14) (xTup (aCons (xC (.int 1)) aNil))) (aCons (xC (.int 1)) (aCons (xV 14) (aCons (x2 addD (xCall lenD (aCons (xV 14) aNil)) (xC (.int 1))) aNil)))))))) aNil)))))) (zRt (xC (.bool false))) zNil) [a0, a1, a2, some (.list [en pt, en (pt ++ [false]), en (pt ++ [true]), .int 1, en pt, .int ((pt.length : Int) + 1)]), a4, a5, a6, a7, a8, a9, a10, a11, a12, a13, some (en pt), a15, a16, a17, a18, a19, a20, a21, a22] t = some (.nx [a0, a1, a2, some (.list [en pt, en (pt ++ [false]), en (pt ++ [true]), .int 1, en pt, .int ((pt.length : Int) + 1)]), a4, a5, a6, a7, a8, a9, a10, a11, a12, a13, some (en pt), a15, a16, a17, a18, a19, a20, a21, a22] t) := by
  have hl : pt.length ≤ 1000 := hp
  have hsame := same_l (ds := [en pt, en (pt ++ [false]), en (pt ++ [true]), .int 1, en pt, .int ((pt.length : Int) + 1)]) (by simp) fun d hd => by
    simp only [List.mem_cons, List.not_mem_nil, or_false] at hd
    rcases hd with rfl | rfl | rfl | rfl | rfl | rfl
    · exact okS_p (by omega)
    · exact okS_p (by simp; omega)
    · exact okS_p (by simp; omega)
    · exact okS_i
    · exact okS_p (by omega)
    · exact okS_i
  simp [add_f pt (by omega), add_t pt (by omega), hsame]
theorem r_26 {pt : Pt} {a0 a1 a2 a3 a4 a5 a6 a7 a8 a9 a10 a11 a12 a13 a15 a16 a17 a18 a19 a20 a21 a22 : Option Dt} {t : Ti} (hp : sP pt) : ∃ u, (zIf (bV (x2 neD (xV 14) (xTup aNil))) (zSeq (zSet 16 (dN (nLst (aCons (x2 ixD (xCall m_halves_of (aLen 1 (aCons (xSl slD (xV 14) oNo (oSo (x1 negD (xC (.int 1))))) aNil))) (x2 subD (xC (.int 1)) (x2 ixD (xV 14) (x1 negD (xC (.int 1)))))) (aCons (xCall m_common_part (aLen 2 (aCons (xV 14) (aCons (xCall m_mate_of (aLen 1 (aCons (xV 14) aNil))) aNil)))) (aCons (xCall m_are_parts_apart (aLen 2 (aCons (xV 14) (aCons (xCall m_mate_of (aLen 1 (aCons (xV 14) aNil))) aNil)))) aNil)))))) (zIf (bNot (bV (xCall m__law_same (aLen 2 (aCons (xV 16) (aCons (dN (nLst (aCons (xCall m_mate_of (aLen 1 (aCons (xV 14) aNil))) (aCons (xSl slD (xV 14) oNo (oSo (x1 negD (xC (.int 1))))) (aCons (xC (.bool true)) aNil))))) aNil)))))) (zRt (xC (.bool false))) zNil)) zNil) [a0, a1, a2, a3, a4, a5, a6, a7, a8, a9, a10, a11, a12, a13, some (en pt), a15, a16, a17, a18, a19, a20, a21, a22] t = some (.nx [a0, a1, a2, a3, a4, a5, a6, a7, a8, a9, a10, a11, a12, a13, some (en pt), a15, u, a17, a18, a19, a20, a21, a22] t) := by
  have hl : pt.length ≤ 1000 := hp
  rcases List.eq_nil_or_concat pt with rfl | ⟨p, b, rfl⟩
  · refine ⟨a16, ?_⟩
    have hn : neD (en ([] : Pt)) (.tuple []) = some (.bool false) := by
      have := ne_nilT ([] : Pt) (by decide)
      simpa using this
    simp [hn]
  · rw [List.concat_eq_append] at hl hp ⊢
    have hl2 : p.length + 1 ≤ 1000 := by simpa using hl
    have hn : neD (en (p ++ [b])) (.tuple []) = some (.bool true) := by
      have := ne_nilT (p ++ [b]) (by decide)
      rw [this]; cases p <;> rfl
    have hs := sl_butlast (p ++ [b])
    rw [List.dropLast_concat] at hs
    have hh := halves_p p (by show p.length ≤ 1000; omega)
    have hx := ix_enL p b
    have hm := mate_p p b (by show p.length ≤ 1000; omega)
    have hix : ixD (en ((p ++ [false], p ++ [true]) : Pt × Pt)) (.int (1 - if b = true then 1 else 0)) = some (en (p ++ [!b])) := by
      cases b <;> rfl
    have hc := common_part_p (p ++ [b]) (p ++ [!b]) (by show (p ++ [b]).length ≤ 1000; simp; omega) (by show (p ++ [!b]).length ≤ 1000; simp; omega)
    rw [lcp_mate] at hc
    have hap := apart_p (p ++ [b]) (p ++ [!b]) (by show (p ++ [b]).length ≤ 1000; simp; omega) (by show (p ++ [!b]).length ≤ 1000; simp; omega)
    have n1 : ¬ (p ++ [!b] <+: p ++ [b]) := fun e => by
      have := List.append_cancel_left (e.eq_of_length (by simp))
      cases b <;> simp at this
    have n2 : ¬ (p ++ [b] <+: p ++ [!b]) := fun e => by
      have := List.append_cancel_left (e.eq_of_length (by simp))
      cases b <;> simp at this
    simp only [n1, n2, decide_false, Bool.or_false, Bool.not_false] at hap
    have hsame := same_l (ds := [en (p ++ [!b]), en p, .bool true]) (by simp) fun d hd => by
      simp only [List.mem_cons, List.not_mem_nil, or_false] at hd
      rcases hd with rfl | rfl | rfl
      · exact okS_p (by simp; omega)
      · exact okS_p (by omega)
      · exact okS_b
    rw [en_bool] at hx
    refine ⟨some (.list [en (p ++ [!b]), en p, .bool true]), ?_⟩
    simp [hn, hs, hh, hx, hix, hm, hc, hap, hsame]
theorem r_27 {P : List Pt} {a0 a1 a2 a3 a4 a5 a6 a7 a8 a9 a10 a11 a12 a13 a14 a15 a16 a17 a18 a19 a20 a21 a22 : Option Dt} {t t1 : Ti} (hcut : m__law_cut [.int 12] t = some (en P, t1)) :
    (zSet 17 (xCallT m__law_cut (aLen 1 (aCons (xC (.int 12)) aNil)))) [a0, a1, a2, a3, a4, a5, a6, a7, a8, a9, a10, a11, a12, a13, a14, a15, a16, a17, a18, a19, a20, a21, a22] t = some (.nx [a0, a1, a2, a3, a4, a5, a6, a7, a8, a9, a10, a11, a12, a13, a14, a15, a16, some (en P), a18, a19, a20, a21, a22] t1) := by
  simp [hcut]
theorem r_28 {P P2 U V : List Pt} {a0 a2 a3 a4 a5 a6 a7 a8 a9 a10 a11 a12 a13 a14 a15 a16 a18 a19 a20 a21 a22 : Option Dt} {t : Ti} (h1 : m_common_finer [en P, en P2] = some (en U)) (h2 : m_common_coarser [en P, en P2] = some (en V)) :
    (zPar 18 19 (xCall m_common_finer (aLen 2 (aCons (xV 1) (aCons (xV 17) aNil)))) (xCall m_common_coarser (aLen 2 (aCons (xV 1) (aCons (xV 17) aNil))))) [a0, some (en P), a2, a3, a4, a5, a6, a7, a8, a9, a10, a11, a12, a13, a14, a15, a16, some (en P2), a18, a19, a20, a21, a22] t = some (.nx [a0, some (en P), a2, a3, a4, a5, a6, a7, a8, a9, a10, a11, a12, a13, a14, a15, a16, some (en P2), some (en U), some (en V), a20, a21, a22] t) := by
  simp [h1, h2]
theorem r_29 {P P2 P3 U V : List Pt} {pt : Pt} {s1 s2 s3 s4 : Int} {a0 a2 a3 a4 a5 a6 a7 a8 a9 a10 a11 a12 a13 a15 a16 a20 a21 a22 : Option Dt} {t : Ti} (h1 : m_split_at [en P, en pt] = some (en P3)) (h2 : m_joined_at [en P3, en pt] = some (en P)) (h3 : m_splits_between [en P, en U] = some (.int s1)) (h4 : m_splits_between [en P2, en U] = some (.int s2)) (h5 : m_splits_between [en V, en P] = some (.int s3)) (h6 : m_splits_between [en V, en P2] = some (.int s4)) :
    (zSet 3 (dN (nLst (aCons (xCall m_joined_at (aLen 2 (aCons (xCall m_split_at (aLen 2 (aCons (xV 1) (aCons (xV 14) aNil)))) (aCons (xV 14) aNil)))) (aCons (x2 addD (xCall m_splits_between (aLen 2 (aCons (xV 1) (aCons (xV 18) aNil)))) (xCall m_splits_between (aLen 2 (aCons (xV 17) (aCons (xV 18) aNil))))) (aCons (x2 addD (xCall m_splits_between (aLen 2 (aCons (xV 19) (aCons (xV 1) aNil)))) (xCall m_splits_between (aLen 2 (aCons (xV 19) (aCons (xV 17) aNil))))) aNil)))))) [a0, some (en P), a2, a3, a4, a5, a6, a7, a8, a9, a10, a11, a12, a13, some (en pt), a15, a16, some (en P2), some (en U), some (en V), a20, a21, a22] t = some (.nx [a0, some (en P), a2, some (.list [en P, .int (s1 + s2), .int (s3 + s4)]), a4, a5, a6, a7, a8, a9, a10, a11, a12, a13, some (en pt), a15, a16, some (en P2), some (en U), some (en V), a20, a21, a22] t) := by
  simp [h1, h2, h3, h4, h5, h6]
theorem r_30 {P U V J : List Pt} {s r : Int} {md : Pt → Rat} {a0 a1 a2 a4 a5 a6 a7 a8 a9 a10 a11 a12 a13 a14 a15 a16 a17 a20 a21 a22 : Option Dt} {t : Ti} (hJ : J.length ≤ 1000) (h1 : m_joints_of [en U] = some (en J)) (h : ∀ p ∈ J, m_part_middle [en p] = some (en (md p))) :
    (zSet 3 (x2 addD (xV 3) (dN (nLst (aCons (x2 addD (xCall lenD (aCons (xV 18) aNil)) (xCall lenD (aCons (xV 19) aNil))) (aCons (dN (nLc (nSeq (xCall m_joints_of (aLen 1 (aCons (xV 18) aNil)))) (.nm 21) [21] bYes (xCall m_part_middle (aLen 1 (aCons (xV 21) aNil))))) aNil)))))) [a0, a1, a2, some (.list [en P, .int s, .int r]), a4, a5, a6, a7, a8, a9, a10, a11, a12, a13, a14, a15, a16, a17, some (en U), some (en V), a20, a21, a22] t = some (.nx [a0, a1, a2, some (.list [en P, .int s, .int r, .int ((U.length : Int) + V.length), .list ((J.map md).map en)]), a4, a5, a6, a7, a8, a9, a10, a11, a12, a13, a14, a15, a16, a17, some (en U), some (en V), a20, a21, a22] t) := by
  have hc := lc_map (p := .nm 21) (elt := xCall m_part_middle (aLen 1 (aCons (xV 21) aNil))) (st := [a0, a1, a2, some (.list [en P, .int s, .int r]), a4, a5, a6, a7, a8, a9, a10, a11, a12, a13, a14, a15, a16, a17, some (en U), some (en V), a20, none, a22]) (t := t) (en : Pt → Dt) (fun p => (en (md p) : Dt)) J fun x hx => ⟨_, rfl, by simp [h x hx]⟩
  rw [show J.map (fun p => (en (md p) : Dt)) = (J.map md).map en by rw [List.map_map]; rfl] at hc
  have hJ2 : J.length ≤ 16777216 := by omega
  generalize (J.map md).map (en : Rat → Dt) = W at hc
  have ha : addD (.list [en P, .int s, .int r]) (.list [.int ((U.length : Int) + V.length), .list W]) = some (.list [en P, .int s, .int r, .int ((U.length : Int) + V.length), .list W]) := (rfl)
  simp [h1, hJ2, hc, ha]
theorem r_31 {P P2 J1 J2 : List Pt} {M : List Rat} {md : Pt → Rat} {a0 a2 a3 a4 a5 a6 a7 a8 a9 a10 a11 a12 a13 a14 a15 a16 a18 a19 a20 a21 a22 : Option Dt} {t : Ti} (hJ : J1.length + J2.length ≤ 1000) (h1 : m_joints_of [en P] = some (en J1)) (h2 : m_joints_of [en P2] = some (en J2)) (h : ∀ p ∈ J1 ++ J2, m_part_middle [en p] = some (en (md p))) (hw : m__law_worth [.list (((J1 ++ J2).map md).map en)] = some (.list (M.map en))) :
    (zSet 20 (xCall m__law_worth (aLen 1 (aCons (dN (nLc (nSeq (x2 addD (xCall m_joints_of (aLen 1 (aCons (xV 1) aNil))) (xCall m_joints_of (aLen 1 (aCons (xV 17) aNil))))) (.nm 21) [21] bYes (xCall m_part_middle (aLen 1 (aCons (xV 21) aNil))))) aNil)))) [a0, some (en P), a2, a3, a4, a5, a6, a7, a8, a9, a10, a11, a12, a13, a14, a15, a16, some (en P2), a18, a19, a20, a21, a22] t = some (.nx [a0, some (en P), a2, a3, a4, a5, a6, a7, a8, a9, a10, a11, a12, a13, a14, a15, a16, some (en P2), a18, a19, some (.list (M.map en)), a21, a22] t) := by
  have hc := lc_map (p := .nm 21) (elt := xCall m_part_middle (aLen 1 (aCons (xV 21) aNil))) (st := [a0, some (en P), a2, a3, a4, a5, a6, a7, a8, a9, a10, a11, a12, a13, a14, a15, a16, some (en P2), a18, a19, a20, none, a22]) (t := t) (en : Pt → Dt) (fun p => (en (md p) : Dt)) (J1 ++ J2) fun x hx => ⟨_, rfl, by simp [h x hx]⟩
  rw [show (J1 ++ J2).map (fun p => (en (md p) : Dt)) = ((J1 ++ J2).map md).map en by rw [List.map_map]; rfl] at hc
  have hJ2 : J1.length + J2.length ≤ 16777216 := by omega
  have ha := add_en J1 J2 (by omega)
  have hsq : seqD (en (J1 ++ J2)) = some ((J1 ++ J2).map en) := (rfl)
  have hln : ((J1 ++ J2).map (en : Pt → Dt)).length ≤ 16777216 := by simp; omega
  generalize ((J1 ++ J2).map md).map (en : Rat → Dt) = W at hc hw
  generalize (J1 ++ J2).map (en : Pt → Dt) = W2 at hc hsq hln
  generalize M.map (en : Rat → Dt) = W3 at hw
  simp [h1, h2, ha, hsq, hln, hc, hw]
theorem r_32 {P P2 U V : List Pt} {M : List Rat} {s r : Int} {a0 a2 a4 a5 a6 a7 a8 a9 a10 a11 a12 a13 a14 a15 a16 a21 a22 : Option Dt} {t : Ti} (hP : P.length ≤ 1000) (hPs : ∀ p ∈ P, sP p) (hM : M.length ≤ 1000) (h1 : s = 2 * U.length - P.length - P2.length) (h2 : r = P.length + P2.length - 2 * V.length) (h3 : (U.length : Int) + V.length = P.length + P2.length) : (zRt (xCall m__law_same (aLen 2 (aCons (xV 3) (aCons (dN (nLst (aCons (xV 1) (aCons (x2 subD (x2 subD (x2 mulI (xC (.int 2)) (xCall lenD (aCons (xV 18) aNil))) (xCall lenD (aCons (xV 1) aNil))) (xCall lenD (aCons (xV 17) aNil))) (aCons (x2 subD (x2 addD (xCall lenD (aCons (xV 1) aNil)) (xCall lenD (aCons (xV 17) aNil))) (x2 mulI (xC (.int 2)) (xCall lenD (aCons (xV 19) aNil)))) (aCons (x2 addD (xCall lenD (aCons (xV 1) aNil)) (xCall lenD (aCons (xV 17) aNil))) (aCons (xV 20) aNil))))))) aNil))))) [a0, some (en P), a2, some (.list [en P, .int s, .int r, .int ((U.length : Int) + V.length), .list (M.map en)]), a4, a5, a6, a7, a8, a9, a10, a11, a12, a13, a14, a15, a16, some (en P2), some (en U), some (en V), some (.list (M.map en)), a21, a22] t = some (.rt (.bool true) t) := by
  have hsame := same_l (ds := [en P, .int s, .int r, .int ((U.length : Int) + V.length), .list (M.map en)]) (by simp) fun d hd => by
    simp only [List.mem_cons, List.not_mem_nil, or_false] at hd
    rcases hd with rfl | rfl | rfl | rfl | rfl
    · exact okS_c (by omega) fun p hp => by have : p.length ≤ 1000 := hPs p hp; omega
    · exact okS_i
    · exact okS_i
    · exact okS_i
    · exact okS_lq (by omega)
  have c1 : cMul 2 (U.length : Int) = true := cMul_small (.inl (by decide))
  have c2 : cMul 2 (V.length : Int) = true := cMul_small (.inl (by decide))
  rw [h3] at hsame ⊢
  generalize M.map (en : Rat → Dt) = W at hsame
  subst h1 h2
  simp [c1, c2, hsame]
end K00

namespace K00
open PySem L2 HL
/-! the law -/
theorem okLen {c : List Pt} (h : sC c) : ∀ p ∈ c, sP p := h.2
theorem law_right_t {t0 : Ti} (h0 : TI 0 t0) : ∃ t', m__law_right [] t0 = some (.bool true, t') := by
  obtain ⟨tr, t1, hs, ht1, hcut⟩ := law_cut_t h0 (by omega)
  have hpos := sz_pos tr
  have hd := dep_lt tr
  obtain ⟨E, hE1, hE2⟩ : ∃ E : Nat, 100 ≤ E ∧ E ≤ 1000 := ⟨100, by omega, by omega⟩
  have hdE : dep tr ≤ E := by omega
  have hlen := lv_len [] tr
  obtain ⟨k, t2, hk, ht2, hk'⟩ := take_t ht1 (by omega) (sz tr) hpos (by omega)
  obtain ⟨i, t3, hi, ht3, hi'⟩ := take_t ht2 (by omega) (sz tr - k) (by omega) (by omega)
  have hkj : k < k + 1 + i := by omega
  have hjs : k + 1 + i ≤ sz tr := by omega
  obtain ⟨pi, d, t4, hptm, ht4, hof⟩ := of_t ht3 (by omega) ((lv [] tr).map en) (by
    intro e
    have := congrArg List.length e
    rw [List.length_map, hlen] at this
    simp at this
    omega) (by rw [List.length_map]; omega)
  rw [List.getElem?_map] at hptm
  obtain ⟨pt, hpt, rfl⟩ := Option.map_eq_some_iff.mp hptm
  obtain ⟨tf, t5, hsf, ht5, hcf⟩ := law_cut_t ht4 (by omega)
  have hposf := sz_pos tf
  have hdf := dep_lt tf
  have hC := sC_lv tr (by omega)
  have hCf := sC_lv tf (by omega)
  have hptl : sP pt := hC.2 pt (List.mem_of_getElem? hpt)
  have hptd : pt.length ≤ 12 := by
    have := lv_depth [] tr pt (List.mem_of_getElem? hpt)
    simp at this; omega
  -- the stretch
  generalize hj : k + 1 + i = j at hkj hjs
  have hF := pcs_ne tr [] k j hkj (by omega)
  have hmd := md_mk tr [] k j
  have hFl := pcs_len (mk tr k j) []
  rw [hmd] at hFl
  have hIl : (((lv [] tr).take j).drop k).length = j - k := by rw [List.length_drop, List.length_take, hlen]; omega
  obtain ⟨A, q, hA⟩ : ∃ A q, pcs [] (mk tr k j) = A ++ [q] := by
    rcases List.eq_nil_or_concat (pcs [] (mk tr k j)) with e | ⟨A, q, e⟩
    · exact absurd e hF
    · exact ⟨A, q, by rw [e, List.concat_eq_append]⟩
  have hFA : (pcs [] (mk tr k j)).length = A.length + 1 := by rw [hA]; simp
  have hFs : ∀ p ∈ pcs [] (mk tr k j), p.length ≤ 12 := fun p hp => by
    have h1 := (pcs_sub tr k j (Nat.le_of_lt hkj)).subset hp
    have h2 := lv_depth [] _ p h1
    have h3 := dep_rp tr k j
    simp at h2; omega
  obtain ⟨m, hm⟩ : ∃ m, A.length + 1 + m = j - k := ⟨j - k - (A.length + 1), by omega⟩
  have hrp := lv_rp tr [] k j (Nat.le_of_lt hkj)
  have hszrp : sz (rp (mk tr k j)) + m = sz tr := by
    have := congrArg List.length hrp
    rw [lv_len, List.length_append, List.length_append, List.length_take, List.length_drop, hlen, hFA] at this
    omega
  have hszfn := sz_fn_rp (mk tr k j)
  have hfn : ∀ x, x ∈ inr [] (fn (mk tr k j)) ↔ Ar (pcs [] (mk tr k j)) x := fun x => by
    rw [inr_fn tr [] k j hkj (by omega)]
    exact ⟨fun h => h.2, fun h => ⟨List.nil_prefix, h⟩⟩
  obtain ⟨T', Tc, hT', hSub, hszT, hTc, hszc⟩ := cl_trees ((lv [] tr).take k) ((lv [] tr).drop j) m A q (rp (mk tr k j)) (fn (mk tr k j)) (by rw [hrp, hA]) (by rw [← hA]; exact hfn) (by rw [← hA]; exact pcs_fn (mk tr k j) [])
  have hcl := cl_len m A q
  have hclsub : (cl m A q).Sublist (lv [] T') := by
    rw [hT', List.append_assoc]
    exact (List.sublist_append_left _ _).trans (List.sublist_append_right _ _)
  have hT's : sz T' ≤ 12 := by omega
  have hclp : ∀ p ∈ cl m A q, p.length ≤ 1000 := fun p hp => (sC_lv T' (by omega)).2 p (hclsub.subset hp)
  have hcw1 := cutting_with_c (pcs [] (mk tr k j)) (fn (mk tr k j)) (pcs_apart tr k j (Nat.le_of_lt hkj)) (by omega) (fun p hp => by have := hFs p hp; omega) hfn (by omega)
  have hcw2 := cutting_with_c (cl m A q) Tc ((lv_apart [] T').sublist hclsub) (by omega) hclp hTc (by omega)
  have hlf := law_fine_c (cl m A q) Tc (by omega) hTc (by omega)
  have hcutt : m_is_cutting [en ((lv [] tr).take k ++ cl m A q ++ (lv [] tr).drop j)] = some (.bool true) := by
    rw [← hT']; exact is_cutting_c T' (by omega)
  have hfiner : m_is_finer [en ((lv [] tr).take k ++ cl m A q ++ (lv [] tr).drop j), en (lv [] (fn (mk tr k j)))] = some (.bool true) := by
    rw [← hT']
    exact is_finer_t (fn (mk tr k j)) T' (by omega) (by omega) fun x hx => hSub x (fn_sub (mk tr k j) [] x hx)
  have htp := tot_pcs (E := E) tr [] k j (Nat.le_of_lt hkj) (by simpa using hdE)
  have hle := tot_le E tr hdE
  have hsum := law_sum_l E hE2 (pcs [] (mk tr k j)) (fun p hp => by have := hFs p hp; omega) (by have := hle j; omega)
  have hbd := between_dots_t E tr k j hE2 hdE (by omega) hkj hjs
  have hcc1 := can_cut_t E tr k j hE2 hdE (by omega) hkj hjs (((lv [] tr).take j).drop k).length (by omega)
  rw [decide_eq_true (show (pcs [] (mk tr k j)).length ≤ (((lv [] tr).take j).drop k).length from hFl)] at hcc1
  have hcc2 := can_cut_t E tr k j hE2 hdE (by omega) hkj hjs ((pcs [] (mk tr k j)).length - 1) (by omega)
  rw [decide_eq_false (show ¬ (pcs [] (mk tr k j)).length ≤ (pcs [] (mk tr k j)).length - 1 by omega)] at hcc2
  have hcs := cut_stretch_t E tr k j hE2 hdE (by omega) hkj hjs A q m hA (by have := hFs q (by rw [hA]; simp); omega) (by omega)
  rw [hm, ← hIl] at hcs
  -- middles
  have hmid : ∀ t : Tr, dep t ≤ 50 → ∀ p ∈ inr [] t, m_part_middle [en p] = some (en (dq E (mx E p))) := fun t ht p hp => by
    have h1 := inr_dep [] t p hp
    simp at h1
    rw [part_middle_p p (by show p.length ≤ 1000; omega), mid_eq, mid_dq E p (by omega)]
  have hmxle : ∀ t : Tr, dep t ≤ 50 → ∀ p ∈ inr [] t, mx E p ≤ 2 ^ E := fun t ht p hp => by
    have h1 := inr_dep [] t p hp
    simp at h1
    have := (mx_in E [] p List.nil_prefix (by omega)).2
    simp only [wE, wn, List.length_nil, Nat.zero_mul, Nat.zero_add, Nat.sub_zero] at this
    omega
  have hinl := inr_len [] tr
  have hinf := inr_len [] tf
  have hsui := sz_un_it tr tf
  have hup := sz_pos (un tr tf)
  have hip := sz_pos (it tr tf)
  have hdu := dep_lt (un tr tf)
  have hinu := inr_len [] (un tr tf)
  have hw1 := law_worth_x E ((inr [] tr).map (mx E)) ((inr [] tr).map (mx E)) (fun _ => Iff.rfl) (mids_sorted E tr [] (by simpa using hdE)) (fun x hx => by
    obtain ⟨p, hp, rfl⟩ := List.mem_map.mp hx
    exact hmxle tr (by omega) p hp) (by rw [List.length_map]; omega) (by rw [List.length_map]; omega) hE2
  have hw2 := law_worth_x E ((inr [] tr ++ inr [] tf).map (mx E)) ((inr [] (un tr tf)).map (mx E)) (fun x => by
    simp only [List.mem_map, List.mem_append, inr_un]) (mids_sorted E (un tr tf) [] (by simp; omega)) (fun x hx => by
    obtain ⟨p, hp, rfl⟩ := List.mem_map.mp hx
    rcases List.mem_append.mp hp with z | z
    · exact hmxle tr (by omega) p z
    · exact hmxle tf (by omega) p z) (by rw [List.length_map, List.length_append]; omega) (by rw [List.length_map]; omega) hE2
  have hmm : ∀ l : List Pt, (l.map (mx E)).map (fun x => (en (dq E x) : Dt)) = (l.map fun p => dq E (mx E p)).map en := fun l => by
    rw [List.map_map, List.map_map]; rfl
  rw [hmm, hmm] at hw2
  rw [hmm, ← sp_inner E tr hdE] at hw1
  rw [sp_inner E tr hdE] at hw1
  have hw1' : m__law_worth [.list (((SPq tr).filter fun q => decide (q ∉ ([0, 1] : List Rat))).map en)] = some (.list (((inr [] tr).map fun p => dq E (mx E p)).map en)) := by
    rw [sp_inner E tr hdE]; exact hw1
  have hsi : ∀ p ∈ inr [] tr, sP p := fun p hp => by
    have h1 := inr_dep [] tr p hp
    simp at h1
    show p.length ≤ 1000
    omega
  -- numbers
  have hnum := part_number_p pt hptl
  have hat0 := part_at_p pt (by omega)
  have hat1 := part_at_p (pt ++ [false]) (by simp; omega)
  have hat2 := part_at_p (pt ++ [true]) (by simp; omega)
  have e1 : (2 : Int) ^ (pt ++ [false]).length - 1 + (wn (pt ++ [false]) : Nat) = 2 * (2 ^ pt.length - 1 + (wn pt : Nat)) + 1 := by
    rw [wn_app, List.length_append, List.length_singleton, Int.pow_succ]
    simp [wn]; omega
  have e2 : (2 : Int) ^ (pt ++ [true]).length - 1 + (wn (pt ++ [true]) : Nat) = 2 * (2 ^ pt.length - 1 + (wn pt : Nat)) + 2 := by
    rw [wn_app, List.length_append, List.length_singleton, Int.pow_succ]
    simp [wn]; omega
  rw [e1] at hat1
  rw [e2] at hat2
  have hlong := long_loop (min pt.length 10) (by omega)
  rw [show ((min pt.length 10 : Nat) : Int) = min (pt.length : Int) 10 by omega] at hlong
  rw [show (List.range (2 ^ min pt.length 10)).map (fun i => (en (bitsOf i (min pt.length 10)) : Dt)) = ((List.range (2 ^ min pt.length 10)).map fun i => bitsOf i (min pt.length 10)).map en by rw [List.map_map]; rfl] at hlong
  have hcnt := count_one (min pt.length 10) (pt.take 10) (by rw [List.length_take]; omega)
  have hcn := cnt_en ((List.range (2 ^ min pt.length 10)).map fun i => bitsOf i (min pt.length 10)) (pt.take 10) (by decide)
  have hcn' : cntD (.list (((List.range (2 ^ min pt.length 10)).map fun i => bitsOf i (min pt.length 10)).map en)) [en (pt.take 10)] = some (.int 1) := by
    rw [hcn]
    congr 2
    rw [← Int.natCast_one, ← hcnt]
    congr 1
    unfold List.count
    exact List.countP_congr fun b _ => by simp
  have hpb := part_begin_p pt hptl
  have hfb := first_bits_p pt (by omega) (bq_ne_one E pt (by omega))
  have hpm := part_middle_p pt hptl
  have hdd := dot_depth_q (dot_e (pt ++ [false]) (by simp; omega)) (pt.length + 1) (mid_den pt)
  obtain ⟨u, h26⟩ := r_26 (a0 := none) (a1 := some (en (lv [] tr))) (a2 := some (.list ((SPq tr).map en))) (a3 := some (.list [en pt, en (pt ++ [false]), en (pt ++ [true]), .int 1, en pt, .int ((pt.length : Int) + 1)])) (a4 := some (.int (k : Int))) (a5 := some (.int (j : Int))) (a6 := some (en (dq E (tot E ((lv [] tr).take k))))) (a7 := some (en (dq E (tot E ((lv [] tr).take j))))) (a8 := some (en (pcs [] (mk tr k j)))) (a9 := some (en (((lv [] tr).take j).drop k))) (a10 := some (en (cl m A q))) (a11 := some (en ((lv [] tr).take k ++ cl m A q ++ (lv [] tr).drop j))) (a12 := some (en (inr [] tr))) (a13 := some (.list (((inr [] tr).map fun p => dq E (mx E p)).map en))) (a15 := some (.int (2 ^ pt.length - 1 + (wn pt : Nat)))) (a16 := none) (a17 := none) (a18 := none) (a19 := none) (a20 := none) (a21 := none) (a22 := none) (t := t4) hptl
  have hnext : m__law_take [.int (((lv [] tr).length - k : Nat) : Int)] t2 = some (.int (i : Int), t3) := by rw [hlen]; exact hi'
  have hk'' : m__law_take [.int (lv [] tr).length] t1 = some (.int (k : Int), t2) := by rw [hlen]; exact hk'
  have H : e__law_right [none, none, none, none, none, none, none, none, none, none, none, none, none, none, none, none, none, none, none, none, none, none, none] t0 = some (.rt (.bool true) t5) := by
    unfold e__law_right
    refine (seq_nx (r_0 hcut)).trans ?_
    refine (seq_nx (r_1 (by omega) fun p hp => part_begin_p p (hC.2 p hp))).trans ?_
    refine (seq_nx (r_2 (Q := SPq tr) (by omega) (by simp [SPq]; omega) (fun p hp => part_end_p p (hC.2 p hp)) (fun q hq => by
      rw [sp_list E tr hdE] at hq
      obtain ⟨x, _, rfl⟩ := List.mem_map.mp hq
      exact is_dot_q (dq_dot E _ (hle x) (by omega))) (is_cutting_c tr (by omega)))).trans ?_
    refine (seq_nx (r_3 (by omega) (by simp [SPq]; omega) rfl (sp_drop E tr hdE) fun p hp => law_begin_p p (by have h : p.length ≤ 1000 := hC.2 p hp; omega))).trans ?_
    refine (seq_nx (r_4 hk'')).trans ?_
    refine (seq_nx (r_5 (by omega) hnext)).trans ?_
    rw [hj]
    refine (seq_nx (r_6 (sp_get E tr hdE k (by omega)) (sp_get E tr hdE j hjs))).trans ?_
    refine (seq_nx (r_7 hbd)).trans ?_
    refine (seq_nx r_8).trans ?_
    refine (seq_nx (r_9 (by omega) (by omega) (fun p hp => by have := hFs p hp; show p.length ≤ 1000; omega) (fun p hp => hC.2 p (List.mem_of_mem_take (List.mem_of_mem_drop hp))) (fun q hq => md_in (mk tr k j) [] q (by rw [hmd]; exact hq)) hsum)).trans ?_
    refine (seq_nx (r_10 (by omega) hcc1 hcc2)).trans ?_
    refine (seq_nx (r_11 (sz_dot (dq_dot E _ (hle k) (by omega))) (sz_dot (dq_dot E _ (hle j) (by omega))) (by rw [dq_sub E _ _ (by omega)]; congr 1; omega))).trans ?_
    refine (seq_nx (r_12 hcs)).trans ?_
    refine (seq_nx (r_13 (by omega))).trans ?_
    refine (seq_nx (r_14 hcutt hcw1 hfiner hcw2 hlf)).trans ?_
    refine (seq_nx (r_15 (by omega) hcw1 (pcs_fn (mk tr k j) []))).trans ?_
    refine (seq_nx (r_16 (by omega))).trans ?_
    refine (seq_nx (r_17 (joints_of_t tr (by omega)))).trans ?_
    refine (seq_nx (r_18 (md := fun p => dq E (mx E p)) (by omega) (hmid tr (by omega)))).trans ?_
    refine (seq_nx (r_19 (by omega) hsi (by rw [List.length_map]; omega) (by simp [SPq]; omega) (law_joints_t tr (by omega)) hw1')).trans ?_
    refine (seq_nx (r_20 (by omega) hsi (by omega))).trans ?_
    refine (seq_nx (r_21 hof)).trans ?_
    refine (seq_nx (r_22 hnum)).trans ?_
    refine (seq_nx (r_23 hat0 hat1 hat2 hlong hcn')).trans ?_
    refine (seq_nx (r_24 hpb hfb hpm hdd)).trans ?_
    refine (seq_nx (r_25 hptl)).trans ?_
    refine (seq_nx h26).trans ?_
    refine (seq_nx (r_27 hcf)).trans ?_
    refine (seq_nx (r_28 (common_finer_c tr tf (by omega) (by omega)) (common_coarser_c tr tf (by omega) (by omega)))).trans ?_
    refine (seq_nx (r_29 (split_at_t tr pi pt (by omega) hpt) (joined_at_t tr pi pt (by omega) hpt) (splits_t tr (un tr tf) (by omega) (by omega) (sub_un_l tr tf)) (splits_t tf (un tr tf) (by omega) (by omega) (sub_un_r tr tf)) (splits_t (it tr tf) tr (by omega) (by omega) (sub_it_l tr tf)) (splits_t (it tr tf) tf (by omega) (by omega) (sub_it_r tr tf)))).trans ?_
    refine (seq_nx (r_30 (md := fun p => dq E (mx E p)) (by omega) (joints_of_t (un tr tf) (by omega)) (hmid (un tr tf) (by omega)))).trans ?_
    refine (seq_nx (r_31 (md := fun p => dq E (mx E p)) (by omega) (joints_of_t tr (by omega)) (joints_of_t tf (by omega)) (fun p hp => by
      rcases List.mem_append.mp hp with z | z
      · exact hmid tr (by omega) p z
      · exact hmid tf (by omega) p z) hw2)).trans ?_
    exact r_32 (by omega) hC.2 (by rw [List.length_map]; omega) (by simp only [lv_len]; omega) (by simp only [lv_len]; omega) (by simp only [lv_len]; omega)
  exact ⟨t5, by simp [m__law_right, H]⟩
theorem true_law (ns : List Int) (h : ns.length ≤ 63) : m_law [.list (ns.map .int)] = some (.bool true) := by
  obtain ⟨cs, hne, hl, hc⟩ := cells_p ns h
  have hr := rg1_n cs.length (by omega)
  have hlc := lc_map (p := .nm 2) (elt := xCallL m__law_right (nCall m__law_box (aLen 2 (aCons (xV 1) (aCons (xV 2) aNil))))) (st := [some (.list (ns.map .int)), some (.list (cs.map .int)), none]) (t := []) (fun i : Nat => (.int (0 + (i : Int)) : Dt)) (fun _ => .bool true) (List.range cs.length) fun k hk => ⟨_, rfl, by
    have hk2 : k < cs.length := by simpa using hk
    obtain ⟨a, b, hb, hT⟩ := box_t cs k (by omega)
    obtain ⟨t', ht'⟩ := law_right_t hT
    have hi : intsD [.int a, .int b, .int 0] = some [a, b, 0] := (rfl)
    simp [hb, hi, ht']⟩
  rw [← rgD_map] at hlc
  have ha := all_map (fun _ : Nat => true) (List.range cs.length)
  rw [show (List.range cs.length).all (fun _ => true) = true from List.all_eq_true.mpr fun _ _ => rfl] at ha
  have hl2 : cs.length ≤ 16777216 := by omega
  have hla : lenD [.list (cs.map PyData.int)] = some (.int cs.length) := by rw [d_lenL, List.length_map]
  generalize ns.map PyData.int = W at hc hlc
  generalize cs.map PyData.int = W2 at hc hlc hla
  simp [m_law, e_law, hc, hla, hr, hl2, hlc, ha]
end K00

namespace K00.HE
open PySem PySem.Spec PyProof.Rows L2 HL
def dOf (x : Str) (i : Nat) : He.DefD := ⟨(x, none), x, x, defArgs (top i), defBody (top i), defScope (top i), [], []⟩
def fn0 : List He.DefD := [dOf "is_number" 5, dOf "is_from" 6, dOf "is_among" 7, dOf "is_long" 8, dOf "tupled" 9, dOf "ascends" 10, dOf "sure_number" 11, dOf "shared" 12, dOf "doubled" 13, dOf "made" 18, dOf "is_fraction" 19, dOf "is_two_power" 20, dOf "is_dot" 21, dOf "sure_dot" 22, dOf "sure_fraction" 23, dOf "is_less" 24, dOf "power_in" 25, dOf "dot_depth" 26, dOf "bits_in" 27, dOf "first_bits" 28]
def fn1 : List He.DefD := [dOf "stretch_parts" 29, dOf "sure_stretch" 30, dOf "between_dots" 31, dOf "can_cut_stretch" 32, dOf "cut_in" 33, dOf "cut_stretch" 34, dOf "is_part" 37, dOf "sure_part" 38, dOf "lies_in" 39, dOf "meet" 40, dOf "worth_in" 41, dOf "begin_in" 42, dOf "end_in" 43, dOf "part_begin" 44, dOf "part_end" 45, dOf "part_middle" 46, dOf "halves_of" 47, dOf "mate_of" 48, dOf "is_part_within" 49, dOf "are_parts_apart" 50]
def fn2 : List He.DefD := [dOf "common_in" 51, dOf "common_part" 52, dOf "parts_so_long" 53, dOf "part_number" 54, dOf "part_at" 55, dOf "fills" 57, dOf "is_cutting" 58, dOf "sure_cutting" 59, dOf "finest" 60, dOf "cutting_with" 61, dOf "split_at" 62, dOf "joined_at" 63, dOf "is_finer_in" 64, dOf "is_finer" 65, dOf "common_finer" 66, dOf "coarsest" 67, dOf "common_coarser" 68, dOf "splits_between" 69, dOf "behind_middle" 71, dOf "joints_in" 72]
def fn3 : List He.DefD := [dOf "joints_of" 73, dOf "side_in" 74, dOf "joint_side" 75, dOf "_law_box" 77, dOf "_law_take" 78, dOf "_law_cells" 79, dOf "_law_of" 80, dOf "_law_same" 81, dOf "_law_gcd" 82, dOf "_law_frac" 83, dOf "_law_add" 84, dOf "_law_neg" 85, dOf "_law_sum" 86, dOf "_law_in" 87, dOf "_law_length" 88, dOf "_law_begin" 89, dOf "_law_fine" 90, dOf "_law_cut" 91, dOf "_law_worth" 92, dOf "_law_joints" 93]
def fn4 : List He.DefD := [dOf "_law_side" 94, dOf "_law_right" 95, dOf "law" 96]
def fn : List He.DefD := fn0 ++ fn1 ++ fn2 ++ fn3 ++ fn4
def fa0 : List He.Fa := [.glo "is_number", .glo "is_from", .glo "is_among", .glo "is_long", .glo "tupled", .glo "ascends", .glo "sure_number", .glo "shared", .glo "doubled", .glo "made", .glo "is_fraction", .glo "is_two_power", .glo "is_dot", .glo "sure_dot", .glo "sure_fraction", .glo "is_less", .glo "power_in", .glo "dot_depth", .glo "bits_in", .glo "first_bits"]
def fa1 : List He.Fa := [.glo "stretch_parts", .glo "sure_stretch", .glo "between_dots", .glo "can_cut_stretch", .glo "cut_in", .glo "cut_stretch", .glo "is_part", .glo "sure_part", .glo "lies_in", .glo "meet", .glo "worth_in", .glo "begin_in", .glo "end_in", .glo "part_begin", .glo "part_end", .glo "part_middle", .glo "halves_of", .glo "mate_of", .glo "is_part_within", .glo "are_parts_apart"]
def fa2 : List He.Fa := [.glo "common_in", .glo "common_part", .glo "parts_so_long", .glo "part_number", .glo "part_at", .glo "fills", .glo "is_cutting", .glo "sure_cutting", .glo "finest", .glo "cutting_with", .glo "split_at", .glo "joined_at", .glo "is_finer_in", .glo "is_finer", .glo "common_finer", .glo "coarsest", .glo "common_coarser", .glo "splits_between", .glo "behind_middle", .glo "joints_in"]
def fa3 : List He.Fa := [.glo "joints_of", .glo "side_in", .glo "joint_side", .glo "_law_box", .glo "_law_take", .glo "_law_cells", .glo "_law_of", .glo "_law_same", .glo "_law_gcd", .glo "_law_frac", .glo "_law_add", .glo "_law_neg", .glo "_law_sum", .glo "_law_in", .glo "_law_length", .glo "_law_begin", .glo "_law_fine", .glo "_law_cut", .glo "_law_worth", .glo "_law_joints"]
def fa4 : List He.Fa := [.glo "_law_side", .glo "_law_right", .glo "law", .free "len", .free "abs", .free "int", .free "range", .free "all", .free "any", .free "sorted", .free "tuple", .free "list", .free "dict", .free "set", .free "min", .free "max", .free "isinstance", .free "enumerate", .free "zip", .free "bool"]
def fa5 : List He.Fa := [.free "str", .free "sum"]
def fa : List He.Fa := fa0 ++ fa1 ++ fa2 ++ fa3 ++ fa4 ++ fa5
def cs0 : List (Str × Dt) := [("WHOLE_END", (.tuple [(.int 1), (.int 1)])), ("MOST_BITS", (.int 60)), ("MOST_MANY", (.int 1000000)), ("MOST_LENGTH", (.int 10))]
def cs : List (Str × Dt) := cs0
def hookR (as : List Addr) (fa : List He.Fa) (fn : List He.DefD) (cs : List (Str × Dt)) : PySem.W.Hook where
  α := AlC
  obs := fun s => (He.obsD fa fn (He.frG s.heap.get? as), exC cs (He.frG s.heap.get? as))
  val := fun _ => (He.valD fn, true)
  says := fun _ h => ∃ K : PySem.W.Frag, K.In h ∧ He.SaysD fa fn K ∧ exC cs K = true
  of := fun _ _ e => ⟨_, He.frG_in, congrArg (fun z : AlC => z.1) e, congrArg (fun z : AlC => z.2) e⟩
  keeps := fun _ _ _ ⟨K, hK, c⟩ k => ⟨K, PySem.W.Frag.In.keeps hK k, c⟩
abbrev hk : PySem.W.Hook := hookR (mainGlobals :: List.range' 8 1500) fa fn cs
theorem gs {P : Program} {w : World} {K : PySem.W.Frag} {h : Heap} {mg : Str → Option Value} (X : K.In h) (G : h.Ns mainGlobals mg) (c : He.SaysD fa fn K) (x : exC cs K = true) : Gs P w K mg where
  len := He.free_ok X G (c.fact 83 (f := .free "len") rfl)
  abs := He.free_ok X G (c.fact 84 (f := .free "abs") rfl)
  int := He.free_ok X G (c.fact 85 (f := .free "int") rfl)
  range := He.free_ok X G (c.fact 86 (f := .free "range") rfl)
  all := He.free_ok X G (c.fact 87 (f := .free "all") rfl)
  any := He.free_ok X G (c.fact 88 (f := .free "any") rfl)
  sorted := He.free_ok X G (c.fact 89 (f := .free "sorted") rfl)
  tuple := He.free_ok X G (c.fact 90 (f := .free "tuple") rfl)
  list := He.free_ok X G (c.fact 91 (f := .free "list") rfl)
  dict := He.free_ok X G (c.fact 92 (f := .free "dict") rfl)
  set := He.free_ok X G (c.fact 93 (f := .free "set") rfl)
  min := He.free_ok X G (c.fact 94 (f := .free "min") rfl)
  max := He.free_ok X G (c.fact 95 (f := .free "max") rfl)
  isinstance := He.free_ok X G (c.fact 96 (f := .free "isinstance") rfl)
  enumerate := He.free_ok X G (c.fact 97 (f := .free "enumerate") rfl)
  zip := He.free_ok X G (c.fact 98 (f := .free "zip") rfl)
  bool := He.free_ok X G (c.fact 99 (f := .free "bool") rfl)
  str := He.free_ok X G (c.fact 100 (f := .free "str") rfl)
  sum := He.free_ok X G (c.fact 101 (f := .free "sum") rfl)
  c_WHOLE_END := conB_ok X G (exC_con x 0 (p := ("WHOLE_END", (.tuple [(.int 1), (.int 1)]))) rfl)
  c_MOST_BITS := conB_ok X G (exC_con x 1 (p := ("MOST_BITS", (.int 60))) rfl)
  c_MOST_MANY := conB_ok X G (exC_con x 2 (p := ("MOST_MANY", (.int 1000000))) rfl)
  c_MOST_LENGTH := conB_ok X G (exC_con x 3 (p := ("MOST_LENGTH", (.int 10))) rfl)
  f_is_number := let ⟨fd, F⟩ := c.def_ 0 (d := dOf "is_number" 5) rfl; ⟨_, fd, F, He.glo_ok X G (c.fact 0 (f := .glo "is_number") rfl)⟩
  f_is_from := let ⟨fd, F⟩ := c.def_ 1 (d := dOf "is_from" 6) rfl; ⟨_, fd, F, He.glo_ok X G (c.fact 1 (f := .glo "is_from") rfl)⟩
  f_is_among := let ⟨fd, F⟩ := c.def_ 2 (d := dOf "is_among" 7) rfl; ⟨_, fd, F, He.glo_ok X G (c.fact 2 (f := .glo "is_among") rfl)⟩
  f_is_long := let ⟨fd, F⟩ := c.def_ 3 (d := dOf "is_long" 8) rfl; ⟨_, fd, F, He.glo_ok X G (c.fact 3 (f := .glo "is_long") rfl)⟩
  f_tupled := let ⟨fd, F⟩ := c.def_ 4 (d := dOf "tupled" 9) rfl; ⟨_, fd, F, He.glo_ok X G (c.fact 4 (f := .glo "tupled") rfl)⟩
  f_ascends := let ⟨fd, F⟩ := c.def_ 5 (d := dOf "ascends" 10) rfl; ⟨_, fd, F, He.glo_ok X G (c.fact 5 (f := .glo "ascends") rfl)⟩
  f_sure_number := let ⟨fd, F⟩ := c.def_ 6 (d := dOf "sure_number" 11) rfl; ⟨_, fd, F, He.glo_ok X G (c.fact 6 (f := .glo "sure_number") rfl)⟩
  f_shared := let ⟨fd, F⟩ := c.def_ 7 (d := dOf "shared" 12) rfl; ⟨_, fd, F, He.glo_ok X G (c.fact 7 (f := .glo "shared") rfl)⟩
  f_doubled := let ⟨fd, F⟩ := c.def_ 8 (d := dOf "doubled" 13) rfl; ⟨_, fd, F, He.glo_ok X G (c.fact 8 (f := .glo "doubled") rfl)⟩
  f_made := let ⟨fd, F⟩ := c.def_ 9 (d := dOf "made" 18) rfl; ⟨_, fd, F, He.glo_ok X G (c.fact 9 (f := .glo "made") rfl)⟩
  f_is_fraction := let ⟨fd, F⟩ := c.def_ 10 (d := dOf "is_fraction" 19) rfl; ⟨_, fd, F, He.glo_ok X G (c.fact 10 (f := .glo "is_fraction") rfl)⟩
  f_is_two_power := let ⟨fd, F⟩ := c.def_ 11 (d := dOf "is_two_power" 20) rfl; ⟨_, fd, F, He.glo_ok X G (c.fact 11 (f := .glo "is_two_power") rfl)⟩
  f_is_dot := let ⟨fd, F⟩ := c.def_ 12 (d := dOf "is_dot" 21) rfl; ⟨_, fd, F, He.glo_ok X G (c.fact 12 (f := .glo "is_dot") rfl)⟩
  f_sure_dot := let ⟨fd, F⟩ := c.def_ 13 (d := dOf "sure_dot" 22) rfl; ⟨_, fd, F, He.glo_ok X G (c.fact 13 (f := .glo "sure_dot") rfl)⟩
  f_sure_fraction := let ⟨fd, F⟩ := c.def_ 14 (d := dOf "sure_fraction" 23) rfl; ⟨_, fd, F, He.glo_ok X G (c.fact 14 (f := .glo "sure_fraction") rfl)⟩
  f_is_less := let ⟨fd, F⟩ := c.def_ 15 (d := dOf "is_less" 24) rfl; ⟨_, fd, F, He.glo_ok X G (c.fact 15 (f := .glo "is_less") rfl)⟩
  f_power_in := let ⟨fd, F⟩ := c.def_ 16 (d := dOf "power_in" 25) rfl; ⟨_, fd, F, He.glo_ok X G (c.fact 16 (f := .glo "power_in") rfl)⟩
  f_dot_depth := let ⟨fd, F⟩ := c.def_ 17 (d := dOf "dot_depth" 26) rfl; ⟨_, fd, F, He.glo_ok X G (c.fact 17 (f := .glo "dot_depth") rfl)⟩
  f_bits_in := let ⟨fd, F⟩ := c.def_ 18 (d := dOf "bits_in" 27) rfl; ⟨_, fd, F, He.glo_ok X G (c.fact 18 (f := .glo "bits_in") rfl)⟩
  f_first_bits := let ⟨fd, F⟩ := c.def_ 19 (d := dOf "first_bits" 28) rfl; ⟨_, fd, F, He.glo_ok X G (c.fact 19 (f := .glo "first_bits") rfl)⟩
  f_stretch_parts := let ⟨fd, F⟩ := c.def_ 20 (d := dOf "stretch_parts" 29) rfl; ⟨_, fd, F, He.glo_ok X G (c.fact 20 (f := .glo "stretch_parts") rfl)⟩
  f_sure_stretch := let ⟨fd, F⟩ := c.def_ 21 (d := dOf "sure_stretch" 30) rfl; ⟨_, fd, F, He.glo_ok X G (c.fact 21 (f := .glo "sure_stretch") rfl)⟩
  f_between_dots := let ⟨fd, F⟩ := c.def_ 22 (d := dOf "between_dots" 31) rfl; ⟨_, fd, F, He.glo_ok X G (c.fact 22 (f := .glo "between_dots") rfl)⟩
  f_can_cut_stretch := let ⟨fd, F⟩ := c.def_ 23 (d := dOf "can_cut_stretch" 32) rfl; ⟨_, fd, F, He.glo_ok X G (c.fact 23 (f := .glo "can_cut_stretch") rfl)⟩
  f_cut_in := let ⟨fd, F⟩ := c.def_ 24 (d := dOf "cut_in" 33) rfl; ⟨_, fd, F, He.glo_ok X G (c.fact 24 (f := .glo "cut_in") rfl)⟩
  f_cut_stretch := let ⟨fd, F⟩ := c.def_ 25 (d := dOf "cut_stretch" 34) rfl; ⟨_, fd, F, He.glo_ok X G (c.fact 25 (f := .glo "cut_stretch") rfl)⟩
  f_is_part := let ⟨fd, F⟩ := c.def_ 26 (d := dOf "is_part" 37) rfl; ⟨_, fd, F, He.glo_ok X G (c.fact 26 (f := .glo "is_part") rfl)⟩
  f_sure_part := let ⟨fd, F⟩ := c.def_ 27 (d := dOf "sure_part" 38) rfl; ⟨_, fd, F, He.glo_ok X G (c.fact 27 (f := .glo "sure_part") rfl)⟩
  f_lies_in := let ⟨fd, F⟩ := c.def_ 28 (d := dOf "lies_in" 39) rfl; ⟨_, fd, F, He.glo_ok X G (c.fact 28 (f := .glo "lies_in") rfl)⟩
  f_meet := let ⟨fd, F⟩ := c.def_ 29 (d := dOf "meet" 40) rfl; ⟨_, fd, F, He.glo_ok X G (c.fact 29 (f := .glo "meet") rfl)⟩
  f_worth_in := let ⟨fd, F⟩ := c.def_ 30 (d := dOf "worth_in" 41) rfl; ⟨_, fd, F, He.glo_ok X G (c.fact 30 (f := .glo "worth_in") rfl)⟩
  f_begin_in := let ⟨fd, F⟩ := c.def_ 31 (d := dOf "begin_in" 42) rfl; ⟨_, fd, F, He.glo_ok X G (c.fact 31 (f := .glo "begin_in") rfl)⟩
  f_end_in := let ⟨fd, F⟩ := c.def_ 32 (d := dOf "end_in" 43) rfl; ⟨_, fd, F, He.glo_ok X G (c.fact 32 (f := .glo "end_in") rfl)⟩
  f_part_begin := let ⟨fd, F⟩ := c.def_ 33 (d := dOf "part_begin" 44) rfl; ⟨_, fd, F, He.glo_ok X G (c.fact 33 (f := .glo "part_begin") rfl)⟩
  f_part_end := let ⟨fd, F⟩ := c.def_ 34 (d := dOf "part_end" 45) rfl; ⟨_, fd, F, He.glo_ok X G (c.fact 34 (f := .glo "part_end") rfl)⟩
  f_part_middle := let ⟨fd, F⟩ := c.def_ 35 (d := dOf "part_middle" 46) rfl; ⟨_, fd, F, He.glo_ok X G (c.fact 35 (f := .glo "part_middle") rfl)⟩
  f_halves_of := let ⟨fd, F⟩ := c.def_ 36 (d := dOf "halves_of" 47) rfl; ⟨_, fd, F, He.glo_ok X G (c.fact 36 (f := .glo "halves_of") rfl)⟩
  f_mate_of := let ⟨fd, F⟩ := c.def_ 37 (d := dOf "mate_of" 48) rfl; ⟨_, fd, F, He.glo_ok X G (c.fact 37 (f := .glo "mate_of") rfl)⟩
  f_is_part_within := let ⟨fd, F⟩ := c.def_ 38 (d := dOf "is_part_within" 49) rfl; ⟨_, fd, F, He.glo_ok X G (c.fact 38 (f := .glo "is_part_within") rfl)⟩
  f_are_parts_apart := let ⟨fd, F⟩ := c.def_ 39 (d := dOf "are_parts_apart" 50) rfl; ⟨_, fd, F, He.glo_ok X G (c.fact 39 (f := .glo "are_parts_apart") rfl)⟩
  f_common_in := let ⟨fd, F⟩ := c.def_ 40 (d := dOf "common_in" 51) rfl; ⟨_, fd, F, He.glo_ok X G (c.fact 40 (f := .glo "common_in") rfl)⟩
  f_common_part := let ⟨fd, F⟩ := c.def_ 41 (d := dOf "common_part" 52) rfl; ⟨_, fd, F, He.glo_ok X G (c.fact 41 (f := .glo "common_part") rfl)⟩
  f_parts_so_long := let ⟨fd, F⟩ := c.def_ 42 (d := dOf "parts_so_long" 53) rfl; ⟨_, fd, F, He.glo_ok X G (c.fact 42 (f := .glo "parts_so_long") rfl)⟩
  f_part_number := let ⟨fd, F⟩ := c.def_ 43 (d := dOf "part_number" 54) rfl; ⟨_, fd, F, He.glo_ok X G (c.fact 43 (f := .glo "part_number") rfl)⟩
  f_part_at := let ⟨fd, F⟩ := c.def_ 44 (d := dOf "part_at" 55) rfl; ⟨_, fd, F, He.glo_ok X G (c.fact 44 (f := .glo "part_at") rfl)⟩
  f_fills := let ⟨fd, F⟩ := c.def_ 45 (d := dOf "fills" 57) rfl; ⟨_, fd, F, He.glo_ok X G (c.fact 45 (f := .glo "fills") rfl)⟩
  f_is_cutting := let ⟨fd, F⟩ := c.def_ 46 (d := dOf "is_cutting" 58) rfl; ⟨_, fd, F, He.glo_ok X G (c.fact 46 (f := .glo "is_cutting") rfl)⟩
  f_sure_cutting := let ⟨fd, F⟩ := c.def_ 47 (d := dOf "sure_cutting" 59) rfl; ⟨_, fd, F, He.glo_ok X G (c.fact 47 (f := .glo "sure_cutting") rfl)⟩
  f_finest := let ⟨fd, F⟩ := c.def_ 48 (d := dOf "finest" 60) rfl; ⟨_, fd, F, He.glo_ok X G (c.fact 48 (f := .glo "finest") rfl)⟩
  f_cutting_with := let ⟨fd, F⟩ := c.def_ 49 (d := dOf "cutting_with" 61) rfl; ⟨_, fd, F, He.glo_ok X G (c.fact 49 (f := .glo "cutting_with") rfl)⟩
  f_split_at := let ⟨fd, F⟩ := c.def_ 50 (d := dOf "split_at" 62) rfl; ⟨_, fd, F, He.glo_ok X G (c.fact 50 (f := .glo "split_at") rfl)⟩
  f_joined_at := let ⟨fd, F⟩ := c.def_ 51 (d := dOf "joined_at" 63) rfl; ⟨_, fd, F, He.glo_ok X G (c.fact 51 (f := .glo "joined_at") rfl)⟩
  f_is_finer_in := let ⟨fd, F⟩ := c.def_ 52 (d := dOf "is_finer_in" 64) rfl; ⟨_, fd, F, He.glo_ok X G (c.fact 52 (f := .glo "is_finer_in") rfl)⟩
  f_is_finer := let ⟨fd, F⟩ := c.def_ 53 (d := dOf "is_finer" 65) rfl; ⟨_, fd, F, He.glo_ok X G (c.fact 53 (f := .glo "is_finer") rfl)⟩
  f_common_finer := let ⟨fd, F⟩ := c.def_ 54 (d := dOf "common_finer" 66) rfl; ⟨_, fd, F, He.glo_ok X G (c.fact 54 (f := .glo "common_finer") rfl)⟩
  f_coarsest := let ⟨fd, F⟩ := c.def_ 55 (d := dOf "coarsest" 67) rfl; ⟨_, fd, F, He.glo_ok X G (c.fact 55 (f := .glo "coarsest") rfl)⟩
  f_common_coarser := let ⟨fd, F⟩ := c.def_ 56 (d := dOf "common_coarser" 68) rfl; ⟨_, fd, F, He.glo_ok X G (c.fact 56 (f := .glo "common_coarser") rfl)⟩
  f_splits_between := let ⟨fd, F⟩ := c.def_ 57 (d := dOf "splits_between" 69) rfl; ⟨_, fd, F, He.glo_ok X G (c.fact 57 (f := .glo "splits_between") rfl)⟩
  f_behind_middle := let ⟨fd, F⟩ := c.def_ 58 (d := dOf "behind_middle" 71) rfl; ⟨_, fd, F, He.glo_ok X G (c.fact 58 (f := .glo "behind_middle") rfl)⟩
  f_joints_in := let ⟨fd, F⟩ := c.def_ 59 (d := dOf "joints_in" 72) rfl; ⟨_, fd, F, He.glo_ok X G (c.fact 59 (f := .glo "joints_in") rfl)⟩
  f_joints_of := let ⟨fd, F⟩ := c.def_ 60 (d := dOf "joints_of" 73) rfl; ⟨_, fd, F, He.glo_ok X G (c.fact 60 (f := .glo "joints_of") rfl)⟩
  f_side_in := let ⟨fd, F⟩ := c.def_ 61 (d := dOf "side_in" 74) rfl; ⟨_, fd, F, He.glo_ok X G (c.fact 61 (f := .glo "side_in") rfl)⟩
  f_joint_side := let ⟨fd, F⟩ := c.def_ 62 (d := dOf "joint_side" 75) rfl; ⟨_, fd, F, He.glo_ok X G (c.fact 62 (f := .glo "joint_side") rfl)⟩
  f__law_box := let ⟨fd, F⟩ := c.def_ 63 (d := dOf "_law_box" 77) rfl; ⟨_, fd, F, He.glo_ok X G (c.fact 63 (f := .glo "_law_box") rfl)⟩
  f__law_take := let ⟨fd, F⟩ := c.def_ 64 (d := dOf "_law_take" 78) rfl; ⟨_, fd, F, He.glo_ok X G (c.fact 64 (f := .glo "_law_take") rfl)⟩
  f__law_cells := let ⟨fd, F⟩ := c.def_ 65 (d := dOf "_law_cells" 79) rfl; ⟨_, fd, F, He.glo_ok X G (c.fact 65 (f := .glo "_law_cells") rfl)⟩
  f__law_of := let ⟨fd, F⟩ := c.def_ 66 (d := dOf "_law_of" 80) rfl; ⟨_, fd, F, He.glo_ok X G (c.fact 66 (f := .glo "_law_of") rfl)⟩
  f__law_same := let ⟨fd, F⟩ := c.def_ 67 (d := dOf "_law_same" 81) rfl; ⟨_, fd, F, He.glo_ok X G (c.fact 67 (f := .glo "_law_same") rfl)⟩
  f__law_gcd := let ⟨fd, F⟩ := c.def_ 68 (d := dOf "_law_gcd" 82) rfl; ⟨_, fd, F, He.glo_ok X G (c.fact 68 (f := .glo "_law_gcd") rfl)⟩
  f__law_frac := let ⟨fd, F⟩ := c.def_ 69 (d := dOf "_law_frac" 83) rfl; ⟨_, fd, F, He.glo_ok X G (c.fact 69 (f := .glo "_law_frac") rfl)⟩
  f__law_add := let ⟨fd, F⟩ := c.def_ 70 (d := dOf "_law_add" 84) rfl; ⟨_, fd, F, He.glo_ok X G (c.fact 70 (f := .glo "_law_add") rfl)⟩
  f__law_neg := let ⟨fd, F⟩ := c.def_ 71 (d := dOf "_law_neg" 85) rfl; ⟨_, fd, F, He.glo_ok X G (c.fact 71 (f := .glo "_law_neg") rfl)⟩
  f__law_sum := let ⟨fd, F⟩ := c.def_ 72 (d := dOf "_law_sum" 86) rfl; ⟨_, fd, F, He.glo_ok X G (c.fact 72 (f := .glo "_law_sum") rfl)⟩
  f__law_in := let ⟨fd, F⟩ := c.def_ 73 (d := dOf "_law_in" 87) rfl; ⟨_, fd, F, He.glo_ok X G (c.fact 73 (f := .glo "_law_in") rfl)⟩
  f__law_length := let ⟨fd, F⟩ := c.def_ 74 (d := dOf "_law_length" 88) rfl; ⟨_, fd, F, He.glo_ok X G (c.fact 74 (f := .glo "_law_length") rfl)⟩
  f__law_begin := let ⟨fd, F⟩ := c.def_ 75 (d := dOf "_law_begin" 89) rfl; ⟨_, fd, F, He.glo_ok X G (c.fact 75 (f := .glo "_law_begin") rfl)⟩
  f__law_fine := let ⟨fd, F⟩ := c.def_ 76 (d := dOf "_law_fine" 90) rfl; ⟨_, fd, F, He.glo_ok X G (c.fact 76 (f := .glo "_law_fine") rfl)⟩
  f__law_cut := let ⟨fd, F⟩ := c.def_ 77 (d := dOf "_law_cut" 91) rfl; ⟨_, fd, F, He.glo_ok X G (c.fact 77 (f := .glo "_law_cut") rfl)⟩
  f__law_worth := let ⟨fd, F⟩ := c.def_ 78 (d := dOf "_law_worth" 92) rfl; ⟨_, fd, F, He.glo_ok X G (c.fact 78 (f := .glo "_law_worth") rfl)⟩
  f__law_joints := let ⟨fd, F⟩ := c.def_ 79 (d := dOf "_law_joints" 93) rfl; ⟨_, fd, F, He.glo_ok X G (c.fact 79 (f := .glo "_law_joints") rfl)⟩
  f__law_side := let ⟨fd, F⟩ := c.def_ 80 (d := dOf "_law_side" 94) rfl; ⟨_, fd, F, He.glo_ok X G (c.fact 80 (f := .glo "_law_side") rfl)⟩
  f__law_right := let ⟨fd, F⟩ := c.def_ 81 (d := dOf "_law_right" 95) rfl; ⟨_, fd, F, He.glo_ok X G (c.fact 81 (f := .glo "_law_right") rfl)⟩
  f_law := let ⟨fd, F⟩ := c.def_ 82 (d := dOf "law" 96) rfl; ⟨_, fd, F, He.glo_ok X G (c.fact 82 (f := .glo "law") rfl)⟩
theorem facts {P : Program} {w : World} {K : PySem.W.Frag} {h : Heap} {mg : Str → Option Value} {f : Addr} (X : K.In h) (G : h.Ns mainGlobals mg) (hfa : mg ("law" : Str) = some (.ref f)) (c : He.SaysD fa fn K) (x : exC cs K = true) :
    ∃ fd : FuncData, (∀ (s : Shared) (v : Value), BindsTo s fd ⟨[v], []⟩ [("script", v)]) ∧ ∀ base : Heap, K.In base → base.Ns mainGlobals mg → FnOk P w K mg base CX0 13 f fd ["script"] (spP ⟨P, w, K⟩ 1 m_law) := by
  obtain ⟨fd, F⟩ := c.def_ 82 (d := dOf "law" 96) rfl
  have e := hfa.symm.trans (He.glo_ok X G (c.fact 82 (f := .glo "law") rfl))
  cases e
  have b := FunD.bindsA (ps := ["script"]) F fun _ _ _ _ _ _ us hl => match us, hl with | [_], _ => rfl
  exact ⟨fd, fun s v => b s [v] rfl, fun base _ _ => o_law F (gs X G c x)⟩
end K00.HE
open PySem PySem.W PySem.Calls PyProof.Rows
theorem PySem.Challenge.cw_halvedlays_k00_across_dots_parts_and_cut_holds : PySem.Challenge.rw_halvedlays_k00_across_dots_parts_and_cut.Holds := by
  w_on; o_law
  o_head K00.HE.hk
  case hw => w_witness2
  case hc =>
    refine L2.walk_ofE (l := PySem.Challenge.rw_halvedlays_k00_across_dots_parts_and_cut) (n := 63) (k := 13) (x := "script") (CX := L2.CX0) rfl (by decide) (by kernel_rfl) ⟨rfl, by decide, by decide⟩ ?F (fun _ _ _ _ z => z)
    intro w mg fa h Y G hmg0
    obtain ⟨K, KX, c, x⟩ := Y
    have hmg : mg ("law" : PySem.Str) = some (.ref fa) := by
      have e : (HandSHeadRun.topDef (OpenLaw.row PySem.Challenge.rw_halvedlays_k00_across_dots_parts_and_cut).prog 96).name = ("law" : PySem.Str) := by kernel_rfl
      rw [← e]
      exact hmg0
    obtain ⟨fd, hb, hF⟩ := K00.HE.facts (P := (PySem.Challenge.rw_halvedlays_k00_across_dots_parts_and_cut).prog) (w := w) KX G hmg c x
    exact ⟨K, fd, HL.spP ⟨(PySem.Challenge.rw_halvedlays_k00_across_dots_parts_and_cut).prog, w, K⟩ 1 K00.m_law, KX, hb, fun H a ns hl hO hS => ⟨rfl, [.list (ns.map .int)], .bool true, HL.pd_script x hO hS, K00.true_law ns hl, fun v H' _ p => p.blI⟩, hF⟩

