import PyProof.Rows.All
import Wide.All
import OpenK.AllK
import Wide.FinOn
import KE.KStateDown
import Lean
import HandS.ForMost
import HandS.More
import HandS.WordsExc
import HandS.Defaults
import HandS.Flow
import HandS.Deep
import HandS.Walk
import HandS.Lambda
import HandS.TupAny
import HandS.TupLe
import HandS.TupMul
import HandS.Style
import HandS.Zip
import KE.GoesEnum
import KE.KDictPairs
import KE.SortCalls
import KE.DataCmp
import HandS.Text
import HandS.Strs
import HandS.SetFor
import HandS.SetTxt0
import PyProof.ListRange
import HandS.RaiseMore
import HandS.HeadHook1
import HandS.Exc
import PyProof.ExcBaseAll.ValueError
import HandS.HeadWalk
import HandS.HeadHook4
import HandS.NoneIn
import HandS.Head0
import HandS.Head1
import HandS.Head2
import HandS.HeadEnd
import HandS.HeadHook2
import HandS.NestedK
import PySem.Challenge.RW_parthost_k14_whole_other_names_of_parts
set_option Elab.async false
set_option linter.all false
set_option maxRecDepth 100000
set_option maxHeartbeats 4000000
set_option autoImplicit false
/-! The data layer: what an expression, a statement comes to, as plain data. -/
namespace DL
open PySem PySem.Spec PyProof.Rows L2

abbrev D := PyData

/-! ### stable heaps -/
/-- a code object -/
def IsCode (b : Addr) (φ : Heap → Prop) : Prop := ∃ q, HO.ext φ = LamX.CodeO b q
/-- what can never change is as it was -/
structure Stb (H H' : Hp) : Prop where
  p1 : ∀ b xs, H b = some (.tup xs) → H' b = some (.tup xs)
  p2 : ∀ b o u, H b = some (.frz o u) → H' b = some (.frz o u)
  p3 : ∀ b φ, IsCode b φ → H b = some (.ext φ) → H' b = some (.ext φ)
theorem Stb.refl (H : Hp) : Stb H H := ⟨fun _ _ h => h, fun _ _ _ h => h, fun _ _ _ h => h⟩
theorem Stb.trans {H H1 H2 : Hp} (a : Stb H H1) (b : Stb H1 H2) : Stb H H2 := ⟨fun c xs h => b.p1 c xs (a.p1 c xs h), fun c o u h => b.p2 c o u (a.p2 c o u h), fun c φ i h => b.p3 c φ i (a.p3 c φ i h)⟩
theorem Stb.of {H H' : Hp} (s : Same H H') : Stb H H' := ⟨fun b xs h => s b _ h, fun b o u h => s b _ h, fun b φ _ h => s b _ h⟩
/-- a thing that may change: not one that is known by what is true of it -/
def MutS : Option HO → Prop
  | some (.lst _) => True
  | some (.dK _) => True
  | some (.dT _) => True
  | some (.set _ _) => True
  | some (.ins _ _ _) => True
  | some (.tbl _) => True
  | some (.ext φ) => ∀ b, ¬ IsCode b φ
  | _ => False
theorem same_new {H : Hp} {p : Addr} {o : HO} (h : H p = none) : Same H (upd H p o) := fun b x e => by
  rw [upd_ne (ne_of_none e h)]
  exact e
theorem same_mut {H H' : Hp} {p : Addr} {o : HO} (e : Same H H') (h : H p = none) : Same H (upd H' p o) := fun b x q => by
  rw [upd_ne (ne_of_none q h)]
  exact e b x q
/-- a thing that may change is changed -/
theorem stb_upd {H : Hp} {p : Addr} {u o : HO} (h : H p = some u) (mu : MutS (some u)) : Stb H (upd H p o) := by
  refine ⟨fun b xs e => ?_, fun b ob x e => ?_, fun b φ i e => ?_⟩
  · rw [upd_ne (fun z => by subst z; rw [h] at e; cases e; exact mu)]; exact e
  · rw [upd_ne (fun z => by subst z; rw [h] at e; cases e; exact mu)]; exact e
  · rw [upd_ne (fun z => by subst z; rw [h] at e; cases e; exact mu _ i)]; exact e
theorem stb_new {H : Hp} {p : Addr} {o : HO} (h : H p = none) : Stb H (upd H p o) := .of (same_new h)

/-! ### a value stands for a datum, for ever -/
/-- a tuple without a dict of its own -/
def PlT (K : PySem.W.Frag) (H : Hp) (a : Addr) (xs : List V) : Prop := (∃ o, H a = some (.frz o (.tup xs)) ∧ o.dict = none) ∨
  ∃ (o : Obj) (its : Array Value) (n : Nat), K.lookup a = some o ∧ o.cls = .type "tuple" ∧ o.dict = none ∧ o.data = .seq its n ∧ its.size ≤ sizeLine ∧ Vals xs its.toList
theorem PlT.sq {K : PySem.W.Frag} {H : Hp} {a : Addr} {xs : List V} (h : PlT K H a xs) : SqT K H a xs := by
  rcases h with ⟨o, h, _⟩ | ⟨o, its, n, h1, h2, _, h3, h4, h5⟩
  · exact .inl (.inr ⟨o, h⟩)
  · exact .inr ⟨o, its, n, h1, h2, h3, h4, h5⟩
theorem PlT.stb {K : PySem.W.Frag} {H H' : Hp} {a : Addr} {xs : List V} (s : Stb H H') (h : PlT K H a xs) : PlT K H' a xs := by
  rcases h with ⟨o, h, q⟩ | h
  · exact .inl ⟨o, s.p2 _ _ _ h, q⟩
  · exact .inr h
/-- a list that never changes -/
def FzL (K : PySem.W.Frag) (H : Hp) (a : Addr) (xs : List V) : Prop := (∃ o, H a = some (.frz o (.lst xs))) ∨
  ∃ (o : Obj) (its : Array Value) (n : Nat), K.lookup a = some o ∧ o.cls = .type "list" ∧ o.dict = none ∧ o.data = .seq its n ∧ its.size ≤ sizeLine ∧ Vals xs its.toList
theorem FzL.sq {K : PySem.W.Frag} {H : Hp} {a : Addr} {xs : List V} (h : FzL K H a xs) : SqL K H a xs := by
  rcases h with ⟨o, h⟩ | h
  · exact .inl (.inr ⟨o, h⟩)
  · exact .inr h
theorem FzL.stb {K : PySem.W.Frag} {H H' : Hp} {a : Addr} {xs : List V} (s : Stb H H') (h : FzL K H a xs) : FzL K H' a xs := by
  rcases h with ⟨o, h⟩ | h
  · exact .inl ⟨o, s.p2 _ _ _ h⟩
  · exact .inr h
/-- a new tuple is laid -/
theorem inv_tup {X : Cx} {pins : List (Addr × Obj)} {σ : L2.St} {H : Hp} {s : Shared} {h' : Heap} {t' : Nat} {p : Addr} {o : Obj} {xs : List V} {us : List Value} {n : Nat} (I : Inv X pins σ H s) (k : ∀ b u, s.heap.get? b = some u → h'.get? b = some u) (hp : s.heap.objs.size ≤ p) (e : h'.get? p = some o) (hc : o.cls = .type "tuple") (hd : o.data = .seq us.toArray n) (r : Vals xs us) (z : xs.length ≤ sizeLine) :
    Inv X pins σ (upd H p (.frz o (.tup xs))) { s with heap := h', toks := t' } := I.laid k hp ⟨e, z, us, r, ⟨o, e, hc, n, hd⟩⟩
theorem inv_pl {X : Cx} {pins : List (Addr × Obj)} {σ : L2.St} {H : Hp} {s : Shared} {a : Addr} {xs : List V} (I : Inv X pins σ H s) (h : PlT X.K H a xs) : ∃ (o : Obj) (its : List Value) (n : Nat), s.heap.get? a = some o ∧ o.cls = .type "tuple" ∧ o.dict = none ∧ o.data = .seq its.toArray n ∧ Vals xs its ∧ xs.length ≤ sizeLine := by
  rcases h with ⟨o, h, q⟩ | ⟨o, its, n, h1, h2, h3, h4, h5, h6⟩
  · obtain ⟨e, z, its, r, ⟨o', e', hc, n, hd⟩⟩ := I.hok a _ h
    rw [e] at e'
    cases e'
    exact ⟨o, its, n, e, hc, q, hd, r, z⟩
  · refine ⟨o, its.toList, n, I.kIn a o h1, h2, h3, by simpa using h4, h6, ?_⟩
    have e := h6.length
    simp only [Array.length_toList] at e
    omega
mutual
inductive Rp (K : PySem.W.Frag) (H : Hp) : V → D → Prop
  | non : Rp K H .non .none
  | bl (b : Bool) : Rp K H (.bl b) (.bool b)
  | int (i : Int) : Rp K H (.int i) (.int i)
  | str (x : Str) : Rp K H (.str x) (.str x)
  | tup {a : Addr} {xs : List V} {ds : List D} : PlT K H a xs → RpAll K H xs ds → Rp K H (.ref a) (.tuple ds)
  | lst {a : Addr} {xs : List V} {ds : List D} : FzL K H a xs → RpAll K H xs ds → Rp K H (.ref a) (.list ds)
  | dct {a : Addr} {o : Obj} {kvs : List (Key × V)} {es : List (D × D)} : H a = some (.frz o (.dK kvs)) → RpKV K H kvs es → Rp K H (.ref a) (.dict es)
inductive RpAll (K : PySem.W.Frag) (H : Hp) : List V → List D → Prop
  | nil : RpAll K H [] []
  | cons {v : V} {vs : List V} {d : D} {ds : List D} : Rp K H v d → RpAll K H vs ds → RpAll K H (v :: vs) (d :: ds)
inductive RpKV (K : PySem.W.Frag) (H : Hp) : List (Key × V) → List (D × D) → Prop
  | nil : RpKV K H [] []
  | int {i : Int} {v : V} {vs : List (Key × V)} {d : D} {ds : List (D × D)} : Rp K H v d → RpKV K H vs ds → RpKV K H ((.inl i, v) :: vs) ((.int i, d) :: ds)
  | str {x : Str} {v : V} {vs : List (Key × V)} {d : D} {ds : List (D × D)} : Rp K H v d → RpKV K H vs ds → RpKV K H ((.inr x, v) :: vs) ((.str x, d) :: ds)
end
section
variable {K : PySem.W.Frag} {H H' : Hp}
theorem sqT_stb {a : Addr} {xs : List V} (s : Stb H H') (h : SqT K H a xs) : SqT K H' a xs := by
  rcases h with (h | ⟨o, h⟩) | h
  · exact .inl (.inl (s.p1 _ _ h))
  · exact .inl (.inr ⟨o, s.p2 _ _ _ h⟩)
  · exact .inr h
mutual
theorem Rp.mono (s : Stb H H') : ∀ {v : V} {d : D}, Rp K H v d → Rp K H' v d
  | _, _, .non => .non
  | _, _, .bl b => .bl b
  | _, _, .int i => .int i
  | _, _, .str x => .str x
  | _, _, .tup h a => .tup (h.stb s) (RpAll.mono s a)
  | _, _, .lst h a => .lst (h.stb s) (RpAll.mono s a)
  | _, _, .dct h a => .dct (s.p2 _ _ _ h) (RpKV.mono s a)
theorem RpAll.mono (s : Stb H H') : ∀ {vs : List V} {ds : List D}, RpAll K H vs ds → RpAll K H' vs ds
  | _, _, .nil => .nil
  | _, _, .cons h t => .cons (Rp.mono s h) (RpAll.mono s t)
theorem RpKV.mono (s : Stb H H') : ∀ {vs : List (Key × V)} {ds : List (D × D)}, RpKV K H vs ds → RpKV K H' vs ds
  | _, _, .nil => .nil
  | _, _, .int h t => .int (Rp.mono s h) (RpKV.mono s t)
  | _, _, .str h t => .str (Rp.mono s h) (RpKV.mono s t)
end
theorem RpAll.length : ∀ {vs : List V} {ds : List D}, RpAll K H vs ds → vs.length = ds.length
  | _, _, .nil => rfl
  | _, _, .cons _ t => congrArg (· + 1) (RpAll.length t)
theorem RpAll.append : ∀ {vs ws : List V} {ds es : List D}, RpAll K H vs ds → RpAll K H ws es → RpAll K H (vs ++ ws) (ds ++ es)
  | _, _, _, _, .nil, s => s
  | _, _, _, _, .cons h t, s => .cons h (RpAll.append t s)
theorem RpAll.get : ∀ {vs : List V} {ds : List D} {i : Nat} {d : D}, RpAll K H vs ds → ds[i]? = some d → ∃ v, vs[i]? = some v ∧ Rp K H v d
  | _, _, _, _, .nil, e => by simp at e
  | _, _, 0, _, .cons h _, e => by simp at e; subst e; exact ⟨_, rfl, h⟩
  | _, _, i + 1, d, .cons _ t, e => by
    obtain ⟨v, h1, h2⟩ := RpAll.get (i := i) (d := d) t (by simpa using e)
    exact ⟨v, by simpa using h1, h2⟩
theorem RpAll.got : ∀ {vs : List V} {ds : List D} {i : Nat} {v : V}, RpAll K H vs ds → vs[i]? = some v → ∃ d, ds[i]? = some d ∧ Rp K H v d
  | _, _, _, _, .nil, e => by simp at e
  | _, _, 0, _, .cons h _, e => by simp at e; subst e; exact ⟨_, rfl, h⟩
  | _, _, i + 1, v, .cons _ t, e => by
    obtain ⟨d, h1, h2⟩ := RpAll.got (i := i) (v := v) t (by simpa using e)
    exact ⟨d, by simpa using h1, h2⟩
theorem RpAll.take : ∀ {vs : List V} {ds : List D} (n : Nat), RpAll K H vs ds → RpAll K H (vs.take n) (ds.take n)
  | _, _, 0, _ => .nil
  | _, _, _ + 1, .nil => .nil
  | _, _, n + 1, .cons h t => .cons h (RpAll.take n t)
theorem RpAll.drop : ∀ {vs : List V} {ds : List D} (n : Nat), RpAll K H vs ds → RpAll K H (vs.drop n) (ds.drop n)
  | _, _, 0, r => r
  | _, _, _ + 1, .nil => .nil
  | _, _, n + 1, .cons _ t => RpAll.drop n t
theorem RpAll.reverse : ∀ {vs : List V} {ds : List D}, RpAll K H vs ds → RpAll K H vs.reverse ds.reverse
  | _, _, .nil => .nil
  | _, _, .cons h t => by
    rw [List.reverse_cons, List.reverse_cons]
    exact (RpAll.reverse t).append (.cons h .nil)
theorem RpAll.dropLast {vs : List V} {ds : List D} (h : RpAll K H vs ds) : RpAll K H vs.dropLast ds.dropLast := by
  rw [List.dropLast_eq_take, List.dropLast_eq_take, h.length]
  exact h.take _
theorem RpAll.of_paired : ∀ {vs : List V} {ds : List D}, Paired (Rp K H) vs ds → RpAll K H vs ds
  | _, _, .nil => .nil
  | _, _, .cons h t => .cons h (RpAll.of_paired t)
theorem RpAll.paired : ∀ {vs : List V} {ds : List D}, RpAll K H vs ds → Paired (Rp K H) vs ds
  | _, _, .nil => .nil
  | _, _, .cons h t => .cons h (RpAll.paired t)
theorem RpAll.perm {vs ws : List V} (p : vs.Perm ws) : ∀ {ds : List D}, RpAll K H vs ds → ∃ es, ds.Perm es ∧ RpAll K H ws es := by
  induction p with
  | nil => intro ds h; cases h; exact ⟨[], .nil, .nil⟩
  | cons x _ ih =>
    intro ds h
    cases h with
    | cons h t =>
      obtain ⟨es, p1, r⟩ := ih t
      exact ⟨_, p1.cons _, .cons h r⟩
  | swap x y l =>
    intro ds h
    cases h with
    | cons h t =>
      cases t with
      | cons h2 t => exact ⟨_, .swap _ _ _, .cons h2 (.cons h t)⟩
  | trans _ _ ih1 ih2 =>
    intro ds h
    obtain ⟨es, p1, r1⟩ := ih1 h
    obtain ⟨fs, p2, r2⟩ := ih2 r1
    exact ⟨fs, p1.trans p2, r2⟩

/-! ### a value that can be read as a datum now: it is one, or a list, a dict of one's own -/
inductive Rq (K : PySem.W.Frag) (H : Hp) : V → D → Prop
  | of {v : V} {d : D} : Rp K H v d → Rq K H v d
  | own {a : Addr} {xs : List V} {ds : List D} : H a = some (.lst xs) → RpAll K H xs ds → Rq K H (.ref a) (.list ds)
  | dct {a : Addr} {kvs : List (Key × V)} {es : List (D × D)} : H a = some (.dK kvs) → RpKV K H kvs es → Rq K H (.ref a) (.dict es)
theorem Rq.mono (s : Same H H') {v : V} {d : D} : Rq K H v d → Rq K H' v d
  | .of h => .of (h.mono (.of s))
  | .own h a => .own (s _ _ h) (a.mono (.of s))
  | .dct h a => .dct (s _ _ h) (a.mono (.of s))
/-- the list, the tuple behind it -/
theorem Rq.lst {v : V} {ds : List D} (h : Rq K H v (.list ds)) : ∃ a xs, v = .ref a ∧ SqL K H a xs ∧ RpAll K H xs ds := by
  cases h with
  | of h => cases h with | lst h a => exact ⟨_, _, rfl, h.sq, a⟩
  | own h a => exact ⟨_, _, rfl, .inl (.inl h), a⟩
theorem Rp.tupI {v : V} {ds : List D} (h : Rp K H v (.tuple ds)) : ∃ a xs, v = .ref a ∧ SqT K H a xs ∧ RpAll K H xs ds := by
  cases h with | tup h a => exact ⟨_, _, rfl, h.sq, a⟩
theorem Rq.tup {v : V} {ds : List D} (h : Rq K H v (.tuple ds)) : ∃ a xs, v = .ref a ∧ SqT K H a xs ∧ RpAll K H xs ds := by
  cases h with | of h => exact h.tupI
theorem Rq.tupP {v : V} {ds : List D} (h : Rq K H v (.tuple ds)) : ∃ a xs, v = .ref a ∧ PlT K H a xs ∧ RpAll K H xs ds := by
  cases h with | of h => cases h with | tup h a => exact ⟨_, _, rfl, h, a⟩
theorem Rq.int {v : V} {i : Int} (h : Rq K H v (.int i)) : v = .int i := by
  cases h with | of h => cases h; rfl
theorem Rq.str {v : V} {x : Str} (h : Rq K H v (.str x)) : v = .str x := by
  cases h with | of h => cases h; rfl
theorem Rq.bl {v : V} {b : Bool} (h : Rq K H v (.bool b)) : v = .bl b := by
  cases h with | of h => cases h; rfl
theorem Rq.non {v : V} (h : Rq K H v .none) : v = .non := by
  cases h with | of h => cases h; rfl
theorem Rp.is_non {v : V} {d : D} (h : Rp K H v d) : (v = .non) ↔ d = .none := by
  cases h <;> simp
theorem Rq.is_non {v : V} {d : D} (h : Rq K H v d) : (v = .non) ↔ d = .none := by
  cases h with
  | of h => exact h.is_non
  | own => simp
  | dct => simp
mutual
def nod : D → Bool
  | .none => true
  | .bool _ => true
  | .int _ => true
  | .str _ => true
  | .list xs => nods xs
  | .tuple xs => nods xs
  | .dict _ => false
def nods : List D → Bool
  | [] => true
  | x :: xs => nod x && nods xs
end
mutual
theorem Rp.dp : ∀ {v : V} {d : D}, nod d = true → Rp K H v d → Dp K H v d
  | _, _, _, .non => .non
  | _, _, _, .bl b => .bl b
  | _, _, _, .int i => .int i
  | _, _, _, .str x => .str x
  | _, _, n, .tup h a => .tup h.sq (RpAll.dp (by simpa [nod] using n) a)
  | _, _, n, .lst h a => .lst h.sq (RpAll.dp (by simpa [nod] using n) a)
  | _, _, n, .dct _ _ => by simp [nod] at n
theorem RpAll.dp : ∀ {vs : List V} {ds : List D}, nods ds = true → RpAll K H vs ds → DpAll K H vs ds
  | _, _, _, .nil => .nil
  | _, _, n, .cons h t => by
    simp only [nods, Bool.and_eq_true] at n
    exact .cons (Rp.dp n.1 h) (RpAll.dp n.2 t)
end
theorem Rq.dp {v : V} {d : D} (n : nod d = true) (h : Rq K H v d) : Dp K H v d := by
  cases h with
  | of h => exact h.dp n
  | own h a => exact .lst (.inl (.inl h)) (a.dp (by simpa [nod] using n))
  | dct => simp [nod] at n
end

/-- .. or a pair that a walk has just made -/
def RY (yl : Bool) (K : PySem.W.Frag) (H : Hp) (v : V) (d : D) : Prop := Rp K H v d ∨ (yl = true ∧ ∃ a xs ds, v = .ref a ∧ d = .tuple ds ∧ SqT K H a xs ∧ RpAll K H xs ds)
theorem RY.tup {yl : Bool} {K : PySem.W.Frag} {H : Hp} {v : V} {ds : List D} (h : RY yl K H v (.tuple ds)) : ∃ a xs, v = .ref a ∧ SqT K H a xs ∧ RpAll K H xs ds := by
  rcases h with h | ⟨_, a, xs, ds', e1, e2, h1, h2⟩
  · exact h.tupI
  · cases e2
    exact ⟨a, xs, e1, h1, h2⟩
theorem RY.no {K : PySem.W.Frag} {H : Hp} {v : V} {d : D} (h : RY false K H v d) : Rp K H v d := by
  rcases h with h | ⟨e, _⟩
  · exact h
  · cases e
/-! ### the names' slots -/
/-- a field of an object -/
inductive Fld where
  | val (d : D)
  | own (ds : List D)
  | dic (es : List (D × D))
inductive B where
  /-- nothing is known -/
  | un
  /-- a datum -/
  | val (d : D)
  /-- a list, a dict of one's own, that may be changed -/
  | own (ds : List D) | dic (es : List (D × D))
  /-- an object of one's own: an instance of a class, or a dict by texts, with its fields -/
  | obj (C : Option Addr) (a : Addr) (fs : List (Str × Fld))
  /-- tables of code objects, by the names of their lambdas -/
  | tab (T : List (Addr × Str))
  /-- anything else, by what is true of it; the addresses that are its own -/
  | gen (G : PySem.W.Frag → Hp → V → Prop) (L : List Addr)
abbrev Rho := List B
def isOwn : B → Bool
  | .own _ => true
  | .dic _ => true
  | .obj _ _ _ => true
  | .tab _ => true
  | .gen _ _ => true
  | _ => false
/-- a field's value, and the addresses that are its own -/
inductive FdOk (K : PySem.W.Frag) (H : Hp) : V → Fld → List Addr → Prop
  | val {v : V} {d : D} : Rp K H v d → FdOk K H v (.val d) []
  | own {p : Addr} {xs : List V} {ds : List D} : H p = some (.lst xs) → RpAll K H xs ds → FdOk K H (.ref p) (.own ds) [p]
  | dic {p : Addr} {kvs : List (Key × V)} {es : List (D × D)} : H p = some (.dK kvs) → RpKV K H kvs es → FdOk K H (.ref p) (.dic es) [p]
inductive FdsOk (K : PySem.W.Frag) (H : Hp) : List (Str × V) → List (Str × Fld) → List Addr → Prop
  | nil : FdsOk K H [] [] []
  | cons {x : Str} {v : V} {f : Fld} {vs : List (Str × V)} {fs : List (Str × Fld)} {L M : List Addr} : FdOk K H v f L → FdsOk K H vs fs M → FdsOk K H ((x, v) :: vs) ((x, f) :: fs) (L ++ M)
/-- it hangs on what never changes, and on its own addresses -/
structure GenOk (K : PySem.W.Frag) (G : PySem.W.Frag → Hp → V → Prop) (L : List Addr) (v : V) : Prop where
  mono : ∀ H H' : Hp, Stb H H' → (∀ x ∈ L, ∀ o, H x = some o → H' x = some o) → G K H v → G K H' v
  stands : ∀ H : Hp, G K H v → ∀ x ∈ L, ∃ o, H x = some o ∧ MutS (some o) ∧ ∀ ps, o ≠ .tbl ps
/-- what is in a slot of one's own, and the addresses that are its own -/
inductive Own (K : PySem.W.Frag) (H : Hp) : V → B → List Addr → Prop
  | own {a : Addr} {xs : List V} {ds : List D} : H a = some (.lst xs) → RpAll K H xs ds → Own K H (.ref a) (.own ds) [a]
  | dic {a : Addr} {kvs : List (Key × V)} {es : List (D × D)} : H a = some (.dK kvs) → RpKV K H kvs es → Own K H (.ref a) (.dic es) [a]
  | ins {a C dx : Addr} {vs : List (Str × V)} {fs : List (Str × Fld)} {L : List Addr} : H a = some (.ins C dx vs) → FdsOk K H vs fs L → (a :: L).Nodup → Own K H (.ref a) (.obj (some C) a fs) (a :: L)
  | dct {a : Addr} {vs : List (Str × V)} {fs : List (Str × Fld)} {L : List Addr} : H a = some (.dK (vs.map fun q => (.inr q.1, q.2))) → FdsOk K H vs fs L → (a :: L).Nodup → Own K H (.ref a) (.obj none a fs) (a :: L)
  | tab {T : List (Addr × Str)} : LamX.Tabs T H → Own K H .non (.tab T) (T.map (·.1))
  | gen {v : V} {G : PySem.W.Frag → Hp → V → Prop} {L : List Addr} : G K H v → GenOk K G L v → Own K H v (.gen G L) L
theorem tabs_mono {T : List (Addr × Str)} {H H' : Hp} (s : Stb H H') (h : LamX.Tabs T H) (k : ∀ x ∈ T.map (·.1), ∀ o, H x = some o → H' x = some o) : LamX.Tabs T H' := fun p hp => by
  obtain ⟨ps, h1, h2, h3⟩ := h p hp
  refine ⟨ps, k _ (List.mem_map_of_mem hp) _ h1, h2, fun pos cv hc => ?_⟩
  obtain ⟨c, e1, e2⟩ := h3 pos cv hc
  exact ⟨c, e1, s.p3 _ _ ⟨_, rfl⟩ e2⟩
section
variable {K : PySem.W.Frag} {H H' : Hp} {v : V} {b : B} {L M : List Addr}
theorem FdOk.mono {f : Fld} (s : Stb H H') (k : ∀ x ∈ L, ∀ o, H x = some o → H' x = some o) (h : FdOk K H v f L) : FdOk K H' v f L := by
  cases h with
  | val r => exact .val (r.mono s)
  | own e r => exact .own (k _ (by simp) _ e) (r.mono s)
  | dic e r => exact .dic (k _ (by simp) _ e) (r.mono s)
theorem FdOk.det {f : Fld} (h : FdOk K H v f L) (g : FdOk K H' v f M) : L = M := by
  cases h <;> cases g <;> rfl
theorem FdsOk.mono {vs : List (Str × V)} {fs : List (Str × Fld)} (s : Stb H H') (h : FdsOk K H vs fs L) : (∀ x ∈ L, ∀ o, H x = some o → H' x = some o) → FdsOk K H' vs fs L := by
  induction h with
  | nil => exact fun _ => .nil
  | cons h _ ih => exact fun k => .cons (h.mono s fun x hx => k x (List.mem_append_left _ hx)) (ih fun x hx => k x (List.mem_append_right _ hx))
theorem FdsOk.det {vs : List (Str × V)} {fs : List (Str × Fld)} (h : FdsOk K H vs fs L) : ∀ {M : List Addr}, FdsOk K H' vs fs M → L = M := by
  induction h with
  | nil => intro M g; cases g; rfl
  | cons h _ ih =>
    intro M g
    cases g with
    | cons g1 g2 => rw [h.det g1, ih g2]
theorem Own.mono (s : Stb H H') (k : ∀ x ∈ L, ∀ o, H x = some o → H' x = some o) (h : Own K H v b L) : Own K H' v b L := by
  cases h with
  | own e r => exact .own (k _ (by simp) _ e) (r.mono s)
  | dic e r => exact .dic (k _ (by simp) _ e) (r.mono s)
  | ins e r n => exact .ins (k _ (by simp) _ e) (r.mono s fun x hx => k x (List.mem_cons_of_mem _ hx)) n
  | dct e r n => exact .dct (k _ (by simp) _ e) (r.mono s fun x hx => k x (List.mem_cons_of_mem _ hx)) n
  | tab e => exact .tab (tabs_mono s e k)
  | gen e g => exact .gen (g.mono _ _ s k e) g
theorem keys_inj : ∀ {vs ws : List (Str × V)}, (vs.map fun q => ((.inr q.1 : Key), q.2)) = ws.map (fun q => (.inr q.1, q.2)) → vs = ws
  | [], [], _ => rfl
  | [], _ :: _, h => by simp at h
  | _ :: _, [], h => by simp at h
  | q :: vs, r :: ws, h => by
    simp only [List.map_cons, List.cons.injEq, Prod.mk.injEq, Sum.inr.injEq] at h
    rw [keys_inj h.2, Prod.ext h.1.1 h.1.2]
theorem Own.det (h : Own K H v b L) (g : Own K H v b M) : L = M := by
  cases h with
  | own => cases g; rfl
  | dic => cases g; rfl
  | ins e r _ =>
    cases g with
    | ins e2 r2 _ =>
      rw [e] at e2
      cases e2
      rw [r.det r2]
  | dct e r _ =>
    cases g with
    | dct e2 r2 _ =>
      rw [e] at e2
      have e3 := keys_inj (HO.dK.inj (Option.some.inj e2))
      subst e3
      rw [r.det r2]
  | tab e => cases g; rfl
  | gen e g' => cases g; rfl
theorem Own.is (h : Own K H v b L) : isOwn b = true := by cases h <;> rfl
theorem FdsOk.stands {vs : List (Str × V)} {fs : List (Str × Fld)} (h : FdsOk K H vs fs L) : ∀ x ∈ L, ∃ o, H x = some o ∧ MutS (some o) := by
  induction h with
  | nil => exact fun x hx => nomatch hx
  | cons h _ ih =>
    intro x hx
    rcases List.mem_append.mp hx with z | z
    · cases h with
      | val => cases z
      | own e _ => simp at z; rw [z]; exact ⟨_, e, trivial⟩
      | dic e _ => simp at z; rw [z]; exact ⟨_, e, trivial⟩
    · exact ih x z
/-- all of one's own stands -/
theorem Own.stands (h : Own K H v b L) : ∀ x ∈ L, ∃ o, H x = some o ∧ MutS (some o) := by
  intro x hx
  cases h with
  | own e _ => simp at hx; rw [hx]; exact ⟨_, e, trivial⟩
  | dic e _ => simp at hx; rw [hx]; exact ⟨_, e, trivial⟩
  | ins e r _ =>
    rcases List.mem_cons.mp hx with rfl | z
    · exact ⟨_, e, trivial⟩
    · exact r.stands x z
  | dct e r _ =>
    rcases List.mem_cons.mp hx with rfl | z
    · exact ⟨_, e, trivial⟩
    · exact r.stands x z
  | tab e =>
    obtain ⟨p, hp, rfl⟩ := List.mem_map.mp hx
    obtain ⟨ps, h1, _⟩ := e p hp
    exact ⟨_, h1, trivial⟩
  | gen e g =>
    obtain ⟨o, h1, h2, _⟩ := g.stands _ e x hx
    exact ⟨o, h1, h2⟩
end
structure SOk (K : PySem.W.Frag) (ρ : Rho) (σ : L2.St) (H : Hp) : Prop where
  len : ρ.length = σ.length
  val : ∀ (i : Nat) d, ρ[i]? = some (.val d) → ∃ v, σ[i]? = some (some v) ∧ Rp K H v d
  has : ∀ (i : Nat) b, ρ[i]? = some b → isOwn b = true → ∃ v L, σ[i]? = some (some v) ∧ Own K H v b L
  apart : ∀ (i j : Nat) b c v w L M x, ρ[i]? = some b → ρ[j]? = some c → σ[i]? = some (some v) → σ[j]? = some (some w) → Own K H v b L → Own K H w c M → x ∈ L → x ∈ M → i = j
section
variable {K : PySem.W.Frag} {ρ : Rho} {σ : L2.St} {H H' : Hp}
theorem SOk.own (h : SOk K ρ σ H) (i : Nat) (ds : List D) (e : ρ[i]? = some (.own ds)) : ∃ a xs, σ[i]? = some (some (.ref a)) ∧ H a = some (.lst xs) ∧ RpAll K H xs ds := by
  obtain ⟨v, L, e1, o⟩ := h.has i _ e rfl
  cases o with
  | own e2 r => exact ⟨_, _, e1, e2, r⟩
theorem SOk.dic (h : SOk K ρ σ H) (i : Nat) (es : List (D × D)) (e : ρ[i]? = some (.dic es)) : ∃ a kvs, σ[i]? = some (some (.ref a)) ∧ H a = some (.dK kvs) ∧ RpKV K H kvs es := by
  obtain ⟨v, L, e1, o⟩ := h.has i _ e rfl
  cases o with
  | dic e2 r => exact ⟨_, _, e1, e2, r⟩
/-- what is one's own behind a change was so before -/
theorem SOk.back (h : SOk K ρ σ H) (s : Stb H H') {i : Nat} {b : B} {v : V} {L : List Addr} (k : ∀ L, Own K H v b L → ∀ x ∈ L, ∀ o, H x = some o → H' x = some o) (e : ρ[i]? = some b) (es : σ[i]? = some (some v)) (o : Own K H' v b L) : Own K H v b L := by
  obtain ⟨v', L', e1, o'⟩ := h.has i b e o.is
  rw [es] at e1
  cases e1
  rw [o.det (o'.mono s (k L' o'))]
  exact o'
/-- a stable change that leaves one's own things -/
theorem SOk.stb (s : Stb H H') (k : ∀ (i : Nat) b v L, ρ[i]? = some b → σ[i]? = some (some v) → Own K H v b L → ∀ x ∈ L, ∀ o, H x = some o → H' x = some o) (h : SOk K ρ σ H) : SOk K ρ σ H' := by
  refine ⟨h.len, fun i d e => ?_, fun i b e o => ?_, fun i j b c v w L M x e1 e2 s1 s2 o1 o2 => ?_⟩
  · obtain ⟨v, e1, r⟩ := h.val i d e
    exact ⟨v, e1, r.mono s⟩
  · obtain ⟨v, L, e1, r⟩ := h.has i b e o
    exact ⟨v, L, e1, r.mono s (k i b v L e e1 r)⟩
  · exact h.apart i j b c v w L M x e1 e2 s1 s2 (h.back s (fun L o => k i b v L e1 s1 o) e1 s1 o1) (h.back s (fun L o => k j c w L e2 s2 o) e2 s2 o2)
theorem SOk.mono (s : Same H H') (h : SOk K ρ σ H) : SOk K ρ σ H' := h.stb (.of s) fun _ _ _ _ _ _ _ x _ o e => s x o e
/-- forgetting slots -/
theorem SOk.weak {ρ' : Rho} {σ' : L2.St} (h : SOk K ρ σ H) (hl : ρ'.length = σ'.length) (w : ∀ (i : Nat) b, ρ'[i]? = some b → b ≠ .un → ρ[i]? = some b ∧ σ'[i]? = σ[i]?) : SOk K ρ' σ' H := by
  have ne : ∀ {b : B} {v : V} {L : List Addr}, Own K H v b L → b ≠ .un := fun o => by rintro rfl; cases o
  refine ⟨hl, fun i d e => ?_, fun i b e o => ?_, fun i j b c v w' L M x e1 e2 s1 s2 o1 o2 => ?_⟩
  · obtain ⟨e', q⟩ := w i _ e (by simp)
    rw [q]; exact h.val i d e'
  · obtain ⟨e', q⟩ := w i b e (by rintro rfl; cases o)
    rw [q]; exact h.has i b e' o
  · obtain ⟨e1', q1⟩ := w i b e1 (ne o1)
    obtain ⟨e2', q2⟩ := w j c e2 (ne o2)
    exact h.apart i j b c v w' L M x e1' e2' (by rw [← q1]; exact s1) (by rw [← q2]; exact s2) o1 o2
/-- a datum is stored -/
theorem SOk.set {i : Nat} {v : V} {d : D} (h : SOk K ρ σ H) (r : Rp K H v d) : SOk K (ρ.set i (.val d)) (σ.set i (some v)) H := by
  have hl := h.len
  have ne : ∀ (j : Nat) b, (ρ.set i (.val d))[j]? = some b → j ≠ i → ρ[j]? = some b ∧ (σ.set i (some v))[j]? = σ[j]? := fun j b e n => by
    rw [List.getElem?_set_ne (Ne.symm n)] at e
    exact ⟨e, List.getElem?_set_ne (Ne.symm n)⟩
  have at_ : ∀ b, (ρ.set i (.val d))[i]? = some b → b = .val d ∧ (σ.set i (some v))[i]? = some (some v) := fun b e => by
    by_cases hi : i < ρ.length
    · rw [List.getElem?_set_self hi] at e
      cases e
      exact ⟨rfl, List.getElem?_set_self (by omega)⟩
    · rw [List.getElem?_eq_none (by rw [List.length_set]; omega)] at e; cases e
  refine ⟨by simpa using hl, fun j d' e => ?_, fun j b e o => ?_, fun j k b c w u L M x e1 e2 s1 s2 o1 o2 => ?_⟩
  · by_cases hj : j = i
    · subst hj
      obtain ⟨q, e'⟩ := at_ _ e
      cases q
      exact ⟨v, e', r⟩
    · obtain ⟨e', q⟩ := ne j _ e hj
      rw [q]; exact h.val j d' e'
  · by_cases hj : j = i
    · subst hj; obtain ⟨q, _⟩ := at_ _ e; subst q; cases o
    · obtain ⟨e', q⟩ := ne j _ e hj
      rw [q]; exact h.has j b e' o
  · have hj : j ≠ i := fun z => by subst z; obtain ⟨q, _⟩ := at_ _ e1; subst q; cases o1
    have hk : k ≠ i := fun z => by subst z; obtain ⟨q, _⟩ := at_ _ e2; subst q; cases o2
    obtain ⟨e1', q1⟩ := ne j _ e1 hj
    obtain ⟨e2', q2⟩ := ne k _ e2 hk
    exact h.apart j k b c w u L M x e1' e2' (by rw [← q1]; exact s1) (by rw [← q2]; exact s2) o1 o2
/-- a thing of one's own is stored -/
theorem SOk.setOwn {i : Nat} {v0 : V} {b0 : B} {L0 : List Addr} (h : SOk K ρ σ H) (o0 : Own K H v0 b0 L0) (hp : ∀ (j : Nat) b v L x, ρ[j]? = some b → j ≠ i → σ[j]? = some (some v) → Own K H v b L → x ∈ L → x ∉ L0) : SOk K (ρ.set i b0) (σ.set i (some v0)) H := by
  have hl := h.len
  have ne : ∀ (j : Nat) b, (ρ.set i b0)[j]? = some b → j ≠ i → ρ[j]? = some b ∧ (σ.set i (some v0))[j]? = σ[j]? := fun j b e n => by
    rw [List.getElem?_set_ne (Ne.symm n)] at e
    exact ⟨e, List.getElem?_set_ne (Ne.symm n)⟩
  have at_ : ∀ b, (ρ.set i b0)[i]? = some b → b = b0 ∧ (σ.set i (some v0))[i]? = some (some v0) := fun b e => by
    by_cases hi : i < ρ.length
    · rw [List.getElem?_set_self hi] at e
      cases e
      exact ⟨rfl, List.getElem?_set_self (by omega)⟩
    · rw [List.getElem?_eq_none (by rw [List.length_set]; omega)] at e; cases e
  refine ⟨by simpa using hl, fun j d' e => ?_, fun j b e o => ?_, fun j k b c w u L M x e1 e2 s1 s2 o1 o2 m1 m2 => ?_⟩
  · by_cases hj : j = i
    · subst hj; obtain ⟨q, _⟩ := at_ _ e; subst q; cases o0
    · obtain ⟨e', q⟩ := ne j _ e hj
      rw [q]; exact h.val j d' e'
  · by_cases hj : j = i
    · subst hj
      obtain ⟨q, e'⟩ := at_ _ e
      subst q
      exact ⟨v0, L0, e', o0⟩
    · obtain ⟨e', q⟩ := ne j _ e hj
      rw [q]; exact h.has j b e' o
  · by_cases hj : j = i
    · by_cases hk : k = i
      · rw [hj, hk]
      · subst hj
        obtain ⟨q, e'⟩ := at_ _ e1
        subst q
        rw [e'] at s1
        cases s1
        obtain ⟨e2', q2⟩ := ne k _ e2 hk
        exact absurd (by rw [o0.det o1]; exact m1) (hp k c u M x e2' hk (q2 ▸ s2) o2 m2)
    · by_cases hk : k = i
      · subst hk
        obtain ⟨q, e'⟩ := at_ _ e2
        subst q
        rw [e'] at s2
        cases s2
        obtain ⟨e1', q1⟩ := ne j _ e1 hj
        exact absurd (by rw [o0.det o2]; exact m2) (hp j b w L x e1' hj (q1 ▸ s1) o1 m1)
      · obtain ⟨e1', q1⟩ := ne j _ e1 hj
        obtain ⟨e2', q2⟩ := ne k _ e2 hk
        exact h.apart j k b c w u L M x e1' e2' (by rw [← q1]; exact s1) (by rw [← q2]; exact s2) o1 o2 m1 m2
end
end DL


namespace DL
open PySem PySem.Spec PyProof.Rows L2

/-! ### the weakest readings -/
section
variable {X : Cx}
def cE (X : Cx) (e : Expr) : TE := fun σ H Q => ∃ t, PE X e t ∧ t σ H Q
def cT (X : Cx) (e : Expr) : TT := fun σ H Q => ∃ t, PT X e t ∧ t σ H Q
def cW (X : Cx) (e : Expr) : TT := fun σ H Q => ∃ t, PW X e t ∧ t σ H Q
def cA (X : Cx) (es : List Expr) : TA := fun σ H Q => ∃ t, PA X es t ∧ t σ H Q
def cS (X : Cx) (st : Stmt) : TS := fun D σ H => ∃ t, PS X st t ∧ t D σ H
def cSs (X : Cx) (st : List Stmt) : TS := fun D σ H => ∃ t, PSs X st t ∧ t D σ H
def cG (X : Cx) (tg : Expr) : TG := fun v σ H Q => ∃ t, PG X tg t ∧ t v σ H Q
def cGs (X : Cx) (tg : List Expr) : TGs := fun v σ H Q => ∃ t, PGs X tg t ∧ t v σ H Q
def cI (X : Cx) (tg it : Expr) : TI := fun σ H R => ∃ t, PI X tg it t ∧ t σ H R
def cP (X : Cx) (e : Option Expr) : TO := fun σ H Q => ∃ t, PO X e t ∧ t σ H Q
def cTs (X : Cx) (es : List Expr) : TT := fun σ H Q => ∃ t, PTs X es t ∧ t σ H Q
theorem pe_c {e : Expr} : PE X e (cE X e) := ⟨fun pins s σ H Q I ⟨t, h, q⟩ => h.run pins s σ H Q I q⟩
theorem pt_c {e : Expr} : PT X e (cT X e) := ⟨fun pins s σ H Q I ⟨t, h, q⟩ => h.run pins s σ H Q I q⟩
theorem pw_c {e : Expr} : PW X e (cW X e) := ⟨fun wh pins s σ H Q I ⟨t, h, q⟩ => h.run wh pins s σ H Q I q⟩
theorem pa_c {es : List Expr} : PA X es (cA X es) := ⟨fun pos pins s σ H Q I ⟨t, h, q⟩ => h.run pos pins s σ H Q I q⟩
theorem ps_c {st : Stmt} : PS X st (cS X st) := ⟨fun pins s σ H D I ⟨t, h, q⟩ => h.run pins s σ H D I q⟩
theorem pss_c {st : List Stmt} : PSs X st (cSs X st) := ⟨fun pins s σ H D I ⟨t, h, q⟩ => h.run pins s σ H D I q⟩
theorem pg_c {tg : Expr} : PG X tg (cG X tg) := ⟨fun pins s σ H v u Q I r ⟨t, h, q⟩ => h.run pins s σ H v u Q I r q⟩
theorem pgs_c {tg : List Expr} : PGs X tg (cGs X tg) := ⟨fun pins s σ H v u Q I r ⟨t, h, q⟩ => h.run pins s σ H v u Q I r q⟩
theorem pi_c {tg it : Expr} : PI X tg it (cI X tg it) := ⟨fun pins s σ H R I ⟨t, h, q⟩ => h.run pins s σ H R I q⟩
theorem po_c {e : Option Expr} : PO X e (cP X e) := ⟨fun pins s σ H Q I ⟨t, h, q⟩ => h.run pins s σ H Q I q⟩
theorem pts_c {es : List Expr} : PTs X es (cTs X es) := ⟨fun pins s σ H Q I ⟨t, h, q⟩ => h.run pins s σ H Q I q⟩
end

/-! ### what comes of an expression -/
inductive Kd where
  /-- a datum | one that can be read now | a new list, a new dict of one's own -/
  | val (d : D) | qua (d : D) | new (ds : List D) | newD (es : List (D × D))
def RS (K : PySem.W.Frag) : Kd → Hp → V → Hp → Prop
  | .val d, H, v, H' => Same H H' ∧ Rp K H' v d
  | .qua d, H, v, H' => Same H H' ∧ Rq K H' v d
  | .new ds, H, v, H' => Same H H' ∧ ∃ p xs, v = .ref p ∧ H p = none ∧ H' p = some (.lst xs) ∧ RpAll K H' xs ds
  | .newD es, H, v, H' => Same H H' ∧ ∃ p kvs, v = .ref p ∧ H p = none ∧ H' p = some (.dK kvs) ∧ RpKV K H' kvs es
section
variable {K : PySem.W.Frag} {H H1 H2 : Hp} {v : V}
theorem RS.abs : ∀ {k : Kd}, Same H H1 → RS K k H1 v H2 → RS K k H v H2
  | .val _, s, ⟨a, b⟩ => ⟨s.trans a, b⟩
  | .qua _, s, ⟨a, b⟩ => ⟨s.trans a, b⟩
  | .new _, s, ⟨a, p, xs, e, n, q⟩ => ⟨s.trans a, p, xs, e, s.free n, q⟩
  | .newD _, s, ⟨a, p, xs, e, n, q⟩ => ⟨s.trans a, p, xs, e, s.free n, q⟩
theorem RS.same : ∀ {k : Kd}, RS K k H v H2 → Same H H2
  | .val _, h => h.1
  | .qua _, h => h.1
  | .new _, h => h.1
  | .newD _, h => h.1
end
def Ev (X : Cx) (e : Expr) (ρ : Rho) (k : Kd) : Prop := ∀ σ H Q, SOk X.K ρ σ H → (∀ v H', RS X.K k H v H' → Q v H') → cE X e σ H Q
def EvT (X : Cx) (e : Expr) (ρ : Rho) (b : Bool) : Prop := ∀ σ H Q, SOk X.K ρ σ H → (∀ H', Same H H' → Q b H') → cT X e σ H Q
def EvW (X : Cx) (e : Expr) (ρ : Rho) (b : Bool) : Prop := ∀ σ H Q, SOk X.K ρ σ H → (∀ H', Same H H' → Q b H') → cW X e σ H Q
/-- arguments: data | what can be read -/
def EvA (X : Cx) (es : List Expr) (ρ : Rho) (ds : List D) : Prop := ∀ σ H Q, SOk X.K ρ σ H → (∀ vs H', Same H H' → RpAll X.K H' vs ds → Q vs H') → cA X es σ H Q
def EvAq (X : Cx) (es : List Expr) (ρ : Rho) (ds : List D) : Prop := ∀ σ H Q, SOk X.K ρ σ H → (∀ vs H', Same H H' → Paired (Rq X.K H') vs ds → Q vs H') → cA X es σ H Q
section
variable {X : Cx} {ρ : Rho} {e a b c : Expr} {d x y z : D} {ds es' : List D} {k : Kd}
theorem Ev.q (h : Ev X e ρ (.val d)) : Ev X e ρ (.qua d) := fun σ H Q S q => h σ H Q S fun v H' r => q v H' ⟨r.1, .of r.2⟩
theorem Ev.nq (h : Ev X e ρ (.new ds)) : Ev X e ρ (.qua (.list ds)) := fun σ H Q S q => h σ H Q S fun v H' ⟨s, p, xs, e1, _, e2, r⟩ => by
  subst e1
  exact q _ H' ⟨s, .own e2 r⟩
/-- a new thing is locked for ever -/
theorem fz_any {t : TE} (h : PE X e t) : PE X e (fun σ H Q => t σ H fun v H' => ∃ a u, v = .ref a ∧ H' a = some u ∧ Mut (some u) ∧ ∀ od, Q v (upd H' a (.frz od u))) := by
  refine ⟨fun pins s σ H Q I hw => ?_⟩
  refine thn (h.run pins s σ H _ I hw) fun v s1 ⟨x, H1, I1, r1, a, u, e1, hu, mu, q⟩ => ?_
  subst e1
  obtain ⟨od, I2⟩ := I1.lock hu mu
  exact ⟨_, _, I2, r1, q od⟩
theorem rp_lock {K : PySem.W.Frag} {H : Hp} {p : Addr} {xs : List V} {ds : List D} (e : H p = some (.lst xs)) (r : RpAll K H xs ds) (od : Obj) : Rp K (upd H p (.frz od (.lst xs))) (.ref p) (.list ds) :=
  .lst (.inl ⟨od, upd_same⟩) (r.mono (stb_upd e trivial))
theorem rp_lockD {K : PySem.W.Frag} {H : Hp} {p : Addr} {kvs : List (Key × V)} {es : List (D × D)} (e : H p = some (.dK kvs)) (r : RpKV K H kvs es) (od : Obj) : Rp K (upd H p (.frz od (.dK kvs))) (.ref p) (.dict es) :=
  .dct upd_same (r.mono (stb_upd e trivial))
theorem Ev.fz (h : Ev X e ρ (.new ds)) : Ev X e ρ (.val (.list ds)) := fun σ H Q S q =>
  ⟨_, fz_any pe_c, h σ H _ S fun v H' ⟨s, p, xs, e1, n, e2, r⟩ => ⟨p, _, e1, e2, trivial, fun od => by
    subst e1
    exact q _ _ ⟨same_mut s n, rp_lock e2 r od⟩⟩⟩
theorem Ev.fzD {es : List (D × D)} (h : Ev X e ρ (.newD es)) : Ev X e ρ (.val (.dict es)) := fun σ H Q S q =>
  ⟨_, fz_any pe_c, h σ H _ S fun v H' ⟨s, p, xs, e1, n, e2, r⟩ => ⟨p, _, e1, e2, trivial, fun od => by
    subst e1
    exact q _ _ ⟨same_mut s n, rp_lockD e2 r od⟩⟩⟩
theorem Ev.cast {k' : Kd} (h : Ev X e ρ k) (e1 : k = k') : Ev X e ρ k' := e1 ▸ h
theorem EvT.cast {b b' : Bool} (h : EvT X e ρ b) (e1 : b = b') : EvT X e ρ b' := e1 ▸ h

/-! ### names, constants -/
theorem ev_var (i : Nat) {x : Str} {pos : Pos} (h : ρ[i]? = some (.val d) := by rfl) (hN : X.N[i]? = some x := by rfl) (hv : Vis X.env.scope x := by first | exact Or.inl rfl | exact Or.inr (Or.inl rfl) | exact Or.inr (Or.inr rfl)) (hd : (x == ("__debug__" : Str)) = false := by decide)
    (hcd : (x == ("__classdict__" : Str)) = false := by decide) : Ev X (.Name x pos) ρ (.val d) := fun σ H Q S q => by
  obtain ⟨v, e, r⟩ := S.val i d h
  exact ⟨_, pe_var hN hv hd hcd, v, e, q v H ⟨.refl H, r⟩⟩
theorem ev_own (i : Nat) {x : Str} {pos : Pos} (h : ρ[i]? = some (.own ds) := by rfl) (hN : X.N[i]? = some x := by rfl) (hv : Vis X.env.scope x := by first | exact Or.inl rfl | exact Or.inr (Or.inl rfl) | exact Or.inr (Or.inr rfl)) (hd : (x == ("__debug__" : Str)) = false := by decide)
    (hcd : (x == ("__classdict__" : Str)) = false := by decide) : Ev X (.Name x pos) ρ (.qua (.list ds)) := fun σ H Q S q => by
  obtain ⟨p, xs, e, e2, r⟩ := S.own i ds h
  exact ⟨_, pe_var hN hv hd hcd, _, e, q _ H ⟨.refl H, .own e2 r⟩⟩
theorem ev_dic (i : Nat) {x : Str} {pos : Pos} {es : List (D × D)} (h : ρ[i]? = some (.dic es) := by rfl) (hN : X.N[i]? = some x := by rfl) (hv : Vis X.env.scope x := by first | exact Or.inl rfl | exact Or.inr (Or.inl rfl) | exact Or.inr (Or.inr rfl)) (hd : (x == ("__debug__" : Str)) = false := by decide)
    (hcd : (x == ("__classdict__" : Str)) = false := by decide) : Ev X (.Name x pos) ρ (.qua (.dict es)) := fun σ H Q S q => by
  obtain ⟨p, xs, e, e2, r⟩ := S.dic i es h
  exact ⟨_, pe_var hN hv hd hcd, _, e, q _ H ⟨.refl H, .dct e2 r⟩⟩
theorem ev_int {i : Int} {j : Nat} {pos : Pos} : Ev X (.Constant (.int i) j pos) ρ (.val (.int i)) := fun _ H _ _ q => ⟨_, pe_int, q _ H ⟨.refl H, .int i⟩⟩
theorem ev_bl {i : Bool} {j : Nat} {pos : Pos} : Ev X (.Constant (.bool i) j pos) ρ (.val (.bool i)) := fun _ H _ _ q => ⟨_, pe_bl, q _ H ⟨.refl H, .bl i⟩⟩
theorem ev_str {i : Str} {j : Nat} {pos : Pos} : Ev X (.Constant (.str i) j pos) ρ (.val (.str i)) := fun _ H _ _ q => ⟨_, pe_str, q _ H ⟨.refl H, .str i⟩⟩
theorem ev_non {j : Nat} {pos : Pos} : Ev X (.Constant .none j pos) ρ (.val .none) := fun _ H _ _ q => ⟨_, pe_non, q _ H ⟨.refl H, .non⟩⟩
/-- a constant of the module that is a text, an int -/
theorem ev_gstr {x : Str} {s : Str} {t : Tok} {pos : Pos} (hm : X.mg x = some (.str s t)) (hg : Gl X x := by rfl) (hd : (x == ("__debug__" : Str)) = false := by decide) : Ev X (.Name x pos) ρ (.val (.str s)) :=
  fun _ H _ _ q => ⟨_, pe_glob (v := .str s) hg hm ⟨_, rfl⟩ hd, q _ H ⟨.refl H, .str s⟩⟩
theorem ev_gint {x : Str} {s : Int} {t : Tok} {pos : Pos} (hm : X.mg x = some (.int s t)) (hg : Gl X x := by rfl) (hd : (x == ("__debug__" : Str)) = false := by decide) : Ev X (.Name x pos) ρ (.val (.int s)) :=
  fun _ H _ _ q => ⟨_, pe_glob (v := .int s) hg hm ⟨_, rfl⟩ hd, q _ H ⟨.refl H, .int s⟩⟩

/-! ### operators by data -/
def OpV (X : Cx) (f : Value → Value → Sem Value) (x y : D) (k : Kd) : Prop :=
  ∀ H u v Q, Rq X.K H u x → Rq X.K H v y → (∀ w H', RS X.K k H w H' → Q w H') → ∃ r, OpR X f r ∧ r u v H Q
def cOp (X : Cx) (f : Value → Value → Sem Value) : R2 := fun u v H Q => ∃ r, OpR X f r ∧ r u v H Q
theorem op_c {f : Value → Value → Sem Value} : OpR X f (cOp X f) := fun pins s σ H x y v u Q I rx ry ⟨r, h, q⟩ => h pins s σ H x y v u Q I rx ry q
theorem ev_two {f : Value → Value → Sem Value} {σ : L2.St} {H : Hp} {Q : VK} (o : OpV X f x y k) (ha : Ev X a ρ (.qua x)) (hb : Ev X b ρ (.qua y)) (S : SOk X.K ρ σ H) (q : ∀ v H', RS X.K k H v H' → Q v H') : tOp (cOp X f) (cE X a) (cE X b) σ H Q :=
  ha σ H _ S fun u H1 ⟨s1, r1⟩ => hb σ H1 _ (S.mono s1) fun v H2 ⟨s2, r2⟩ => o H2 u v Q (r1.mono s2) r2 fun w H3 r => q w H3 (r.abs (s1.trans s2))
theorem ev_bin {op : Operator} {pos : Pos} (o : OpV X (binaryOp op) x y k) (ha : Ev X a ρ (.qua x)) (hb : Ev X b ρ (.qua y)) : Ev X (.BinOp a op b pos) ρ k := fun σ H Q S q => ⟨_, pe_op op_c pe_c pe_c, ev_two o ha hb S q⟩
theorem ev_cmp {op : CmpOp} {pos : Pos} (o : OpV X (compareOp op) x y k) (ha : Ev X a ρ (.qua x)) (hb : Ev X b ρ (.qua y)) (hm : behindInMarks op b = false := by first | exact nomark _ | rfl) : Ev X (.Compare a [op] [b] pos) ρ k := fun σ H Q S q => ⟨_, pe_cmpR op_c pe_c pe_c hm, ev_two o ha hb S q⟩
theorem et_cmp {op : CmpOp} {pos : Pos} {t : Bool} (o : OpV X (compareOp op) x y (.val (.bool t))) (ha : Ev X a ρ (.qua x)) (hb : Ev X b ρ (.qua y)) (hm : behindInMarks op b = false := by first | exact nomark _ | rfl) : EvT X (.Compare a [op] [b] pos) ρ t :=
  fun σ H Q S q => ⟨_, pt_cmpR op_c pe_c pe_c hm, ev_two o ha hb S fun v H' ⟨s, r⟩ => by cases r; exact ⟨t, rfl, q H' s⟩⟩
/-- a < b < c -/
theorem ev_chain {op op' : CmpOp} {pos : Pos} {t t' : Bool} (o : OpV X (compareOp op) x y (.val (.bool t))) (ha : Ev X a ρ (.val x)) (hb : Ev X b ρ (.val y)) (o' : t = true → OpV X (compareOp op') y z (.val (.bool t'))) (hc : t = true → Ev X c ρ (.val z))
    (hm : lastMarks [op, op'] [b, c] = false := by with_unfolding_all rfl) : Ev X (.Compare a [op, op'] [b, c] pos) ρ (.val (.bool (t && t'))) := fun σ H Q S q => by
  refine ⟨_, pe_chain op_c op_c pe_c pe_c pe_c hm, ?_⟩
  refine ha σ H _ S fun u H1 ⟨s1, r1⟩ => hb σ H1 _ (S.mono s1) fun v H2 ⟨s2, r2⟩ => o H2 u v _ ((Rq.of r1).mono s2) (.of r2) fun w H3 ⟨s3, r3⟩ => ?_
  have r3' : w = .bl t := (Rq.of r3).bl
  refine ⟨t, r3', ?_⟩
  cases t with
  | false => exact iteF (q _ H3 ⟨(s1.trans s2).trans s3, .bl _⟩)
  | true =>
    exact iteT (hc rfl σ H3 _ (S.mono ((s1.trans s2).trans s3)) fun w' H4 ⟨s4, r4⟩ => o' rfl H4 v w' _ ((Rq.of r2).mono (s3.trans s4)) (.of r4) fun z H5 r5 => q z H5 (r5.abs (((s1.trans s2).trans s3).trans s4)))
theorem et_chain {op op' : CmpOp} {pos : Pos} {t t' : Bool} (o : OpV X (compareOp op) x y (.val (.bool t))) (ha : Ev X a ρ (.val x)) (hb : Ev X b ρ (.val y)) (o' : t = true → OpV X (compareOp op') y z (.val (.bool t'))) (hc : t = true → Ev X c ρ (.val z))
    (hm : lastMarks [op, op'] [b, c] = false := by with_unfolding_all rfl) : EvT X (.Compare a [op, op'] [b, c] pos) ρ (t && t') := fun σ H Q S q => by
  refine ⟨_, pt_chain op_c op_c pe_c pe_c pe_c hm, ?_⟩
  refine ha σ H _ S fun u H1 ⟨s1, r1⟩ => hb σ H1 _ (S.mono s1) fun v H2 ⟨s2, r2⟩ => o H2 u v _ ((Rq.of r1).mono s2) (.of r2) fun w H3 ⟨s3, r3⟩ => ?_
  have r3' : w = .bl t := (Rq.of r3).bl
  refine ⟨t, r3', ?_⟩
  cases t with
  | false => exact iteF ⟨_, rfl, q H3 ((s1.trans s2).trans s3)⟩
  | true =>
    exact iteT (hc rfl σ H3 _ (S.mono ((s1.trans s2).trans s3)) fun w' H4 ⟨s4, r4⟩ => o' rfl H4 v w' _ ((Rq.of r2).mono (s3.trans s4)) (.of r4) fun z H5 r5 => by
      have e5 : z = .bl t' := (Rq.of r5.2).bl
      exact ⟨t', e5, q H5 (((((s1.trans s2).trans s3).trans s4)).trans r5.1)⟩)

/-! ### tests -/
theorem et_val {t : Bool} (h : Ev X e ρ (.val (.bool t))) (he : ∀ whole, isTrue e X.env whole = (do let v ← whole; standAt e.pos; holding [v] (truthy v)) := by intro _; rfl) : EvT X e ρ t := fun σ H Q S q =>
  ⟨_, pt_val pe_c he, h σ H _ S fun v H' ⟨s, r⟩ => ⟨t, (Rq.of r).bl, q H' s⟩⟩
theorem EvW.t {t : Bool} (h : EvW X e ρ t) : EvT X e ρ t := fun σ H Q S q => ⟨_, PW.pt pw_c, h σ H Q S q⟩
theorem ew_and1 {t : Bool} {pos : Pos} (h : EvT X a ρ t) : EvW X (.BoolOp .And [a] pos) ρ t := fun σ H Q S q => ⟨_, pw_and1 pt_c, h σ H Q S q⟩
theorem ew_or1 {t : Bool} {pos : Pos} (h : EvT X a ρ t) : EvW X (.BoolOp .Or [a] pos) ρ t := fun σ H Q S q => ⟨_, pw_or1 pt_c, h σ H Q S q⟩
theorem ew_and {t t' : Bool} {pos : Pos} {rest : List Expr} (h : EvT X a ρ t) (h' : t = true → EvW X (.BoolOp .And (b :: rest) pos) ρ t') : EvW X (.BoolOp .And (a :: b :: rest) pos) ρ (t && t') := fun σ H Q S q =>
  ⟨_, pw_and pt_c pw_c, h σ H _ S fun H1 s1 => by
    cases t with
    | true => exact iteT (h' rfl σ H1 Q (S.mono s1) fun H2 s2 => q H2 (s1.trans s2))
    | false => exact iteF (q H1 s1)⟩
theorem ew_or {t t' : Bool} {pos : Pos} {rest : List Expr} (h : EvT X a ρ t) (h' : t = false → EvW X (.BoolOp .Or (b :: rest) pos) ρ t') : EvW X (.BoolOp .Or (a :: b :: rest) pos) ρ (t || t') := fun σ H Q S q =>
  ⟨_, pw_or pt_c pw_c, h σ H _ S fun H1 s1 => by
    cases t with
    | false => exact iteF (h' rfl σ H1 Q (S.mono s1) fun H2 s2 => q H2 (s1.trans s2))
    | true => exact iteT (q H1 s1)⟩
theorem et_not {t : Bool} {pos : Pos} (h : EvT X a ρ t) : EvT X (.UnaryOp .Not a pos) ρ (!t) := fun σ H Q S q => ⟨_, pt_not pt_c, h σ H _ S fun H1 s1 => q H1 s1⟩
/-- and, or, not as values (all truths) -/
theorem ev_one {op : BoolOp} {pos : Pos} (h : Ev X a ρ k) : Ev X (.BoolOp op [a] pos) ρ k := fun σ H Q S q => ⟨_, pe_one pe_c, h σ H Q S q⟩
theorem ev_and {t t' : Bool} {pos : Pos} {rest : List Expr} (h : Ev X a ρ (.val (.bool t))) (h' : t = true → Ev X (.BoolOp .And (b :: rest) pos) ρ (.val (.bool t'))) : Ev X (.BoolOp .And (a :: b :: rest) pos) ρ (.val (.bool (t && t'))) := fun σ H Q S q =>
  ⟨_, pe_and pe_c pe_c, h σ H _ S fun v H1 ⟨s1, r1⟩ => ⟨t, (Rq.of r1).bl, by
    cases t with
    | true => exact iteT (h' rfl σ H1 Q (S.mono s1) fun v H2 r2 => q v H2 (r2.abs s1))
    | false => exact iteF (q _ H1 ⟨s1, .bl _⟩)⟩⟩
theorem ev_or {t t' : Bool} {pos : Pos} {rest : List Expr} (h : Ev X a ρ (.val (.bool t))) (h' : t = false → Ev X (.BoolOp .Or (b :: rest) pos) ρ (.val (.bool t'))) : Ev X (.BoolOp .Or (a :: b :: rest) pos) ρ (.val (.bool (t || t'))) := fun σ H Q S q =>
  ⟨_, pe_or pe_c pe_c, h σ H _ S fun v H1 ⟨s1, r1⟩ => ⟨t, (Rq.of r1).bl, by
    cases t with
    | false => exact iteF (h' rfl σ H1 Q (S.mono s1) fun v H2 r2 => q v H2 (r2.abs s1))
    | true => exact iteT (q _ H1 ⟨s1, .bl _⟩)⟩⟩
theorem ev_not {t : Bool} {pos : Pos} (h : Ev X a ρ (.val (.bool t))) : Ev X (.UnaryOp .Not a pos) ρ (.val (.bool (!t))) := fun σ H Q S q =>
  ⟨_, pe_not pe_c, h σ H _ S fun v H1 ⟨s1, r1⟩ => ⟨t, (Rq.of r1).bl, q _ H1 ⟨s1, .bl _⟩⟩⟩
theorem ev_neg {i : Int} {pos : Pos} (h : Ev X a ρ (.val (.int i))) : Ev X (.UnaryOp .USub a pos) ρ (.val (.int (-i))) := fun σ H Q S q =>
  ⟨_, pe_un un_neg pe_c, h σ H _ S fun v H1 ⟨s1, r1⟩ => ⟨i, (Rq.of r1).int, q _ H1 ⟨s1, .int _⟩⟩⟩
theorem ev_if {t : Bool} {pos : Pos} (hc : EvT X c ρ t) (ha : t = true → Ev X a ρ k) (hb : t = false → Ev X b ρ k) : Ev X (.IfExp c a b pos) ρ k := fun σ H Q S q =>
  ⟨_, pe_ifExp pt_c pe_c pe_c, hc σ H _ S fun H1 s1 => by
    cases t with
    | true => exact iteT (ha rfl σ H1 Q (S.mono s1) fun v H2 r2 => q v H2 (r2.abs s1))
    | false => exact iteF (hb rfl σ H1 Q (S.mono s1) fun v H2 r2 => q v H2 (r2.abs s1))⟩

/-! ### arguments, displays -/
theorem ea_nil : EvA X [] ρ [] := fun _ H _ _ q => ⟨_, pa_nil, q [] H (.refl H) .nil⟩
theorem ea_cons {es : List Expr} (h : Ev X e ρ (.val d)) (t : EvA X es ρ ds) (hs : starEach (e :: es) X.env = (false, eval e X.env) :: starEach es X.env := by rfl) : EvA X (e :: es) ρ (d :: ds) := fun σ H Q S q =>
  ⟨_, pa_cons pe_c pa_c hs, h σ H _ S fun v H1 ⟨s1, r1⟩ => t σ H1 _ (S.mono s1) fun vs H2 s2 r2 => q _ H2 (s1.trans s2) (.cons (r1.mono (.of s2)) r2)⟩
theorem eq_nil : EvAq X [] ρ [] := fun _ H _ _ q => ⟨_, pa_nil, q [] H (.refl H) .nil⟩
theorem paired_mono {K : PySem.W.Frag} {H H' : Hp} (s : Same H H') : ∀ {vs : List V} {ds : List D}, Paired (Rq K H) vs ds → Paired (Rq K H') vs ds
  | _, _, .nil => .nil
  | _, _, .cons h t => .cons (h.mono s) (paired_mono s t)
theorem eq_cons {es : List Expr} (h : Ev X e ρ (.qua d)) (t : EvAq X es ρ ds) (hs : starEach (e :: es) X.env = (false, eval e X.env) :: starEach es X.env := by rfl) : EvAq X (e :: es) ρ (d :: ds) := fun σ H Q S q =>
  ⟨_, pa_cons pe_c pa_c hs, h σ H _ S fun v H1 ⟨s1, r1⟩ => t σ H1 _ (S.mono s1) fun vs H2 s2 r2 => q _ H2 (s1.trans s2) (.cons (r1.mono s2) r2)⟩
/-- a display of a tuple, laid with its object -/
theorem pe_tupF {es : List Expr} {t : TA} {n : Nat} {pos : Pos} (h : PA X es t) : PE X (.Tuple es n pos) (fun σ H Q => t σ H fun xs H1 => xs.length ≤ sizeLine ∧ ∀ p o, H1 p = none → o.dict = none → Q (.ref p) (upd H1 p (.frz o (.tup xs)))) := by
  refine ⟨fun pins s σ H Q I hq => ?_⟩
  refine wpAny_Tuple_spliced (thn (h.run pos pins s σ H _ I hq) fun us s1 ⟨xs, H1, I1, r, z, q⟩ => ⟨by rw [← r.length]; exact z, ?_⟩)
  exact ⟨.ref s1.heap.objs.size, _, inv_tup (t' := s1.toks) I1 (fun b u e => Heap.get?_push_of_some _ e) (Nat.le_refl _) (Heap.get?_push_size _ rfl) rfl rfl r z, rfl, q _ _ (I1.hok.fresh (Nat.le_refl _)) rfl⟩
theorem rp_tupNew {K : PySem.W.Frag} {H : Hp} {p : Addr} {o : Obj} {xs : List V} {ds : List D} (hp : H p = none) (ho : o.dict = none) (r : RpAll K H xs ds) : Rp K (upd H p (.frz o (.tup xs))) (.ref p) (.tuple ds) := .tup (.inl ⟨o, upd_same, ho⟩) (r.mono (stb_new hp))
theorem ev_tup {es : List Expr} {n : Nat} {pos : Pos} (h : EvA X es ρ ds) (hl : ds.length ≤ 1000 := by simp) : Ev X (.Tuple es n pos) ρ (.val (.tuple ds)) := fun σ H Q S q =>
  ⟨_, pe_tupF pa_c, h σ H _ S fun vs H1 s1 r1 => ⟨by rw [r1.length]; exact Nat.le_of_lt (small1000 hl), fun p o hp ho => q _ _ ⟨s1.trans (same_new hp), rp_tupNew hp ho r1⟩⟩⟩
theorem ev_lst {es : List Expr} {pos : Pos} (h : EvA X es ρ ds) (hl : ds.length ≤ 1000 := by simp) : Ev X (.List es pos) ρ (.new ds) := fun σ H Q S q =>
  ⟨_, pe_lst pa_c, h σ H _ S fun vs H1 s1 r1 => ⟨by rw [r1.length]; exact Nat.le_of_lt (small1000 hl), fun p hp => q _ _ ⟨s1.trans (same_new hp), p, _, rfl, s1.free hp, upd_same, r1.mono (stb_new hp)⟩⟩⟩

/-! ### calls -/
/-- a def's promise by data -/
def SpD (K : PySem.W.Frag) (g : List D → D → Prop) : Sp := fun vs H Q _ => ∃ ds d, RpAll K H vs ds ∧ g ds d ∧ ∀ v H', Same H H' → Rp K H' v d → Q v H'
abbrev FnD (P : Program) (w : World) (K : PySem.W.Frag) (mg : Str → Option Value) (base : Heap) (k : Nat) (f : Addr) (fd : FuncData) (ps : List Str) (g : List D → D → Prop) : Prop := FnOk P w K mg base CX0 k f fd ps (SpD K g)
theorem ev_call {kk : Nat} {f : Addr} {fd : FuncData} {ps : List Str} {g : List D → D → Prop} {es : List Expr} {x : Str} {p pos : Pos} (F : FnD X.prog X.w X.K X.mg X.base kk f fd ps g) (hr : Room kk X.A) (hm : X.mg x = some (.ref f)) (hk : PySem.W.keepIn X.K (.ref f) = true) (hb : Binds X.K fd ps [])
    (ha : EvA X (e :: es) ρ ds) (hg' : g ds d) (hg : Gl X x := by rfl) (hdb : (x == ("__debug__" : Str)) = false := by decide) (he : starEach (e :: es) X.env = (false, eval e X.env) :: starEach es X.env := by rfl) (hpl : (backTo pos (starEach es X.env)).any (·.1) = false := by rfl) :
    Ev X (.Call (.Name x p) (e :: es) [] pos) ρ (.val d) := fun σ H Q S q =>
  ⟨_, pe_call F hr hg hm hk hb .nil pass0 pa_c hdb he hpl, ha σ H _ S fun vs H1 s1 r1 => by
    rw [List.append_nil]
    exact ⟨ds, d, r1, hg', fun v H2 s2 r2 => q v H2 ⟨s1.trans s2, r2⟩⟩⟩
/-- a built-in by its name -/
def CallV (X : Cx) (f : Value) (ds : List D) (k : Kd) : Prop := ∀ H vs Q, Paired (Rq X.K H) vs ds → (∀ w H', RS X.K k H w H' → Q w H') → ∃ r, CallR X f r ∧ r vs H Q
def cCall (X : Cx) (f : Value) : List V → Hp → VK → Prop := fun vs H Q => ∃ r, CallR X f r ∧ r vs H Q
theorem call_c {f : Value} : CallR X f (cCall X f) := fun pins s σ H xs us Q I rx ⟨r, h, q⟩ => h pins s σ H xs us Q I rx q
end
end DL


namespace DL
open PySem PySem.Spec PyProof.Rows L2
section
variable {X : Cx} {ρ : Rho} {e a b c : Expr} {d x y z : D} {ds : List D} {k : Kd}
theorem ev_b {id : String} {es : List Expr} {x : Str} {p pos : Pos} (hc : CallV X (.builtin id) ds k) (hm : X.mg x = none) (ha : EvAq X (e :: es) ρ ds) (hv : bootBuiltins x = some (.builtin id) := by decide +kernel) (hg : Gl X x := by rfl) (hn : x ≠ "__name__" := by decide) (hdb : (x == ("__debug__" : Str)) = false := by decide)
    (he : starEach (e :: es) X.env = (false, eval e X.env) :: starEach es X.env := by rfl) (hpl : (backTo pos (starEach es X.env)).any (·.1) = false := by rfl) : Ev X (.Call (.Name x p) (e :: es) [] pos) ρ k := fun σ H Q S q =>
  ⟨_, pe_callB call_c hg hm hv pa_c hn hdb he hpl, ha σ H _ S fun vs H1 s1 r1 => hc H1 vs Q r1 fun w H2 r2 => q w H2 (r2.abs s1)⟩
theorem ev_ty {T : String} {es : List Expr} {x : Str} {p pos : Pos} (hc : CallV X (.type T) ds k) (hm : X.mg x = none) (ha : EvAq X (e :: es) ρ ds) (hv : bootBuiltins x = some (.type T) := by decide +kernel) (hg : Gl X x := by rfl) (hn : x ≠ "__name__" := by decide) (hdb : (x == ("__debug__" : Str)) = false := by decide)
    (he : starEach (e :: es) X.env = (false, eval e X.env) :: starEach es X.env := by rfl) (hpl : (backTo pos (starEach es X.env)).any (·.1) = false := by rfl) : Ev X (.Call (.Name x p) (e :: es) [] pos) ρ k := fun σ H Q S q =>
  ⟨_, pe_callTy call_c hg hm hv pa_c hn hdb he hpl, ha σ H _ S fun vs H1 s1 r1 => hc H1 vs Q r1 fun w H2 r2 => q w H2 (r2.abs s1)⟩
/-! ### subscripts, slices -/
def IxV (X : Cx) (x y : D) (k : Kd) : Prop := ∀ H u v Q, Rq X.K H u x → Rq X.K H v y → (∀ w H', RS X.K k H w H' → Q w H') → ∃ r, IxR X r ∧ r u v H Q
def cIx (X : Cx) : R2 := fun u v H Q => ∃ r, IxR X r ∧ r u v H Q
theorem ix_c : IxR X (cIx X) := fun va sl pins s σ H x y v u Q I rx ry ⟨r, h, q⟩ hs => h va sl pins s σ H x y v u Q I rx ry q hs
theorem ev_ix {pos : Pos} (o : IxV X x y k) (ha : Ev X a ρ (.qua x)) (hb : Ev X b ρ (.qua y)) (hs : PlainIx b := by exact fun _ _ => rfl) : Ev X (.Subscript a b pos) ρ k := fun σ H Q S q =>
  ⟨_, pe_ix ix_c pe_c pe_c hs, ha σ H _ S fun u H1 ⟨s1, r1⟩ => hb σ H1 _ (S.mono s1) fun v H2 ⟨s2, r2⟩ => o H2 u v Q (r1.mono s2) r2 fun w H3 r => q w H3 (r.abs (s1.trans s2))⟩
theorem atI_rp {K : PySem.W.Frag} {H : Hp} {xs : List V} {i : Int} {d : D} (r : RpAll K H xs ds) (h : atI ds i = some d) : ∃ v, atI xs i = some v ∧ Rp K H v d := by
  unfold atI at h ⊢
  rw [r.length]
  cases e : ixN ds.length i with
  | none => rw [e] at h; cases h
  | some j => rw [e] at h; exact r.get h
theorem ix_tupD {i : Int} (h : atI ds i = some d) : IxV X (.tuple ds) (.int i) (.val d) := fun H u v Q ru rv q => by
  obtain ⟨p, xs, rfl, hs, hr⟩ := ru.tup
  obtain ⟨w, hw, rw'⟩ := atI_rp hr h
  exact ⟨_, ix_tup, p, xs, i, w, rfl, rv.int, hs, hw, q _ H ⟨.refl H, rw'⟩⟩
theorem ix_lstD {i : Int} (h : atI ds i = some d) : IxV X (.list ds) (.int i) (.val d) := fun H u v Q ru rv q => by
  obtain ⟨p, xs, rfl, hs, hr⟩ := ru.lst
  obtain ⟨w, hw, rw'⟩ := atI_rp hr h
  exact ⟨_, ix_list, p, xs, i, w, rfl, rv.int, hs, hw, q _ H ⟨.refl H, rw'⟩⟩
theorem ix_strD {s : Str} {i : Int} {cc : Nat} (hl : s.length ≤ sizeLine) (h : atI s.cps.toList i = some cc) : IxV X (.str s) (.int i) (.val (.str ⟨#[cc]⟩)) := fun H u v Q ru rv q =>
  ⟨_, ix_str, s, i, cc, ru.str, rv.int, hl, h, q _ H ⟨.refl H, .str _⟩⟩
/-- a part of a slice -/
def EvP (X : Cx) (e : Option Expr) (ρ : Rho) (o : Option Int) : Prop := ∀ σ H Q, SOk X.K ρ σ H → (∀ H', Same H H' → Q o H') → cP X e σ H Q
theorem ep_none : EvP X none ρ none := fun _ H _ _ q => ⟨_, po_none, q H (.refl H)⟩
theorem ep_some {i : Int} (h : Ev X e ρ (.val (.int i))) : EvP X (some e) ρ (some i) := fun σ H Q S q => ⟨_, po_some pe_c, h σ H _ S fun v H1 ⟨s1, r1⟩ => ⟨i, (Rq.of r1).int, q H1 s1⟩⟩
def SlV (X : Cx) (x : D) (lo hi : Option Int) (k : Kd) : Prop := ∀ H u Q, Rq X.K H u x → (∀ w H', RS X.K k H w H' → Q w H') → ∃ r, SlR X r ∧ r u lo hi H Q
def cSl (X : Cx) : V → Option Int → Option Int → Hp → VK → Prop := fun u lo hi H Q => ∃ r, SlR X r ∧ r u lo hi H Q
theorem sl_c : SlR X (cSl X) := fun pins s σ H x v vl vu lo hi sl Q I rx h1 h2 h3 ⟨r, h, q⟩ => h pins s σ H x v vl vu lo hi sl Q I rx h1 h2 h3 q
theorem ev_sl {pos p2 : Pos} {lo hi : Option Expr} {l h : Option Int} (o : SlV X x l h k) (ha : Ev X a ρ (.qua x)) (hl : EvP X lo ρ l) (hh : EvP X hi ρ h) : Ev X (.Subscript a (.Slice lo hi none p2) pos) ρ k := fun σ H Q S q =>
  ⟨_, pe_slice sl_c pe_c po_c po_c, ha σ H _ S fun u H1 ⟨s1, r1⟩ => hl σ H1 _ (S.mono s1) fun H2 s2 => hh σ H2 _ (S.mono (s1.trans s2)) fun H3 s3 => o H3 u Q (r1.mono (s2.trans s3)) fun w H4 r => q w H4 (r.abs ((s1.trans s2).trans s3))⟩

/-! ### targets -/
structure EvG (X : Cx) (yl : Bool) (tg : Expr) (ρ : Rho) (d : D) (ρ' : Rho) (is : List Nat) : Prop where
  run : ∀ σ H v Q, SOk X.K ρ σ H → RY yl X.K H v d → (∀ σ', SOk X.K ρ' σ' H → (∀ vs : List Nat, (∀ i ∈ is, i ∈ vs) → wipe σ' vs = wipe σ vs) → Q σ' H) → cG X tg v σ H Q
  own : ∀ (i : Nat) b, ρ'[i]? = some b → isOwn b = true → ρ[i]? = some b ∧ i ∉ is
theorem wipe_set {σ : L2.St} {i : Nat} {x : Option V} : ∀ {vs : List Nat}, i ∈ vs → wipe (σ.set i x) vs = wipe σ vs
  | [], h => by cases h
  | v :: vs, h => by
    unfold wipe
    by_cases hv : i = v
    · subst hv
      by_cases hm : i ∈ vs
      · rw [wipe_set hm]
      · have q : ∀ {us : List Nat}, i ∉ us → wipe (σ.set i x) us = (wipe σ us).set i x := by
          intro us
          induction us with
          | nil => intro _; rfl
          | cons u us ih =>
            intro hu
            unfold wipe
            rw [ih fun z => hu (List.mem_cons_of_mem _ z), List.set_comm _ _ fun z => hu (by rw [z]; exact List.mem_cons_self)]
        rw [q hm, List.set_set]
    · rw [wipe_set (List.mem_of_ne_of_mem hv h)]
theorem own_set {i j : Nat} {d : D} {b : B} (e : (ρ.set i (.val d))[j]? = some b) (o : isOwn b = true) : ρ[j]? = some b ∧ j ∉ [i] := by
  by_cases hj : j = i
  · subst hj
    by_cases hl : j < ρ.length
    · rw [List.getElem?_set_self hl] at e; cases e; cases o
    · rw [List.getElem?_eq_none (by rw [List.length_set]; omega)] at e; cases e
  · rw [List.getElem?_set_ne (Ne.symm hj)] at e
    exact ⟨e, by simpa using hj⟩
theorem eg_name (i : Nat) {x : Str} {pos : Pos} (hN : X.N.Nodup) (hi : X.N[i]? = some x := by rfl) (hx : Loc X.env.scope x := by first | exact Or.inl rfl | exact Or.inr rfl) (hf : X.fn x = true ∨ X.env.scope.names.lookup x = some .local := by first | exact .inl rfl | exact .inr rfl | assumption) : EvG X false (.Name x pos) ρ d (ρ.set i (.val d)) [i] :=
  ⟨fun σ H v Q S r q => ⟨_, pg_name hN hi hx hf, q _ (S.set r.no) fun vs h => wipe_set (h i (by simp))⟩, fun _ _ e o => own_set e o⟩
structure EvGs (X : Cx) (tg : List Expr) (ρ : Rho) (ds : List D) (ρ' : Rho) (is : List Nat) : Prop where
  run : ∀ σ H vs Q, SOk X.K ρ σ H → RpAll X.K H vs ds → (∀ σ', SOk X.K ρ' σ' H → (∀ vs : List Nat, (∀ i ∈ is, i ∈ vs) → wipe σ' vs = wipe σ vs) → Q σ' H) → cGs X tg vs σ H Q
  own : ∀ (i : Nat) b, ρ'[i]? = some b → isOwn b = true → ρ[i]? = some b ∧ i ∉ is
theorem egs_nil : EvGs X [] ρ [] ρ [] := ⟨fun σ H vs Q S r q => ⟨_, pgs_nil, by cases r; exact ⟨rfl, q σ S fun _ _ => rfl⟩⟩, fun _ _ e _ => ⟨e, by simp⟩⟩
theorem egs_cons {e : Expr} {es : List Expr} {d : D} {ρ1 ρ2 : Rho} {is js : List Nat} (h1 : EvG X false e ρ d ρ1 is) (h2 : EvGs X es ρ1 ds ρ2 js)
    (hs : (assignEach (e :: es) X.env).map (·.2) = assign e X.env :: (assignEach es X.env).map (·.2) := by rfl) : EvGs X (e :: es) ρ (d :: ds) ρ2 (is ++ js) :=
  ⟨fun σ H vs Q S r q => ⟨_, pgs_cons pg_c pgs_c hs, by
    cases r with
    | cons r1 r2 =>
      refine ⟨_, _, rfl, h1.run σ H _ _ S (.inl r1) fun σ1 S1 w1 => h2.run σ1 H _ Q S1 r2 fun σ2 S2 w2 => q σ2 S2 fun vs hv => ?_⟩
      rw [w2 vs fun i hi => hv i (List.mem_append_right _ hi), w1 vs fun i hi => hv i (List.mem_append_left _ hi)]⟩,
   fun i b e o => by
    obtain ⟨q1, n1⟩ := h2.own i b e o
    obtain ⟨q2, n2⟩ := h1.own i b q1 o
    exact ⟨q2, fun z => (List.mem_append.mp z).elim n2 n1⟩⟩
theorem eg_tup {yl : Bool} {es : List Expr} {n k : Nat} {pos : Pos} {ρ' : Rho} {is : List Nat} (h : EvGs X es ρ ds ρ' is) (hn : (assignEach es X.env).length = n := by rfl) (hl : ds.length = n := by rfl) (hc : X.calm = true := by rfl) (hst : (assignEach es X.env).findIdx? (·.1) = none := by rfl) :
    EvG X yl (.Tuple es k pos) ρ (.tuple ds) ρ' is := ⟨fun σ H v Q S r q => by
  obtain ⟨a, xs, rfl, hq, hr⟩ := r.tup
  exact ⟨_, pg_tup hc pgs_c hn hst, a, xs, rfl, hq, hr.length.trans hl, h.run σ H xs Q S hr q⟩, h.own⟩

/-! ### what is walked -/
/-- the lists and tuples that come are not too long -/
theorem pe_know {t : TE} (h : PE X e t) : PE X e (fun σ H Q => t σ H fun v H' => (∀ a xs, v = .ref a → SqL X.K H' a xs ∨ SqT X.K H' a xs → xs.length ≤ sizeLine) → Q v H') := by
  refine ⟨fun pins s σ H Q I hw => thn (h.run pins s σ H _ I hw) fun v s1 ⟨x, H1, I1, r1, q⟩ => ⟨x, H1, I1, r1, q fun a xs e hx => ?_⟩⟩
  rcases hx with hx | hx
  · obtain ⟨_, _, _, z⟩ := I1.list hx
    exact z
  · obtain ⟨_, _, _, z⟩ := I1.tuple hx
    exact z
theorem pe_knowD {t : TE} (h : PE X e t) : PE X e (fun σ H Q => t σ H fun v H' => (∀ a o kvs, v = .ref a → H' a = some (.frz o (.dK kvs)) → kvs.length ≤ sizeLine) → Q v H') := by
  refine ⟨fun pins s σ H Q I hw => thn (h.run pins s σ H _ I hw) fun v s1 ⟨x, H1, I1, r1, q⟩ => ⟨x, H1, I1, r1, q fun a o kvs e hx => ?_⟩⟩
  obtain ⟨_, z, _⟩ := I1.hok a _ hx
  exact z
def YD (yl : Bool) (K : PySem.W.Frag) (xs : List D) : Nat → Hp → V → Hp → Prop := fun i H v H' => Same H H' ∧ ∃ d, xs[i]? = some d ∧ RY yl K H' v d
/-- it gives the data xs while what is stable stays | while all stays -/
def EvI (X : Cx) (tg it : Expr) (ρ : Rho) (yl : Bool) (xs : List D) : Prop := ∀ σ H R, SOk X.K ρ σ H → (∀ J H', Same H H' → xs.length ≤ sizeLine → Walk J xs.length (Stb H') (YD yl X.K xs) → R J H') → cI X tg it σ H R
def EvIq (X : Cx) (tg it : Expr) (ρ : Rho) (yl : Bool) (xs : List D) : Prop := ∀ σ H R, SOk X.K ρ σ H → (∀ J H', Same H H' → xs.length ≤ sizeLine → Walk J xs.length (Same H') (YD yl X.K xs) → R J H') → cI X tg it σ H R
theorem EvI.q {tg it : Expr} {yl : Bool} {xs : List D} (h : EvI X tg it ρ yl xs) : EvIq X tg it ρ yl xs := fun σ H R S q => h σ H R S fun J H' s z w => q J H' s z (w.mono (fun _ z => .of z) fun _ _ _ _ _ _ z => z)
theorem ei_tup {tg it : Expr} {xs : List D} (h : Ev X it ρ (.val (.tuple xs))) : EvI X tg it ρ false xs := fun σ H R S q =>
  ⟨_, pi_tup (pe_know pe_c), h σ H _ S fun v H1 ⟨s1, r1⟩ kn => by
    obtain ⟨a, vs, rfl, hs, hr⟩ := r1.tupI
    refine ⟨a, rfl, ⟨vs, hs⟩, q _ H1 s1 (by rw [← hr.length]; exact kn a vs rfl (.inr hs)) ?_⟩
    rw [← hr.length]
    refine (walk_tup (K := X.K) (a := a) (xs := vs)).mono (fun H2 z => sqT_stb z hs) fun i H2 x H3 _ z y => ?_
    obtain ⟨e, y⟩ := y
    subst e
    obtain ⟨d, e1, e2⟩ := hr.got y
    exact ⟨.refl _, d, e1, .inl (e2.mono z)⟩⟩
theorem ei_lst {tg it : Expr} {xs : List D} (h : Ev X it ρ (.val (.list xs))) : EvI X tg it ρ false xs := fun σ H R S q =>
  ⟨_, pi_list (pe_know pe_c), h σ H _ S fun v H1 ⟨s1, r1⟩ kn => by
    cases r1 with
    | lst hs hr =>
      refine ⟨_, rfl, ⟨_, hs.sq⟩, q _ H1 s1 (by rw [← hr.length]; exact kn _ _ rfl (.inl hs.sq)) ?_⟩
      rw [← hr.length]
      refine (walk_list (K := X.K)).mono (fun H2 z => (hs.stb z).sq) fun i H2 x H3 _ z y => ?_
      obtain ⟨e, y⟩ := y
      subst e
      obtain ⟨d, e1, e2⟩ := hr.got y
      exact ⟨.refl _, d, e1, .inl (e2.mono z)⟩⟩
/-- a list of one's own, in a comprehension -/
theorem ei_own {tg it : Expr} {xs : List D} (h : Ev X it ρ (.qua (.list xs))) : EvIq X tg it ρ false xs := fun σ H R S q =>
  ⟨_, pi_list (pe_know pe_c), h σ H _ S fun v H1 ⟨s1, r1⟩ kn => by
    obtain ⟨a, vs, rfl, hs, hr⟩ := r1.lst
    refine ⟨a, rfl, ⟨vs, hs⟩, q _ H1 s1 (by rw [← hr.length]; exact kn a vs rfl (.inl hs)) ?_⟩
    rw [← hr.length]
    refine (walk_list (K := X.K) (a := a) (xs := vs)).mono (fun H2 z => z.seq hs) fun i H2 x H3 _ z y => ?_
    obtain ⟨e, y⟩ := y
    subst e
    obtain ⟨d, e1, e2⟩ := hr.got y
    exact ⟨.refl _, d, e1, .inl (e2.mono (.of z))⟩⟩
/-- range(n) -/
theorem ei_range {tg a : Expr} {n : Int} {p pos : Pos} (hm : X.mg "range" = none) (h : Ev X a ρ (.val (.int n))) (h2 : n ≤ 100000 ∧ -100000 ≤ n := by omega) (hg : Gl X "range" := by rfl) (hs : starEach [a] X.env = [(false, eval a X.env)] := by rfl) :
    EvI X tg (.Call (.Name "range" p) [a] [] pos) ρ false ((List.range n.toNat).map fun i => .int ((i : Nat) : Int)) := fun σ H R S q =>
  ⟨_, pi_range1 hg hm (pa_cons pe_c pa_nil (by rw [hs]; rfl)) hs, h σ H _ S fun v H1 ⟨s1, r1⟩ => by
    have e := (Rq.of r1).int
    subst e
    refine ⟨n, rfl, by omega, by omega, q _ H1 s1 (by rw [List.length_map, List.length_range, sizeLine_eq]; omega) ?_⟩
    rw [List.length_map, List.length_range]
    refine (walk_range (lo := 0) (n := n.toNat)).mono (fun _ _ => trivial) fun i H2 x H3 hi _ y => ?_
    obtain ⟨e, y⟩ := y
    subst e y
    refine ⟨.refl _, .int (i : Nat), ?_, ?_⟩
    · rw [List.getElem?_map, List.getElem?_range hi]; rfl
    · show RY false X.K _ (.int (0 + ((i : Nat) : Int))) _
      rw [Int.zero_add]; exact .inl (.int _)⟩
theorem ei_range2 {tg a b : Expr} {m n : Int} {p pos : Pos} (hm : X.mg "range" = none) (h : Ev X a ρ (.val (.int m))) (h' : Ev X b ρ (.val (.int n))) (h1 : -100000 ≤ m ∧ m ≤ 100000 ∧ -100000 ≤ n ∧ n ≤ 100000 := by omega) (hg : Gl X "range" := by rfl) (hs : starEach [a, b] X.env = [(false, eval a X.env), (false, eval b X.env)] := by rfl) (hs2 : starEach [b] X.env = [(false, eval b X.env)] := by rfl) :
    EvI X tg (.Call (.Name "range" p) [a, b] [] pos) ρ false ((List.range (n - m).toNat).map fun i => .int (m + ((i : Nat) : Int))) := fun σ H R S q =>
  ⟨_, pi_range2 hg hm (pa_cons pe_c (pa_cons pe_c pa_nil (by rw [hs2]; rfl)) (by rw [hs, hs2])) hs hs2, h σ H _ S fun v H1 ⟨s1, r1⟩ => h' σ H1 _ (S.mono s1) fun v' H2 ⟨s2, r2⟩ => by
    have e := (Rq.of r1).int
    subst e
    have e := (Rq.of r2).int
    subst e
    refine ⟨m, n, rfl, ⟨by omega, by omega, by omega, by omega⟩, q _ H2 (s1.trans s2) (by rw [List.length_map, List.length_range, sizeLine_eq]; omega) ?_⟩
    rw [List.length_map, List.length_range]
    refine (walk_range (lo := m) (n := (n - m).toNat)).mono (fun _ _ => trivial) fun i H2 x H3 hi _ y => ?_
    obtain ⟨e, y⟩ := y
    subst e y
    refine ⟨.refl _, .int (m + (i : Nat)), ?_, .inl (.int _)⟩
    rw [List.getElem?_map, List.getElem?_range hi]; rfl⟩
/-- the signs of a text -/
theorem ei_str {tg it : Expr} {s : Str} (h : Ev X it ρ (.val (.str s))) (hz : s.length ≤ sizeLine) : EvI X tg it ρ false (s.cps.toList.map fun c => .str ⟨#[c]⟩) := fun σ H R S q =>
  ⟨_, pi_str pe_c, h σ H _ S fun v H1 ⟨s1, r1⟩ => by
    refine ⟨s, (Rq.of r1).str, q _ H1 s1 (by rw [List.length_map, Array.length_toList]; exact hz) ?_⟩
    rw [List.length_map, Array.length_toList]
    refine (walk_str (z := s)).mono (fun _ _ => trivial) fun i H2 x H3 hi _ y => ?_
    obtain ⟨e, cc, e1, e2⟩ := y
    subst e e2
    refine ⟨.refl _, .str ⟨#[cc]⟩, ?_, .inl (.str _)⟩
    rw [List.getElem?_map, Array.getElem?_toList, e1]; rfl⟩
/-- the keys of a dict -/
theorem rpKV_keys {K : PySem.W.Frag} {H : Hp} : ∀ {kvs : List (Key × V)} {es : List (D × D)} {i : Nat} {kk : Key} {v : V}, RpKV K H kvs es → kvs[i]? = some (kk, v) → ∃ d, (es.map (·.1))[i]? = some d ∧ Rp K H (kV kk) d
  | _, _, _, _, _, .nil, e => by simp at e
  | _, _, 0, _, _, .int _ _, e => by simp at e; obtain ⟨rfl, _⟩ := e; exact ⟨_, rfl, .int _⟩
  | _, _, 0, _, _, .str _ _, e => by simp at e; obtain ⟨rfl, _⟩ := e; exact ⟨_, rfl, .str _⟩
  | _, _, i + 1, _, _, .int _ t, e => rpKV_keys (i := i) t (by simpa using e)
  | _, _, i + 1, _, _, .str _ t, e => rpKV_keys (i := i) t (by simpa using e)
theorem RpKV.length {K : PySem.W.Frag} {H : Hp} : ∀ {kvs : List (Key × V)} {es : List (D × D)}, RpKV K H kvs es → kvs.length = es.length
  | _, _, .nil => rfl
  | _, _, .int _ t => congrArg (· + 1) (RpKV.length t)
  | _, _, .str _ t => congrArg (· + 1) (RpKV.length t)
theorem ei_keys {tg it : Expr} {es : List (D × D)} (h : Ev X it ρ (.val (.dict es))) : EvI X tg it ρ false (es.map (·.1)) := fun σ H R S q =>
  ⟨_, pi_keys (pe_knowD pe_c), h σ H _ S fun v H1 ⟨s1, r1⟩ kn => by
    cases r1 with
    | dct hs hr =>
      refine ⟨_, _, rfl, .inl ⟨_, hs, q _ H1 s1 (by rw [List.length_map, ← hr.length]; exact kn _ _ _ rfl hs) ?_⟩⟩
      rw [List.length_map, ← hr.length]
      refine walk_keys.mono (fun H2 z => z.2 _ _ _ hs) fun i H2 x H3 _ z y => ?_
      obtain ⟨e, kk, vv, y1, y2⟩ := y
      subst e y2
      obtain ⟨d, e1, e2⟩ := rpKV_keys hr y1
      exact ⟨.refl _, d, e1, .inl (e2.mono z)⟩⟩

/-! ### list comprehensions -/
def wipeB (ρ : Rho) : List Nat → Rho
  | [] => ρ
  | v :: vs => (wipeB ρ vs).set v .un
theorem wipeB_len (ρ : Rho) : ∀ vs : List Nat, (wipeB ρ vs).length = ρ.length
  | [] => rfl
  | v :: vs => by unfold wipeB; rw [List.length_set, wipeB_len ρ vs]
theorem wipeB_some {ρ : Rho} {i : Nat} {b : B} : ∀ {vs : List Nat}, (wipeB ρ vs)[i]? = some b → b ≠ .un → ρ[i]? = some b ∧ i ∉ vs
  | [], h, _ => ⟨h, by simp⟩
  | v :: vs, h, hb => by
    unfold wipeB at h
    by_cases hi : v = i
    · subst hi
      by_cases hv : v < (wipeB ρ vs).length
      · rw [List.getElem?_set_self hv] at h; cases h; exact absurd rfl hb
      · rw [List.getElem?_eq_none (by simpa using hv)] at h; cases h
    · rw [List.getElem?_set_ne hi] at h
      obtain ⟨h1, h2⟩ := wipeB_some h hb
      exact ⟨h1, by simp only [List.mem_cons, not_or]; exact ⟨fun e => hi e.symm, h2⟩⟩
theorem SOk.wiped {K : PySem.W.Frag} {σ : L2.St} {H : Hp} {vs : List Nat} (S : SOk K ρ σ H) : SOk K (wipeB ρ vs) (wipe σ vs) H :=
  S.weak (by rw [wipeB_len, wipe_length]; exact S.len) fun i b e hb => by
    obtain ⟨h1, h2⟩ := wipeB_some e hb
    exact ⟨h1, wipe_out h2⟩
/-- the tests of a comprehension -/
def EvTs (X : Cx) (es : List Expr) (ρ : Rho) (b : Bool) : Prop := ∀ σ H Q, SOk X.K ρ σ H → (∀ H', Same H H' → Q b H') → cTs X es σ H Q
theorem ets_nil : EvTs X [] ρ true := fun _ H _ _ q => ⟨_, pts_nil, q H (.refl H)⟩
theorem ets_one {t : Bool} (h : EvT X e ρ t) : EvTs X [e] ρ t := fun σ H Q S q => ⟨_, pts_one pt_c, h σ H Q S q⟩
abbrev Blk (X : Cx) (scope : Scope) (P : Cx → Prop) : Prop := ∀ (s : Shared) (H : Hp) (C : Addr) (cl : List (Str × Addr)) (fp : List Addr), P (X.blk s H scope (compEnvC scope cl C X.env) fp)
def cEB (X : Cx) (scope : Scope) (e : Expr) : TE := fun σ H Q => Blk X scope fun Y => cE Y e σ H Q
def cTB (X : Cx) (scope : Scope) (es : List Expr) : TT := fun σ H Q => Blk X scope fun Y => cTs Y es σ H Q
def cGB (X : Cx) (scope : Scope) (e : Expr) : TG := fun v σ H Q => Blk X scope fun Y => cG Y e v σ H Q
theorem pe_cB {scope : Scope} : Blk X scope fun Y => PE Y e (cEB X scope e) := fun s H C cl fp => ⟨fun pins s' σ H' Q I h => pe_c.run pins s' σ H' Q I (h s H C cl fp)⟩
theorem pt_cB {scope : Scope} {es : List Expr} : Blk X scope fun Y => PTs Y es (cTB X scope es) := fun s H C cl fp => ⟨fun pins s' σ H' Q I h => pts_c.run pins s' σ H' Q I (h s H C cl fp)⟩
theorem pg_cB {scope : Scope} : Blk X scope fun Y => PG Y e (cGB X scope e) := fun s H C cl fp => ⟨fun pins s' σ H' v u Q I r h => pg_c.run pins s' σ H' v u Q I r (h s H C cl fp)⟩
theorem lc_run {elt tg iter : Expr} {ifs : List Expr} {scope : Scope} {own : List (Str × Nat)} {α : Type} (ps : List α) (en : α → D) {ρ' : α → Rho} {keep : α → Bool} {f : α → D} {is : List Nat} {yl : Bool} {σ : L2.St} {H : Hp} {Q : VK}
    (hi : EvIq X tg iter ρ yl (ps.map en)) (hg : ∀ p ∈ ps, Blk X scope fun Y => EvG Y yl tg (wipeB ρ (own.map (·.2))) (en p) (ρ' p) is) (hw : ∀ i ∈ is, i ∈ own.map (·.2))
    (ht : ∀ p ∈ ps, Blk X scope fun Y => EvTs Y ifs (ρ' p) (keep p)) (he : ∀ p ∈ ps, keep p = true → Blk X scope fun Y => Ev Y elt (ρ' p) (.val (f p))) (S : SOk X.K ρ σ H)
    (q : ∀ v H', RS X.K (.new ((ps.filter keep).map f)) H v H' → Q v H') :
    tLc (cI X tg iter) (cGB X scope tg) (cTB X scope ifs) (cEB X scope elt) (own.map (·.2)) σ H Q := by
  refine hi σ H _ S fun J H1 s1 hz w => fun L hL => ?_
  rw [List.length_map] at hz
  have hn : ∀ H', Same (upd H1 L (.lst [])) H' ∨ True := fun _ => .inr trivial
  refine lc_it w (fun i H2 => Same H1 H2 ∧ ∃ acc, H2 L = some (.lst acc) ∧ acc.length ≤ i ∧ RpAll X.K H2 acc (((ps.take i).filter keep).map f)) ⟨same_new hL, [], upd_same, Nat.le_refl _, by simpa using RpAll.nil⟩ (fun i H2 _ h => h.1) (fun i x H2 H3 hlt ⟨s2, acc, hacc, hal, racc⟩ ⟨s3, d, hd, rd⟩ => ?_) (fun H2 ⟨s2, acc, hacc, hal, racc⟩ => ?_)
  · rw [List.length_map] at hlt
    rw [List.getElem?_map, List.getElem?_eq_getElem hlt] at hd
    have ed : en ps[i] = d := Option.some.inj hd
    subst ed
    have hp : ps[i] ∈ ps := List.getElem_mem hlt
    have tk : ps.take (i + 1) = ps.take i ++ [ps[i]] := by rw [List.take_add_one, List.getElem?_eq_getElem hlt]; rfl
    have s13 : Same H1 H3 := s2.trans s3
    have SW := (S.mono s1).wiped (vs := own.map (·.2))
    intro s₀ H₀ C cl fp
    refine (hg _ hp s₀ H₀ C cl fp).run _ _ _ _ (SW.mono s13) rd fun σ2 S2 w2 => ⟨(w2 _ hw).trans ?_, ?_⟩
    · have ww : ∀ us : List Nat, wipe (wipe σ us) us = wipe σ us := by
        intro us
        apply List.ext_getElem?
        intro j
        by_cases hj : j ∈ us
        · have a1 : ∀ τ : L2.St, j ∈ us → (wipe τ us)[j]? = (τ[j]?).map fun _ => none := by
            intro τ _
            induction us with
            | nil => cases hj
            | cons u us ih =>
              unfold wipe
              by_cases hu : u = j
              · subst hu
                by_cases hl : u < τ.length
                · rw [List.getElem?_set_self (by rw [wipe_length]; exact hl), List.getElem?_eq_getElem hl]; rfl
                · rw [List.getElem?_eq_none (by rw [List.length_set, wipe_length]; omega), List.getElem?_eq_none (by omega)]; rfl
              · rw [List.getElem?_set_ne hu]
                have hj' : j ∈ us := List.mem_of_ne_of_mem (fun z => hu z.symm) hj
                exact ih hj' hj'
          rw [a1 _ hj, a1 _ hj]
          cases σ[j]? <;> rfl
        · rw [wipe_out hj]
      exact ww _
    · intro s₁ H₁ C1 cl1 fp1
      refine ht _ hp s₁ H₁ C1 cl1 fp1 σ2 H3 _ S2 fun H4 s4 => ?_
      have s14 : Same H1 H4 := s13.trans s4
      have hL4 : H4 L = some (.lst acc) := s4 _ _ (s3 _ _ hacc)
      have racc4 : RpAll X.K H4 acc (((ps.take i).filter keep).map f) := racc.mono (.of (s3.trans s4))
      cases hk : keep ps[i] with
      | false =>
        refine iteF ⟨s14, acc, hL4, by omega, ?_⟩
        rw [tk, List.filter_append, List.filter_cons, hk]
        simpa using racc4
      | true =>
        refine iteT ?_
        intro s₂ H₂ C2 cl2 fp2
        refine he _ hp hk s₂ H₂ C2 cl2 fp2 σ2 H4 _ (S2.mono s4) fun y H5 ⟨s5, r5⟩ => ?_
        have hL5 : H5 L = some (.lst acc) := s5 _ _ hL4
        refine ⟨acc, hL5, by omega, same_mut (s14.trans s5) hL, acc ++ [y], upd_same, by simp; omega, ?_⟩
        rw [tk, List.filter_append, List.map_append, List.filter_cons, hk]
        have st : Stb H5 (upd H5 L (.lst (acc ++ [y]))) := stb_upd hL5 trivial
        exact ((racc4.mono (.of s5)).mono st).append (.cons (r5.mono st) .nil)
  · rw [List.length_map, List.take_length] at racc
    exact q _ H2 ⟨s1.trans s2, L, acc, rfl, s1.free hL, hacc, racc⟩
theorem ev_lc {elt tg iter : Expr} {ifs : List Expr} {scope : Scope} {own : List (Str × Nat)} {pos : Pos} {α : Type} {ps : List α} {en : α → D} {ρ' : α → Rho} {keep : α → Bool} {f : α → D} {is : List Nat} {yl : Bool}
    (hN : X.N.Nodup) (ok : BlkOk X.N X.env.scope scope own)
    (hi : EvIq X tg iter ρ yl (ps.map en)) (hg : ∀ p ∈ ps, Blk X scope fun Y => EvG Y yl tg (wipeB ρ (own.map (·.2))) (en p) (ρ' p) is)
    (ht : ∀ p ∈ ps, Blk X scope fun Y => EvTs Y ifs (ρ' p) (keep p)) (he : ∀ p ∈ ps, keep p = true → Blk X scope fun Y => Ev Y elt (ρ' p) (.val (f p)))
    (hw : ∀ i ∈ is, i ∈ own.map (·.2) := by decide) (hc : X.calm = true := by rfl) (hs : ∀ x, foldedSetIterable iter X.env x = pure x := by intro _; rfl) :
    Ev X (.ListComp elt [⟨tg, iter, ifs, 0⟩] scope pos) ρ (.new ((ps.filter keep).map f)) := fun σ H Q S q =>
  ⟨_, pe_lc hc hN pi_c ok pg_cB pt_cB pe_cB hs, lc_run ps en hi hg hw ht he S q⟩
end
end DL


namespace DL
open PySem PySem.Spec PyProof.Rows L2

/-! ### statements -/
/-- the entry of a body: the heap, and what the body may write of it -/
structure Ent where
  H : Hp
  W : Addr → Prop
def Ent.Keeps (E : Ent) (H : Hp) : Prop := ∀ b o, E.H b = some o → ¬ E.W b → H b = some o
theorem Ent.Keeps.trans {E : Ent} {H H' : Hp} (h : E.Keeps H) (s : Same H H') : E.Keeps H' := fun b o e w => s b o (h b o e w)
theorem Ent.Keeps.mut {E : Ent} {H : Hp} {p : Addr} {o : HO} (h : E.Keeps H) (f : E.H p = none ∨ E.W p) : E.Keeps (upd H p o) := fun b x e w => by
  rw [upd_ne (fun z => by
    subst z
    rcases f with f | f
    · rw [f] at e; cases e
    · exact w f)]
  exact h b x e w
theorem Ent.Keeps.free {E : Ent} {H : Hp} {p : Addr} (h : E.Keeps H) (n : H p = none) : E.H p = none ∨ E.W p := by
  by_cases w : E.W p
  · exact .inr w
  · refine .inl ?_
    cases e : E.H p with
    | none => rfl
    | some o => rw [h p o e w] at n; cases n
/-- an entry of which nothing may be written -/
def Ent.of (H : Hp) : Ent := ⟨H, fun _ => False⟩
theorem Ent.Keeps.same {H H' : Hp} (h : (Ent.of H).Keeps H') : Same H H' := fun b o e => h b o e (fun z => z)
/-- the state of a body: H0 its entry, H1 an earlier heap whose stable things stay -/
structure SK (K : PySem.W.Frag) (H0 : Ent) (H1 : Hp) (ρ : Rho) (σ : L2.St) (H : Hp) : Prop where
  same : H0.Keeps H
  stb : Stb H1 H
  ok : SOk K ρ σ H
  fr : ∀ (i : Nat) b v L x, ρ[i]? = some b → σ[i]? = some (some v) → Own K H v b L → x ∈ L → H0.H x = none ∨ H0.W x
  tb : ∀ (i : Nat) T, ρ[i]? = some (.tab T) → ∀ b ps, H0.H b = some (.tbl ps) → H0.W b
theorem tb_set {ρ : Rho} {i j : Nat} {b0 : B} {T : List (Addr × Str)} (nb : ∀ T, b0 ≠ .tab T) (e : (ρ.set i b0)[j]? = some (.tab T)) : ρ[j]? = some (.tab T) := by
  by_cases hj : j = i
  · subst hj
    by_cases hl : j < ρ.length
    · rw [List.getElem?_set_self hl] at e; exact absurd (Option.some.inj e) (nb T)
    · rw [List.getElem?_eq_none (by rw [List.length_set]; omega)] at e; cases e
  · rwa [List.getElem?_set_ne (Ne.symm hj)] at e
structure Fin where
  nx : Rho → Prop
  rt : D → Rho → Prop
  bk : Rho → Prop := fun _ => False
  ct : Rho → Prop := fun _ => False
  ro : Addr → Rho → Prop := fun _ _ => False
structure FinOk (K : PySem.W.Frag) (H0 : Ent) (H1 : Hp) (Φ : DL.Fin) (E : Ends) : Prop where
  nx : ∀ ρ σ H, SK K H0 H1 ρ σ H → Φ.nx ρ → E.nx σ H
  rt : ∀ d v ρ σ H, (∃ H1, SK K H0 H1 ρ σ H) → Rp K H v d → Φ.rt d ρ → E.rt v H
  bk : ∀ ρ σ H, SK K H0 H1 ρ σ H → Φ.bk ρ → E.bk σ H
  ct : ∀ ρ σ H, SK K H0 H1 ρ σ H → Φ.ct ρ → E.ct σ H
  ro : ∀ q ρ σ H, (∃ H1, SK K H0 H1 ρ σ H) → (∃ (i : Nat) (C : Addr) (fs : List (Str × Fld)), ρ[i]? = some (.obj (some C) q fs) ∧ σ[i]? = some (some (.ref q))) → Φ.ro q ρ → E.rt (.ref q) H
def Sx (X : Cx) (st : Stmt) (ρ : Rho) (Φ : DL.Fin) : Prop := ∀ H0 H1 σ H E, SK X.K H0 H1 ρ σ H → FinOk X.K H0 H1 Φ E → cS X st E σ H
def Sxs (X : Cx) (st : List Stmt) (ρ : Rho) (Φ : DL.Fin) : Prop := ∀ H0 H1 σ H E, SK X.K H0 H1 ρ σ H → FinOk X.K H0 H1 Φ E → cSs X st E σ H
section
variable {X : Cx} {ρ : Rho} {Φ : DL.Fin} {e a b c : Expr} {d x y z : D} {ds : List D} {k : Kd} {st : Stmt} {rest : List Stmt} {pos : Pos}
theorem SK.mono {K : PySem.W.Frag} {H0 : Ent} {H1 H H' : Hp} {σ : L2.St} (S : SK K H0 H1 ρ σ H) (s : Same H H') : SK K H0 H1 ρ σ H' := ⟨S.same.trans s, S.stb.trans (.of s), S.ok.mono s, fun i b v L x e es o => S.fr i b v L x e es (S.ok.back (.of s) (fun _ _ x _ o e => s x o e) e es o), S.tb⟩
theorem SK.set {K : PySem.W.Frag} {H0 : Ent} {H1 H H' : Hp} {σ : L2.St} {i : Nat} {v : V} (S : SK K H0 H1 ρ σ H) (s : Same H H') (r : Rp K H' v d) : SK K H0 H1 (ρ.set i (.val d)) (σ.set i (some v)) H' := by
  refine ⟨S.same.trans s, S.stb.trans (.of s), (S.ok.mono s).set r, fun j b w L x e1 e3 o => ?_, fun j T e => S.tb j T (tb_set (fun _ h => by cases h) e)⟩
  by_cases hj : j = i
  · subst hj
    by_cases hl : j < ρ.length
    · rw [List.getElem?_set_self hl] at e1; cases e1; cases o
    · rw [List.getElem?_eq_none (by rw [List.length_set]; omega)] at e1; cases e1
  · rw [List.getElem?_set_ne (Ne.symm hj)] at e1 e3
    exact (S.mono s).fr j b w L x e1 e3 o
theorem SK.weak {K : PySem.W.Frag} {H0 : Ent} {H1 H : Hp} {σ σ' : L2.St} {ρ' : Rho} (S : SK K H0 H1 ρ σ H) (hl : ρ'.length = σ'.length) (w : ∀ (i : Nat) b, ρ'[i]? = some b → b ≠ .un → ρ[i]? = some b ∧ σ'[i]? = σ[i]?) : SK K H0 H1 ρ' σ' H :=
  ⟨S.same, S.stb, S.ok.weak hl w, fun j b v L x e1 e3 o => by
    obtain ⟨q1, q2⟩ := w j b e1 (by rintro rfl; cases o)
    exact S.fr j b v L x q1 (by rw [← q2]; exact e3) o, fun j T e => S.tb j T (w j _ e (fun h => by cases h)).1⟩
theorem Sx.imp {Ψ : DL.Fin} (h : Sx X st ρ Ψ) (n : ∀ ρ, Ψ.nx ρ → Φ.nx ρ) (r : ∀ d ρ, Ψ.rt d ρ → Φ.rt d ρ) (bk : ∀ ρ, Ψ.bk ρ → Φ.bk ρ) (ct : ∀ ρ, Ψ.ct ρ → Φ.ct ρ) (ro : ∀ q ρ, Ψ.ro q ρ → Φ.ro q ρ := by intro _ _ h; first | exact h | exact False.elim h) : Sx X st ρ Φ := fun H0 H1 σ H E S F =>
  h H0 H1 σ H E S ⟨fun ρ σ H s q => F.nx ρ σ H s (n ρ q), fun d v ρ σ H s r' q => F.rt d v ρ σ H s r' (r d ρ q), fun ρ σ H s q => F.bk ρ σ H s (bk ρ q), fun ρ σ H s q => F.ct ρ σ H s (ct ρ q), fun q ρ σ H s z h => F.ro q ρ σ H s z (ro q ρ h)⟩
theorem Sxs.imp {Ψ : DL.Fin} (h : Sxs X rest ρ Ψ) (n : ∀ ρ, Ψ.nx ρ → Φ.nx ρ) (r : ∀ d ρ, Ψ.rt d ρ → Φ.rt d ρ) (bk : ∀ ρ, Ψ.bk ρ → Φ.bk ρ) (ct : ∀ ρ, Ψ.ct ρ → Φ.ct ρ) (ro : ∀ q ρ, Ψ.ro q ρ → Φ.ro q ρ := by intro _ _ h; first | exact h | exact False.elim h) : Sxs X rest ρ Φ := fun H0 H1 σ H E S F =>
  h H0 H1 σ H E S ⟨fun ρ σ H s q => F.nx ρ σ H s (n ρ q), fun d v ρ σ H s r' q => F.rt d v ρ σ H s r' (r d ρ q), fun ρ σ H s q => F.bk ρ σ H s (bk ρ q), fun ρ σ H s q => F.ct ρ σ H s (ct ρ q), fun q ρ σ H s z h => F.ro q ρ σ H s z (ro q ρ h)⟩
/-! ### blocks -/
theorem xs_nil (h : Φ.nx ρ) : Sxs X [] ρ Φ := fun H0 H1 σ H E S F => ⟨_, pss_nil, F.nx ρ σ H S h⟩
theorem xs_cons (h : Sx X st ρ { Φ with nx := fun ρ' => Sxs X rest ρ' Φ }) : Sxs X (st :: rest) ρ Φ := fun H0 H1 σ H E S F =>
  ⟨_, pss_cons ps_c pss_c, h H0 H1 σ H _ S ⟨fun ρ' σ' H' S' q => q H0 H1 σ' H' E S' F, F.rt, F.bk, F.ct, F.ro⟩⟩
theorem xs_one (h : Sx X st ρ Φ) : Sxs X [st] ρ Φ := fun H0 H1 σ H E S F => ⟨_, pss_one ps_c, h H0 H1 σ H E S F⟩
/-! ### small statements -/
theorem sx_pass (h : Φ.nx ρ) : Sx X (.Pass pos) ρ Φ := fun H0 H1 σ H E S F => ⟨_, ps_pass, F.nx ρ σ H S h⟩
theorem sx_break (h : Φ.bk ρ) : Sx X (.Break pos) ρ Φ := fun H0 H1 σ H E S F => ⟨_, ps_break, F.bk ρ σ H S h⟩
theorem sx_cont (h : Φ.ct ρ) : Sx X (.Continue pos) ρ Φ := fun H0 H1 σ H E S F => ⟨_, ps_continue, F.ct ρ σ H S h⟩
theorem sx_ret (he : Ev X e ρ (.val d)) (h : Φ.rt d ρ) : Sx X (.Return (some e) pos) ρ Φ := fun H0 H1 σ H E S F =>
  ⟨_, ps_ret pe_c, he σ H _ S.ok fun v H' ⟨s, r⟩ => F.rt d v ρ σ H' ⟨_, S.mono s⟩ r h⟩
theorem sx_retN (h : Φ.rt .none ρ) : Sx X (.Return none pos) ρ Φ := fun H0 H1 σ H E S F => ⟨_, ps_retN, F.rt .none .non ρ σ H ⟨_, S⟩ .non h⟩
theorem sx_if {t : Bool} {as bs : List Stmt} (hc : EvT X c ρ t) (ha : t = true → Sxs X as ρ Φ) (hb : t = false → Sxs X bs ρ Φ) : Sx X (.If c as bs pos) ρ Φ := fun H0 H1 σ H E S F =>
  ⟨_, ps_if pt_c pss_c pss_c, hc σ H _ S.ok fun H2 s2 => by
    cases t with
    | true => exact iteT (ha rfl H0 H1 σ H2 E (S.mono s2) F)
    | false => exact iteF (hb rfl H0 H1 σ H2 E (S.mono s2) F)⟩
/-! ### name = value -/
theorem sx_set (i : Nat) {x : Str} {pos' : Pos} (hN : X.N.Nodup) (he : Ev X e ρ (.val d)) (h : Φ.nx (ρ.set i (.val d))) (hi : X.N[i]? = some x := by rfl) (hx : Loc X.env.scope x := by first | exact Or.inl rfl | exact Or.inr rfl) (hs : swapsWith e (some (.Name x pos')) pos.line X.env = pure false := by rfl) (hf : X.fn x = true ∨ X.env.scope.names.lookup x = some .local := by first | exact .inl rfl | exact .inr rfl | assumption) :
    Sx X (.Assign [.Name x pos'] e pos) ρ Φ := fun H0 H1 σ H E S F =>
  ⟨_, ps_set hN hi hx pe_c hs hf, he σ H _ S.ok fun v H' ⟨s, r⟩ => F.nx _ _ _ (S.set s r) h⟩
theorem SK.setNew {K : PySem.W.Frag} {H0 : Ent} {H1 H H' : Hp} {σ : L2.St} {i : Nat} {v0 : V} {b0 : B} {L0 : List Addr} (S : SK K H0 H1 ρ σ H) (s : Same H H') (n : ∀ x ∈ L0, H x = none) (o0 : Own K H' v0 b0 L0) (nb : ∀ T, b0 ≠ .tab T := by intro _ h; cases h) : SK K H0 H1 (ρ.set i b0) (σ.set i (some v0)) H' := by
  have far : ∀ (j : Nat) b v L x, ρ[j]? = some b → σ[j]? = some (some v) → Own K H' v b L → x ∈ L → x ∉ L0 := fun j b v L x e es o m z => by
    have o' := S.ok.back (.of s) (fun _ _ x _ o e => s x o e) e es o
    obtain ⟨u, hu, _⟩ := o'.stands x m
    rw [n x z] at hu
    cases hu
  refine ⟨S.same.trans s, S.stb.trans (.of s), (S.ok.mono s).setOwn o0 (fun j b v L x e _ es o => far j b v L x e es o), fun j b v L x e1 e3 o m => ?_, fun j T e => S.tb j T (tb_set nb e)⟩
  by_cases hj : j = i
  · subst hj
    have hl := S.ok.len
    by_cases hlt : j < ρ.length
    · rw [List.getElem?_set_self (by omega)] at e3 e1
      cases e3
      cases e1
      rw [← o0.det o] at m
      exact S.same.free (n x m)
    · rw [List.getElem?_eq_none (by rw [List.length_set]; omega)] at e1; cases e1
  · rw [List.getElem?_set_ne (Ne.symm hj)] at e1 e3
    exact (S.mono s).fr j b v L x e1 e3 o m
theorem SK.new {K : PySem.W.Frag} {H0 : Ent} {H1 H H' : Hp} {σ : L2.St} {i : Nat} {v : V} (S : SK K H0 H1 ρ σ H) (r : RS K (.new ds) H v H') : SK K H0 H1 (ρ.set i (.own ds)) (σ.set i (some v)) H' := by
  obtain ⟨s, p, xs, rfl, n, e, r⟩ := r
  exact S.setNew s (fun x hx => by simp at hx; rw [hx]; exact n) (.own e r)
theorem SK.newD {K : PySem.W.Frag} {H0 : Ent} {H1 H H' : Hp} {σ : L2.St} {i : Nat} {v : V} {es : List (D × D)} (S : SK K H0 H1 ρ σ H) (r : RS K (.newD es) H v H') : SK K H0 H1 (ρ.set i (.dic es)) (σ.set i (some v)) H' := by
  obtain ⟨s, p, xs, rfl, n, e, r⟩ := r
  exact S.setNew s (fun x hx => by simp at hx; rw [hx]; exact n) (.dic e r)
theorem sx_new (i : Nat) {x : Str} {pos' : Pos} (hN : X.N.Nodup) (he : Ev X e ρ (.new ds)) (h : Φ.nx (ρ.set i (.own ds))) (hi : X.N[i]? = some x := by rfl) (hx : Loc X.env.scope x := by first | exact Or.inl rfl | exact Or.inr rfl) (hs : swapsWith e (some (.Name x pos')) pos.line X.env = pure false := by rfl) (hf : X.fn x = true ∨ X.env.scope.names.lookup x = some .local := by first | exact .inl rfl | exact .inr rfl | assumption) :
    Sx X (.Assign [.Name x pos'] e pos) ρ Φ := fun H0 H1 σ H E S F =>
  ⟨_, ps_set hN hi hx pe_c hs hf, he σ H _ S.ok fun v H' r => F.nx _ _ _ (S.new r) h⟩
theorem sx_newD (i : Nat) {x : Str} {pos' : Pos} {es : List (D × D)} (hN : X.N.Nodup) (he : Ev X e ρ (.newD es)) (h : Φ.nx (ρ.set i (.dic es))) (hi : X.N[i]? = some x := by rfl) (hx : Loc X.env.scope x := by first | exact Or.inl rfl | exact Or.inr rfl) (hs : swapsWith e (some (.Name x pos')) pos.line X.env = pure false := by rfl) (hf : X.fn x = true ∨ X.env.scope.names.lookup x = some .local := by first | exact .inl rfl | exact .inr rfl | assumption) :
    Sx X (.Assign [.Name x pos'] e pos) ρ Φ := fun H0 H1 σ H E S F =>
  ⟨_, ps_set hN hi hx pe_c hs hf, he σ H _ S.ok fun v H' r => F.nx _ _ _ (S.newD r) h⟩
/-- name = [..] on one line, the name a local: the new list is locked -/
theorem fz_stmt {t : TE} {i : Nat} (h : PS X st (tAsg t (gName i))) : PS X st (tAsg (fun σ H Q => t σ H fun v H' => ∃ a u, v = .ref a ∧ H' a = some u ∧ Mut (some u) ∧ ∀ od, Q v (upd H' a (.frz od u))) (gName i)) ∨ True := .inr trivial
theorem ps_fzNx {t : TS} (h : PS X st t) : PS X st (fun E σ H => t { E with nx := fun σ' H' => ∃ a u, H' a = some u ∧ Mut (some u) ∧ ∀ od, E.nx σ' (upd H' a (.frz od u)) } σ H) := by
  refine ⟨fun pins s σ H E I hw => ?_⟩
  refine thn (h.run pins s σ H _ I hw) fun f s1 q => ?_
  cases f with
  | next =>
    obtain ⟨σ', H', I2, a, u, hu, mu, q⟩ := q
    obtain ⟨od, I3⟩ := I2.lock hu mu
    exact ⟨σ', _, I3, q od⟩
  | brk => exact q
  | cont => exact q
  | ret v => exact q
theorem sx_setLc (i : Nat) {y : Str} {py : Pos} {elt tg iter : Expr} {ifs : List Expr} {scope : Scope} {own : List (Str × Nat)} {pos spos : Pos} {α : Type} {ps : List α} {en : α → D} {ρ' : α → Rho} {keep : α → Bool} {f : α → D} {is : List Nat} {yl : Bool}
    (hN : X.N.Nodup) (ok : BlkOk X.N X.env.scope scope own) (hsw : swapsWith (.ListComp elt [⟨tg, iter, ifs, 0⟩] scope pos) (some (.Name y py)) spos.line X.env = pure true)
    (hi : EvIq X tg iter ρ yl (ps.map en)) (hg : ∀ p ∈ ps, Blk X scope fun Y => EvG Y yl tg (wipeB ρ (own.map (·.2))) (en p) (ρ' p) is)
    (ht : ∀ p ∈ ps, Blk X scope fun Y => EvTs Y ifs (ρ' p) (keep p)) (he : ∀ p ∈ ps, keep p = true → Blk X scope fun Y => Ev Y elt (ρ' p) (.val (f p)))
    (h : Φ.nx (ρ.set i (.val (.list ((ps.filter keep).map f)))))
    (hw : ∀ i ∈ is, i ∈ own.map (·.2) := by decide) (hy : X.N[i]? = some y := by rfl) (hyl : X.env.scope.names.lookup y = some .local := by rfl) (hc : X.calm = true := by rfl) (hs : ∀ x, foldedSetIterable iter X.env x = pure x := by intro _; rfl) :
    Sx X (.Assign [.Name y py] (.ListComp elt [⟨tg, iter, ifs, 0⟩] scope pos) spos) ρ Φ := fun H0 H1 σ H E S F =>
  ⟨_, ps_fzNx (ps_setLc hc hN hy hyl hsw pi_c ok pg_cB pt_cB pe_cB hs), lc_run ps en hi hg hw ht he S.ok fun v H' ⟨s, p, xs, e1, n, e2, r⟩ => by
    subst e1
    exact ⟨p, _, e2, trivial, fun od => F.nx _ _ _ (S.set (same_mut s n) (rp_lock e2 r od)) h⟩⟩
theorem sx_newLc (i : Nat) {y : Str} {py : Pos} {elt tg iter : Expr} {ifs : List Expr} {scope : Scope} {own : List (Str × Nat)} {pos spos : Pos} {α : Type} {ps : List α} {en : α → D} {ρ' : α → Rho} {keep : α → Bool} {f : α → D} {is : List Nat} {yl : Bool}
    (hN : X.N.Nodup) (ok : BlkOk X.N X.env.scope scope own) (hsw : swapsWith (.ListComp elt [⟨tg, iter, ifs, 0⟩] scope pos) (some (.Name y py)) spos.line X.env = pure true)
    (hi : EvIq X tg iter ρ yl (ps.map en)) (hg : ∀ p ∈ ps, Blk X scope fun Y => EvG Y yl tg (wipeB ρ (own.map (·.2))) (en p) (ρ' p) is)
    (ht : ∀ p ∈ ps, Blk X scope fun Y => EvTs Y ifs (ρ' p) (keep p)) (he : ∀ p ∈ ps, keep p = true → Blk X scope fun Y => Ev Y elt (ρ' p) (.val (f p)))
    (h : Φ.nx (ρ.set i (.own ((ps.filter keep).map f))))
    (hw : ∀ i ∈ is, i ∈ own.map (·.2) := by decide) (hy : X.N[i]? = some y := by rfl) (hyl : X.env.scope.names.lookup y = some .local := by rfl) (hc : X.calm = true := by rfl) (hs : ∀ x, foldedSetIterable iter X.env x = pure x := by intro _; rfl) :
    Sx X (.Assign [.Name y py] (.ListComp elt [⟨tg, iter, ifs, 0⟩] scope pos) spos) ρ Φ := fun H0 H1 σ H E S F =>
  ⟨_, ps_setLc hc hN hy hyl hsw pi_c ok pg_cB pt_cB pe_cB hs, lc_run ps en hi hg hw ht he S.ok fun v H' r => F.nx _ _ _ (S.new r) h⟩
/-- a thing of one's own at p becomes a datum -/
theorem SK.lock {K : PySem.W.Frag} {H0 : Ent} {H1 H : Hp} {σ : L2.St} {j : Nat} {p : Addr} {u o : HO} {b0 : B} (S : SK K H0 H1 ρ σ H) (hj : ρ[j]? = some b0) (e1 : σ[j]? = some (some (.ref p))) (o0 : Own K H (.ref p) b0 [p]) (e2 : H p = some u) (mu : MutS (some u)) (rp : Rp K (upd H p o) (.ref p) d) :
    SK K H0 H1 (ρ.set j (.val d)) σ (upd H p o) := by
  have st : Stb H (upd H p o) := stb_upd e2 mu
  have hlt : j < ρ.length := (List.getElem?_eq_some_iff.mp hj).1
  have ne : ∀ (i : Nat) b, (ρ.set j (.val d))[i]? = some b → i ≠ j → ρ[i]? = some b := fun i b e n => by rwa [List.getElem?_set_ne (Ne.symm n)] at e
  have at_ : ∀ b, (ρ.set j (.val d))[j]? = some b → b = .val d := fun b e => by rw [List.getElem?_set_self hlt] at e; exact (Option.some.inj e).symm
  have far : ∀ (i : Nat) b v L, ρ[i]? = some b → i ≠ j → σ[i]? = some (some v) → Own K H v b L → ∀ x ∈ L, ∀ q, H x = some q → upd H p o x = some q := fun i b v L e n es ow x m q hq => by
    rw [upd_ne (fun z => n (S.ok.apart i j b _ v _ L [p] x e hj es e1 ow o0 m (by simp [z])))]
    exact hq
  have back : ∀ (i : Nat) b v L, ρ[i]? = some b → i ≠ j → σ[i]? = some (some v) → Own K (upd H p o) v b L → Own K H v b L := fun i b v L e n es ow => S.ok.back st (fun L o => far i b v L e n es o) e es ow
  refine ⟨S.same.mut (S.fr j _ _ _ p hj e1 o0 (by simp)), S.stb.trans st, ⟨by rw [List.length_set]; exact S.ok.len, fun i d' e => ?_, fun i b e ob => ?_, fun i k b c v w L M x q1 q2 s1 s2 o1 o2 => ?_⟩, fun i b v L x q1 q3 ow => ?_, fun i T e => S.tb i T (tb_set (fun _ h => by cases h) e)⟩
  · by_cases hi : i = j
    · subst hi
      have q := at_ _ e
      cases q
      exact ⟨_, e1, rp⟩
    · obtain ⟨v, h1, h2⟩ := S.ok.val i d' (ne i _ e hi)
      exact ⟨v, h1, h2.mono st⟩
  · by_cases hi : i = j
    · subst hi; have q := at_ _ e; subst q; cases ob
    · obtain ⟨v, L, h1, h2⟩ := S.ok.has i b (ne i _ e hi) ob
      exact ⟨v, L, h1, h2.mono st (far i b v L (ne i _ e hi) hi h1 h2)⟩
  · have hi : i ≠ j := fun z => by subst z; have q := at_ _ q1; subst q; cases o1
    have hk : k ≠ j := fun z => by subst z; have q := at_ _ q2; subst q; cases o2
    exact S.ok.apart i k b c v w L M x (ne i _ q1 hi) (ne k _ q2 hk) s1 s2 (back i b v L (ne i _ q1 hi) hi s1 o1) (back k c w M (ne k _ q2 hk) hk s2 o2)
  · have hi : i ≠ j := fun z => by subst z; have q := at_ _ q1; subst q; cases ow
    exact S.fr i b v L x (ne i _ q1 hi) q3 (back i b v L (ne i _ q1 hi) hi q3 ow)
/-- x = y, y a list of one's own: it is locked; both are that datum -/
theorem SK.lockOwn {K : PySem.W.Frag} {H0 : Ent} {H1 H : Hp} {σ : L2.St} {j : Nat} {p : Addr} {xs : List V} (S : SK K H0 H1 ρ σ H) (hj : ρ[j]? = some (.own ds)) (e1 : σ[j]? = some (some (.ref p))) (e2 : H p = some (.lst xs)) (r : RpAll K H xs ds) (od : Obj) :
    SK K H0 H1 (ρ.set j (.val (.list ds))) σ (upd H p (.frz od (.lst xs))) := S.lock hj e1 (.own e2 r) e2 trivial (rp_lock e2 r od)
theorem SK.lockDic {K : PySem.W.Frag} {H0 : Ent} {H1 H : Hp} {σ : L2.St} {j : Nat} {p : Addr} {kvs : List (Key × V)} {es : List (D × D)} (S : SK K H0 H1 ρ σ H) (hj : ρ[j]? = some (.dic es)) (e1 : σ[j]? = some (some (.ref p))) (e2 : H p = some (.dK kvs)) (r : RpKV K H kvs es) (od : Obj) :
    SK K H0 H1 (ρ.set j (.val (.dict es))) σ (upd H p (.frz od (.dK kvs))) := S.lock hj e1 (.dic e2 r) e2 trivial (rp_lockD e2 r od)
/-- a list, a dict of one's own is handed back -/
theorem sx_retOwn (i : Nat) {x : Str} {p : Pos} (hi : ρ[i]? = some (.own ds)) (h : Φ.rt (.list ds) (ρ.set i (.val (.list ds)))) (hN : X.N[i]? = some x := by rfl) (hv : Vis X.env.scope x := by first | exact Or.inl rfl | exact Or.inr (Or.inl rfl) | exact Or.inr (Or.inr rfl)) (hd : (x == ("__debug__" : Str)) = false := by decide)
    (hcd : (x == ("__classdict__" : Str)) = false := by decide) : Sx X (.Return (some (.Name x p)) pos) ρ Φ := fun H0 H1 σ H E S F => by
  obtain ⟨a, xs, e1, e2, r⟩ := S.ok.own i ds hi
  exact ⟨_, ps_ret (fz_any (pe_var hN hv hd hcd)), _, e1, a, _, rfl, e2, trivial, fun od => F.rt _ _ _ _ _ ⟨_, S.lockOwn hi e1 e2 r od⟩ (rp_lock e2 r od) h⟩
theorem sx_retDic (i : Nat) {x : Str} {p : Pos} {es : List (D × D)} (hi : ρ[i]? = some (.dic es)) (h : Φ.rt (.dict es) (ρ.set i (.val (.dict es)))) (hN : X.N[i]? = some x := by rfl) (hv : Vis X.env.scope x := by first | exact Or.inl rfl | exact Or.inr (Or.inl rfl) | exact Or.inr (Or.inr rfl)) (hd : (x == ("__debug__" : Str)) = false := by decide)
    (hcd : (x == ("__classdict__" : Str)) = false := by decide) : Sx X (.Return (some (.Name x p)) pos) ρ Φ := fun H0 H1 σ H E S F => by
  obtain ⟨a, xs, e1, e2, r⟩ := S.ok.dic i es hi
  exact ⟨_, ps_ret (fz_any (pe_var hN hv hd hcd)), _, e1, a, _, rfl, e2, trivial, fun od => F.rt _ _ _ _ _ ⟨_, S.lockDic hi e1 e2 r od⟩ (rp_lockD e2 r od) h⟩
theorem sx_move (i j : Nat) {x y : Str} {pos' p : Pos} (hN : X.N.Nodup) (hj : ρ[j]? = some (.own ds)) (h : Φ.nx ((ρ.set j (.val (.list ds))).set i (.val (.list ds)))) (hi : X.N[i]? = some x := by rfl) (hx : Loc X.env.scope x := by first | exact Or.inl rfl | exact Or.inr rfl) (hNj : X.N[j]? = some y := by rfl) (hv : Vis X.env.scope y := by first | exact Or.inl rfl | exact Or.inr (Or.inl rfl) | exact Or.inr (Or.inr rfl)) (hd : (y == ("__debug__" : Str)) = false := by decide)
    (hcd : (y == ("__classdict__" : Str)) = false := by decide) (hs : swapsWith (.Name y p) (some (.Name x pos')) pos.line X.env = pure false := by rfl) (hf : X.fn x = true ∨ X.env.scope.names.lookup x = some .local := by first | exact .inl rfl | exact .inr rfl | assumption) :
    Sx X (.Assign [.Name x pos'] (.Name y p) pos) ρ Φ := fun H0 H1 σ H E S F => by
  obtain ⟨a, xs, e1, e2, r⟩ := S.ok.own j ds hj
  refine ⟨_, ps_set hN hi hx (fz_any (pe_var hNj hv hd hcd)) hs hf, _, e1, a, _, rfl, e2, trivial, fun od => F.nx _ _ _ ?_ h⟩
  exact (S.lockOwn hj e1 e2 r od).set (.refl _) (rp_lock e2 r od)
/-- targets of tuples -/
theorem sx_unpack {es : List Expr} {n : Nat} {pt : Pos} {ρ' : Rho} {is : List Nat} (he : Ev X e ρ (.val d)) (hg : EvG X false (.Tuple es n pt) ρ d ρ' is) (h : Φ.nx ρ') (hs : swapsWithSole [.Tuple es n pt] e pos.line X.env = pure false := by rfl) (hw : swappedStores [.Tuple es n pt] e X.env = pure none := by rfl)
    (h1 : (assignEach [.Tuple es n pt] X.env).map (·.2) = [assign (.Tuple es n pt) X.env] := by rfl) : Sx X (.Assign [.Tuple es n pt] e pos) ρ Φ := fun H0 H1 σ H E S F =>
  ⟨_, ps_asg pe_c pg_c hs hw h1, he σ H _ S.ok fun v H' ⟨s, r⟩ => hg.run σ H' v _ (S.ok.mono s) (.inl r) fun σ' S' w => F.nx _ _ _ ⟨S.same.trans s, S.stb.trans (.of s), S', fun i b u L x q1 q3 o => by
    obtain ⟨z1, z2⟩ := hg.own i b q1 o.is
    refine (S.mono s).fr i b u L x z1 ?_ o
    have e1 := congrArg (fun τ : L2.St => τ[i]?) (w is fun _ z => z)
    simp only [wipe_out z2] at e1
    rw [← e1]; exact q3, fun i T q => S.tb i T (hg.own i _ q rfl).1⟩ h⟩
/-! ### loops -/
/-- the turns of a for, one by one -/
def ForW (X : Cx) (yl : Bool) (tg : Expr) (body : List Stmt) : List D → Rho → DL.Fin → Prop
  | [], ρ, Φ => Φ.nx ρ
  | x :: xs, ρ, Φ => ∃ ρ' is, EvG X yl tg ρ x ρ' is ∧ Sxs X body ρ' { nx := fun ρ2 => ForW X yl tg body xs ρ2 Φ, rt := Φ.rt, bk := Φ.nx, ct := fun ρ2 => ForW X yl tg body xs ρ2 Φ, ro := Φ.ro }
theorem sx_for {yl : Bool} {tg it : Expr} {body : List Stmt} {xs : List D} (hi : EvI X tg it ρ yl xs) (h : ForW X yl tg body xs ρ Φ) (hp : PassesOwn (model X.prog X.w) X.A X.env X.xe := by exact PassesOwn.never) (hc : X.calm = true := by rfl) (hs : ∀ x, foldedSetIterable it X.env x = pure x := by intro _; rfl) :
    Sx X (.For tg it body [] pos) ρ Φ := fun H0 H1 σ H E S F =>
  ⟨_, ps_for hp hc pi_c pg_c pss_c hs, hi σ H _ S.ok fun J H2 s2 _ w => by
    refine for_it w (fun i σ' H' => Stb H2 H' ∧ ∃ ρ', SK X.K H0 H1 ρ' σ' H' ∧ ForW X yl tg body (xs.drop i) ρ' Φ) ⟨.refl _, ρ, S.mono s2, by simpa using h⟩ (fun i σ' H' _ h => h.1) (fun i x σ' H3 H4 hlt ⟨st3, ρ3, S3, f3⟩ ⟨s4, d, hd, rd⟩ => ?_) (fun σ' H3 ⟨st3, ρ3, S3, f3⟩ => ?_)
    · have hx : xs.drop i = xs[i] :: xs.drop (i + 1) := List.drop_eq_getElem_cons hlt
      rw [List.getElem?_eq_getElem hlt] at hd
      have ed : xs[i] = d := Option.some.inj hd
      subst ed
      rw [hx] at f3
      obtain ⟨ρ4, is, hg, hb⟩ := f3
      refine hg.run σ' H4 x _ (S3.ok.mono s4) rd fun σ5 S5 w5 => ?_
      have K5 : SK X.K H0 H4 ρ4 σ5 H4 := ⟨S3.same.trans s4, .refl _, S5, fun i b u L x q1 q3 o => by
        obtain ⟨z1, z2⟩ := hg.own i b q1 o.is
        refine (S3.mono s4).fr i b u L x z1 ?_ o
        have e1 := congrArg (fun τ : L2.St => τ[i]?) (w5 is fun _ z => z)
        simp only [wipe_out z2] at e1
        rw [← e1]; exact q3, fun i T q => S3.tb i T (hg.own i _ q rfl).1⟩
      have back : ∀ {ρ6 : Rho} {σ6 : L2.St} {H6 : Hp}, SK X.K H0 H4 ρ6 σ6 H6 → SK X.K H0 H1 ρ6 σ6 H6 := fun S6 => ⟨S6.same, S3.stb.trans ((Stb.of s4).trans S6.stb), S6.ok, S6.fr, S6.tb⟩
      refine hb H0 H4 σ5 H4 _ K5 ⟨fun ρ6 σ6 H6 S6 q => ⟨st3.trans ((Stb.of s4).trans S6.stb), ρ6, back S6, q⟩, F.rt, fun ρ6 σ6 H6 S6 q => F.nx ρ6 σ6 H6 (back S6) q, fun ρ6 σ6 H6 S6 q => ⟨st3.trans ((Stb.of s4).trans S6.stb), ρ6, back S6, q⟩, F.ro⟩
    · rw [List.drop_length] at f3
      exact F.nx ρ3 σ' H3 S3 f3⟩
theorem sx_while {body : List Stmt} (W : Nat → Rho → Prop) (m : Nat) (h0 : W m ρ) (turn : ∀ m ρ, W m ρ → ∃ t, EvT X c ρ t ∧ (t = true → Sxs X body ρ { nx := fun ρ' => ∃ m', m' < m ∧ W m' ρ', rt := Φ.rt, bk := Φ.nx, ct := fun ρ' => ∃ m', m' < m ∧ W m' ρ', ro := Φ.ro }) ∧ (t = false → Φ.nx ρ))
    (hp : PassesOwn (model X.prog X.w) X.A X.env X.xe := by exact PassesOwn.never) : Sx X (.While c body [] pos) ρ Φ := fun H0 H1 σ H E S F => by
  refine ⟨_, ps_while hp pt_c pss_c, fun m σ' H' => ∃ ρ', SK X.K H0 H1 ρ' σ' H' ∧ W m ρ', ⟨m, ρ, S, h0⟩, fun m σ2 H2 ⟨ρ2, S2, w2⟩ => ?_⟩
  obtain ⟨t, ht, h1, h2⟩ := turn m ρ2 w2
  refine ht σ2 H2 _ S2.ok fun H3 s3 => ?_
  cases t with
  | true =>
    refine iteT ⟨fun σ' H' => ∃ m', m' < m ∧ ∃ ρ', SK X.K H0 H1 ρ' σ' H' ∧ W m' ρ', fun σ' H' h => h, h1 rfl H0 H1 σ2 H3 _ (S2.mono s3) ⟨fun ρ4 σ4 H4 S4 ⟨m', lt, w4⟩ => ⟨m', lt, ρ4, S4, w4⟩, F.rt, F.nx, fun ρ4 σ4 H4 S4 ⟨m', lt, w4⟩ => ⟨m', lt, ρ4, S4, w4⟩, F.ro⟩⟩
  | false => exact iteF (F.nx ρ2 σ2 H3 (S2.mono s3) (h2 rfl))
/-! ### a list of one's own is changed -/
/-- the thing in slot j is changed, at addresses of its own alone -/
theorem SK.chg {K : PySem.W.Frag} {H0 : Ent} {H1 H H' : Hp} {σ : L2.St} {j : Nat} {v0 : V} {b0 b1 : B} {L0 L1 : List Addr} (S : SK K H0 H1 ρ σ H) (hj : ρ[j]? = some b0) (e1 : σ[j]? = some (some v0)) (o0 : Own K H v0 b0 L0) (st : Stb H H') (kp : ∀ x q, H x = some q → x ∉ L0 → H' x = some q) (o1 : Own K H' v0 b1 L1) (hL : ∀ x ∈ L1, x ∈ L0 ∨ H x = none) (nb : ∀ T, b1 ≠ .tab T := by intro _ h; cases h) : SK K H0 H1 (ρ.set j b1) σ H' := by
  have hlt : j < ρ.length := (List.getElem?_eq_some_iff.mp hj).1
  have ne : ∀ (i : Nat) b, (ρ.set j b1)[i]? = some b → i ≠ j → ρ[i]? = some b := fun i b e n => by rwa [List.getElem?_set_ne (Ne.symm n)] at e
  have at_ : ∀ b, (ρ.set j b1)[j]? = some b → b = b1 := fun b e => by rw [List.getElem?_set_self hlt] at e; exact (Option.some.inj e).symm
  have far : ∀ (i : Nat) b v L, ρ[i]? = some b → i ≠ j → σ[i]? = some (some v) → Own K H v b L → ∀ x ∈ L, ∀ q, H x = some q → H' x = some q := fun i b v L e n es ow x m q hq =>
    kp x q hq fun z => n (S.ok.apart i j b _ v _ L L0 x e hj es e1 ow o0 m z)
  have back : ∀ (i : Nat) b v L, ρ[i]? = some b → i ≠ j → σ[i]? = some (some v) → Own K H' v b L → Own K H v b L := fun i b v L e n es ow => S.ok.back st (fun L o => far i b v L e n es o) e es ow
  have two : ∀ (i : Nat) b v L x, ρ[i]? = some b → i ≠ j → σ[i]? = some (some v) → Own K H v b L → x ∈ L → x ∉ L1 := fun i b v L x e n es ow m z => by
    rcases hL x z with q | q
    · exact n (S.ok.apart i j b _ v _ L L0 x e hj es e1 ow o0 m q)
    · obtain ⟨u, hu, _⟩ := ow.stands x m
      rw [q] at hu; cases hu
  have fr1 : ∀ x ∈ L1, H0.H x = none ∨ H0.W x := fun x m => by
    rcases hL x m with q | q
    · exact S.fr j _ _ _ x hj e1 o0 q
    · exact S.same.free q
  refine ⟨fun b q e w => ?_, S.stb.trans st, ⟨by rw [List.length_set]; exact S.ok.len, fun i d e => ?_, fun i b e ob => ?_, fun i k b c v w L M x q1 q2 s1 s2 w1 w2 m1 m2 => ?_⟩, fun i b v L x q1 q3 ow m => ?_, fun i T e => S.tb i T (tb_set nb e)⟩
  · refine kp b q (S.same b q e w) fun z => ?_
    rcases S.fr j _ _ _ b hj e1 o0 z with f | f
    · rw [f] at e; cases e
    · exact w f
  · by_cases hi : i = j
    · subst hi; have q := at_ _ e; subst q; cases o1
    · obtain ⟨v, h1, h2⟩ := S.ok.val i d (ne i _ e hi)
      exact ⟨v, h1, h2.mono st⟩
  · by_cases hi : i = j
    · subst hi; have q := at_ _ e; subst q; exact ⟨v0, L1, e1, o1⟩
    · obtain ⟨v, L, h1, h2⟩ := S.ok.has i b (ne i _ e hi) ob
      exact ⟨v, L, h1, h2.mono st (far i b v L (ne i _ e hi) hi h1 h2)⟩
  · by_cases hi : i = j
    · by_cases hk : k = j
      · rw [hi, hk]
      · subst hi
        have q := at_ _ q1
        subst q
        rw [e1] at s1
        cases s1
        rw [← o1.det w1] at m1
        exact absurd m1 (two k c w M x (ne k _ q2 hk) hk s2 (back k c w M (ne k _ q2 hk) hk s2 w2) m2)
    · by_cases hk : k = j
      · subst hk
        have q := at_ _ q2
        subst q
        rw [e1] at s2
        cases s2
        rw [← o1.det w2] at m2
        exact absurd m2 (two i b v L x (ne i _ q1 hi) hi s1 (back i b v L (ne i _ q1 hi) hi s1 w1) m1)
      · exact S.ok.apart i k b c v w L M x (ne i _ q1 hi) (ne k _ q2 hk) s1 s2 (back i b v L (ne i _ q1 hi) hi s1 w1) (back k c w M (ne k _ q2 hk) hk s2 w2) m1 m2
  · by_cases hi : i = j
    · subst hi
      have q := at_ _ q1
      subst q
      rw [e1] at q3
      cases q3
      rw [← o1.det ow] at m
      exact fr1 x m
    · exact S.fr i b v L x (ne i _ q1 hi) q3 (back i b v L (ne i _ q1 hi) hi q3 ow) m
theorem SK.write {K : PySem.W.Frag} {H0 : Ent} {H1 H : Hp} {σ : L2.St} {j : Nat} {p : Addr} {u : HO} {o : HO} {b0 b1 : B} (S : SK K H0 H1 ρ σ H) (hj : ρ[j]? = some b0) (e1 : σ[j]? = some (some (.ref p))) (o0 : Own K H (.ref p) b0 [p]) (e2 : H p = some u) (mu : MutS (some u)) (o1 : Own K (upd H p o) (.ref p) b1 [p]) (nb : ∀ T, b1 ≠ .tab T := by intro _ h; cases h) : SK K H0 H1 (ρ.set j b1) σ (upd H p o) :=
  S.chg hj e1 o0 (stb_upd e2 mu) (fun x q e n => by rw [upd_ne (by simpa using n)]; exact e) o1 (fun x m => .inl m) nb
theorem sx_append (j : Nat) {y : Str} {p2 apos cpos : Pos} (hj : ρ[j]? = some (.own ds)) (he : Ev X e ρ (.val d)) (hz : ds.length < sizeLine) (h : Φ.nx (ρ.set j (.own (ds ++ [d])))) (hNj : X.N[j]? = some y := by rfl) (hv : Vis X.env.scope y := by first | exact Or.inl rfl | exact Or.inr (Or.inl rfl) | exact Or.inr (Or.inr rfl)) (hd : (y == ("__debug__" : Str)) = false := by decide)
    (hcd : (y == ("__classdict__" : Str)) = false := by decide) (hbase : attributeBase (.Name y p2) "append" X.env (eval (.Name y p2) X.env) = eval (.Name y p2) X.env := by rfl)
    (hfew : ((backTo cpos (starEach [e] X.env)).all (fun x => !x.1) && (backToKw cpos (keywordEach [] X.env)).all (fun x => x.1.isSome)
      && decide ([e].length + ([] : List Keyword).length + (if ([] : List Keyword).isEmpty then 0 else 1) < 30)) = true := by rfl)
    (hline : (apos.endLine == cpos.line) = true := by rfl) (hs : starEach [e] X.env = (false, eval e X.env) :: starEach [] X.env := by rfl) (hplain : (backTo cpos (starEach [] X.env)).any (·.1) = false := by rfl)
    (hsw : swapsWith (.Call (.Attribute (.Name y p2) "append" apos) [e] [] cpos) none pos.line X.env = pure false := by rfl) :
    Sx X (.Expr (.Call (.Attribute (.Name y p2) "append" apos) [e] [] cpos) pos) ρ Φ := fun H0 H1 σ H E S F => by
  obtain ⟨a, xs, e1, e2, r⟩ := S.ok.own j ds hj
  refine ⟨_, ps_expr (pe_bm PySem.F.plainAttrs_list PySem.F.slot_list_append PySem.F.type_list_append mt_append (pe_var hNj hv hd hcd) (pa_cons pe_c pa_nil hs) hbase hfew hline hs hplain) hsw, _, e1, .inl ⟨rfl, xs, .of e2⟩, he σ H _ S.ok fun v H2 ⟨s2, r2⟩ => ?_⟩
  refine ⟨a, xs, v, rfl, rfl, s2 _ _ e2, by rw [r.length]; exact hz, F.nx _ _ _ ((S.mono s2).write hj e1 (.own (s2 _ _ e2) (r.mono (.of s2))) (s2 _ _ e2) trivial ?_) h⟩
  have st : Stb H2 (upd H2 a (.lst (xs ++ [v]))) := stb_upd (s2 _ _ e2) trivial
  exact .own upd_same (((r.mono (.of s2)).mono st).append (.cons (r2.mono st) .nil))
theorem sx_extend (j : Nat) {y : Str} {p2 apos cpos : Pos} {es : List D} (hj : ρ[j]? = some (.own ds)) (he : Ev X e ρ (.new es)) (hz : ds.length + es.length ≤ sizeLine) (h : Φ.nx (ρ.set j (.own (ds ++ es)))) (hNj : X.N[j]? = some y := by rfl) (hv : Vis X.env.scope y := by first | exact Or.inl rfl | exact Or.inr (Or.inl rfl) | exact Or.inr (Or.inr rfl)) (hd : (y == ("__debug__" : Str)) = false := by decide)
    (hcd : (y == ("__classdict__" : Str)) = false := by decide) (hbase : attributeBase (.Name y p2) "extend" X.env (eval (.Name y p2) X.env) = eval (.Name y p2) X.env := by rfl)
    (hfew : ((backTo cpos (starEach [e] X.env)).all (fun x => !x.1) && (backToKw cpos (keywordEach [] X.env)).all (fun x => x.1.isSome)
      && decide ([e].length + ([] : List Keyword).length + (if ([] : List Keyword).isEmpty then 0 else 1) < 30)) = true := by rfl)
    (hline : (apos.endLine == cpos.line) = true := by rfl) (hs : starEach [e] X.env = (false, eval e X.env) :: starEach [] X.env := by rfl) (hplain : (backTo cpos (starEach [] X.env)).any (·.1) = false := by rfl)
    (hsw : swapsWith (.Call (.Attribute (.Name y p2) "extend" apos) [e] [] cpos) none pos.line X.env = pure false := by rfl) :
    Sx X (.Expr (.Call (.Attribute (.Name y p2) "extend" apos) [e] [] cpos) pos) ρ Φ := fun H0 H1 σ H E S F => by
  obtain ⟨a, xs, e1, e2, r⟩ := S.ok.own j ds hj
  refine ⟨_, ps_expr (pe_bm PySem.F.plainAttrs_list PySem.F.slot_list_extend PySem.F.type_list_extend mt_extend (pe_var hNj hv hd hcd) (pa_cons pe_c pa_nil hs) hbase hfew hline hs hplain) hsw, _, e1, .inl ⟨rfl, xs, .of e2⟩, he σ H _ S.ok fun v H2 ⟨s2, p, zs, e3, n3, e4, r2⟩ => ?_⟩
  subst e3
  refine ⟨a, p, xs, zs, rfl, rfl, s2 _ _ e2, e4, by rw [r.length, r2.length]; exact hz, F.nx _ _ _ ((S.mono s2).write hj e1 (.own (s2 _ _ e2) (r.mono (.of s2))) (s2 _ _ e2) trivial ?_) h⟩
  have st : Stb H2 (upd H2 a (.lst (xs ++ zs))) := stb_upd (s2 _ _ e2) trivial
  exact .own upd_same (((r.mono (.of s2)).mono st).append (r2.mono st))
end
/-! ### a def by its body -/
section
variable {P : Program} {w : World} {K : PySem.W.Frag} {mg : Str → Option Value} {base : Heap} {x qual : Str} {params : Arguments} {body : List Stmt} {scope : Scope} {kws : List (Str × V)} {f : Addr} {fd : FuncData}
def startB (n : Nat) (ds : List D) : Rho := ds.map .val ++ List.replicate (n - ds.length) .un
theorem sok_start {H : Hp} {N : List Str} {vs : List V} {ds : List D} (r : RpAll K H vs ds) : SOk K (startB N.length ds) (L2.start N vs) H := by
  have hl := r.length
  have key : ∀ (i : Nat) b, (startB N.length ds)[i]? = some b → b = .un ∨ ∃ d v, b = .val d ∧ (L2.start N vs)[i]? = some (some v) ∧ Rp K H v d := fun i b e => by
    unfold startB at e
    by_cases hi : i < ds.length
    · rw [List.getElem?_append_left (by simpa using hi), List.getElem?_map] at e
      cases q : ds[i]? with
      | none => rw [q] at e; cases e
      | some d =>
        rw [q] at e
        obtain ⟨v, h1, h2⟩ := r.get q
        refine .inr ⟨d, v, (Option.some.inj e).symm, ?_, h2⟩
        unfold L2.start
        rw [List.getElem?_append_left (by simpa using (by omega : i < vs.length)), List.getElem?_map, h1]
        rfl
    · rw [List.getElem?_append_right (by simpa using hi), List.getElem?_replicate] at e
      split at e
      · exact .inl (Option.some.inj e).symm
      · cases e
  refine ⟨by unfold startB L2.start; simp [hl], fun i d e => ?_, fun i b e o => ?_, fun i j b c v w L M x e1 _ _ _ o1 _ _ _ => ?_⟩
  · rcases key i _ e with q | ⟨d', v, q, h1, h2⟩
    · cases q
    · cases q; exact ⟨v, h1, h2⟩
  · rcases key i _ e with q | ⟨d', v, q, h1, h2⟩ <;> (subst q; cases o)
  · rcases key i _ e1 with q | ⟨d', v, q, h1, h2⟩ <;> (subst q; cases o1)
theorem fn_d {N ps : List Str} {k : Nat} {g : List D → D → Prop} (F : FunD K x qual params body scope [] kws f fd) (S : FnScope N ps scope) (len : ∀ ds d, g ds d → ds.length = ps.length)
    (hbody : ∀ (cdv : Value) (A : Around) (outer : List Env) (s : Shared) (H : Hp) (E : XK) (ds : List D) (d : D), Room k (A.deeper (envOfC qual scope s.heap.objs.size f cdv)) → g ds d →
      Sxs (cxOf CX0 P w K mg base N qual scope f cdv A outer s H E).nox body (startB N.length ds) { nx := fun _ => d = .none, rt := fun r _ => r = d }) : FnD P w K mg base (k + 1) f fd ps g := by
  refine F.ok S (fun vs H Q E ⟨ds, d, r, hg, _⟩ => by rw [r.length]; exact len ds d hg) (fun cdv A outer s H vs Q E hr ⟨ds, d, r, hg, q⟩ => ?_)
  refine ⟨_, PSs.nox pss_c, hbody cdv A outer s H E ds d hr hg (Ent.of H) H (L2.start N vs) H _ ⟨fun _ _ e _ => e, .refl _, sok_start r, fun i b v L x e1 _ o1 => ?_, fun i T e1 => ?_⟩ ⟨fun ρ σ H' S' e => ?_, fun r' v ρ σ H' s' rp e => ?_, fun _ _ _ _ z => z.elim, fun _ _ _ _ z => z.elim, fun _ _ _ _ _ _ z => z.elim⟩⟩
  · exfalso
    unfold startB at e1
    by_cases hi : i < ds.length
    · rw [List.getElem?_append_left (by simpa using hi), List.getElem?_map] at e1
      cases q : ds[i]? with
      | none => rw [q] at e1; cases e1
      | some d => rw [q] at e1; cases e1; cases o1
    · rw [List.getElem?_append_right (by simpa using hi), List.getElem?_replicate] at e1
      split at e1 <;> cases e1
      cases o1
  · exfalso
    unfold startB at e1
    by_cases hi : i < ds.length
    · rw [List.getElem?_append_left (by simpa using hi), List.getElem?_map] at e1
      cases q : ds[i]? with
      | none => rw [q] at e1; cases e1
      | some d => rw [q] at e1; cases e1
    · rw [List.getElem?_append_right (by simpa using hi), List.getElem?_replicate] at e1
      split at e1 <;> cases e1
  · subst e
    exact q _ _ S'.same.same .non
  · subst e
    obtain ⟨_, S'⟩ := s'
    exact q _ _ S'.same.same rp
end
end DL


namespace DL
open PySem PySem.Spec PyProof.Rows L2
section
variable {X : Cx} {ρ : Rho} {e a b c : Expr} {d x y z : D} {ds es : List D} {k : Kd}
/-! ### ints -/
theorem o_add {i j : Int} : OpV X (binaryOp .Add) (.int i) (.int j) (.val (.int (i + j))) := fun H u v Q ru rv q => ⟨_, op_add, i, j, ru.int, rv.int, q _ H ⟨.refl H, .int _⟩⟩
theorem o_sub {i j : Int} : OpV X (binaryOp .Sub) (.int i) (.int j) (.val (.int (i - j))) := fun H u v Q ru rv q => ⟨_, op_sub, i, j, ru.int, rv.int, q _ H ⟨.refl H, .int _⟩⟩
theorem o_mul {i j : Int} (hc : CMul i j) : OpV X (binaryOp .Mult) (.int i) (.int j) (.val (.int (i * j))) := fun H u v Q ru rv q => ⟨_, op_mul, i, j, ru.int, rv.int, hc, q _ H ⟨.refl H, .int _⟩⟩
theorem o_div {i j : Int} (hc : CDiv i j) : OpV X (binaryOp .FloorDiv) (.int i) (.int j) (.val (.int (i / j))) := fun H u v Q ru rv q => ⟨_, op_fdiv, i, j, ru.int, rv.int, hc, q _ H ⟨.refl H, .int _⟩⟩
theorem o_mod {i j : Int} (hc : 0 < j) : OpV X (binaryOp .Mod) (.int i) (.int j) (.val (.int (i % j))) := fun H u v Q ru rv q => ⟨_, op_mod, i, j, ru.int, rv.int, hc, q _ H ⟨.refl H, .int _⟩⟩
theorem o_lt {i j : Int} : OpV X (compareOp .Lt) (.int i) (.int j) (.val (.bool (decide (i < j)))) := fun H u v Q ru rv q => ⟨_, op_lt, i, j, ru.int, rv.int, q _ H ⟨.refl H, .bl _⟩⟩
theorem o_le {i j : Int} : OpV X (compareOp .LtE) (.int i) (.int j) (.val (.bool (decide (i ≤ j)))) := fun H u v Q ru rv q => ⟨_, op_le, i, j, ru.int, rv.int, q _ H ⟨.refl H, .bl _⟩⟩
theorem o_gt {i j : Int} : OpV X (compareOp .Gt) (.int i) (.int j) (.val (.bool (decide (j < i)))) := fun H u v Q ru rv q => ⟨_, op_gt, i, j, ru.int, rv.int, q _ H ⟨.refl H, .bl _⟩⟩
theorem o_ge {i j : Int} : OpV X (compareOp .GtE) (.int i) (.int j) (.val (.bool (decide (j ≤ i)))) := fun H u v Q ru rv q => ⟨_, op_ge, i, j, ru.int, rv.int, q _ H ⟨.refl H, .bl _⟩⟩
/-! ### texts -/
theorem o_adds {i j : Str} (h : i.length + j.length ≤ sizeLine) : OpV X (binaryOp .Add) (.str i) (.str j) (.val (.str (i ++ j))) := fun H u v Q ru rv q => ⟨_, op_add_str, i, j, ru.str, rv.str, h, q _ H ⟨.refl H, .str _⟩⟩
theorem o_lts {i j : Str} : OpV X (compareOp .Lt) (.str i) (.str j) (.val (.bool (decide (i.cps.toList < j.cps.toList)))) := fun H u v Q ru rv q => ⟨_, op_lt_str, i, j, ru.str, rv.str, q _ H ⟨.refl H, .bl _⟩⟩
theorem o_les {i j : Str} : OpV X (compareOp .LtE) (.str i) (.str j) (.val (.bool (!decide (j.cps.toList < i.cps.toList)))) := fun H u v Q ru rv q => ⟨_, op_le_str, i, j, ru.str, rv.str, q _ H ⟨.refl H, .bl _⟩⟩
/-! ### None -/
def isNon : D → Bool
  | .none => true
  | _ => false
theorem isNon_iff {d : D} : isNon d = true ↔ d = .none := by cases d <;> simp [isNon]
theorem isNon_dec {K : PySem.W.Frag} {H : Hp} {v : V} (h : Rq K H v d) : decide (v = .non) = isNon d := by
  have := h.is_non
  cases e : isNon d with
  | true => exact decide_eq_true (this.mpr (isNon_iff.mp e))
  | false => exact decide_eq_false fun z => by rw [isNon_iff.mpr (this.mp z)] at e; cases e
theorem o_isN : OpV X (compareOp .Is) x .none (.val (.bool (isNon x))) := fun H u v Q ru rv q => ⟨_, op_isN, rv.non, by rw [isNon_dec ru]; exact q _ H ⟨.refl H, .bl _⟩⟩
theorem o_notN : OpV X (compareOp .IsNot) x .none (.val (.bool (!isNon x))) := fun H u v Q ru rv q => ⟨_, op_notN, rv.non, by rw [isNon_dec ru]; exact q _ H ⟨.refl H, .bl _⟩⟩
/-! ### == and != -/
mutual
theorem lay_nod : ∀ {d : D}, d.canLay0 = true → nod d = true
  | .none, _ => rfl
  | .bool _, _ => rfl
  | .int _, _ => rfl
  | .str _, _ => rfl
  | .list xs, h => by
    simp only [PyData.canLay0] at h
    simp only [nod]; exact lay_nods h
  | .tuple xs, h => by
    simp only [PyData.canLay0] at h
    simp only [nod]; exact lay_nods h
  | .dict _, h => by simp [PyData.canLay0] at h
theorem lay_nods : ∀ {ds : List D}, PyData.canLayAll0 ds = true → nods ds = true
  | [], _ => rfl
  | d :: ds, h => by
    simp only [PyData.canLayAll0, Bool.and_eq_true] at h
    simp only [nods, Bool.and_eq_true]; exact ⟨lay_nod h.1, lay_nods h.2⟩
end
/-- plain data of some depth at most -/
structure Pl (n : Nat) (d : D) : Prop where
  lay : d.canLay0 = true
  dep : d.depth ≤ n
theorem Pl.sh {n : Nat} (h : Pl n d) (hn : n ≤ 64 := by decide) : SeqAt.shaped d = true := by
  unfold SeqAt.shaped
  rw [h.lay, decide_eq_true (Nat.le_trans h.dep hn)]; rfl
theorem Pl.mono {n m : Nat} (h : Pl n d) (hn : n ≤ m) : Pl m d := ⟨h.lay, Nat.le_trans h.dep hn⟩
theorem pl_int {n : Nat} {i : Int} : Pl n (.int i) := ⟨by simp [PyData.canLay0], by simp [PyData.depth]⟩
theorem pl_bool {n : Nat} {i : Bool} : Pl n (.bool i) := ⟨by simp [PyData.canLay0], by simp [PyData.depth]⟩
theorem pl_none {n : Nat} : Pl n .none := ⟨by simp [PyData.canLay0], by simp [PyData.depth]⟩
theorem pl_str {n : Nat} {s : Str} (h : PyData.strOk s = true) : Pl n (.str s) := ⟨by simpa [PyData.canLay0] using h, by simp [PyData.depth]⟩
def PlAll (n : Nat) (ds : List D) : Prop := ∀ d ∈ ds, Pl n d
theorem PlAll.lay {n : Nat} : ∀ {ds : List D}, PlAll n ds → PyData.canLayAll0 ds = true
  | [], _ => by simp [PyData.canLayAll0]
  | d :: ds, h => by
    simp only [PyData.canLayAll0, Bool.and_eq_true]
    exact ⟨(h d List.mem_cons_self).lay, PlAll.lay fun x hx => h x (List.mem_cons_of_mem _ hx)⟩
theorem PlAll.dep {n : Nat} : ∀ {ds : List D}, PlAll n ds → PyData.depthAll ds ≤ n
  | [], _ => by simp [PyData.depthAll]
  | d :: ds, h => by
    simp only [PyData.depthAll]
    exact Nat.max_le.mpr ⟨(h d List.mem_cons_self).dep, PlAll.dep fun x hx => h x (List.mem_cons_of_mem _ hx)⟩
theorem pl_tup {n : Nat} (h : PlAll n ds) : Pl (n + 1) (.tuple ds) := ⟨by simpa [PyData.canLay0] using h.lay, by simpa [PyData.depth] using h.dep⟩
theorem pl_lst {n : Nat} (h : PlAll n ds) : Pl (n + 1) (.list ds) := ⟨by simpa [PyData.canLay0] using h.lay, by simpa [PyData.depth] using h.dep⟩
theorem pla_nil {n : Nat} : PlAll n [] := fun _ h => nomatch h
theorem pla_cons {n : Nat} (h : Pl n d) (t : PlAll n ds) : PlAll n (d :: ds) := fun x hx => by
  rcases List.mem_cons.mp hx with rfl | hx
  · exact h
  · exact t x hx
theorem pla_map {n : Nat} {α : Type} {f : α → D} {l : List α} (h : ∀ a ∈ l, Pl n (f a)) : PlAll n (l.map f) := fun x hx => by
  obtain ⟨a, ha, rfl⟩ := List.mem_map.mp hx
  exact h a ha
theorem o_eqD {n m : Nat} (hx : Pl n x) (hy : Pl m y) (hu : X.A.units + 64 < cLine) (hn : n ≤ 64 := by decide) (hm : m ≤ 64 := by decide) : OpV X (compareOp .Eq) x y (.val (.bool (PyData.eqv x y))) := fun H u v Q ru rv q =>
  ⟨_, op_eqD hu, x, y, ru.dp (lay_nod hx.lay), rv.dp (lay_nod hy.lay), hx.sh hn, hy.sh hm, q _ H ⟨.refl H, .bl _⟩⟩
theorem o_neD {n m : Nat} (hx : Pl n x) (hy : Pl m y) (hu : X.A.units + 64 < cLine) (hn : n ≤ 64 := by decide) (hm : m ≤ 64 := by decide) : OpV X (compareOp .NotEq) x y (.val (.bool (!PyData.eqv x y))) := fun H u v Q ru rv q =>
  ⟨_, op_neD hu, x, y, ru.dp (lay_nod hx.lay), rv.dp (lay_nod hy.lay), hx.sh hn, hy.sh hm, q _ H ⟨.refl H, .bl _⟩⟩
/-- scalars -/
def scD : D → D → Bool
  | .none, .none => true | .none, .int _ => true | .int _, .none => true | .none, .bool _ => true | .bool _, .none => true | .none, .str _ => true | .str _, .none => true
  | .int _, .int _ => true | .bool _, .bool _ => true | .str _, .str _ => true
  | .int _, .str _ => true | .str _, .int _ => true | .bool _, .str _ => true | .str _, .bool _ => true
  | _, _ => false
theorem sc_ok {K : PySem.W.Frag} {H : Hp} {u v : V} (hs : scD x y = true) (ru : Rq K H u x) (rv : Rq K H v y) : scal u v = true ∧ decide (u = v) = PyData.eqv x y := by
  cases x <;> cases y <;> first
    | (exfalso; exact Bool.noConfusion hs)
    | skip
  all_goals first
    | (cases ru.non) | (cases ru.int) | (cases ru.str) | (cases ru.bl)
  all_goals first
    | (cases rv.non) | (cases rv.int) | (cases rv.str) | (cases rv.bl)
  all_goals refine ⟨rfl, ?_⟩
  all_goals first
    | (simp [PyData.eqv]; done)
    | (rw [dec_int]; simp [PyData.eqv]; done)
    | (rw [dec_str]; simp [PyData.eqv]; done)
    | (rw [dec_bl]; simp [PyData.eqv]; done)
theorem o_eq (hs : scD x y = true := by rfl) : OpV X (compareOp .Eq) x y (.val (.bool (PyData.eqv x y))) := fun H u v Q ru rv q => by
  obtain ⟨h1, h2⟩ := sc_ok hs ru rv
  exact ⟨_, op_eq, h1, by rw [h2]; exact q _ H ⟨.refl H, .bl _⟩⟩
theorem o_ne (hs : scD x y = true := by rfl) : OpV X (compareOp .NotEq) x y (.val (.bool (!PyData.eqv x y))) := fun H u v Q ru rv q => by
  obtain ⟨h1, h2⟩ := sc_ok hs ru rv
  exact ⟨_, op_ne, h1, by rw [h2]; exact q _ H ⟨.refl H, .bl _⟩⟩
/-! ### in -/
theorem o_in {n m : Nat} (hx : Pl n x) (hy : PlAll m ds) (hu : X.A.units + 65 < cLine) (hn : n ≤ 64 := by decide) (hm : m ≤ 63 := by decide) : OpV X (compareOp .In) x (.list ds) (.val (.bool (ds.any fun z => PyData.eqv z x))) := fun H u v Q ru rv q =>
  ⟨_, op_inD hu, x, ds, ru.dp (lay_nod hx.lay), rv.dp (lay_nod (pl_lst hy).lay), hx.sh hn, (pl_lst hy).sh (by omega), q _ H ⟨.refl H, .bl _⟩⟩
theorem o_nin {n m : Nat} (hx : Pl n x) (hy : PlAll m ds) (hu : X.A.units + 65 < cLine) (hn : n ≤ 64 := by decide) (hm : m ≤ 63 := by decide) : OpV X (compareOp .NotIn) x (.list ds) (.val (.bool (!ds.any fun z => PyData.eqv z x))) := fun H u v Q ru rv q =>
  ⟨_, op_notInD hu, x, ds, ru.dp (lay_nod hx.lay), rv.dp (lay_nod (pl_lst hy).lay), hx.sh hn, (pl_lst hy).sh (by omega), q _ H ⟨.refl H, .bl _⟩⟩
theorem op_inTD (hu : X.A.units + 65 < cLine) : OpR X (compareOp .In) (fun x y H Q => ∃ d ds, Dp X.K H x d ∧ Dp X.K H y (.tuple ds) ∧ SeqAt.shaped d = true ∧ SeqAt.shaped (.tuple ds) = true ∧ Q (.bl (ds.any fun z => PyData.eqv z d)) H) := by
  intro pins s σ H x y v u Q I rx ry h
  obtain ⟨d, ds, hd, he, sd, se, q⟩ := h
  obtain ⟨as, r1⟩ := Dp.reads I d x v hd rx
  obtain ⟨bs, r2⟩ := Dp.reads I (.tuple ds) y u he ry
  exact SeqAt.in_tuple_reads r2 r1 (SeqAt.canLay_of_shaped se) (SeqAt.canLay_of_shaped sd) (room_in_shaped sd hu) ⟨.bl _, H, I, rfl, q⟩
theorem op_ninTD (hu : X.A.units + 65 < cLine) : OpR X (compareOp .NotIn) (fun x y H Q => ∃ d ds, Dp X.K H x d ∧ Dp X.K H y (.tuple ds) ∧ SeqAt.shaped d = true ∧ SeqAt.shaped (.tuple ds) = true ∧ Q (.bl (!ds.any fun z => PyData.eqv z d)) H) := by
  intro pins s σ H x y v u Q I rx ry h
  obtain ⟨d, ds, hd, he, sd, se, q⟩ := h
  obtain ⟨as, r1⟩ := Dp.reads I d x v hd rx
  obtain ⟨bs, r2⟩ := Dp.reads I (.tuple ds) y u he ry
  exact SeqAt.notIn_tuple_reads r2 r1 (SeqAt.canLay_of_shaped se) (SeqAt.canLay_of_shaped sd) (room_in_shaped sd hu) ⟨.bl _, H, I, rfl, q⟩
theorem o_inT {n m : Nat} (hx : Pl n x) (hy : PlAll m ds) (hu : X.A.units + 65 < cLine) (hn : n ≤ 64 := by decide) (hm : m ≤ 63 := by decide) : OpV X (compareOp .In) x (.tuple ds) (.val (.bool (ds.any fun z => PyData.eqv z x))) := fun H u v Q ru rv q =>
  ⟨_, op_inTD hu, x, ds, ru.dp (lay_nod hx.lay), rv.dp (lay_nod (pl_tup hy).lay), hx.sh hn, (pl_tup hy).sh (by omega), q _ H ⟨.refl H, .bl _⟩⟩
theorem o_ninT {n m : Nat} (hx : Pl n x) (hy : PlAll m ds) (hu : X.A.units + 65 < cLine) (hn : n ≤ 64 := by decide) (hm : m ≤ 63 := by decide) : OpV X (compareOp .NotIn) x (.tuple ds) (.val (.bool (!ds.any fun z => PyData.eqv z x))) := fun H u v Q ru rv q =>
  ⟨_, op_ninTD hu, x, ds, ru.dp (lay_nod hx.lay), rv.dp (lay_nod (pl_tup hy).lay), hx.sh hn, (pl_tup hy).sh (by omega), q _ H ⟨.refl H, .bl _⟩⟩
/-! ### tuples put together, cut -/
theorem op_catP : OpR X (binaryOp .Add) (fun x y H Q => ∃ a b xs ys, x = .ref a ∧ y = .ref b ∧ SqT X.K H a xs ∧ SqT X.K H b ys ∧ xs.length + ys.length ≤ sizeLine ∧
    (xs = [] → Q (.ref b) H) ∧ (xs ≠ [] → ys = [] → Q (.ref a) H) ∧ (xs ≠ [] → ys ≠ [] → ∀ p o, H p = none → o.dict = none → Q (.ref p) (upd H p (.frz o (.tup (xs ++ ys)))))) := by
  intro pins s σ H x y v u Q I rx ry h
  obtain ⟨a, b, xs, ys, rfl, rfl, ha, hb, hz, q0, q1, q2⟩ := h
  cases rx
  cases ry
  obtain ⟨its, r1, p1, _⟩ := I.tuple ha
  obtain ⟨its2, r2, p2, _⟩ := I.tuple hb
  by_cases hx : xs = []
  · subst hx
    cases r1
    exact cat_tup0 p1 p2 ⟨.ref b, H, I, rfl, q0 rfl⟩
  · have hi : its ≠ [] := fun z => hx ((Vals.nil_iff r1).mp z)
    refine HT.cat_tup p1 p2 hi (fun z => ⟨.ref a, H, I, rfl, q1 hx ((Vals.nil_iff r2).mp z)⟩) (fun z => ?_) (by rw [← r1.length, ← r2.length]; exact hz)
    exact ⟨.ref s.heap.objs.size, _, inv_tup (t' := s.toks) I (fun b u e => Heap.get?_push_of_some _ e) (Nat.le_refl _) (Heap.get?_push_size _ rfl) rfl rfl (r1.append r2) (by rw [List.length_append]; exact hz), rfl, q2 hx (fun w => z ((Vals.nil_iff r2).mpr w)) _ _ (I.hok.fresh (Nat.le_refl _)) rfl⟩
theorem o_addT (h : ds.length + es.length ≤ sizeLine) : OpV X (binaryOp .Add) (.tuple ds) (.tuple es) (.val (.tuple (ds ++ es))) := fun H u v Q ru rv q => by
  have ru0 := ru
  have rv0 := rv
  obtain ⟨a, xs, rfl, hs, hr⟩ := ru.tup
  obtain ⟨b, ys, rfl, hs2, hr2⟩ := rv.tup
  refine ⟨_, op_catP, a, b, xs, ys, rfl, rfl, hs, hs2, by rw [hr.length, hr2.length]; exact h, fun e => ?_, fun _ e => ?_, fun _ _ p o hp ho => ?_⟩
  · subst e
    cases hr
    cases rv0 with | of r => exact q _ H ⟨.refl H, r⟩
  · subst e
    cases hr2
    rw [List.append_nil] at q
    cases ru0 with | of r => exact q _ H ⟨.refl H, r⟩
  · exact q _ _ ⟨same_new hp, rp_tupNew hp ho (hr.append hr2)⟩
/-- xs[lo:hi] of data -/
def cutD (ds : List D) (lo hi : Option Int) : List D := (ds.drop (HT.sIx ds.length 0 lo)).take (HT.sIx ds.length ds.length hi - HT.sIx ds.length 0 lo)
theorem cut_rp {K : PySem.W.Frag} {H : Hp} {xs : List V} {lo hi : Option Int} (r : RpAll K H xs ds) : RpAll K H (cutV xs lo hi) (cutD ds lo hi) := by
  unfold cutV cutD
  rw [r.length]
  exact (r.drop _).take _
theorem cutD_whole {lo hi : Option Int} (h : HT.sIx ds.length 0 lo = 0 ∧ HT.sIx ds.length ds.length hi = ds.length) : cutD ds lo hi = ds := by
  unfold cutD
  rw [h.1, h.2]
  simp
theorem sl_tupP : SlR X (fun x lo hi H Q => ∃ a xs, x = .ref a ∧ SqT X.K H a xs ∧ (HT.sIx xs.length 0 lo = 0 ∧ HT.sIx xs.length xs.length hi = xs.length → Q (.ref a) H) ∧ (∀ p o, H p = none → o.dict = none → Q (.ref p) (upd H p (.frz o (.tup (cutV xs lo hi)))))) := by
  intro pins s σ H x v vl vu lo hi sl Q I rx hs pl pu h
  obtain ⟨a, xs, rfl, hx, q1, q2⟩ := h
  cases rx
  obtain ⟨its, r, ht, hz⟩ := I.tuple hx
  have hlen : its.toArray.size = xs.length := by rw [List.size_toArray]; exact r.length.symm
  refine ⟨"tuple", _, PyProof.Rows.slot_tuple_getitem.lookup, ht.typeIs, ?_⟩
  by_cases hw : HT.sIx xs.length 0 lo = 0 ∧ HT.sIx xs.length xs.length hi = xs.length
  · exact getItem_tuple_whole ht hs pl pu (by rw [hlen]; exact hw) ⟨.ref a, H, I, rfl, q1 hw⟩
  · refine HT.getItem_tuple_cut ht hs pl pu (by rw [hlen]; exact hw) ?_ (by rw [hlen]; exact hz)
    rw [hlen]
    exact ⟨.ref s.heap.objs.size, _, inv_tup (t' := s.toks) I (fun b u e => Heap.get?_push_of_some _ e) (Nat.le_refl _) (Heap.get?_push_size _ rfl) rfl rfl ((r.drop (HT.sIx xs.length 0 lo)).take (HT.sIx xs.length xs.length hi - HT.sIx xs.length 0 lo)) (Nat.le_trans (cutV_length xs lo hi) hz), rfl, q2 _ _ (I.hok.fresh (Nat.le_refl _)) rfl⟩
theorem s_tup {lo hi : Option Int} : SlV X (.tuple ds) lo hi (.val (.tuple (cutD ds lo hi))) := fun H u Q ru q => by
  have ru0 := ru
  obtain ⟨a, xs, rfl, hs, hr⟩ := ru.tup
  refine ⟨_, sl_tupP, a, xs, rfl, hs, fun e => ?_, fun p o hp ho => q _ _ ⟨same_new hp, rp_tupNew hp ho (cut_rp hr)⟩⟩
  rw [hr.length] at e
  rw [cutD_whole e] at q
  cases ru0 with | of r => exact q _ H ⟨.refl H, r⟩
theorem s_lst {lo hi : Option Int} : SlV X (.list ds) lo hi (.new (cutD ds lo hi)) := fun H u Q ru q => by
  obtain ⟨a, xs, rfl, hs, hr⟩ := ru.lst
  exact ⟨_, sl_list, a, xs, rfl, hs, fun p hp => q _ _ ⟨same_new hp, p, _, rfl, hp, upd_same, (cut_rp hr).mono (stb_new hp)⟩⟩
theorem cut_from {n : Nat} : cutD ds (some (n : Int)) none = ds.drop n := by
  unfold cutD
  rw [HT.sIx_nat, HT.sIx_none]
  apply List.ext_getElem?
  intro i
  by_cases h : n ≤ ds.length
  · rw [Nat.min_eq_left h, List.take_of_length_le (by rw [List.length_drop]; omega)]
  · rw [Nat.min_eq_right (by omega), List.drop_of_length_le (by omega), List.drop_of_length_le (by omega)]; simp
theorem cut_to {n : Nat} : cutD ds none (some (n : Int)) = ds.take n := by
  unfold cutD
  rw [HT.sIx_nat, HT.sIx_none]
  simp only [List.drop_zero, Nat.sub_zero]
  by_cases h : n ≤ ds.length
  · rw [Nat.min_eq_left h]
  · rw [Nat.min_eq_right (by omega), List.take_length, List.take_of_length_le (by omega)]
theorem cut_last : cutD ds none (some (-1)) = ds.dropLast := by
  unfold cutD
  rw [HT.sIx_none, List.dropLast_eq_take, List.drop_zero, Nat.sub_zero]
  congr 1
  unfold HT.sIx
  simp only
  split <;> omega
/-! ### lists put together -/
theorem op_catL : OpR X (binaryOp .Add) (fun x y H Q => ∃ l b xs zs, x = .ref l ∧ y = .ref b ∧ SqL X.K H l xs ∧ SqL X.K H b zs ∧ xs.length + zs.length ≤ sizeLine ∧ ∀ p, H p = none → Q (.ref p) (upd H p (.lst (xs ++ zs)))) := by
  intro pins s σ H x y v u Q I rx ry h
  obtain ⟨l, b, xs, zs, rfl, rfl, hl, hb, hz, q⟩ := h
  cases rx
  cases ry
  obtain ⟨its, r, p1, _⟩ := I.list hl
  obtain ⟨its2, r2, p2, _⟩ := I.list hb
  have l1 := r.length
  have l2 := r2.length
  obtain ⟨⟨cls, dd, data, sl⟩, ho, hc, n, hd⟩ := p1.isList
  obtain ⟨⟨cls2, dd2, data2, sl2⟩, ho2, hc2, n2, hd2⟩ := p2.isList
  simp only at hc hd hc2 hd2
  subst hc hd hc2 hd2
  have e : its.toArray ++ its2.toArray = (its ++ its2).toArray := by simp
  refine concat_meets ⟨_, ho, rfl⟩ ⟨_, ho2, rfl⟩ noFill_list_add seq_list_add PySem.F.slot_list_add PySem.F.entry_list_add (PySem.F.args_list_add_2 _ _) (list_addW l b its.toArray its2.toArray n n2 dd dd2 sl sl2 (by rw [List.size_toArray, List.size_toArray]; omega)) ⟨ho, ho2, ?_⟩
  rw [e]
  exact ⟨.ref _, _, I.lnew (t' := s.toks) (r.append r2) (by rw [List.length_append]; omega), rfl, q _ I.fresh⟩
theorem o_addL (h : ds.length + es.length ≤ sizeLine) : OpV X (binaryOp .Add) (.list ds) (.list es) (.new (ds ++ es)) := fun H u v Q ru rv q => by
  obtain ⟨a, xs, rfl, hs, hr⟩ := ru.lst
  obtain ⟨b, ys, rfl, hs2, hr2⟩ := rv.lst
  exact ⟨_, op_catL, a, b, xs, ys, rfl, rfl, hs, hs2, by rw [hr.length, hr2.length]; exact h, fun p hp => q _ _ ⟨same_new hp, p, _, rfl, hp, upd_same, (hr.append hr2).mono (stb_new hp)⟩⟩
/-! ### built-ins -/
theorem paired1 {K : PySem.W.Frag} {H : Hp} {vs : List V} (h : Paired (Rq K H) vs [x]) : ∃ v, vs = [v] ∧ Rq K H v x := by
  cases h with | cons a t => cases t; exact ⟨_, rfl, a⟩
theorem paired2 {K : PySem.W.Frag} {H : Hp} {vs : List V} (h : Paired (Rq K H) vs [x, y]) : ∃ v w, vs = [v, w] ∧ Rq K H v x ∧ Rq K H w y := by
  cases h with | cons a t => cases t with | cons b t => cases t; exact ⟨_, _, rfl, a, b⟩
theorem c_lenL : CallV X (.builtin "len") [.list ds] (.val (.int (ds.length : Nat))) := fun H vs Q r q => by
  obtain ⟨v, rfl, r0⟩ := paired1 r
  obtain ⟨a, xs, rfl, hs, hr⟩ := r0.lst
  exact ⟨_, call_len_seq, a, xs, rfl, .inl hs, by rw [hr.length]; exact q _ H ⟨.refl H, .int _⟩⟩
theorem c_lenT : CallV X (.builtin "len") [.tuple ds] (.val (.int (ds.length : Nat))) := fun H vs Q r q => by
  obtain ⟨v, rfl, r0⟩ := paired1 r
  obtain ⟨a, xs, rfl, hs, hr⟩ := r0.tup
  exact ⟨_, call_len_seq, a, xs, rfl, .inr hs, by rw [hr.length]; exact q _ H ⟨.refl H, .int _⟩⟩
theorem c_lenS {s : Str} (h : s.length ≤ sizeLine) : CallV X (.builtin "len") [.str s] (.val (.int (s.length : Nat))) := fun H vs Q r q => by
  obtain ⟨v, rfl, r0⟩ := paired1 r
  exact ⟨_, call_len_str, s, by rw [r0.str], h, q _ H ⟨.refl H, .int _⟩⟩
theorem c_listT : CallV X (.type "list") [.tuple ds] (.new ds) := fun H vs Q r q => by
  obtain ⟨v, rfl, r0⟩ := paired1 r
  obtain ⟨a, xs, rfl, hs, hr⟩ := r0.tup
  exact ⟨_, call_list_of, a, xs, rfl, .inr hs, fun l hl => q _ _ ⟨same_new hl, l, _, rfl, hl, upd_same, hr.mono (stb_new hl)⟩⟩
theorem c_listL : CallV X (.type "list") [.list ds] (.new ds) := fun H vs Q r q => by
  obtain ⟨v, rfl, r0⟩ := paired1 r
  obtain ⟨a, xs, rfl, hs, hr⟩ := r0.lst
  exact ⟨_, call_list_of, a, xs, rfl, .inl hs, fun l hl => q _ _ ⟨same_new hl, l, _, rfl, hl, upd_same, hr.mono (stb_new hl)⟩⟩
theorem call_tupleF : CallR X (.type "tuple") (fun xs H Q => ∃ p ys, xs = [.ref p] ∧ SqL X.K H p ys ∧ ∀ l o, H l = none → o.dict = none → Q (.ref l) (upd H l (.frz o (.tup ys)))) := by
  intro pins s σ H xs us Q I r h
  obtain ⟨p, ys, rfl, hq, q⟩ := h
  obtain ⟨u, rfl, rx⟩ := vals1 r
  cases rx
  obtain ⟨its, r', pl, hz⟩ := I.list hq
  have hlen := r'.length
  refine call_tuple_list pl.isList (fun h' kp => ?_) (by simp only [List.size_toArray] <;> omega)
  have I1 : Inv X pins σ H { s with heap := h' } := I.kept (t' := s.toks) kp
  have I2 := inv_tup (s := { s with heap := h' }) (h' := h'.push { cls := .type "tuple", data := .seq its.toArray }) (p := h'.objs.size) (t' := s.toks) I1 (fun b o e => Heap.get?_push_of_some _ e) (Nat.le_refl _) (Heap.get?_push_size _ rfl) rfl rfl r' hz
  exact ⟨.ref h'.objs.size, _, I2, rfl, q _ _ (I1.hok.fresh (Nat.le_refl _)) rfl⟩
theorem c_tupleL : CallV X (.type "tuple") [.list ds] (.val (.tuple ds)) := fun H vs Q r q => by
  obtain ⟨v, rfl, r0⟩ := paired1 r
  obtain ⟨a, xs, rfl, hs, hr⟩ := r0.lst
  exact ⟨_, call_tupleF, a, xs, rfl, hs, fun l o hl ho => q _ _ ⟨same_new hl, rp_tupNew hl ho hr⟩⟩
theorem c_int {i : Int} : CallV X (.type "int") [.int i] (.val (.int i)) := fun H vs Q r q => by
  obtain ⟨v, rfl, r0⟩ := paired1 r
  exact ⟨_, call_int1, .inl ⟨i, by rw [r0.int], q _ H ⟨.refl H, .int _⟩⟩⟩
theorem c_intB {i : Bool} : CallV X (.type "int") [.bool i] (.val (.int (if i then 1 else 0))) := fun H vs Q r q => by
  obtain ⟨v, rfl, r0⟩ := paired1 r
  exact ⟨_, call_int1, .inr ⟨i, by rw [r0.bl], q _ H ⟨.refl H, .int _⟩⟩⟩
theorem c_min {i j : Int} (hc : X.calm = true := by rfl) : CallV X (.builtin "min") [.int i, .int j] (.val (.int (if j < i then j else i))) := fun H vs Q r q => by
  obtain ⟨v, w, rfl, r1, r2⟩ := paired2 r
  exact ⟨_, call_min2 hc, i, j, by rw [r1.int, r2.int], q _ H ⟨.refl H, .int _⟩⟩
theorem c_max {i j : Int} (hc : X.calm = true := by rfl) : CallV X (.builtin "max") [.int i, .int j] (.val (.int (if j > i then j else i))) := fun H vs Q r q => by
  obtain ⟨v, w, rfl, r1, r2⟩ := paired2 r
  exact ⟨_, call_max2 hc, i, j, by rw [r1.int, r2.int], q _ H ⟨.refl H, .int _⟩⟩
theorem c_str {i : Int} (h : i.natAbs.log2 < 1920) : CallV X (.type "str") [.int i] (.val (.str (toString i))) := fun H vs Q r q => by
  obtain ⟨v, rfl, r0⟩ := paired1 r
  exact ⟨_, call_str_int, i, by rw [r0.int], h, q _ H ⟨.refl H, .str _⟩⟩
end
end DL


namespace PySem
theorem dl_draws_tuple {prog : Program} {w : World} {A : Around} (hh : A.handled = none) (it l : Addr) (hne : l ≠ it) (items : Array Value) :
    Draws prog w A it [it, l] items.size (fun i v => items[i]? = some v) (fun i h => h.IsTupleIter it l i ∧ h.IsTuple l items) where
  live := fun _ _ st => let ⟨o, ho, _⟩ := st.1; ⟨o, ho⟩
  frame := fun _ _ _ st hk => ⟨st.1.at fun o e => hk it (by simp) o e, st.2.at fun o e => hk l (by simp) o e⟩
  item := fun i s Q E hi st hQ => by
    refine RZ.nextOf_tuple_item st.1 st.2 (x := items[i]) (by simp [hi]) fun h' hit' hs' => ?_
    exact hQ _ h' s.toks (by simp [hi]) ⟨hit', st.2.at fun o e => (hs'.2 l hne).trans e⟩ hs'
  done := fun s Q E st hE => RZ.nextOf_tuple_end hh st.1 st.2 (by simp) hE
set_option maxHeartbeats 1000000 in
theorem dl_meets_enum {v : Value} {o : Obj} {H : Heap → Prop} (B : Begins v o H) :
    Meets (Builtin.«enumerate.__new__» ⟨[.type "enumerate", v], []⟩) (fun _ R s => H s.heap ∧
      R (.ok (.ret (.ref (s.heap.push o).objs.size))) { s with heap := (s.heap.push o).push { cls := .type "enumerate", data := .fields #[.none, .bool false, .ref s.heap.objs.size, rawInt 0, .none, .none] } }) :=
  .of_wp fun prog w A R s h => by
    obtain ⟨hp, g, d, tk, os⟩ := s; obtain ⟨h1, h⟩ := h
    have hsub := sub_enumerate
    have q1 : ∀ {A' : Around} {E : Value → Shared → Prop} {Q : Value → Shared → Prop}, Q (.ref hp.objs.size) ⟨hp.push o, g, d, tk, os⟩ → wpAny (model prog w) A' (pyIter v) Q E ⟨hp, g, d, tk, os⟩ :=
      fun q => B.iter prog w _ _ ⟨hp, g, d, tk, os⟩ _ h1 q
    wp_walk using q1
    refine wpAny_stack_any fun st => wpAny_pure ?_
    split
    · rename_i c _ _ _ _ _
      cases (c == Value.type "enumerate")
      · wp_walk using q1
        exact ⟨_, rfl, h⟩
      · wp_walk using q1
        exact ⟨_, rfl, h⟩
    · wp_walk using q1
      exact ⟨_, rfl, h⟩
section
variable {prog : Program} {w : World} {A : Around} {E : Value → Shared → Prop} {s : Shared}
theorem dl_enum_begins {v : Value} {o : Obj} {H : Heap → Prop} {Q : Value → Shared → Prop} (B : Begins v o H) (h1 : H s.heap)
    (h : ∀ h', IsEnum h' (s.heap.objs.size + 1) s.heap.objs.size 0 .none → h'.get? s.heap.objs.size = some o → h'.objs.size = s.heap.objs.size + 2 →
      (∀ b o, s.heap.get? b = some o → h'.get? b = some o) → Q (.ref (s.heap.objs.size + 1)) { s with heap := h' }) :
    wpAny (model prog w) A (call (.type "enumerate") [v]) Q E s := by
  refine callType_new F.called_enumerate (by decide) (F.typeCall_enumerate_1 _) (F.newCall_enumerate_1 _) (fun obj => F.args_object_init_2 obj _) F.entry_enumerate_new
    (dl_meets_enum B) ⟨h1, ?_⟩
  have hz : (s.heap.push o).objs.size = s.heap.objs.size + 1 := Heap.size_push ..
  show _ ∧ _
  rw [hz]
  have he : IsEnum ((s.heap.push o).push { cls := .type "enumerate", data := .fields #[.none, .bool false, .ref s.heap.objs.size, rawInt 0, .none, .none] }) (s.heap.objs.size + 1) s.heap.objs.size 0 .none := by
    have := Heap.get?_push_size (s.heap.push o) (o := { cls := .type "enumerate", data := .fields #[.none, .bool false, .ref s.heap.objs.size, rawInt 0, .none, .none] }) rfl
    rw [hz] at this; exact this
  refine ⟨⟨_, he, rfl⟩, h _ he (Heap.get?_push_of_some _ (Heap.get?_push_size _ B.free)) (by rw [Heap.size_push, hz]) fun b o x => Heap.get?_push_of_some _ (Heap.get?_push_of_some _ x)⟩
theorem dl_enum_end {e it l : Addr} {c : Int} {i : Nat} {items : Array Value} {old : Value} {Q : Option Value → Shared → Prop} (hh : A.handled = none)
    (he : IsEnum s.heap e it c old) (hit : s.heap.IsTupleIter it l i) (hl : s.heap.IsTuple l items) (hx : items[i]? = none)
    (hQ : ∀ h', Heap.ExtBut it s.heap h' → Q none { s with heap := h' }) : wpAny (model prog w) A (pyNext (.ref e)) Q E s := by
  have hT : s.TypeIs (.ref e) "enumerate" := ⟨_, he, rfl⟩
  unfold pyNext
  refine wpAny_bind (wpAny_attempt (wpAny_callSpecial?_slot (name := Str.ofString "__next__") hT F.slot_enumerate_next
    (wpAny_call_entry F.slot_enumerate_next hT F.entry_enumerate_next ?_ (F.args_enumerate_next_1 _))))
  show wpAny _ _ (field (.ref e) 2 >>= _) _ _ _
  refine wpAny_bind (wpAny_field he rfl (x := .ref it) rfl ?_)
  refine wpAny_bind (RZ.nextOf_tuple_end hh hit hl hx fun h' x he' hx' => ?_)
  obtain ⟨o, ho, hc⟩ := hx'
  refine wpAny_bind (wpAny_isInstance (T := "StopIteration") (b := true) ⟨o, ho, hc⟩ isSubtype_stop ?_)
  exact wpAny_pure (hQ _ he')
end
end PySem
namespace DL
open PySem PySem.Spec PyProof.Rows L2
/-! ### enumerate(tuple) -/
def IteT (K : PySem.W.Frag) (a : Addr) : It :=
  ⟨fun i H => ∃ (xs : List V) (x : V), SqT K H a xs ∧ xs[i]? = some x, fun i H v H' => ∃ T x, v = .ref T ∧ H T = none ∧ H' = upd H T (.tup [.int (i : Nat), x]) ∧ ∀ xs, SqT K H a xs → xs[i]? = some x, fun i H => ∃ xs : List V, SqT K H a xs ∧ xs.length ≤ i⟩
theorem turn_enumT {P : Program} {w : World} {K : PySem.W.Frag} {elts : List Expr} {kk : Nat} {tpos : Pos} (a e it : Addr) (hai : a ≠ it) (hae : a ≠ e) :
    Turn P w K (.Tuple elts kk tpos) (IteT K a) [e, it] e (fun i h => (∃ old, IsEnum h e it ((i : Nat) : Int) old) ∧ h.IsTupleIter it a i ∧ e ≠ it) where
  mem := by simp
  obj := fun i h st b hb => by
    obtain ⟨⟨old, he⟩, ⟨o, ho, hc, hd⟩, _⟩ := st
    have e' : b = e ∨ b = it := by simpa using hb
    rcases e' with z | z
    · rw [z]; exact ⟨_, he, fun v q => nomatch q⟩
    · rw [z]; exact ⟨o, ho, fun v q => by rw [hd] at q; cases q⟩
  keep := fun i h h' st k => let ⟨⟨old, he⟩, hi, hne⟩ := st; ⟨⟨old, k e (by simp) _ he⟩, hi.at fun o q => k it (by simp) o q, hne⟩
  item := by
    intro X hP hw hK hc i pins s σ H E I hf st hg
    subst hP hw hK
    obtain ⟨⟨old, he⟩, hit, hne⟩ := st
    obtain ⟨xs, x, hq, hx⟩ := hg
    obtain ⟨its, rv, p, hz⟩ := I.tuple hq
    obtain ⟨u, hu, ru⟩ := rv.get hx
    have hel : e < s.heap.objs.size := Heap.lt_size he
    have hil : it < s.heap.objs.size := by obtain ⟨_, q, _⟩ := hit; exact Heap.lt_size q
    have hlt : i < its.toArray.size := by
      obtain ⟨h1, _⟩ := List.getElem?_eq_some_iff.mp hu
      simpa using h1
    refine wpAny_pyNext_enum_itemC (dl_draws_tuple (A := X.A.in1) (I.ok.hd hc) it a hai its.toArray) he ⟨hit, p⟩ hlt hne (by simp; exact ⟨hne, Ne.symm hae⟩) fun v h' tk hP ho hst' hT hsz hk => ?_
    have hv : v = u := by
      rw [List.getElem?_toArray] at hP
      exact Option.some.inj (hP.symm.trans hu)
    subst hv
    refine ⟨_, rfl, wpAny_letOwnedTupleGo_enum (s := { s with heap := h', toks := tk + 1 }) ho fun h'' he' sb => ?_⟩
    have hT2 : h''.get? s.heap.objs.size = some { cls := .type "tuple", data := .seq #[.int i tk, v] } := (sb.2 _ (Nat.ne_of_gt hel)).trans hT
    have new : ObjOk X.prog X.w (upd H s.heap.objs.size (.tup [.int (i : Nat), x])) h'' s.heap.objs.size (.tup [.int (i : Nat), x]) :=
      ⟨by show 2 ≤ sizeLine; decide, [.int i tk, v], .cons ⟨_, rfl⟩ (.cons ru .nil), ⟨_, hT2, rfl, _, rfl⟩⟩
    have I1 : Inv X pins σ (upd H s.heap.objs.size (.tup [.int (i : Nat), x])) { s with heap := h'', toks := tk + 1 } :=
      I.turnedNew (ch := [e, it]) (fun b ob hb q => (sb.2 b (fun z => hb (by simp [z]))).trans (hk b ob (fun z => hb (by simp [z])) (fun z => hb (by simp [z])) q)) hf (Nat.le_refl _) new
    refine ⟨.ref s.heap.objs.size, _, I1, rfl, ⟨_, x, rfl, I.hok.fresh (Nat.le_refl _), rfl, fun ys hy => by rw [I.tuple_inj hy hq]; exact hx⟩, ⟨⟨v, ?_⟩, hst'.1.at fun o q => (sb.2 it (Ne.symm hne)).trans q, hne⟩, fun b hb => ?_⟩
    · have e1 : ((i + 1 : Nat) : Int) = (i : Int) + 1 := by omega
      rw [e1]; exact he'
    · have hb' : b < s.heap.objs.size := by
        have e' : b = e ∨ b = it := by simpa using hb
        rcases e' with z | z
        · rw [z]; exact hel
        · rw [z]; exact hil
      rw [upd_ne (Nat.ne_of_lt hb')]
      exact (hf b hb).1
  done := by
    intro X hP hw hK hc i pins s σ H E I hf st hg
    subst hP hw hK
    obtain ⟨⟨old, he⟩, hit, hne⟩ := st
    obtain ⟨xs, hq, hx⟩ := hg
    obtain ⟨its, rv, p, hz⟩ := I.tuple hq
    obtain ⟨f0, f1, f2, f3, f4, f5⟩ := hf it (by simp)
    have hl := rv.length
    exact dl_enum_end (I.ok.hd hc) he hit p (by simp; omega) fun h' eb => ⟨rfl, I.turned (t' := s.toks) (fun b o hb q => eb b o hb q) f0 f1 f3 f4 f5⟩
  self := fun A i s Q E st h => let ⟨⟨_, he⟩, _⟩ := st; wpAny_pyIter_enum he h
theorem pi_enumT {X : Cx} {e : Expr} {ta : TA} {p pos tpos : Pos} {elts : List Expr} {kk : Nat} (hg : Gl X "enumerate") (hm : X.mg "enumerate" = none) (ha : PA X [e] ta) (hs : starEach [e] X.env = [(false, eval e X.env)] := by rfl) :
    PI X (.Tuple elts kk tpos) (.Call (.Name "enumerate" p) [e] [] pos) (fun σ H R => ta σ H fun vs H1 => ∃ a xs, vs = [.ref a] ∧ SqT X.K H1 a xs ∧ R (IteT X.K a) H1) := by
  refine ⟨fun pins s σ H R I h => ?_⟩
  refine Call_ (ld_blt I hg hm boot_enumerate (PyProof.Rows.callWith_type1 (thn (ha.run pos pins s σ H _ I h) fun us s1 ⟨vs, H1, I1, r1, q1⟩ => ?_) hs rfl))
  obtain ⟨a, xs, ex, hq, q⟩ := q1
  subst ex
  cases r1 with
  | cons r rr =>
    cases rr
    cases r
    obtain ⟨its, rv, p', hz⟩ := I1.tuple hq
    refine dl_enum_begins (begins_tuple a its.toArray) p' fun h' he hit hsz hk => wpAny_pyIter_enum he ?_
    have I2 : Inv X pins σ H1 { s1 with heap := h' } := I1.kept (t' := s1.toks) hk
    have hal : a < s1.heap.objs.size := p'.lt
    refine ⟨s1.heap.objs.size + 1, [s1.heap.objs.size + 1, s1.heap.objs.size], _, _, H1, rfl, I2, turn_enumT a (s1.heap.objs.size + 1) s1.heap.objs.size (Nat.ne_of_lt hal) (Nat.ne_of_lt (Nat.lt_succ_of_lt hal)), ⟨⟨.none, he⟩, ⟨_, hit, rfl, rfl⟩, Nat.succ_ne_self _⟩, fun b hb => ?_, q⟩
    have e' : b = s1.heap.objs.size + 1 ∨ b = s1.heap.objs.size := by simpa using hb
    have hle : s1.heap.objs.size ≤ b := by
      rcases e' with z | z
      · rw [z]; exact Nat.le_add_right _ _
      · rw [z]; exact Nat.le_refl _
    exact I1.fpOk hle (I1.hok.fresh hle)
section
variable {X : Cx} {ρ : Rho} {e a b c : Expr} {d x y z : D} {ds es : List D} {k : Kd}
def enumD : Nat → List D → List D
  | _, [] => []
  | n, d :: ds => .tuple [.int (n : Nat), d] :: enumD (n + 1) ds
theorem enumD_len : ∀ (ds : List D) (n : Nat), (enumD n ds).length = ds.length
  | [], _ => rfl
  | _ :: ds, n => congrArg (· + 1) (enumD_len ds (n + 1))
theorem enumD_get : ∀ (ds : List D) (n i : Nat) (d : D), ds[i]? = some d → (enumD n ds)[i]? = some (.tuple [.int ((n + i : Nat) : Int), d])
  | [], _, _, _, h => by simp at h
  | x :: ds, n, 0, d, h => by simp at h; subst h; rfl
  | x :: ds, n, i + 1, d, h => by
    have := enumD_get ds (n + 1) i d (by simpa using h)
    show (enumD (n + 1) ds)[i]? = _
    rw [this, show n + 1 + i = n + (i + 1) by omega]
theorem ei_enumT {it : Expr} {xs : List D} {p pos tpos : Pos} {elts : List Expr} {kk : Nat} (hm : X.mg "enumerate" = none) (h : Ev X it ρ (.val (.tuple xs))) (hg : Gl X "enumerate" := by rfl) (hs : starEach [it] X.env = [(false, eval it X.env)] := by rfl) :
    EvI X (.Tuple elts kk tpos) (.Call (.Name "enumerate" p) [it] [] pos) ρ true (enumD 0 xs) := fun σ H R S q =>
  ⟨_, pi_enumT hg hm (pa_cons (pe_know pe_c) pa_nil (by rw [hs]; rfl)) hs, h σ H _ S fun v H1 ⟨s1, r1⟩ kn => by
    obtain ⟨a, vs, rfl, hs, hr⟩ := r1.tupI
    refine ⟨a, vs, rfl, hs, q _ H1 s1 (by rw [enumD_len, ← hr.length]; exact kn a vs rfl (.inr hs)) ?_⟩
    rw [enumD_len, ← hr.length]
    refine ⟨fun i H2 hi z => ⟨vs, vs[i], sqT_stb z hs, by simp [hi]⟩, fun H2 z => ⟨vs, sqT_stb z hs, Nat.le_refl _⟩, fun i H2 x H3 hi z y => ?_⟩
    obtain ⟨T, x', rfl, hT, rfl, hx⟩ := y
    obtain ⟨d, e1, e2⟩ := hr.got (hx vs (sqT_stb z hs))
    refine ⟨same_new hT, _, enumD_get xs 0 i d e1, .inr ⟨rfl, T, _, _, rfl, rfl, .of upd_same, ?_⟩⟩
    rw [Nat.zero_add]
    exact .cons (.int _) (.cons ((e2.mono z).mono (stb_new hT)) .nil)⟩
/-! ### zip(tuple, tuple), zip(list, list) -/
theorem ei_zipT {it it2 : Expr} {xs ys : List D} {p pos tpos : Pos} {elts : List Expr} {kk : Nat} (hm : X.mg "zip" = none) (h : Ev X it ρ (.val (.tuple xs))) (h2 : Ev X it2 ρ (.val (.tuple ys))) (hl : xs.length = ys.length) (hg : Gl X "zip" := by rfl) (hs : starEach [it, it2] X.env = (false, eval it X.env) :: starEach [it2] X.env := by rfl) (hs2 : starEach [it2] X.env = (false, eval it2 X.env) :: starEach [] X.env := by rfl) (hpl : (backTo pos (starEach [it2] X.env)).any (·.1) = false := by rfl) :
    EvI X (.Tuple elts kk tpos) (.Call (.Name "zip" p) [it, it2] [] pos) ρ true ((xs.zip ys).map fun q => .tuple [q.1, q.2]) := fun σ H R S q =>
  ⟨_, RZ.pi_zipA hg hm (pa_cons (pe_know pe_c) (pa_cons pe_c pa_nil hs2) hs) hs hpl, h σ H _ S fun v H1 ⟨s1, r1⟩ kn => h2 σ H1 _ (S.mono s1) fun v' H2 ⟨s2, r2⟩ => by
    obtain ⟨a, vs, rfl, hs1, hr1⟩ := r1.tupI
    have hz := kn a vs rfl (.inr hs1)
    have hs := sqT_stb (.of s2) hs1
    have hr := hr1.mono (.of s2)
    obtain ⟨b, ws, rfl, hs', hr'⟩ := r2.tupI
    have l1 := hr.length
    have l2 := hr'.length
    refine ⟨a, b, vs, ws, rfl, .inr ⟨hs, hs', q _ H2 (s1.trans s2) (by rw [List.length_map, List.length_zip]; omega) ?_⟩⟩
    have lz : ((xs.zip ys).map fun q : D × D => (PyData.tuple [q.1, q.2])).length = vs.length := by rw [List.length_map, List.length_zip]; omega
    rw [lz]
    refine ⟨fun i H3 hi z => ⟨vs, ws, vs[i], ws[i]'(by omega), sqT_stb z hs, sqT_stb z hs', by simp [hi], by simp [show i < ws.length by omega]⟩, fun H3 z => ⟨vs, ws, sqT_stb z hs, sqT_stb z hs', .inl (Nat.le_refl _)⟩, fun i H3 x H4 hi z y => ?_⟩
    obtain ⟨T, x', y', rfl, hT, rfl, hx, hy⟩ := y
    obtain ⟨d, e1, e2⟩ := hr.got (hx vs (sqT_stb z hs))
    obtain ⟨d', e1', e2'⟩ := hr'.got (hy ws (sqT_stb z hs'))
    refine ⟨same_new hT, .tuple [d, d'], ?_, .inr ⟨rfl, T, _, _, rfl, rfl, .of upd_same, .cons ((e2.mono z).mono (stb_new hT)) (.cons ((e2'.mono z).mono (stb_new hT)) .nil)⟩⟩
    have hz : (xs.zip ys)[i]? = some (d, d') := List.getElem?_zip_eq_some.mpr ⟨e1, e1'⟩
    rw [List.getElem?_map, hz]; rfl⟩
end
end DL


namespace DL
open PySem PySem.Spec PyProof.Rows L2
/-! ### dicts of data -/
def kd : D → Option Key
  | .int i => some (.inl i)
  | .str s => some (.inr s)
  | _ => none
def keyD : Key → D
  | .inl i => .int i
  | .inr s => .str s
theorem kd_keyD (k : Key) : kd (keyD k) = some k := by cases k <;> rfl
theorem kd_eq {d : D} {k : Key} (h : kd d = some k) : d = keyD k := by cases d <;> simp [kd] at h <;> subst h <;> rfl
/-- d.get(k) of the pairs | d[k] = v -/
def lookD (es : List (D × D)) (k : Key) : Option D := (es.find? fun e => decide (kd e.1 = some k)).map (·.2)
def putD (es : List (D × D)) (k : Key) (v : D) : List (D × D) :=
  if (es.any fun e => decide (kd e.1 = some k)) = true then es.map (fun e => if kd e.1 = some k then (e.1, v) else e) else es ++ [(keyD k, v)]
def mergeD (es : List (D × D)) (more : List (Key × D)) : List (D × D) := more.foldl (fun acc kv => putD acc kv.1 kv.2) es
section
variable {K : PySem.W.Frag} {H : Hp}
theorem RpKV.cons {k : Key} {v : V} {d : D} {vs : List (Key × V)} {es : List (D × D)} (h : Rp K H v d) (t : RpKV K H vs es) : RpKV K H ((k, v) :: vs) ((keyD k, d) :: es) := by
  cases k with
  | inl i => exact .int h t
  | inr s => exact .str h t
theorem RpKV.uncons {p : Key × V} {vs : List (Key × V)} {es : List (D × D)} (h : RpKV K H (p :: vs) es) : ∃ d es', es = (keyD p.1, d) :: es' ∧ Rp K H p.2 d ∧ RpKV K H vs es' := by
  cases h with
  | int h t => exact ⟨_, _, rfl, h, t⟩
  | str h t => exact ⟨_, _, rfl, h, t⟩
theorem RpKV.look (k : Key) : ∀ {vs : List (Key × V)} {es : List (D × D)}, RpKV K H vs es → (valV vs k = none ∧ lookD es k = none) ∨ ∃ v d, valV vs k = some v ∧ lookD es k = some d ∧ Rp K H v d
  | [], _, h => by cases h; exact .inl ⟨rfl, rfl⟩
  | p :: vs, _, h => by
    obtain ⟨d, es', rfl, r, t⟩ := h.uncons
    by_cases e : p.1 = k
    · refine .inr ⟨p.2, d, valV_pos e, ?_, r⟩
      unfold lookD
      rw [List.find?_cons, show decide (kd (keyD p.1) = some k) = true by rw [kd_keyD, e]; simp]
      rfl
    · rw [valV_neg e]
      have e2 : lookD ((keyD p.1, d) :: es') k = lookD es' k := by
        unfold lookD
        rw [List.find?_cons, show decide (kd (keyD p.1) = some k) = false by rw [kd_keyD]; simpa using e]
      rw [e2]
      exact RpKV.look k t
theorem RpKV.any (k : Key) : ∀ {vs : List (Key × V)} {es : List (D × D)}, RpKV K H vs es → (vs.any fun kv => decide (kv.1 = k)) = es.any fun e => decide (kd e.1 = some k)
  | [], _, h => by cases h; rfl
  | p :: vs, _, h => by
    obtain ⟨d, es', rfl, r, t⟩ := h.uncons
    rw [List.any_cons, List.any_cons, RpKV.any k t, kd_keyD]
    simp
theorem RpKV.snoc {k : Key} {v : V} {d : D} (r : Rp K H v d) : ∀ {vs : List (Key × V)} {es : List (D × D)}, RpKV K H vs es → RpKV K H (vs ++ [(k, v)]) (es ++ [(keyD k, d)])
  | [], _, h => by cases h; exact .cons r .nil
  | p :: vs, _, h => by
    obtain ⟨d', es', rfl, r', t⟩ := h.uncons
    exact .cons r' (RpKV.snoc r t)
theorem RpKV.over {k : Key} {v : V} {d : D} (r : Rp K H v d) : ∀ {vs : List (Key × V)} {es : List (D × D)}, RpKV K H vs es → RpKV K H (vs.map fun kv => if kv.1 = k then (kv.1, v) else kv) (es.map fun e => if kd e.1 = some k then (e.1, d) else e)
  | [], _, h => by cases h; exact .nil
  | p :: vs, _, h => by
    obtain ⟨d', es', rfl, r', t⟩ := h.uncons
    rw [List.map_cons, List.map_cons]
    by_cases e : p.1 = k
    · rw [if_pos e, if_pos (by rw [kd_keyD, e])]
      exact .cons r (RpKV.over r t)
    · rw [if_neg e, if_neg (by rw [kd_keyD]; simpa using e)]
      exact .cons r' (RpKV.over r t)
theorem RpKV.put {k : Key} {v : V} {d : D} {vs : List (Key × V)} {es : List (D × D)} (h : RpKV K H vs es) (r : Rp K H v d) : RpKV K H (putK vs k v) (putD es k d) := by
  unfold putK putD
  rw [h.any k]
  split
  · exact h.over r
  · exact h.snoc r
end
section
variable {X : Cx} {ρ : Rho} {e a b c : Expr} {d x y z : D} {ds : List D} {k : Kd}
theorem Rq.dctR {K : PySem.W.Frag} {H : Hp} {v : V} {es : List (D × D)} (h : Rq K H v (.dict es)) : ∃ a kvs, v = .ref a ∧ Rd H a (.dK kvs) ∧ RpKV K H kvs es := by
  cases h with
  | of h => cases h with | dct h r => exact ⟨_, _, rfl, .inr ⟨_, h⟩, r⟩
  | dct h r => exact ⟨_, _, rfl, .inl h, r⟩
theorem Rq.key {K : PySem.W.Frag} {H : Hp} {v : V} {kk : Key} (h : Rq K H v (keyD kk)) : v = kV kk := by
  cases kk with
  | inl i => exact h.int
  | inr s => exact h.str
/-- {} -/
theorem ev_dnew {pos : Pos} : Ev X (.Dict [] [] pos) ρ (.newD []) := fun σ H Q S q => ⟨_, pe_dnewK, fun p hp => q _ _ ⟨same_new hp, p, _, rfl, hp, upd_same, .nil⟩⟩
/-- d[k], there -/
theorem ev_dget {pos : Pos} {es : List (D × D)} {kk : Key} (hu : X.A.units + 1 < cLine) (ha : Ev X a ρ (.qua (.dict es))) (hb : Ev X b ρ (.val (keyD kk))) (h : lookD es kk = some d) (hs : NoSl b := by exact fun _ _ => rfl) : Ev X (.Subscript a b pos) ρ (.val d) := fun σ H Q S q =>
  ⟨_, pe_dget hu pe_c pe_c hs, ha σ H _ S fun u H1 ⟨s1, r1⟩ => hb σ H1 _ (S.mono s1) fun v H2 ⟨s2, r2⟩ => by
    obtain ⟨p, kvs, rfl, hd, hr⟩ := (r1.mono s2).dctR
    have ev := (Rq.of r2).key
    subst ev
    rcases hr.look kk with ⟨_, e2⟩ | ⟨w, d', e1, e2, r⟩
    · rw [h] at e2; cases e2
    · rw [h] at e2; cases e2
      exact ⟨p, w, rfl, .inl ⟨kvs, kk, hd, rfl, e1.symm⟩, q _ H2 ⟨s1.trans s2, r⟩⟩⟩
/-- d.get(k, x) -/
theorem ev_dgetx {apos cpos : Pos} {f : Expr} {es : List (D × D)} {kk : Key} (hu : X.A.units + 1 < cLine) (ha : Ev X a ρ (.qua (.dict es))) (hb : Ev X b ρ (.val (keyD kk))) (hf : Ev X f ρ (.val x)) (m : M2 X a "get" apos b f cpos := by exact ⟨rfl, rfl, rfl, rfl⟩) : Ev X (.Call (.Attribute a "get" apos) [b, f] [] cpos) ρ (.val ((lookD es kk).getD x)) := fun σ H Q S q =>
  ⟨_, pe_dget2 hu pe_c pe_c pe_c m, ha σ H _ S fun u H1 ⟨s1, r1⟩ => by
    obtain ⟨p, kvs, rfl, hd, hr⟩ := r1.dctR
    refine ⟨p, rfl, .inl ⟨kvs, hd⟩, hb σ H1 _ (S.mono s1) fun v H2 ⟨s2, r2⟩ => hf σ H2 _ (S.mono (s1.trans s2)) fun w H3 ⟨s3, r3⟩ => ?_⟩
    have ev := (Rq.of r2).key
    subst ev
    have hd3 : Rd H3 p (.dK kvs) := by
      rcases hd with hd | ⟨o, hd⟩
      · exact .inl (s3 _ _ (s2 _ _ hd))
      · exact .inr ⟨o, s3 _ _ (s2 _ _ hd)⟩
    refine ⟨_, .inl ⟨kvs, kk, hd3, rfl, rfl⟩, ?_⟩
    rcases hr.look kk with ⟨e1, e2⟩ | ⟨w', d', e1, e2, r⟩
    · rw [e1]
      rw [e2] at q
      exact q _ H3 ⟨(s1.trans s2).trans s3, r3⟩
    · rw [e1]
      rw [e2] at q
      exact q _ H3 ⟨(s1.trans s2).trans s3, r.mono (.of (s2.trans s3))⟩⟩
/-- d[k] = v, d a dict of one's own -/
theorem sx_dput {Φ : DL.Fin} (j : Nat) {yn : Str} {p2 tpos pos : Pos} {es : List (D × D)} {kk : Key} (hj : ρ[j]? = some (.dic es)) (hu : X.A.units + 1 < cLine) (hb : Ev X b ρ (.val (keyD kk))) (he : Ev X e ρ (.val d)) (hz : es.length < sizeLine) (h : Φ.nx (ρ.set j (.dic (putD es kk d)))) (hNj : X.N[j]? = some yn := by rfl) (hv : Vis X.env.scope yn := by first | exact Or.inl rfl | exact Or.inr (Or.inl rfl) | exact Or.inr (Or.inr rfl)) (hd : (yn == ("__debug__" : Str)) = false := by decide)
    (hcd : (yn == ("__classdict__" : Str)) = false := by decide) (hs : swapsWith e (some (.Subscript (.Name yn p2) b tpos)) pos.line X.env = pure false := by rfl) : Sx X (.Assign [.Subscript (.Name yn p2) b tpos] e pos) ρ Φ := fun H0 H1 σ H E S F => by
  obtain ⟨p, kvs, e1, e2, r⟩ := S.ok.dic j es hj
  refine ⟨_, ps_dput hu (pe_var hNj hv hd hcd) pe_c pe_c hs, he σ H _ S.ok fun v H2 ⟨s2, r2⟩ => ⟨_, e1, hb σ H2 _ (S.mono s2).ok fun w H3 ⟨s3, r3⟩ => ?_⟩⟩
  have ev := (Rq.of r3).key
  subst ev
  have e3 : H3 p = some (.dK kvs) := s3 _ _ (s2 _ _ e2)
  refine ⟨p, _, rfl, .k e3 (by rw [r.length]; exact hz), F.nx _ _ _ (((S.mono s2).mono s3).write hj e1 (.dic e3 (r.mono (.of (s2.trans s3)))) e3 trivial ?_) h⟩
  have st : Stb H3 (upd H3 p (.dK (putK kvs kk v))) := stb_upd e3 trivial
  exact .dic upd_same (((r.mono (.of (s2.trans s3))).mono st).put ((r2.mono (.of s3)).mono st))
/-! ### dict(pairs) -/
theorem call_dictT (hcalm : X.calm = true) : CallR X (.type "dict") (fun xs H Q => ∃ (a : Addr) (ps : List Addr) (kvs : List (Key × V)), xs = [.ref a] ∧ PlT X.K H a (ps.map V.ref) ∧ Paired (fun p kv => SqT X.K H p [kV kv.1, kv.2]) ps kvs ∧
    ∀ p, H p = none → Q (.ref p) (upd H p (.dK (mergeK [] kvs)))) := by
  intro pins s σ H xs us Q I r q
  obtain ⟨a, ps, kvs, ex, hq, hp, q⟩ := q
  subst ex
  obtain ⟨u, eu, rx⟩ := vals1 r
  subst eu
  cases rx
  obtain ⟨o, its, n, ho, hc, hd, hdat, rv, hz⟩ := inv_pl I hq
  have ei := refs_at rv
  subst ei
  rw [List.length_map] at hz
  obtain ⟨prs, rel, hl, hpr⟩ := pairs_of I hp
  have items : ∃ pv : List (Value × Value), pv.length = prs.length ∧ ∀ j k v, pv[j]? = some (k, v) → ∃ key, prs[j]? = some (key, v) ∧ keyIs key k = true ∧ PairAt s.heap (ps.getD j 0) k v := by
    clear q hq hp rel ho hdat rv hc hd
    induction prs generalizing ps with
    | nil => exact ⟨[], rfl, fun j k v e => by simp at e⟩
    | cons pr prs ih =>
      cases ps with
      | nil => simp at hl
      | cons p ps =>
        obtain ⟨b, u, e1, e2, e3⟩ := hpr 0 pr rfl
        have eb : p = b := by simpa using e1
        subst eb
        obtain ⟨pv, h1, h2⟩ := ih ps (by simp at hz; omega) (by simpa using hl) fun j q e => by
          obtain ⟨b, u, z1, z2, z3⟩ := hpr (j + 1) q (by simpa using e)
          exact ⟨b, u, by simpa using z1, z2, z3⟩
        refine ⟨(u, pr.2) :: pv, by simp [h1], fun j k v e => ?_⟩
        cases j with
        | zero =>
          simp at e
          obtain ⟨rfl, rfl⟩ := e
          exact ⟨pr.1, rfl, e3, .inl e2⟩
        | succ j =>
          obtain ⟨key, z1, z2, z3⟩ := h2 j k v (by simpa using e)
          exact ⟨key, by simpa using z1, z2, by simpa using z3⟩
  obtain ⟨pv, hpl, hpi⟩ := items
  have ok : PlainSeq "tuple" s.heap a (ps.map Value.ref).toArray ∧ PairItems s.heap (ps.map Value.ref).toArray (fun j => ps.getD j 0) pv := by
    refine ⟨⟨o, n, ho, hc, hd, hdat⟩, by simp [hpl, hl], fun j k v e => ?_⟩
    obtain ⟨key, z1, z2, z3⟩ := hpi j k v e
    have hj : j < ps.length := by
      have := (List.getElem?_eq_some_iff.mp e).1
      omega
    refine ⟨?_, z3⟩
    simp [hj]
  refine PySem.call_dict_pairs (knd := mixKind X.prog X.w) (kvs := prs) (PairArg.tuple a (ps.map Value.ref).toArray (fun j => ps.getD j 0) pv) (I.ok.hd hcalm) ok ⟨hpl.symm, fun i key v e => ?_⟩ (by omega) fun h' tk hd' kk => ?_
  · obtain ⟨kx, z1, z2, _⟩ := hpi i key v e
    exact ⟨kx, z1, z2⟩
  · have hm : (s.heap.objs.size == sysModules) = false := beq_eq_false_iff_ne.mpr (Nat.ne_of_gt I.big)
    have hlen : (mergeK [] kvs).length ≤ sizeLine := by
      refine Nat.le_trans (length_mergeK kvs []) ?_
      rw [List.length_nil, Nat.zero_add, rel.length, hl]
      exact hz
    exact ⟨.ref s.heap.objs.size, upd H s.heap.objs.size (.dK (mergeK [] kvs)), I.laid (t' := tk) (fun b o e => kk b o (by simp) e) (Nat.le_refl _) (show ObjOk X.prog X.w _ _ _ (.dK (mergeK [] kvs)) from ⟨hlen, hm, merged [] prs, KV.merge rel .nil, hd'⟩), rfl, q _ (I.hok.fresh (Nat.le_refl _))⟩
theorem RpKV.merge {K : PySem.W.Frag} {H : Hp} : ∀ {more : List (Key × V)} {md : List (Key × D)} {vs : List (Key × V)} {es : List (D × D)}, Paired (fun (p : Key × V) (q : Key × D) => p.1 = q.1 ∧ Rp K H p.2 q.2) more md → RpKV K H vs es → RpKV K H (mergeK vs more) (mergeD es md)
  | _, _, _, _, .nil, h => h
  | _, _, _, _, .cons (a := p) (b := q) ⟨e, r⟩ t, h => by
    show RpKV K H (mergeK (putK _ p.1 p.2) _) (mergeD (putD _ q.1 q.2) _)
    rw [← e]
    exact RpKV.merge t (h.put r)
theorem pairs_rp {K : PySem.W.Frag} {H : Hp} : ∀ {xs : List V} {md : List (Key × D)}, RpAll K H xs (md.map fun q => .tuple [keyD q.1, q.2]) → ∃ (ps : List Addr) (kvs : List (Key × V)), xs = ps.map V.ref ∧ Paired (fun p kv => SqT K H p [kV kv.1, kv.2]) ps kvs ∧ Paired (fun (p : Key × V) (q : Key × D) => p.1 = q.1 ∧ Rp K H p.2 q.2) kvs md
  | _, [], h => by cases h; exact ⟨[], [], rfl, .nil, .nil⟩
  | _, q :: md, h => by
    cases h with
    | cons h t =>
      obtain ⟨ps, kvs, rfl, h1, h2⟩ := pairs_rp t
      obtain ⟨p, ys, rfl, hs, hr⟩ := h.tupI
      cases hr with
      | cons r1 r2 =>
        cases r2 with
        | cons r2 r3 =>
          cases r3
          have ek := (Rq.of r1).key
          subst ek
          exact ⟨p :: ps, (q.1, _) :: kvs, rfl, .cons hs h1, .cons ⟨rfl, r2⟩ h2⟩
theorem c_dictT {md : List (Key × D)} (hc : X.calm = true := by rfl) : CallV X (.type "dict") [.tuple (md.map fun q => .tuple [keyD q.1, q.2])] (.newD (mergeD [] md)) := fun H vs Q r q => by
  obtain ⟨v, rfl, r0⟩ := paired1 r
  obtain ⟨a, xs, rfl, hs, hr⟩ := r0.tupP
  obtain ⟨ps, kvs, rfl, h1, h2⟩ := pairs_rp hr
  exact ⟨_, call_dictT hc, a, ps, kvs, rfl, hs, h1, fun p hp => q _ _ ⟨same_new hp, p, _, rfl, hp, upd_same, (RpKV.merge h2 .nil).mono (stb_new hp)⟩⟩
theorem c_dictL {md : List (Key × D)} (hc : X.calm = true := by rfl) : CallV X (.type "dict") [.list (md.map fun q => .tuple [keyD q.1, q.2])] (.newD (mergeD [] md)) := fun H vs Q r q => by
  obtain ⟨v, rfl, r0⟩ := paired1 r
  obtain ⟨a, xs, rfl, hs, hr⟩ := r0.lst
  obtain ⟨ps, kvs, rfl, h1, h2⟩ := pairs_rp hr
  exact ⟨_, call_dictP hc, a, ps, kvs, rfl, hs, h1, fun p hp => q _ _ ⟨same_new hp, p, _, rfl, hp, upd_same, (RpKV.merge h2 .nil).mono (stb_new hp)⟩⟩
end
end DL


/-! Parts, houses as plain data. -/
namespace DL
open PySem L2
structure Want where
  face : Str
  low : Int
  high : Int
  must : Bool
structure Hook where
  hook : Str
  rank : Int
  word : Str
  worth : Option Int
structure Part where
  name : Str
  make : Int
  faces : List (Str × Int)
  wants : List Want
  hooks : List Hook
def encW (w : Want) : D := .tuple [.str w.face, .int w.low, .int w.high, .bool w.must]
def encF (f : Str × Int) : D := .tuple [.str f.1, .int f.2]
def encDeed (h : Hook) : D := .tuple (.str h.word :: (match h.worth with | none => [] | some n => [.int n]))
def encK (h : Hook) : D := .tuple [.str h.hook, .int h.rank, encDeed h]
def encP (p : Part) : D := .tuple [.str p.name, .int p.make, .tuple (p.faces.map encF), .tuple (p.wants.map encW), .tuple (p.hooks.map encK)]
abbrev House := List Part
def encH (h : House) : D := .tuple (h.map encP)
/-- the last face of this name -/
def lookF (fs : List (Str × Int)) (x : Str) : Option Int := fs.foldl (fun acc f => if x = f.1 then some f.2 else acc) none
def makeOf (p : Part) (x : Str) : Int := (lookF p.faces x).getD 0
theorem lookD_put (es : List (D × D)) (k j : Key) (v : D) : lookD (putD es k v) j = if j = k then some v else lookD es j := by
  unfold putD
  induction es with
  | nil =>
    simp only [List.any_nil, Bool.false_eq_true, if_false, List.nil_append]
    unfold lookD
    rw [List.find?_cons]
    by_cases h : j = k
    · subst h; rw [kd_keyD]; simp
    · rw [kd_keyD, if_neg h, show decide (some k = some j) = false by simpa using fun z => h z.symm]
  | cons e es ih =>
    by_cases hk : kd e.1 = some k
    · have h1 : ((e :: es).any fun e => decide (kd e.1 = some k)) = true := by rw [List.any_cons]; simp [hk]
      rw [if_pos h1, List.map_cons, if_pos hk]
      unfold lookD
      rw [List.find?_cons, List.find?_cons]
      by_cases h : j = k
      · subst h; rw [if_pos rfl]; simp [hk]
      · rw [if_neg h]
        have hj : decide (kd e.1 = some j) = false := by rw [hk]; simpa using fun z => h z.symm
        rw [hj]
        simp only
        have : ∀ l : List (D × D), (l.map fun e => if kd e.1 = some k then (e.1, v) else e).find? (fun e => decide (kd e.1 = some j)) = l.find? (fun e => decide (kd e.1 = some j)) := by
          intro l
          induction l with
          | nil => rfl
          | cons x l ihl =>
            rw [List.map_cons, List.find?_cons, List.find?_cons]
            by_cases hx : kd x.1 = some k
            · rw [if_pos hx]
              have : decide (kd x.1 = some j) = false := by rw [hx]; simpa using fun z => h z.symm
              simp only [this]; exact ihl
            · rw [if_neg hx, ihl]
        rw [this]
    · have h1 : ((e :: es).any fun e => decide (kd e.1 = some k)) = (es.any fun e => decide (kd e.1 = some k)) := by rw [List.any_cons]; simp [hk]
      rw [h1]
      have step : ∀ l : List (D × D), lookD (e :: l) j = if kd e.1 = some j then some e.2 else lookD l j := by
        intro l
        unfold lookD
        rw [List.find?_cons]
        by_cases hj : kd e.1 = some j <;> simp [hj]
      by_cases ha : (es.any fun e => decide (kd e.1 = some k)) = true
      · rw [if_pos ha] at ih ⊢
        rw [List.map_cons, if_neg hk, step, step, ih]
        by_cases hj : kd e.1 = some j
        · rw [if_pos hj, if_pos hj, if_neg]; rintro rfl; exact hk hj
        · rw [if_neg hj, if_neg hj]
      · rw [if_neg ha] at ih ⊢
        rw [List.cons_append, step, step, ih]
        by_cases hj : kd e.1 = some j
        · rw [if_pos hj, if_pos hj, if_neg]; rintro rfl; exact hk hj
        · rw [if_neg hj, if_neg hj]
theorem lookD_merge (j : Key) : ∀ (md : List (Key × D)) (es : List (D × D)), lookD (mergeD es md) j = md.foldl (fun acc kv => if j = kv.1 then some kv.2 else acc) (lookD es j)
  | [], _ => rfl
  | kv :: md, es => by
    show lookD (mergeD (putD es kv.1 kv.2) md) j = _
    rw [lookD_merge j md, lookD_put]
    rfl
def facesK (fs : List (Str × Int)) : List (Key × D) := fs.map fun f => (Sum.inr f.1, .int f.2)
theorem faces_enc (fs : List (Str × Int)) : (facesK fs).map (fun q => PyData.tuple [keyD q.1, q.2]) = fs.map encF := by
  unfold facesK
  rw [List.map_map]
  rfl
theorem look_faces (fs : List (Str × Int)) (x : Str) : lookD (mergeD [] (facesK fs)) (.inr x) = (lookF fs x).map .int := by
  rw [lookD_merge]
  unfold facesK lookF
  rw [List.foldl_map]
  have : ∀ (l : List (Str × Int)) (a : Option Int), l.foldl (fun (acc : Option D) f => if (Sum.inr x : Key) = Sum.inr f.1 then some (.int f.2) else acc) (a.map .int) = (l.foldl (fun acc f => if x = f.1 then some f.2 else acc) a).map PyData.int := by
    intro l
    induction l with
    | nil => intro a; rfl
    | cons f l ih =>
      intro a
      rw [List.foldl_cons, List.foldl_cons, ← ih]
      congr 1
      by_cases h : x = f.1
      · rw [if_pos (by rw [h]), if_pos h]; rfl
      · rw [if_neg (by simpa using h), if_neg h]
  exact this fs none
theorem flt_true {α : Type} (l : List α) : (l.filter fun _ => true) = l := by simp
theorem isE_map {α β : Type} (f : α → β) (l : List α) : (l.map f).isEmpty = l.isEmpty := by cases l <;> rfl
theorem eqv_len0 {α : Type} (l : List α) : PyData.eqv (.int (l.length : Nat)) (.int 0) = l.isEmpty := by cases l <;> simp [PyData.eqv]
  <;> omega
/-! ### who can stand -/
def gives (p : Part) (w : Want) : Bool := decide (w.low ≤ makeOf p w.face) && decide (makeOf p w.face ≤ w.high)
def giversFor (ps : List Part) (n : Str) (w : Want) : List Part := ps.filter fun p => !(p.name == n) && gives p w
def lacksL (ps : List Part) (p : Part) : List Str := (p.wants.filter fun w => w.must && (giversFor ps p.name w).isEmpty).map (·.face)
def stands (ps : List Part) : List Part := ps.filter fun p => (lacksL ps p).isEmpty
/-! ### texts that can be laid -/
structure OkP (p : Part) : Prop where
  nm : PyData.strOk p.name = true
  fs : ∀ f ∈ p.faces, PyData.strOk f.1 = true
  ws : ∀ w ∈ p.wants, PyData.strOk w.face = true
  ks : ∀ h ∈ p.hooks, PyData.strOk h.hook = true ∧ PyData.strOk h.word = true
def OkH (h : List Part) : Prop := ∀ p ∈ h, OkP p
theorem pl_encF {n : Nat} {f : Str × Int} (h : PyData.strOk f.1 = true) : Pl (n + 1) (encF f) := pl_tup (pla_cons (pl_str h) (pla_cons pl_int pla_nil))
theorem pl_encW {n : Nat} {w : Want} (h : PyData.strOk w.face = true) : Pl (n + 1) (encW w) := pl_tup (pla_cons (pl_str h) (pla_cons pl_int (pla_cons pl_int (pla_cons pl_bool pla_nil))))
theorem pl_encDeed {n : Nat} {h : Hook} (k : PyData.strOk h.word = true) : Pl (n + 1) (encDeed h) := by
  unfold encDeed
  refine pl_tup (pla_cons (pl_str k) ?_)
  cases h.worth with
  | none => exact pla_nil
  | some n => exact pla_cons pl_int pla_nil
theorem pl_encK {n : Nat} {h : Hook} (k : PyData.strOk h.hook = true ∧ PyData.strOk h.word = true) : Pl (n + 2) (encK h) := pl_tup (pla_cons (pl_str k.1) (pla_cons pl_int (pla_cons (pl_encDeed k.2) pla_nil)))
theorem pl_encP {n : Nat} {p : Part} (h : OkP p) : Pl (n + 4) (encP p) :=
  pl_tup (pla_cons (pl_str h.nm) (pla_cons pl_int (pla_cons (pl_tup (pla_map fun f hf => pl_encF (h.fs f hf))) (pla_cons (pl_tup (pla_map fun w hw => pl_encW (h.ws w hw))) (pla_cons (pl_tup (pla_map fun k hk => pl_encK (h.ks k hk))) pla_nil)))))
theorem pl_parts {n : Nat} {h : List Part} (k : OkH h) : PlAll (n + 4) (h.map encP) := pla_map fun p hp => pl_encP (k p hp)
theorem OkH.get {h : List Part} (k : OkH h) {p : Part} (hp : p ∈ h) : OkP p := k p hp
theorem OkH.sub {h g : List Part} (k : OkH h) (s : ∀ p ∈ g, p ∈ h) : OkH g := fun p hp => k p (s p hp)
theorem OkH.filter {h : List Part} {f : Part → Bool} (k : OkH h) : OkH (h.filter f) := k.sub fun _ hp => (List.mem_filter.mp hp).1
end DL


/-! What the laws draw, as plain functions. -/
namespace DL
open PySem L2
def cellAt (ns : List Int) (k : Int) : Int := if k < (ns.length : Int) then ns.getD k.toNat 0 else 0
def mixed0 (ns : List Int) (k : Int) : Int := (cellAt ns k + 7919 * k + 1) * 48271 % 2147483647
def mixed (ns : List Int) (k : Int) : Int := (mixed0 ns k * mixed0 ns k + 7 * mixed0 ns k + k) % 2147483629
def drawn0 (n k : Int) : Int := (n + 104729 * k + 17) * 69621 % 2147483647
def drawn (n k : Int) : Int := (drawn0 n k * drawn0 n k + 3 * drawn0 n k + k) % 2147483629
theorem drawn0_b (n k : Int) : 0 ≤ drawn0 n k ∧ drawn0 n k < 2147483647 := ⟨Int.emod_nonneg _ (by decide), Int.emod_lt_of_pos _ (by decide)⟩
theorem mixed0_b (n : List Int) (k : Int) : 0 ≤ mixed0 n k ∧ mixed0 n k < 2147483647 := ⟨Int.emod_nonneg _ (by decide), Int.emod_lt_of_pos _ (by decide)⟩
theorem drawn_b (n k : Int) : 0 ≤ drawn n k ∧ drawn n k < 2147483629 := ⟨Int.emod_nonneg _ (by decide), Int.emod_lt_of_pos _ (by decide)⟩
theorem mixed_b (n : List Int) (k : Int) : 0 ≤ mixed n k ∧ mixed n k < 2147483629 := ⟨Int.emod_nonneg _ (by decide), Int.emod_lt_of_pos _ (by decide)⟩
/-- the part of a number -/
def faceOf (n : Int) (k : Int) (f : Str) : List (Str × Int) := if drawn n k / 4 % 3 = 0 then [(f, 1 + drawn n k / 4 / 4 % 4)] else []
def wantOf (n : Int) (k : Int) (f : Str) : List Want := if drawn n k / 4 % 4 = 1 then
  [⟨f, 1 + drawn n k / 4 / 4 % 3, (if 1 + drawn n k / 4 / 4 % 3 + drawn n k / 4 / 16 % 4 < 9 then 1 + drawn n k / 4 / 4 % 3 + drawn n k / 4 / 16 % 4 else 9), decide (0 < drawn n k / 4 / 64 % 3)⟩] else []
def wordOf (r : Int) : Str := if r % 6 = 0 then "plus" else if r % 6 = 1 then "times" else if r % 6 = 2 then "set" else if r % 6 = 3 then "stop" else if r % 6 = 4 then "fail" else "plus"
def worthOf (r : Int) : Int := r / 8 % (if r / 8192 % 2 = 0 then 1000 else 5)
def hookNm (r : Int) : Str := if r / 16384 % 2 = 0 then "go" else "end"
def rankOf (r : Int) : Int := if r / 32768 % 4 = 0 then 0 else if r / 32768 % 4 = 1 then -1 else if r / 32768 % 4 = 2 then 5 else -9
def hookOf (n : Int) (k : Int) : Hook := ⟨hookNm (drawn n (10 + k) / 4), rankOf (drawn n (10 + k) / 4), wordOf (drawn n (10 + k) / 4), if wordOf (drawn n (10 + k) / 4) = "stop" then none else some (worthOf (drawn n (10 + k) / 4))⟩
def hooksOf (n : Int) : List Hook := (List.range (n % 4).toNat).map fun k => hookOf n ((k : Nat) : Int)
def facesOf (n : Int) : List (Str × Int) := faceOf n 0 "f" ++ (faceOf n 1 "g" ++ faceOf n 2 "h")
def wantsOf (n : Int) : List Want := wantOf n 0 "f" ++ (wantOf n 1 "g" ++ wantOf n 2 "h")
theorem faceOf_len (n k : Int) (f : Str) : (faceOf n k f).length ≤ 1 := by unfold faceOf; split <;> simp
theorem wantOf_len (n k : Int) (f : Str) : (wantOf n k f).length ≤ 1 := by unfold wantOf; split <;> simp
theorem facesOf_len (n : Int) : (facesOf n).length ≤ 3 := by
  have h1 := faceOf_len n 0 "f"; have h2 := faceOf_len n 1 "g"; have h3 := faceOf_len n 2 "h"
  unfold facesOf; simp only [List.length_append]; omega
theorem wantsOf_len (n : Int) : (wantsOf n).length ≤ 3 := by
  have h1 := wantOf_len n 0 "f"; have h2 := wantOf_len n 1 "g"; have h3 := wantOf_len n 2 "h"
  unfold wantsOf; simp only [List.length_append]; omega
theorem hooksOf_len (n : Int) : (hooksOf n).length ≤ 3 := by
  unfold hooksOf; rw [List.length_map, List.length_range]; omega
def partOf (n : Int) (nm : Str) : Part := ⟨nm, 1 + n / 4 % 4, facesOf n, (wantsOf n).drop (n / 64 % 2).toNat, hooksOf n⟩
def partAt (n : Int) (k : Int) (nm : Str) : List Part := if n % 4 < drawn n (20 + k) / 4 % 8 then [partOf (drawn n (20 + k) / 4 / 8) nm] else []
def houseOf (n : Int) : House := partAt n 0 "a" ++ (partAt n 1 "b" ++ (partAt n 2 "c" ++ (partAt n 3 "d" ++ (partAt n 4 "e" ++ partAt n 5 "log"))))
theorem partAt_len (n k : Int) (f : Str) : (partAt n k f).length ≤ 1 := by unfold partAt; split <;> simp
theorem houseOf_len (n : Int) : (houseOf n).length ≤ 6 := by
  have h1 := partAt_len n 0 "a"; have h2 := partAt_len n 1 "b"; have h3 := partAt_len n 2 "c"; have h4 := partAt_len n 3 "d"; have h5 := partAt_len n 4 "e"; have h6 := partAt_len n 5 "log"
  unfold houseOf; simp only [List.length_append]; omega
end DL


namespace DL
open PySem PySem.Spec PyProof.Rows L2
section
variable {X : Cx} {ρ : Rho} {e a b c : Expr} {d x y z : D} {ds es : List D} {k : Kd} {Φ : DL.Fin} {st : Stmt} {sts : List Stmt}
/-- forgetting -/
def Le (ρ' ρ2 : Rho) : Prop := ρ2.length = ρ'.length ∧ ∀ (i : Nat) (b : B), ρ2[i]? = some b → b ≠ .un → ρ'[i]? = some b
theorem Le.refl (ρ : Rho) : Le ρ ρ := ⟨rfl, fun _ _ h _ => h⟩
theorem le_nil : Le [] [] := ⟨rfl, fun _ _ h _ => h⟩
theorem le_cons {b : B} {r s : Rho} (h : Le r s) : Le (b :: r) (b :: s) := ⟨congrArg (· + 1) h.1, fun i c e n => by
  cases i with
  | zero => exact e
  | succ i => exact h.2 i c e n⟩
theorem le_un {b : B} {r s : Rho} (h : Le r s) : Le (b :: r) (.un :: s) := ⟨congrArg (· + 1) h.1, fun i c e n => by
  cases i with
  | zero => cases e; exact absurd rfl n
  | succ i => exact h.2 i c e n⟩
theorem SK.le {K : PySem.W.Frag} {H0 : Ent} {H1 H : Hp} {σ : L2.St} {ρ2 : Rho} (S : SK K H0 H1 ρ σ H) (h : Le ρ ρ2) : SK K H0 H1 ρ2 σ H := S.weak (by rw [h.1]; exact S.ok.len) fun i b e n => ⟨h.2 i b e n, rfl⟩
theorem sx_weak (ρ2 : Rho) (h : Sx X st ρ { Φ with nx := fun ρ' => Le ρ' ρ2 }) (q : Φ.nx ρ2) : Sx X st ρ Φ := fun H0 H1 σ H E S F =>
  h H0 H1 σ H E S ⟨fun ρ' σ' H' S' l => F.nx ρ2 σ' H' (S'.le l) q, F.rt, F.bk, F.ct, F.ro⟩
theorem xs_weak (ρ2 : Rho) (h : Sxs X sts ρ { Φ with nx := fun ρ' => Le ρ' ρ2 }) (q : Φ.nx ρ2) : Sxs X sts ρ Φ := fun H0 H1 σ H E S F =>
  h H0 H1 σ H E S ⟨fun ρ' σ' H' S' l => F.nx ρ2 σ' H' (S'.le l) q, F.rt, F.bk, F.ct, F.ro⟩
/-- from a state that knows more -/
theorem xs_le {ρ2 : Rho} (l : Le ρ ρ2) (h : Sxs X sts ρ2 Φ) : Sxs X sts ρ Φ := fun H0 H1 σ H E S F => h H0 H1 σ H E (S.le l) F
theorem EvG.le {yl : Bool} {tg : Expr} {ρ2 ρ' : Rho} {is : List Nat} (h : EvG X yl tg ρ2 d ρ' is) (l : Le ρ ρ2) : EvG X yl tg ρ d ρ' is :=
  ⟨fun σ H v Q S r q => h.run σ H v Q (S.weak (by rw [l.1]; exact S.len) fun i b e n => ⟨l.2 i b e n, rfl⟩) r q, fun i b e o => by
    obtain ⟨q, n⟩ := h.own i b e o
    exact ⟨l.2 i b q (by rintro rfl; cases o), n⟩⟩
/-- what is wanted behind a loop is kept by forgetting -/
theorem forW_le {yl : Bool} {tg : Expr} {body : List Stmt} (hΦ : ∀ ρ ρ2, Le ρ ρ2 → Φ.nx ρ2 → Φ.nx ρ) : ∀ {xs : List D} {ρ ρ2 : Rho}, Le ρ ρ2 → ForW X yl tg body xs ρ2 Φ → ForW X yl tg body xs ρ Φ
  | [], _, _, l, h => hΦ _ _ l h
  | _ :: _, _, _, l, ⟨ρ', is, hg, hb⟩ => ⟨ρ', is, hg.le l, hb⟩
theorem sx_for' {yl : Bool} {tg it : Expr} {body : List Stmt} {xs : List D} {pos : Pos} (ρe : Rho → Prop) (hi : EvI X tg it ρ yl xs) (h : ForW X yl tg body xs ρ { Φ with nx := fun ρ' => ∃ ρ2, Le ρ' ρ2 ∧ Φ.nx ρ2 }) (hp : PassesOwn (model X.prog X.w) X.A X.env X.xe := by exact PassesOwn.never) (hc : X.calm = true := by rfl) (hs : ∀ x, foldedSetIterable it X.env x = pure x := by intro _; rfl) :
    Sx X (.For tg it body [] pos) ρ Φ := fun H0 H1 σ H E S F =>
  sx_for hi h hp hc hs H0 H1 σ H E S ⟨fun ρ' σ' H' S' ⟨ρ2, l, q⟩ => F.nx ρ2 σ' H' (S'.le l) q, F.rt, F.bk, F.ct, F.ro⟩
/-- a for by what holds of a datum b of the state, item by item -/
theorem forW_st {yl : Bool} {tg : Expr} {body : List Stmt} {α β : Type} (en : α → D) (st : β → Rho) (R : List α → β → Prop)
    (step : ∀ a rest b, R (a :: rest) b → ∃ ρ' is, EvG X yl tg (st b) (en a) ρ' is ∧ Sxs X body ρ' { nx := fun ρ2 => ∃ b', R rest b' ∧ Le ρ2 (st b'), rt := Φ.rt, bk := fun ρ' => ∃ ρ2, Le ρ' ρ2 ∧ Φ.nx ρ2, ct := fun ρ2 => ∃ b', R rest b' ∧ Le ρ2 (st b'), ro := Φ.ro })
    (done : ∀ b, R [] b → Φ.nx (st b)) : ∀ (l : List α) (b : β), R l b → ForW X yl tg body (l.map en) (st b) { Φ with nx := fun ρ' => ∃ ρ2, Le ρ' ρ2 ∧ Φ.nx ρ2 }
  | [], b, h => ⟨_, .refl _, done b h⟩
  | a :: l, b, h => by
    obtain ⟨ρ', is, hg, hb⟩ := step a l b h
    have next : ∀ ρ2, (∃ b', R l b' ∧ Le ρ2 (st b')) → ForW X yl tg body (l.map en) ρ2 { Φ with nx := fun ρ' => ∃ ρ2, Le ρ' ρ2 ∧ Φ.nx ρ2 } := fun ρ2 ⟨b', hr, l'⟩ =>
      forW_le (Φ := { Φ with nx := fun ρ' => ∃ ρ2, Le ρ' ρ2 ∧ Φ.nx ρ2 }) (fun r r2 q h3 => by
        obtain ⟨r3, l3, q3⟩ := h3
        exact ⟨r3, ⟨l3.1.trans q.1, fun i b e n => q.2 i b (l3.2 i b e n) n⟩, q3⟩) l' (forW_st en st R step done l b' hr)
    exact ⟨ρ', is, hg, hb.imp next (fun _ _ q => q) (fun _ q => q) next⟩
theorem sx_forS {yl : Bool} {tg it : Expr} {body : List Stmt} {α β : Type} (l : List α) (en : α → D) (st : β → Rho) (R : List α → β → Prop) (b0 : β) {pos : Pos} (hi : EvI X tg it (st b0) yl (l.map en)) (h0 : R l b0)
    (step : ∀ a rest b, R (a :: rest) b → ∃ ρ' is, EvG X yl tg (st b) (en a) ρ' is ∧ Sxs X body ρ' { nx := fun ρ2 => ∃ b', R rest b' ∧ Le ρ2 (st b'), rt := Φ.rt, bk := fun ρ' => ∃ ρ2, Le ρ' ρ2 ∧ Φ.nx ρ2, ct := fun ρ2 => ∃ b', R rest b' ∧ Le ρ2 (st b'), ro := Φ.ro })
    (done : ∀ b, R [] b → Φ.nx (st b)) (hp : PassesOwn (model X.prog X.w) X.A X.env X.xe := by exact PassesOwn.never) (hc : X.calm = true := by rfl) (hs : ∀ x, foldedSetIterable it X.env x = pure x := by intro _; rfl) : Sx X (.For tg it body [] pos) (st b0) Φ :=
  sx_for' (fun _ => True) hi (forW_st en st R step done l b0 h0) hp hc hs
/-- an if whose ways meet -/
theorem sx_ifS {t : Bool} {as bs : List Stmt} {β : Type} {pos : Pos} (st : β → Rho) (R : β → Prop) (hc : EvT X c ρ t) (ha : t = true → Sxs X as ρ { Φ with nx := fun ρ' => ∃ b, R b ∧ Le ρ' (st b) }) (hb : t = false → Sxs X bs ρ { Φ with nx := fun ρ' => ∃ b, R b ∧ Le ρ' (st b) }) (h : ∀ b, R b → Φ.nx (st b)) : Sx X (.If c as bs pos) ρ Φ := fun H0 H1 σ H E S F =>
  sx_if (Φ := { Φ with nx := fun ρ' => ∃ b, R b ∧ Le ρ' (st b) }) hc ha hb H0 H1 σ H E S ⟨fun ρ' σ' H' S' ⟨b, r, l⟩ => F.nx (st b) σ' H' (S'.le l) (h b r), F.rt, F.bk, F.ct, F.ro⟩
/-! ### tuple * 0, tuple * 1 -/
theorem tuple_mul0 (l : Addr) (items : Array Value) (n : Nat) (dd : Option Addr) (sl : Array (Option Value)) (u : Tok) (c1 : items.isEmpty = false) :
    Meets (Builtin.«tuple.__mul__» ⟨[.ref l, .int 0 u], []⟩) (fun _ R s => s.heap.get? l = some { cls := .type "tuple", dict := dd, data := .seq items n, slots := sl } ∧
      R (.ok (.ret (Value.ref s.heap.objs.size))) { s with heap := s.heap.push { cls := Value.type "tuple", data := Data.seq #[] }, toks := s.toks }) :=
  .of_wp fun prog w A R s h => by
    obtain ⟨hp, g, d, tk, os⟩ := s
    obtain ⟨hl, h⟩ := h
    have f1 := AutoSeq1.idx_int
    have c2 : (items.isEmpty || (0 : Int) == 1) = false := by rw [c1]; rfl
    have c3 : (decide ((0 : Int) ≤ 0) || items.isEmpty) = true := by simp
    wp_walk using wpAny_loadPart' hl
    repeat (first
      | (refine wpAny_ite_false (decide_eq_false (by rw [c2]; exact Bool.false_ne_true)) ?_; wp_walk using wpAny_loadPart' hl)
      | (refine wpAny_ite_true (decide_eq_true c3) ?_; wp_walk using wpAny_loadPart' hl))
    exact ⟨_, rfl, h⟩
theorem tuple_mul1 (l : Addr) (items : Array Value) (n : Nat) (sl : Array (Option Value)) (u : Tok) :
    Meets (Builtin.«tuple.__mul__» ⟨[.ref l, .int 1 u], []⟩) (fun _ R s => s.heap.get? l = some { cls := .type "tuple", dict := none, data := .seq items n, slots := sl } ∧
      R (.ok (.ret (Value.ref l))) s) :=
  .of_wp fun prog w A R s h => by
    obtain ⟨hp, g, d, tk, os⟩ := s
    obtain ⟨hl, h⟩ := h
    have f1 := AutoSeq1.idx_int
    have c2 : (items.isEmpty || (1 : Int) == 1) = true := by simp
    wp_walk using wpAny_loadPart' hl
    repeat (first
      | (refine wpAny_ite_true (decide_eq_true c2) ?_; wp_walk using wpAny_loadPart' hl))
    exact ⟨_, rfl, h⟩
theorem op_rep01 : OpR X (binaryOp .Mult) (fun x y H Q => ∃ l k xs, x = .ref l ∧ y = .int k ∧ PlT X.K H l xs ∧ xs ≠ [] ∧ ((k = 0 ∧ ∀ p o, H p = none → o.dict = none → Q (.ref p) (upd H p (.frz o (.tup [])))) ∨ (k = 1 ∧ Q (.ref l) H))) := by
  intro pins s σ H x y v u Q I rx ry h
  obtain ⟨l, k, xs, rfl, rfl, hT, hne, h⟩ := h
  cases rx
  obtain ⟨t, rfl⟩ := ry
  obtain ⟨⟨cls, dd, data, sl⟩, its, n, ho, hc, hdn, hd, r, hz⟩ := inv_pl I hT
  simp only at hc hd hdn
  subst hc hd hdn
  have hi : its.toArray.isEmpty = false := by
    cases its with
    | nil => exact absurd ((Vals.nil_iff r).mp rfl) hne
    | cons a b => rfl
  rcases h with ⟨rfl, q⟩ | ⟨rfl, q⟩
  · refine wpAny_binaryOp_repeat_ref (T := "tuple") (U := "int") (by decide) ⟨_, ho, rfl⟩ (fun s' => typeIs_int s' 0 t) noFill_tuple_mul F.fills_int_mul F.slot_int_rmul repeat_tuple F.slot_int_index.lookup
      (call_meets F.slot_int_rmul (typeIs_int s 0 t) F.entry_int_rmul (F.args_int_rmul_2 _ _) (int_rmul_tuple 0 t l its.toArray n none sl)
        ⟨ho, rfl, ⟨_, ho, rfl⟩, call_meets F.slot_tuple_mul ⟨_, ho, rfl⟩ F.entry_tuple_mul (F.args_tuple_mul_2 _ _) (tuple_mul0 l its.toArray n none sl t hi) ⟨ho, ?_⟩⟩)
    exact ⟨.ref s.heap.objs.size, _, inv_tup (us := []) (xs := []) (t' := s.toks) I (fun b u e => Heap.get?_push_of_some _ e) (Nat.le_refl _) (Heap.get?_push_size _ rfl) rfl rfl .nil (Nat.zero_le _), rfl, q _ _ (I.hok.fresh (Nat.le_refl _)) rfl⟩
  · refine wpAny_binaryOp_repeat_ref (T := "tuple") (U := "int") (by decide) ⟨_, ho, rfl⟩ (fun s' => typeIs_int s' 1 t) noFill_tuple_mul F.fills_int_mul F.slot_int_rmul repeat_tuple F.slot_int_index.lookup
      (call_meets F.slot_int_rmul (typeIs_int s 1 t) F.entry_int_rmul (F.args_int_rmul_2 _ _) (int_rmul_tuple 1 t l its.toArray n none sl)
        ⟨ho, rfl, ⟨_, ho, rfl⟩, call_meets F.slot_tuple_mul ⟨_, ho, rfl⟩ F.entry_tuple_mul (F.args_tuple_mul_2 _ _) (tuple_mul1 l its.toArray n sl t) ⟨ho, ?_⟩⟩)
    exact ⟨.ref l, H, I, rfl, q⟩
theorem o_rep01 {t : Bool} (hne : ds ≠ []) : OpV X (binaryOp .Mult) (.tuple ds) (.int (if t then 1 else 0)) (.val (.tuple (if t then ds else []))) := fun H u v Q ru rv q => by
  have ru0 := ru
  obtain ⟨a, xs, rfl, hs, hr⟩ := ru.tupP
  have hx : xs ≠ [] := fun e => hne (by subst e; cases hr; rfl)
  refine ⟨_, op_rep01, a, _, xs, rfl, rv.int, hs, hx, ?_⟩
  cases t with
  | false => exact .inl ⟨rfl, fun p o hp ho => q _ _ ⟨same_new hp, rp_tupNew hp ho .nil⟩⟩
  | true => cases ru0 with | of r => exact .inr ⟨rfl, q _ H ⟨.refl H, r⟩⟩
end
end DL


namespace DL
open PySem PySem.Spec PyProof.Rows L2
/-! ### sorted(xs) of alike data -/
/-- the sorted data -/
def sortD (ds : List D) : List D := ds.mergeSort fun a b => !PySem.W.dataLt b a
structure SortOk (ds : List D) : Prop where
  al : PySem.W.AllAlike ds
  so : PySem.W.Sortable ds
  dp : ∀ d ∈ ds, d.depth ≤ 8
  nd : ∀ d ∈ ds, nod d = true
/-- the shapes of keys -/
inductive Sh where
  | int | str | bool | tup (l : List Sh)
mutual
def shOk : Sh → D → Bool
  | .int, .int _ => true
  | .str, .str _ => true
  | .bool, .bool _ => true
  | .tup l, .tuple ds => shAll l ds
  | _, _ => false
def shAll : List Sh → List D → Bool
  | [], [] => true
  | s :: l, d :: ds => shOk s d && shAll l ds
  | _, _ => false
end
mutual
theorem sh_alike : ∀ (s : Sh) (d e : D), shOk s d = true → shOk s e = true → PySem.W.alike d e = true
  | .int, d, e, h1, h2 => by cases d <;> simp [shOk] at h1; cases e <;> simp [shOk] at h2; simp [PySem.W.alike]
  | .str, d, e, h1, h2 => by cases d <;> simp [shOk] at h1; cases e <;> simp [shOk] at h2; simp [PySem.W.alike]
  | .bool, d, e, h1, h2 => by cases d <;> simp [shOk] at h1; cases e <;> simp [shOk] at h2; simp [PySem.W.alike]
  | .tup l, d, e, h1, h2 => by
    cases d <;> simp [shOk] at h1
    cases e <;> simp [shOk] at h2
    rw [PySem.W.alike]
    exact shAll_alike l _ _ h1 h2
theorem shAll_alike : ∀ (s : List Sh) (d e : List D), shAll s d = true → shAll s e = true → PySem.W.alikeAll d e = true
  | [], d, e, h1, h2 => by cases d <;> simp [shAll] at h1; rw [PySem.W.alikeAll]
  | s :: l, d, e, h1, h2 => by
    cases d <;> simp [shAll] at h1
    cases e <;> simp [shAll] at h2
    rw [PySem.W.alikeAll, Bool.and_eq_true]
    exact ⟨sh_alike s _ _ h1.1 h2.1, shAll_alike l _ _ h1.2 h2.2⟩
end
mutual
def shDep : Sh → Nat
  | .tup l => shDepA l + 1
  | _ => 0
def shDepA : List Sh → Nat
  | [] => 0
  | s :: l => max (shDep s) (shDepA l)
end
mutual
theorem sh_dep : ∀ (s : Sh) (d : D), shOk s d = true → d.depth ≤ shDep s
  | .int, d, h1 => by cases d <;> simp [shOk] at h1; simp [PyData.depth]
  | .str, d, h1 => by cases d <;> simp [shOk] at h1; simp [PyData.depth]
  | .bool, d, h1 => by cases d <;> simp [shOk] at h1; simp [PyData.depth]
  | .tup l, d, h1 => by
    cases d <;> simp [shOk] at h1
    have := shAll_dep l _ h1
    simp only [PyData.depth, shDep]
    omega
theorem shAll_dep : ∀ (s : List Sh) (d : List D), shAll s d = true → PyData.depthAll d ≤ shDepA s
  | [], d, h1 => by cases d <;> simp [shAll] at h1; simp [PyData.depthAll]
  | s :: l, d, h1 => by
    cases d <;> simp [shAll] at h1
    have a := sh_dep s _ h1.1
    have b := shAll_dep l _ h1.2
    simp only [PyData.depthAll, shDepA]
    omega
end
mutual
theorem sh_nod : ∀ (s : Sh) (d : D), shOk s d = true → nod d = true
  | .int, d, h1 => by cases d <;> simp [shOk] at h1; simp [nod]
  | .str, d, h1 => by cases d <;> simp [shOk] at h1; simp [nod]
  | .bool, d, h1 => by cases d <;> simp [shOk] at h1; simp [nod]
  | .tup l, d, h1 => by
    cases d <;> simp [shOk] at h1
    have := shAll_nod l _ h1
    simpa [nod] using this
theorem shAll_nod : ∀ (s : List Sh) (d : List D), shAll s d = true → nods d = true
  | [], d, h1 => by cases d <;> simp [shAll] at h1; simp [nods]
  | s :: l, d, h1 => by
    cases d <;> simp [shAll] at h1
    have a := sh_nod s _ h1.1
    have b := shAll_nod l _ h1.2
    simp only [nods, Bool.and_eq_true]
    exact ⟨a, b⟩
end
def shTop : Sh → Bool
  | .tup [] => false
  | _ => true
theorem so_sh {ds : List D} (s : Sh) (h : ∀ d ∈ ds, shOk s d = true) (ht : shTop s = true := by rfl) (hd : shDep s ≤ 8 := by decide) : SortOk ds where
  al d hd e he := sh_alike s d e (h d hd) (h e he)
  so := by
    cases s with
    | tup l =>
      refine .inl fun d hd => ?_
      have := h d hd
      cases d <;> simp [shOk] at this
      rename_i xs
      cases l with
      | nil => cases ht
      | cons a l =>
        cases xs with
        | nil => simp [shAll] at this
        | cons x xs => exact ⟨x, xs, rfl⟩
    | _ =>
      refine .inr fun d hd => ?_
      have := h d hd
      cases d <;> simp [shOk] at this <;> exact ⟨by simp, by simp⟩
  dp d hd' := Nat.le_trans (sh_dep s d (h d hd')) hd
  nd d hd := sh_nod s d (h d hd)
theorem so_map {α : Type} {l : List α} {f : α → D} (s : Sh) (h : ∀ a ∈ l, shOk s (f a) = true := by intros; rfl) (ht : shTop s = true := by rfl) (hd : shDep s ≤ 8 := by decide) : SortOk (l.map f) :=
  so_sh s (fun d hd => by obtain ⟨a, ha, rfl⟩ := List.mem_map.mp hd; exact h a ha) ht hd
section
variable {X : Cx}
theorem EachIs.zipV {K : PySem.W.Frag} {H : Hp} : ∀ {xs : List V} {ds : List D} {us : List Value}, RpAll K H xs ds → Vals xs us → PySem.W.EachIs (fun (u : Value) (p : V × D) => RelV p.1 u) us (xs.zip ds)
  | [], _, us, r, v => by cases r; cases v; exact .nil
  | x :: xs, _, us, r, v => by
    cases r with
    | cons r1 r2 =>
      cases v with
      | cons v1 v2 => exact .cons v1 (EachIs.zipV r2 v2)
theorem each_fst {K : PySem.W.Frag} {H : Hp} : ∀ {us : List Value} {ps : List (V × D)}, PySem.W.EachIs (fun (u : Value) (p : V × D) => RelV p.1 u) us ps → Vals (ps.map (·.1)) us
  | _, _, .nil => .nil
  | _, _, .cons h t => .cons h (each_fst (K := K) (H := H) t)
theorem RpAll.of_mem {K : PySem.W.Frag} {H : Hp} : ∀ {ps : List (V × D)}, (∀ p ∈ ps, Rp K H p.1 p.2) → RpAll K H (ps.map (·.1)) (ps.map (·.2))
  | [], _ => .nil
  | p :: ps, h => .cons (h p (by simp)) (RpAll.of_mem fun q hq => h q (by simp [hq]))
theorem RpAll.mem_zip {K : PySem.W.Frag} {H : Hp} : ∀ {xs : List V} {ds : List D}, RpAll K H xs ds → ∀ p ∈ xs.zip ds, Rp K H p.1 p.2
  | _, _, .nil, p, hp => nomatch hp
  | _, _, .cons h t, p, hp => by
    rw [List.zip_cons_cons] at hp
    rcases List.mem_cons.mp hp with rfl | hp
    · exact h
    · exact RpAll.mem_zip t p hp
theorem RpAll.len {K : PySem.W.Frag} {H : Hp} : ∀ {xs : List V} {ds : List D}, RpAll K H xs ds → xs.length = ds.length
  | _, _, .nil => rfl
  | _, _, .cons _ t => congrArg (· + 1) (RpAll.len t)
theorem call_sortedD (hu : X.A.units + 12 < cLine) : CallR X (.builtin "sorted") (fun vs H Q => ∃ a xs ds, vs = [.ref a] ∧ SqL X.K H a xs ∧ RpAll X.K H xs ds ∧ SortOk ds ∧
    ∀ ys p, H p = none → RpAll X.K H ys (sortD ds) → Q (.ref p) (upd H p (.lst ys))) := by
  intro pins s σ H vs us Q I r h
  obtain ⟨a, xs, ds, rfl, hs, hr, ok, q⟩ := h
  obtain ⟨its, rv, hl, hz⟩ := I.list hs
  rw [Vals.ref1 r]
  have hlen := rv.length
  have e0 : PySem.W.EachIs (fun v d => ∃ as, Reads s.heap v d as) its ds := by
    have go : ∀ {xs : List V} {ds : List D} {us : List Value}, RpAll X.K H xs ds → Vals xs us → (∀ d ∈ ds, nod d = true) → PySem.W.EachIs (fun v d => ∃ as, Reads s.heap v d as) us ds := by
      intro xs
      induction xs with
      | nil => intro ds us r v _; cases r; cases v; exact .nil
      | cons x xs ih =>
        intro ds us r v n
        cases r with
        | cons r1 r2 =>
          cases v with
          | cons v1 v2 => exact .cons (Dp.reads I _ _ _ ((Rq.of r1).dp (n _ (by simp))) v1) (ih r2 v2 fun d hd => n d (by simp [hd]))
    exact go hr rv ok.nd
  have e1 : PySem.W.EachIs (fun v d => ∃ as, Reads (PySem.W.sortingHeap (PySem.W.copyHeap s.heap its) (s.heap.objs.size + 1) its) v d as) its ds :=
    e0.mono fun v d ⟨as, h⟩ => ⟨as, PyProof.Rows.Reads.keeps (fun b o e => PySem.W.sorting_copy_old e) h⟩
  have hu2 : X.A.in1.in1.units ≤ X.A.units + 2 := by simp [Around.in1, Around.units]; try omega
  refine PySem.W.sorted_vals hl.isList (PySem.W.SortsAt.data e1 ok.al ok.so fun d hd => by have := ok.dp d hd; omega) (by omega) ?_
  have key : PySem.W.EachIs (fun (v : Value) (p : V × D) => (PySem.W.dataKind (PySem.W.sortingHeap (PySem.W.copyHeap s.heap its) (s.heap.objs.size + 1) its) ds).keyOf v = some (PySem.W.keyToks p.2)) its (xs.zip ds) := by
    have go : ∀ {xs : List V} {es : List D} {us : List Value}, RpAll X.K H xs es → Vals xs us → (∀ d ∈ es, d ∈ ds) → PySem.W.EachIs (fun v d => ∃ as, Reads (PySem.W.sortingHeap (PySem.W.copyHeap s.heap its) (s.heap.objs.size + 1) its) v d as) us es →
        PySem.W.EachIs (fun (v : Value) (p : V × D) => (PySem.W.dataKind (PySem.W.sortingHeap (PySem.W.copyHeap s.heap its) (s.heap.objs.size + 1) its) ds).keyOf v = some (PySem.W.keyToks p.2)) us (xs.zip es) := by
      intro xs
      induction xs with
      | nil => intro es us r v _ _; cases r; cases v; exact .nil
      | cons x xs ih =>
        intro es us r v n e
        cases r with
        | cons r1 r2 =>
          cases v with
          | cons v1 v2 =>
            cases e with
            | cons e1 e2 =>
              obtain ⟨as, e1⟩ := e1
              exact .cons (PySem.W.dataKind_some ok.al (n _ (by simp)) e1) (ih r2 v2 (fun d hd => n d (by simp [hd])) e2)
    exact go hr rv (fun _ h => h) e1
  have srt := PySem.W.sortVals_each (rev := false) (κ := PySem.W.dataKind (PySem.W.sortingHeap (PySem.W.copyHeap s.heap its) (s.heap.objs.size + 1) its) ds) (fun p : V × D => PySem.W.keyToks p.2) (EachIs.zipV hr rv) key
  generalize hps : (xs.zip ds).mergeSort (PySem.W.sortLe (PySem.W.dataKind (PySem.W.sortingHeap (PySem.W.copyHeap s.heap its) (s.heap.objs.size + 1) its) ds).toKeyOrd false fun p : V × D => PySem.W.keyToks p.2) = ps at srt
  have perm : ps.Perm (xs.zip ds) := by rw [← hps]; exact List.mergeSort_perm _ _
  have snd : ps.map (·.2) = sortD ds := by
    rw [← hps]
    have := PySem.W.sort_maps (r := PySem.W.sortLe (PySem.W.dataKind (PySem.W.sortingHeap (PySem.W.copyHeap s.heap its) (s.heap.objs.size + 1) its) ds).toKeyOrd false fun p : V × D => PySem.W.keyToks p.2) (s := fun a b => !PySem.W.dataLt b a) (fun p : V × D => p.2) (l := xs.zip ds) (fun a _ b _ => rfl)
    refine this.trans ?_
    unfold sortD
    congr 1
    rw [List.map_snd_zip]
    have := hr.len
    omega
  have rp : RpAll X.K H (ps.map (·.1)) (sortD ds) := by
    rw [← snd]
    exact RpAll.of_mem fun p hp => hr.mem_zip p (perm.mem_iff.mp hp)
  obtain ⟨ep, he'⟩ := PyProof.Rows.sortedAll_at s.heap its (PySem.W.sortVals (PySem.W.dataKind (PySem.W.sortingHeap (PySem.W.copyHeap s.heap its) (s.heap.objs.size + 1) its) ds) false its its).toArray
  have hl2 : (ps.map (·.1)).length ≤ sizeLine := by
    rw [List.length_map, perm.length_eq, List.length_zip]
    omega
  have vv := each_fst (K := X.K) (H := H) srt
  exact ⟨.ref _, upd H (s.heap.objs.size + 1) (.lst (ps.map (·.1))), I.laid (t' := s.toks) (fun _ _ => PyProof.Rows.sortedAll_old) (Nat.le_succ _) ⟨hl2, _, ep, vv, he'⟩, rfl, q _ _ (I.hok.fresh (Nat.le_succ _)) rp⟩
theorem c_sorted {ds : List D} (hu : X.A.units + 12 < cLine) (ok : SortOk ds) : CallV X (.builtin "sorted") [.list ds] (.new (sortD ds)) := fun H vs Q r q => by
  obtain ⟨v, rfl, r0⟩ := paired1 r
  obtain ⟨a, xs, rfl, hs, hr⟩ := r0.lst
  exact ⟨_, call_sortedD hu, a, xs, ds, rfl, hs, hr, ok, fun ys p hp hy => q _ _ ⟨same_new hp, p, _, rfl, hp, upd_same, hy.mono (stb_new hp)⟩⟩
end
end DL


namespace DL
open PySem PySem.Spec PyProof.Rows L2 HT
/-! ### t[::-1] -/
section
variable {prog : Program} {w : World} {A : Around} {E : Value → Shared → Prop} {s : Shared}
theorem sliceApplied_rev {sl : Addr} {vl vu vs : Value} {n : Nat} {Q : Int × Int × Nat → Shared → Prop} (hs : s.heap.IsSliceOf sl vl vu vs) (pl : IsPart vl none) (pu : IsPart vu none) (ps : IsPart vs (some (-1)))
    (h : Q ((n : Int) - 1, -1, n) s) : wpAny (model prog w) A (Builtin.Slice.sliceApplied (.ref sl) (pure (n : Int))) Q E s := by
  obtain ⟨os, hos, hcs, hds⟩ := id hs
  unfold Builtin.Slice.sliceApplied Builtin.Slice.sliceFields
  refine wpAny_bind (wpAny_bind (wpAny_field hos hds (x := vl) rfl (wpAny_bind (wpAny_field hos hds (x := vu) rfl (wpAny_bind (wpAny_field hos hds (x := vs) rfl (wpAny_pure ?_)))))))
  refine wpAny_bind (slicePart_ ps ?_)
  show wpAny _ _ (if ((-1 : Int) == 0) = true then _ else _) _ _ s
  rw [if_neg (by decide)]
  refine wpAny_bind (slicePart_ pl (wpAny_bind (slicePart_ pu (wpAny_bind (wpAny_pure ?_)))))
  show wpAny _ _ (pure ((n : Int) - 1, (-1 : Int), Builtin.Slice.slicePlaces ((n : Int) - 1) (-1) (-1))) _ _ s
  have e : Builtin.Slice.slicePlaces ((n : Int) - 1) (-1) (-1) = n := by
    unfold Builtin.Slice.slicePlaces
    rw [if_neg (by decide)]
    by_cases h0 : (n : Int) - 1 > -1
    · rw [if_pos h0]
      have : (-(-1 : Int)) = 1 := by decide
      rw [this, Int.ediv_one]
      omega
    · rw [if_neg h0]; omega
  rw [e]
  exact wpAny_pure h
theorem fm_congr {α β : Type} {f g : α → Option β} : ∀ {l : List α}, (∀ a ∈ l, f a = g a) → l.filterMap f = l.filterMap g
  | [], _ => rfl
  | a :: l, h => by rw [List.filterMap_cons, List.filterMap_cons, h a (by simp), fm_congr fun b hb => h b (by simp [hb])]
theorem pick_rev (xs : Array Value) : ((List.range xs.size).filterMap fun (m : Nat) => xs[(((xs.size : Int) - 1) + (m : Int) * (-1)).toNat]?).toArray = xs.toList.reverse.toArray := by
  have e : ((List.range xs.size).filterMap fun (m : Nat) => xs[(((xs.size : Int) - 1) + (m : Int) * (-1)).toNat]?) = ((List.range xs.size).map fun k => xs.size - 1 - k).filterMap (xs[·]?) := by
    rw [List.filterMap_map]
    apply fm_congr
    intro k hk
    have := List.mem_range.mp hk
    have e : (((xs.size : Int) - 1) + (k : Int) * (-1)).toNat = xs.size - 1 - k := by omega
    rw [e]; rfl
  rw [e, PySem.W.krv_range, List.filterMap_reverse, PySem.W.krv_all]
theorem getItem_tuple_rev {t sl : Addr} {items : Array Value} {vl vu vs : Value} {Q : Value → Shared → Prop} (ht : IsTup s.heap t items) (hs : s.heap.IsSliceOf sl vl vu vs) (pl : IsPart vl none) (pu : IsPart vu none) (ps : IsPart vs (some (-1)))
    (h : Q (.ref s.heap.objs.size) { s with heap := s.heap.push { cls := .type "tuple", data := .seq items.toList.reverse.toArray } })
    (hsz : items.size ≤ sizeLine) : wpAny (model prog w) A (getItem (.ref t) (.ref sl)) Q E s := by
  have htake : sizeOk (.seq items.toList.reverse.toArray) := by
    show items.toList.reverse.toArray.size ≤ sizeLine
    rw [List.size_toArray, List.length_reverse, Array.length_toList]
    omega
  obtain ⟨os, hos, hcs, hds⟩ := id hs
  have hTs : s.TypeIs (.ref sl) "slice" := ⟨os, hos, hcs⟩
  unfold getItem
  try with_reducible refine wpAny_holding ?_
  first | refine wpAny_bind (wpAny_pure ?_) | skip
  refine wpAny_bind (wpAny_sequenceKey ht.typeIs (by decide) ?_)
  refine wpAny_bind (wpAny_callSpecial?_slot (name := Str.ofString "__getitem__") ht.typeIs PyProof.Rows.slot_tuple_getitem
    (wpAny_call_entry PyProof.Rows.slot_tuple_getitem ht.typeIs entry_tuple_getitem ?_ (args_tuple_getitem _ _)))
  show wpAny _ _ (Builtin.Tuple.tupleItemsOf (.ref t) >>= _) _ _ s
  refine wpAny_bind (tupleItemsOf_ ht ?_)
  refine wpAny_bind (wpAny_typeOf hTs ?_)
  rw [if_pos (by decide)]
  refine wpAny_bind (sliceApplied_rev hs pl pu ps ?_)
  have hno : ¬ ((((items.size : Int) - 1) == 0 && (-1 : Int) == 1 && items.size == items.size) = true) := by
    intro q
    rw [Bool.and_eq_true, Bool.and_eq_true] at q
    exact absurd q.1.2 (by decide)
  show wpAny _ _ (if (((items.size : Int) - 1) == 0 && (-1 : Int) == 1 && items.size == items.size) = true then _ else _) _ _ s
  rw [if_neg hno, pick_rev]
  first
    | exact wpAny_bind (m := Builtin.Tuple.tupleExact _) (wpAny_newObj_type (wpAny_pure ⟨_, rfl, wpAny_pure h⟩) htake)
    | exact wpAny_bind (m := Builtin.Tuple.tupleExact _) (wpAny_newObj_type (wpAny_bind (wpAny_pure (wpAny_pure ⟨_, rfl, wpAny_pure h⟩))) htake)
    | exact wpAny_bind (wpAny_bind (m := Builtin.Tuple.tupleExact _) (wpAny_newObj_type (wpAny_pure (wpAny_pure ⟨_, rfl, wpAny_pure h⟩)) htake))
    | exact wpAny_bind (wpAny_bind (m := Builtin.Tuple.tupleExact _) (wpAny_newObj_type (wpAny_pure ⟨_, rfl, wpAny_pure h⟩) htake))
end
section
variable {X : Cx} {ρ : Rho} {ds : List D}
theorem pe_revT {e : Expr} {te : TE} {k : Nat} {p1 p2 p3 pos : Pos} (he : PE X e te) : PE X (.Subscript e (.Slice none none (some (.UnaryOp .USub (.Constant (.int 1) k p1) p2)) p3) pos) (fun σ H Q => te σ H fun x H1 => ∃ a xs, x = .ref a ∧ SqT X.K H1 a xs ∧ ∀ p o, H1 p = none → o.dict = none → Q (.ref p) (upd H1 p (.frz o (.tup xs.reverse)))) := by
  refine ⟨fun pins s σ H Q I h => ?_⟩
  refine Subscript_ (thn (he.run pins s σ H _ I h) fun v s1 ⟨x, H1, I1, r1, q1⟩ => ?_)
  obtain ⟨a, xs, ex, hx, q⟩ := q1
  subst ex
  cases r1
  have hst : PO X (some (.UnaryOp .USub (.Constant (.int 1) k p1) p2)) (tPart (tUn (rU fun i => .int (-i)) (tC (.int 1)))) := po_some (pe_un un_neg pe_int)
  refine wpAny_Slice (thn (po_none.run pins s1 σ H1 (fun o H2 => o = none ∧ H2 = H1) I1 ⟨rfl, rfl⟩) fun vl s2 ⟨l, H2, I2, pl, el, e2⟩ => ?_)
  subst el e2
  refine thn (po_none.run pins s2 σ H2 (fun o H3 => o = none ∧ H3 = H2) I2 ⟨rfl, rfl⟩) fun vu s3 ⟨u, H3, I3, pu, eu, e3⟩ => ?_
  subst eu e3
  refine thn (hst.run pins s3 σ H3 (fun o H4 => o = some (-1) ∧ H4 = H3) I3 ⟨1, rfl, -1, rfl, rfl, rfl⟩) fun vs s4 ⟨o, H4, I4, ps, eo, e4⟩ => ?_
  subst eo e4
  have I5 : Inv X pins σ H4 { s4 with heap := s4.heap.push { cls := .type "slice", data := .fields #[vl, vu, vs] } } := I4.kept (t' := s4.toks) fun b ob q => Heap.get?_push_of_some _ q
  obtain ⟨its, r, ht, hz⟩ := I5.tuple hx
  have hlen := r.length
  show wpAny (model X.prog X.w) X.A (subscriptTail e (.Slice none none (some (.UnaryOp .USub (.Constant (.int 1) k p1) p2)) p3) (.ref a) (.ref s4.heap.objs.size)) (EP X pins σ Q) X.xe { s4 with heap := s4.heap.push { cls := .type "slice", data := .fields #[vl, vu, vs] } }
  refine tail_any (ops := [.ref a, .ref s4.heap.objs.size]) ht.typeIs (PyProof.Rows.slot_tuple_getitem.lookup) ?_ (by with_unfolding_all rfl)
  refine getItem_tuple_rev ht (Heap.IsSliceOf.new _ vl vu vs) pl pu ps ?_ (by rw [List.size_toArray]; omega)
  exact ⟨.ref _, _, inv_tup (t' := s4.toks) I5 (fun b u e => Heap.get?_push_of_some _ e) (Nat.le_refl _) (Heap.get?_push_size _ rfl) rfl rfl r.reverse (by rw [List.length_reverse]; exact hz), rfl, q _ _ (I5.hok.fresh (Nat.le_refl _)) rfl⟩
theorem ev_revT {e : Expr} {k : Nat} {p1 p2 p3 pos : Pos} (h : Ev X e ρ (.qua (.tuple ds))) : Ev X (.Subscript e (.Slice none none (some (.UnaryOp .USub (.Constant (.int 1) k p1) p2)) p3) pos) ρ (.val (.tuple ds.reverse)) := fun σ H Q S q =>
  ⟨_, pe_revT pe_c, h σ H _ S fun v H1 ⟨s1, r1⟩ => by
    obtain ⟨a, xs, rfl, hs, hr⟩ := r1.tup
    exact ⟨a, xs, rfl, hs, fun p o hp ho => q _ _ ⟨s1.trans (same_new hp), rp_tupNew hp ho hr.reverse⟩⟩⟩
theorem ev_revL {e : Expr} {k : Nat} {p1 p2 p3 pos : Pos} (h : Ev X e ρ (.qua (.list ds))) : Ev X (.Subscript e (.Slice none none (some (.UnaryOp .USub (.Constant (.int 1) k p1) p2)) p3) pos) ρ (.new ds.reverse) := fun σ H Q S q =>
  ⟨_, pe_revL pe_c, h σ H _ S fun v H1 ⟨s1, r1⟩ => by
    obtain ⟨a, xs, rfl, hs, hr⟩ := r1.lst
    exact ⟨a, xs, rfl, hs, fun p hp => q _ _ ⟨s1.trans (same_new hp), p, _, rfl, s1.free hp, upd_same, hr.reverse.mono (stb_new hp)⟩⟩⟩
/-! ### xs == [] -/
theorem eqv_nilL : PyData.eqv (.list ds) (.list []) = ds.isEmpty := by cases ds <;> simp [PyData.eqv, PyData.eqvAll]
theorem eqv_nilT : PyData.eqv (.tuple ds) (.tuple []) = ds.isEmpty := by cases ds <;> simp [PyData.eqv, PyData.eqvAll]
theorem o_eqNil {n : Nat} (hx : PlAll n ds) (hu : X.A.units + 64 < cLine) (hn : n + 1 ≤ 64 := by decide) : OpV X (compareOp .Eq) (.list ds) (.list []) (.val (.bool ds.isEmpty)) := by
  rw [← eqv_nilL]; exact o_eqD (pl_lst hx) (pl_lst (n := 0) pla_nil) hu hn
theorem o_neNil {n : Nat} (hx : PlAll n ds) (hu : X.A.units + 64 < cLine) (hn : n + 1 ≤ 64 := by decide) : OpV X (compareOp .NotEq) (.list ds) (.list []) (.val (.bool (!ds.isEmpty))) := by
  rw [← eqv_nilL]; exact o_neD (pl_lst hx) (pl_lst (n := 0) pla_nil) hu hn
theorem o_eqNilT {n : Nat} (hx : PlAll n ds) (hu : X.A.units + 64 < cLine) (hn : n + 1 ≤ 64 := by decide) : OpV X (compareOp .Eq) (.tuple ds) (.tuple []) (.val (.bool ds.isEmpty)) := by
  rw [← eqv_nilT]; exact o_eqD (pl_tup hx) (pl_tup (n := 0) pla_nil) hu hn
theorem o_neNilT {n : Nat} (hx : PlAll n ds) (hu : X.A.units + 64 < cLine) (hn : n + 1 ≤ 64 := by decide) : OpV X (compareOp .NotEq) (.tuple ds) (.tuple []) (.val (.bool (!ds.isEmpty))) := by
  rw [← eqv_nilT]; exact o_neD (pl_tup hx) (pl_tup (n := 0) pla_nil) hu hn
/-- equality of strings or numbers, deep -/
theorem eqv_strs (l m : List Str) : PyData.eqvAll (l.map .str) (m.map .str) = decide (l = m) := by
  induction l generalizing m with
  | nil => cases m <;> simp [PyData.eqvAll]
  | cons a l ih =>
    cases m with
    | nil => simp [PyData.eqvAll]
    | cons b m =>
      simp only [List.map_cons, PyData.eqvAll, PyData.eqv, ih]
      by_cases h : a = b <;> by_cases h2 : l = m <;> simp [h, h2]
end
end DL


/-! Who stands, by the laws. -/
namespace DL
open PySem L2
def lawGive (p : Part) (w : Want) : Bool := !(p.faces.filter fun f => decide (f.1 = w.face) && (decide (w.low ≤ f.2) && decide (f.2 ≤ w.high))).isEmpty
def lawOthers (ps : List Part) (n : Str) (w : Want) : List Part := ps.filter fun q => !decide (q.name = n) && lawGive q w
def lawGood (ps : List Part) (p : Part) (ws : List Want) : Bool := ws.all fun w => !(lawOthers ps p.name w).isEmpty || !w.must
def lawStep (ps : List Part) : List Part := ps.filter fun p => lawGood ps p p.wants
theorem lawStep_len (ps : List Part) : (lawStep ps).length ≤ ps.length := List.length_filter_le _ _
def lawIt : Nat → List Part → List Part
  | 0, ps => ps
  | n + 1, ps => lawIt n (lawStep ps)
def lawStand (h : List Part) : List Part := lawIt 7 h
def standIt : Nat → List Part → List Part
  | 0, ps => ps
  | n + 1, ps => if (stands ps).length < ps.length then standIt n (stands ps) else ps
theorem stands_len (ps : List Part) : (stands ps).length ≤ ps.length := List.length_filter_le _ _
theorem standIt_ge : ∀ {n m : Nat} {ps : List Part}, ps.length ≤ n → ps.length ≤ m → standIt n ps = standIt m ps
  | 0, 0, _, _, _ => rfl
  | 0, m + 1, ps, h, _ => by rw [standIt, standIt, if_neg (by omega)]
  | n + 1, 0, ps, _, h => by rw [standIt, standIt, if_neg (by omega)]
  | n + 1, m + 1, ps, h1, h2 => by
    rw [standIt, standIt]
    by_cases h : (stands ps).length < ps.length
    · rw [if_pos h, if_pos h, standIt_ge (n := n) (m := m) (by omega) (by omega)]
    · rw [if_neg h, if_neg h]
/-- who stands -/
def st (h : List Part) : List Part := standIt h.length h
/-- what is asked of a house that is walked -/
structure WfH (h : List Part) : Prop where
  ok : OkH h
  len : h.length ≤ 64
  wl : ∀ p ∈ h, p.wants.length ≤ 64
theorem WfH.filter {h : List Part} {f : Part → Bool} (w : WfH h) : WfH (h.filter f) := ⟨w.ok.filter, Nat.le_trans (List.length_filter_le _ _) w.len, fun p hp => w.wl p (List.mem_filter.mp hp).1⟩
theorem standIt_sub : ∀ (n : Nat) (h : List Part), ∀ p ∈ standIt n h, p ∈ h
  | 0, _, _, hp => hp
  | n + 1, h, p, hp => by
    rw [standIt] at hp
    split at hp
    · exact (List.mem_filter.mp (standIt_sub n _ p hp)).1
    · exact hp
theorem st_sub (h : List Part) : ∀ p ∈ st h, p ∈ h := standIt_sub _ _
theorem WfH.st {h : List Part} (w : WfH h) : OkH (st h) := w.ok.sub (st_sub h)
def encSS (q : Str × Str) : D := .tuple [.str q.1, .str q.2]
def notIn (ps : List Part) (p : Part) : Bool := !((ps.map encP).any fun z => PyData.eqv z (encP p))
def lackOf (h ps : List Part) : List (Str × Str) := h.flatMap fun p => if notIn ps p then (lacksL ps p).map fun f => (p.name, f) else []
theorem lackOf_len (h ps : List Part) (hw : ∀ p ∈ h, p.wants.length ≤ 64) : (lackOf h ps).length ≤ h.length * 64 := by
  induction h with
  | nil => simp [lackOf]
  | cons p h ih =>
    have := ih fun q hq => hw q (by simp [hq])
    unfold lackOf at *
    rw [List.flatMap_cons, List.length_append, List.length_cons]
    have e : (if notIn ps p then (lacksL ps p).map fun f => (p.name, f) else []).length ≤ 64 := by
      split
      · rw [List.length_map]
        unfold lacksL
        rw [List.length_map]
        exact Nat.le_trans (List.length_filter_le _ _) (hw p (by simp))
      · simp
    omega
def encIS (q : Int × Str) : D := .tuple [.int q.1, .str q.2]
def sortIS (l : List (Int × Str)) : List (Int × Str) := l.mergeSort fun a b => !PySem.W.dataLt (encIS b) (encIS a)
def optS : Option Str → D
  | none => .none
  | some s => .str s
theorem sortIS_map (l : List (Int × Str)) : sortD (l.map encIS) = (sortIS l).map encIS := by
  unfold sortD sortIS
  exact (PySem.W.sort_maps encIS fun a _ b _ => rfl).symm
def lawSome (ps : List Part) (n : Str) (w : Want) : List (Int × Str) := (lawOthers ps n w).map fun p => (0 - makeOf p w.face, p.name)
theorem lawSome_len (ps : List Part) (n : Str) (w : Want) : (lawSome ps n w).length ≤ ps.length := by
  unfold lawSome lawOthers
  rw [List.length_map]
  exact List.length_filter_le _ _
theorem sortD_len (l : List D) : (sortD l).length = l.length := by unfold sortD; rw [List.length_mergeSort]
theorem atI_zero (d : D) (l : List D) : atI (d :: l) 0 = some d := by unfold atI ixN; simp
theorem atI_head {α : Type} {l : List α} {f : α → D} {a : α} (h : l.head? = some a) : atI (l.map f) 0 = some (f a) := by
  cases l with
  | nil => simp at h
  | cons b l => simp at h; subst h; exact atI_zero _ _
def lawGiver (ps : List Part) (n : Str) (w : Want) : Option Str := (sortIS (lawSome ps n w)).head?.map (·.2)
def better (x : Str) (b : Option Part) (p : Part) : Option Part := match b with
  | none => some p
  | some q => if makeOf q x < makeOf p x then some p else some q
def bestOf (x : Str) (l : List Part) : Option Part := l.foldl (better x) none
def giverAmong (ps : List Part) (n : Str) (w : Want) : Option Str := (bestOf w.face (giversFor ps n w)).map (·.name)
def optP : Option Part → D
  | none => .none
  | some p => encP p
theorem lookF_some {fs : List (Str × Int)} {x : Str} (h : ∃ f ∈ fs, f.1 = x) : ∃ k, lookF fs x = some k := by
  unfold lookF
  have : ∀ (l : List (Str × Int)) (a : Option Int), ((∃ f ∈ l, f.1 = x) ∨ a.isSome = true) → ∃ k, l.foldl (fun acc f => if x = f.1 then some f.2 else acc) a = some k := by
    intro l
    induction l with
    | nil =>
      intro a h
      rcases h with ⟨f, hf, _⟩ | h
      · cases hf
      · exact Option.isSome_iff_exists.mp h
    | cons f l ih =>
      intro a h
      rw [List.foldl_cons]
      refine ih _ ?_
      by_cases e : x = f.1
      · rw [if_pos e]; exact .inr rfl
      · rw [if_neg e]
        rcases h with ⟨g, hg, e2⟩ | h
        · rcases List.mem_cons.mp hg with rfl | hg
          · exact absurd e2.symm e
          · exact .inl ⟨g, hg, e2⟩
        · exact .inr h
  exact this fs none (.inl h)
theorem lawGive_look {p : Part} {w : Want} (h : lawGive p w = true) : lookD (mergeD [] (facesK p.faces)) (.inr w.face) = some (.int (makeOf p w.face)) := by
  unfold lawGive at h
  have : ∃ f ∈ p.faces, f.1 = w.face := by
    cases hl : (p.faces.filter fun f => decide (f.1 = w.face) && (decide (w.low ≤ f.2) && decide (f.2 ≤ w.high))) with
    | nil => rw [hl] at h; simp at h
    | cons f l =>
      have : f ∈ p.faces.filter fun f => decide (f.1 = w.face) && (decide (w.low ≤ f.2) && decide (f.2 ≤ w.high)) := by rw [hl]; simp
      have := List.mem_filter.mp this
      simp only [Bool.and_eq_true, decide_eq_true_eq] at this
      exact ⟨f, this.1, this.2.1⟩
  obtain ⟨k, hk⟩ := lookF_some this
  rw [look_faces]
  unfold makeOf
  rw [hk]
  rfl
end DL


/-! Who stands: the program's way and the laws' way come to the same. -/
namespace DL
open PySem L2
structure GoodP (p : Part) : Prop where
  fs : (p.faces.map (·.1)).Nodup
  ws : (p.wants.map (·.face)).Nodup
  lo : ∀ w ∈ p.wants, 1 ≤ w.low
structure GoodH (h : List Part) : Prop where
  wf : WfH h
  gp : ∀ p ∈ h, GoodP p
  nm : h.Pairwise fun p q => p.name.cps.toList < q.name.cps.toList
  len : h.length ≤ 7
theorem look_none {x : Str} : ∀ (l : List (Str × Int)) (a : Option Int), (∀ f ∈ l, f.1 ≠ x) → l.foldl (fun acc f => if x = f.1 then some f.2 else acc) a = a
  | [], _, _ => rfl
  | f :: l, a, h => by
    rw [List.foldl_cons, if_neg fun e => h f (by simp) e.symm]
    exact look_none l a fun g hg => h g (by simp [hg])
theorem look_one {x : Str} : ∀ (l : List (Str × Int)) (a : Option Int), (l.map (·.1)).Nodup → ∀ f ∈ l, f.1 = x → l.foldl (fun acc f => if x = f.1 then some f.2 else acc) a = some f.2
  | [], _, _, _, h, _ => nomatch h
  | g :: l, a, n, f, h, e => by
    rw [List.foldl_cons]
    rw [List.map_cons, List.nodup_cons] at n
    rcases List.mem_cons.mp h with rfl | h
    · rw [if_pos e.symm, look_none]
      rintro k hk rfl
      exact n.1 (List.mem_map.mpr ⟨k, hk, e.symm⟩)
    · exact look_one l _ n.2 f h e
theorem gives_eq {p : Part} {w : Want} (g : (p.faces.map (·.1)).Nodup) (lo : 1 ≤ w.low) : gives p w = lawGive p w := by
  unfold gives lawGive makeOf lookF
  by_cases h : ∃ f ∈ p.faces, f.1 = w.face
  · obtain ⟨f, hf, e⟩ := h
    rw [look_one _ _ g f hf e, Option.getD_some]
    rw [Bool.eq_iff_iff]
    simp only [Bool.and_eq_true, decide_eq_true_eq, Bool.not_eq_true', List.isEmpty_eq_false_iff, ne_eq, List.filter_eq_nil_iff]
    constructor
    · intro z hall; exact hall f hf ⟨e, z⟩
    · intro hall
      obtain ⟨k, hk, ek, z⟩ : ∃ k ∈ p.faces, k.1 = w.face ∧ w.low ≤ k.2 ∧ k.2 ≤ w.high := Classical.byContradiction fun no => hall fun a ha z => no ⟨a, ha, z⟩
      have e1 := look_one _ none g f hf e
      rw [look_one _ none g k hk ek] at e1
      rw [← Option.some.inj e1]; exact z
  · rw [look_none _ _ fun f hf e => h ⟨f, hf, e⟩]
    have : (p.faces.filter fun f => decide (f.1 = w.face) && (decide (w.low ≤ f.2) && decide (f.2 ≤ w.high))) = [] := by
      rw [List.filter_eq_nil_iff]
      intro f hf
      simp only [Bool.and_eq_true, decide_eq_true_eq]
      exact fun z => h ⟨f, hf, z.1⟩
    rw [this]
    simp
    intro z; omega
theorem GoodH.filter {h : List Part} {f : Part → Bool} (g : GoodH h) : GoodH (h.filter f) := ⟨g.wf.filter, fun p hp => g.gp p (List.mem_filter.mp hp).1, g.nm.filter f, Nat.le_trans (List.length_filter_le _ _) g.len⟩
theorem others_eq {ps : List Part} (g : ∀ p ∈ ps, GoodP p) {n : Str} {w : Want} (lo : 1 ≤ w.low) : giversFor ps n w = lawOthers ps n w := by
  unfold giversFor lawOthers
  apply List.filter_congr
  intro p hp
  rw [gives_eq (g p hp).fs lo]
  rfl
theorem step_eq {ps : List Part} (g : ∀ p ∈ ps, GoodP p) : stands ps = lawStep ps := by
  unfold stands lawStep
  apply List.filter_congr
  intro p hp
  unfold lacksL lawGood
  rw [isE_map, Bool.eq_iff_iff, List.isEmpty_iff, List.filter_eq_nil_iff, List.all_eq_true]
  constructor
  · intro h w hw
    have := h w hw
    rw [others_eq g ((g p hp).lo w hw)] at this
    cases hm : w.must <;> cases he : (lawOthers ps p.name w).isEmpty <;> simp_all
  · intro h w hw
    have := h w hw
    rw [others_eq g ((g p hp).lo w hw)]
    cases hm : w.must <;> cases he : (lawOthers ps p.name w).isEmpty <;> simp_all
theorem standIt_eq : ∀ {n m : Nat} {ps : List Part}, (∀ p ∈ ps, GoodP p) → ps.length ≤ n → ps.length ≤ m → lawIt n ps = standIt m ps
  | 0, 0, _, _, _, _ => rfl
  | 0, m + 1, ps, _, h, _ => by rw [lawIt, standIt, if_neg (by omega)]
  | n + 1, m, ps, g, h1, h2 => by
    rw [lawIt, ← step_eq g]
    by_cases h : (stands ps).length < ps.length
    · cases m with
      | zero => omega
      | succ m =>
        rw [standIt, if_pos h]
        exact standIt_eq (fun p hp => g p (List.mem_filter.mp hp).1) (by omega) (by omega)
    · have e : stands ps = ps := by
        unfold stands at h ⊢
        rw [List.filter_eq_self]
        intro p hp
        exact Classical.byContradiction fun z => h (by
          rw [List.length_filter_lt_length_iff_exists]
          exact ⟨p, hp, z⟩)
      rw [e]
      have e2 : standIt m ps = ps := by
        cases m with
        | zero => rfl
        | succ m => rw [standIt, if_neg h]
      rw [e2]
      clear h1 h2 h e2
      induction n with
      | zero => rfl
      | succ n ih => rw [lawIt, ← step_eq g, e]; exact ih
theorem GoodH.stand {h : List Part} (g : GoodH h) : lawStand h = DL.st h := standIt_eq g.gp g.len (Nat.le_refl _)
theorem standIt_sublist : ∀ (n : Nat) (h : List Part), (standIt n h).Sublist h
  | 0, _ => .refl _
  | n + 1, h => by
    rw [standIt]
    split
    · exact (standIt_sublist n _).trans List.filter_sublist
    · exact .refl _
theorem GoodH.st {h : List Part} (g : GoodH h) : GoodH (DL.st h) :=
  ⟨⟨g.wf.st, Nat.le_trans (standIt_sublist _ h).length_le g.wf.len, fun p hp => g.wf.wl p (st_sub h p hp)⟩, fun p hp => g.gp p (st_sub h p hp), g.nm.sublist (standIt_sublist _ h), Nat.le_trans (standIt_sublist _ h).length_le g.len⟩
theorem name_inj {h : List Part} (g : GoodH h) {p q : Part} (hp : p ∈ h) (hq : q ∈ h) (e : p.name = q.name) : p = q := by
  have := g.nm
  clear g
  induction h with
  | nil => cases hp
  | cons a h ih =>
    rw [List.pairwise_cons] at this
    rcases List.mem_cons.mp hp with e1 | h1 <;> rcases List.mem_cons.mp hq with e2 | h2
    · rw [e1, e2]
    · have z := this.1 q h2; rw [← e1, e] at z; exact absurd z (List.lt_irrefl _)
    · have z := this.1 p h1; rw [← e2, e] at z; exact absurd z (List.lt_irrefl _)
    · exact ih h1 h2 this.2
theorem head_name {h : List Part} (g : GoodH h) {p : Part} (hp : p ∈ h) : (h.filter fun q => decide (q.name = p.name)).head? = some p := by
  cases e : (h.filter fun q => decide (q.name = p.name)) with
  | nil =>
    rw [List.filter_eq_nil_iff] at e
    exact absurd (e p hp) (by simp)
  | cons q l =>
    have : q ∈ h.filter fun q => decide (q.name = p.name) := by rw [e]; simp
    have := List.mem_filter.mp this
    rw [name_inj g this.1 hp (by simpa using this.2)]; rfl
theorem head_want {p : Part} (n : (p.wants.map (·.face)).Nodup) {w : Want} (hw : w ∈ p.wants) : (p.wants.filter fun v => decide (v.face = w.face)).head? = some w := by
  have inj : ∀ (l : List Want), (l.map (·.face)).Nodup → ∀ v ∈ l, ∀ u ∈ l, v.face = u.face → v = u := by
    intro l
    induction l with
    | nil => intro _ v hv; cases hv
    | cons a l ih =>
      intro n v hv u hu e
      rw [List.map_cons, List.nodup_cons] at n
      rcases List.mem_cons.mp hv with e1 | h1 <;> rcases List.mem_cons.mp hu with e2 | h2
      · rw [e1, e2]
      · exact absurd (List.mem_map.mpr ⟨u, h2, by rw [← e, e1]⟩) n.1
      · exact absurd (List.mem_map.mpr ⟨v, h1, by rw [e, e2]⟩) n.1
      · exact ih n.2 v h1 u h2 e
  cases e : (p.wants.filter fun v => decide (v.face = w.face)) with
  | nil =>
    rw [List.filter_eq_nil_iff] at e
    exact absurd (e w hw) (by simp)
  | cons q l =>
    have : q ∈ p.wants.filter fun v => decide (v.face = w.face) := by rw [e]; simp
    have := List.mem_filter.mp this
    rw [inj _ n q this.1 w hw (by simpa using this.2)]; rfl
end DL


/-! The giver: the first of the greatest make is the least by (minus make, name). -/
namespace DL
open PySem L2
/-- q is ahead of p -/
def Beats (x : Str) (p q : Part) : Prop := makeOf p x < makeOf q x ∨ (makeOf p x = makeOf q x ∧ q.name.cps.toList < p.name.cps.toList)
theorem Beats.trans {x : Str} {p q r : Part} (h1 : Beats x p q) (h2 : Beats x q r) : Beats x p r := by
  rcases h1 with h1 | ⟨h1, n1⟩ <;> rcases h2 with h2 | ⟨h2, n2⟩
  · exact .inl (by omega)
  · exact .inl (by omega)
  · exact .inl (by omega)
  · exact .inr ⟨by omega, List.lt_trans n2 n1⟩
theorem best_inv (x : Str) : ∀ (l : List Part) (b q : Part), (b :: l).Pairwise (fun p q => p.name.cps.toList < q.name.cps.toList) → l.foldl (better x) (some b) = some q → q ∈ b :: l ∧ ∀ p ∈ b :: l, p = q ∨ Beats x p q
  | [], b, q, _, h => by
    cases h
    exact ⟨by simp, fun p hp => .inl (by simpa using hp)⟩
  | a :: l, b, q, n, h => by
    rw [List.foldl_cons] at h
    rw [List.pairwise_cons] at n
    have nb := n.1 a (by simp)
    by_cases e : makeOf b x < makeOf a x
    · rw [show better x (some b) a = some a from if_pos e] at h
      obtain ⟨m, k⟩ := best_inv x l a q n.2 h
      refine ⟨by simp only [List.mem_cons] at m ⊢; exact .inr m, fun p hp => ?_⟩
      rcases List.mem_cons.mp hp with rfl | hp
      · have ba : Beats x p a := .inl e
        rcases k a (by simp) with rfl | z
        · exact .inr ba
        · exact .inr (ba.trans z)
      · exact k p hp
    · rw [show better x (some b) a = some b from if_neg e] at h
      have n2 : (b :: l).Pairwise (fun p q => p.name.cps.toList < q.name.cps.toList) := List.pairwise_cons.mpr ⟨fun p hp => n.1 p (by simp [hp]), (List.pairwise_cons.mp n.2).2⟩
      obtain ⟨m, k⟩ := best_inv x l b q n2 h
      refine ⟨by simp only [List.mem_cons] at m ⊢; rcases m with m | m; exact .inl m; exact .inr (.inr m), fun p hp => ?_⟩
      rcases List.mem_cons.mp hp with rfl | hp
      · exact k p (by simp)
      · rcases List.mem_cons.mp hp with rfl | hp
        · have ab : Beats x p b := by
            by_cases z : makeOf p x < makeOf b x
            · exact .inl z
            · exact .inr ⟨by omega, nb⟩
          rcases k b (by simp) with rfl | z
          · exact .inr ab
          · exact .inr (ab.trans z)
        · exact k p (by simp [hp])
theorem best_some (x : Str) : ∀ (l : List Part) (b : Part), ∃ q, l.foldl (better x) (some b) = some q
  | [], b => ⟨b, rfl⟩
  | a :: l, b => by
    rw [List.foldl_cons]
    unfold better
    simp only
    split
    · exact best_some x l a
    · exact best_some x l b
theorem dataLt_IS (a b : Int) (s t : Str) : PySem.W.dataLt (encIS (a, s)) (encIS (b, t)) = (decide (a < b) || (decide (a = b) && decide (s.cps.toList < t.cps.toList))) := by
  unfold encIS
  rw [PySem.W.dataLt_tuple]
  by_cases e : a = b
  · subst e
    rw [PySem.W.dataLt_all_yes (by simp [PySem.W.alike]) (by simp [PyData.eqv])]
    by_cases f : s = t
    · subst f
      rw [PySem.W.dataLt_all_yes (by simp [PySem.W.alike]) (by simp [PyData.eqv])]
      have e1 : PyProof.Rows.lexLt PyProof.Rows.itemOrd (PySem.W.keyToksAll []) (PySem.W.keyToksAll []) = false := by
        first | exact PyProof.Rows.lex_irrefl _ | exact PySem.W.lex_irrefl _ | exact PySem.lex_irrefl _
      rw [e1]
      simp [List.lt_irrefl]
    · rw [PySem.W.dataLt_all_no (by simp [PySem.W.alike]) (by simp [PyData.eqv, f]), PySem.W.dataLt_str]
      simp
  · rw [PySem.W.dataLt_all_no (by simp [PySem.W.alike]) (by simp [PyData.eqv, e]), PySem.W.dataLt_int]
    simp [e]
theorem sortIS_head {l : List (Int × Str)} {q : Int × Str} {r : List (Int × Str)} (h : sortIS l = q :: r) : q ∈ l ∧ ∀ p ∈ l, PySem.W.dataLt (encIS p) (encIS q) = false := by
  have perm : (sortIS l).Perm l := List.mergeSort_perm _ _
  have pw : (sortIS l).Pairwise fun a b => (!PySem.W.dataLt (encIS b) (encIS a)) = true := PySem.W.sort_pairwise (PySem.W.sortLe_total (PyProof.Rows.listOrd PyProof.Rows.itemOrd) false fun a => PySem.W.keyToks (encIS a)) l
  refine ⟨perm.mem_iff.mp (by rw [h]; simp), fun p hp => ?_⟩
  have hp : p ∈ sortIS l := perm.mem_iff.mpr hp
  rw [h] at hp pw
  rcases List.mem_cons.mp hp with rfl | hp
  · obtain ⟨a, s⟩ := p
    rw [dataLt_IS]; simp [List.lt_irrefl]
  · have := (List.pairwise_cons.mp pw).1 p hp
    simpa using this
theorem giver_eq {ps : List Part} (g : GoodH ps) {n : Str} {w : Want} (lo : 1 ≤ w.low) : giverAmong ps n w = lawGiver ps n w := by
  unfold giverAmong lawGiver lawSome
  rw [others_eq g.gp lo]
  have nm : (lawOthers ps n w).Pairwise (fun p q => p.name.cps.toList < q.name.cps.toList) := g.nm.filter _
  generalize lawOthers ps n w = l at nm
  cases l with
  | nil => simp [sortIS, bestOf]
  | cons b l =>
    obtain ⟨q, hq⟩ := best_some w.face l b
    have hb : bestOf w.face (b :: l) = some q := hq
    rw [hb]
    obtain ⟨m, k⟩ := best_inv w.face l b q nm hq
    cases hs : sortIS ((b :: l).map fun p => (0 - makeOf p w.face, p.name)) with
    | nil =>
      have perm : (sortIS ((b :: l).map fun p => (0 - makeOf p w.face, p.name))).Perm _ := List.mergeSort_perm _ _
      rw [hs] at perm
      exact absurd perm.length_eq (by simp)
    | cons z r =>
      obtain ⟨hz, ht⟩ := sortIS_head hs
      obtain ⟨p, hp, rfl⟩ := List.mem_map.mp hz
      have t := ht _ (List.mem_map.mpr ⟨q, m, rfl⟩)
      rcases k p hp with rfl | e
      · rfl
      · rw [dataLt_IS] at t
        simp only [Bool.or_eq_false_iff, Bool.and_eq_false_iff, decide_eq_false_iff_not] at t
        rcases e with e | ⟨e, f⟩
        · exact absurd (show 0 - makeOf q w.face < 0 - makeOf p w.face by omega) t.1
        · rcases t.2 with t2 | t2
          · exact absurd (show 0 - makeOf q w.face = 0 - makeOf p w.face by omega) t2
          · exact absurd f t2
theorem giver_none {ps : List Part} {n : Str} {w : Want} : (lawGiver ps n w).isNone = (lawOthers ps n w).isEmpty := by
  unfold lawGiver lawSome
  have perm : (sortIS ((lawOthers ps n w).map fun p => (0 - makeOf p w.face, p.name))).Perm _ := List.mergeSort_perm _ _
  cases h : lawOthers ps n w with
  | nil => simp [sortIS]
  | cons a l =>
    rw [h] at perm
    cases hs : sortIS ((a :: l).map fun p => (0 - makeOf p w.face, p.name)) with
    | nil => rw [hs] at perm; exact absurd perm.length_eq (by simp)
    | cons z r => rfl
/-- what is due by the law k10 -/
def dueOf (ps : List Part) (p : Part) : List (Str × Str) := (p.wants.filter fun w => w.must && ((lawGiver ps p.name w).isNone && notIn ps p)).map fun w => (p.name, w.face)
def dueAll (h ps : List Part) : List (Str × Str) := h.flatMap (dueOf ps)
theorem due_eq {ps : List Part} (g : ∀ p ∈ ps, GoodP p) : ∀ {h : List Part}, (∀ p ∈ h, GoodP p) → dueAll h ps = lackOf h ps
  | [], _ => rfl
  | p :: h, gh => by
    have ih := due_eq g (h := h) fun q hq => gh q (by simp [hq])
    unfold dueAll lackOf at *
    rw [List.flatMap_cons, List.flatMap_cons, ih]
    congr 1
    unfold dueOf
    by_cases e : notIn ps p = true
    · rw [if_pos e]
      unfold lacksL
      rw [List.map_map]
      congr 1
      apply List.filter_congr
      intro w hw
      rw [giver_none, e, Bool.and_true, others_eq g ((gh p (by simp)).lo w hw)]
    · rw [if_neg e, List.map_eq_nil_iff, List.filter_eq_nil_iff]
      intro w _ z
      simp only [Bool.and_eq_true] at z
      exact e z.2.2
end DL


/-! The drawn houses are good ones. -/
namespace DL
open PySem L2
theorem pw_app {α : Type} {R : α → α → Prop} {A B : List α} (h : A.length ≤ 1) (hB : B.Pairwise R) (hR : ∀ a ∈ A, ∀ b ∈ B, R a b) : (A ++ B).Pairwise R := by
  rw [List.pairwise_append]
  refine ⟨?_, hB, hR⟩
  match A, h with
  | [], _ => exact .nil
  | [a], _ => exact List.pairwise_singleton _ _
  | a :: b :: l, h => simp at h
theorem pw_short {α : Type} {R : α → α → Prop} {A : List α} (h : A.length ≤ 1) : A.Pairwise R := by
  match A, h with
  | [], _ => exact .nil
  | [a], _ => exact List.pairwise_singleton _ _
  | a :: b :: l, h => simp at h
theorem faceOf_mem {n k : Int} {f : Str} {x : Str × Int} (h : x ∈ faceOf n k f) : x.1 = f := by
  unfold faceOf at h
  split at h
  · simp at h; rw [h]
  · cases h
theorem wantOf_mem {n k : Int} {f : Str} {x : Want} (h : x ∈ wantOf n k f) : x.face = f ∧ 1 ≤ x.low := by
  unfold wantOf at h
  split at h
  · simp at h
    rw [h]
    exact ⟨rfl, by show 1 ≤ 1 + drawn n k / 4 / 4 % 3; omega⟩
  · cases h
theorem partAt_mem {n k : Int} {f : Str} {x : Part} (h : x ∈ partAt n k f) : ∃ m, x = partOf m f := by
  unfold partAt at h
  split at h
  · simp at h; exact ⟨_, h⟩
  · cases h
theorem facesOf_mem {n : Int} {x : Str × Int} (h : x ∈ facesOf n) : x.1 = "f" ∨ x.1 = "g" ∨ x.1 = "h" := by
  unfold facesOf at h
  simp only [List.mem_append] at h
  rcases h with h | h | h
  · exact .inl (faceOf_mem h)
  · exact .inr (.inl (faceOf_mem h))
  · exact .inr (.inr (faceOf_mem h))
theorem wantsOf_mem {n : Int} {x : Want} (h : x ∈ wantsOf n) : (x.face = "f" ∨ x.face = "g" ∨ x.face = "h") ∧ 1 ≤ x.low := by
  unfold wantsOf at h
  simp only [List.mem_append] at h
  rcases h with h | h | h
  · exact ⟨.inl (wantOf_mem h).1, (wantOf_mem h).2⟩
  · exact ⟨.inr (.inl (wantOf_mem h).1), (wantOf_mem h).2⟩
  · exact ⟨.inr (.inr (wantOf_mem h).1), (wantOf_mem h).2⟩
theorem ne_fg : ("f" : Str) ≠ "g" := by decide
theorem ne_fh : ("f" : Str) ≠ "h" := by decide
theorem ne_gh : ("g" : Str) ≠ "h" := by decide
theorem facesOf_nodup (n : Int) : ((facesOf n).map (·.1)).Nodup := by
  unfold facesOf
  rw [List.map_append, List.map_append]
  refine pw_app (by rw [List.length_map]; exact faceOf_len _ _ _) (pw_app (by rw [List.length_map]; exact faceOf_len _ _ _) (pw_short (by rw [List.length_map]; exact faceOf_len _ _ _)) ?_) ?_
  · intro a ha b hb
    obtain ⟨x, hx, rfl⟩ := List.mem_map.mp ha
    obtain ⟨y, hy, rfl⟩ := List.mem_map.mp hb
    rw [faceOf_mem hx, faceOf_mem hy]; exact ne_gh
  · intro a ha b hb
    obtain ⟨x, hx, rfl⟩ := List.mem_map.mp ha
    rw [← List.map_append] at hb
    obtain ⟨y, hy, rfl⟩ := List.mem_map.mp hb
    rw [faceOf_mem hx]
    rcases List.mem_append.mp hy with hy | hy <;> rw [faceOf_mem hy]
    · exact ne_fg
    · exact ne_fh
theorem wantsOf_nodup (n : Int) : ((wantsOf n).map (·.face)).Nodup := by
  unfold wantsOf
  rw [List.map_append, List.map_append]
  refine pw_app (by rw [List.length_map]; exact wantOf_len _ _ _) (pw_app (by rw [List.length_map]; exact wantOf_len _ _ _) (pw_short (by rw [List.length_map]; exact wantOf_len _ _ _)) ?_) ?_
  · intro a ha b hb
    obtain ⟨x, hx, rfl⟩ := List.mem_map.mp ha
    obtain ⟨y, hy, rfl⟩ := List.mem_map.mp hb
    rw [(wantOf_mem hx).1, (wantOf_mem hy).1]; exact ne_gh
  · intro a ha b hb
    obtain ⟨x, hx, rfl⟩ := List.mem_map.mp ha
    rw [← List.map_append] at hb
    obtain ⟨y, hy, rfl⟩ := List.mem_map.mp hb
    rw [(wantOf_mem hx).1]
    rcases List.mem_append.mp hy with hy | hy <;> rw [(wantOf_mem hy).1]
    · exact ne_fg
    · exact ne_fh
theorem ok_fgh {s : Str} (h : s = "f" ∨ s = "g" ∨ s = "h") : PyData.strOk s = true := by
  rcases h with rfl | rfl | rfl <;> decide +kernel
theorem ok_hookNm (r : Int) : PyData.strOk (hookNm r) = true := by unfold hookNm; split <;> decide +kernel
theorem ok_word (r : Int) : PyData.strOk (wordOf r) = true := by
  unfold wordOf
  repeat' split
  all_goals decide +kernel
theorem partOf_ok {n : Int} {nm : Str} (h : PyData.strOk nm = true) : OkP (partOf n nm) where
  nm := h
  fs f hf := ok_fgh (facesOf_mem hf)
  ws w hw := ok_fgh (wantsOf_mem (List.mem_of_mem_drop hw)).1
  ks k hk := by
    obtain ⟨j, _, rfl⟩ := List.mem_map.mp hk
    exact ⟨ok_hookNm _, ok_word _⟩
theorem partOf_good (n : Int) (nm : Str) : GoodP (partOf n nm) where
  fs := facesOf_nodup n
  ws := by
    show (((wantsOf n).drop _).map (·.face)).Nodup
    rw [List.map_drop]
    exact (wantsOf_nodup n).sublist (List.drop_sublist _ _)
  lo w hw := (wantsOf_mem (List.mem_of_mem_drop hw)).2
def names6 : List Str := ["a", "b", "c", "d", "e", "log"]
theorem houseOf_mem {n : Int} {p : Part} (h : p ∈ houseOf n) : ∃ m nm, p = partOf m nm ∧ nm ∈ names6 := by
  unfold houseOf at h
  simp only [List.mem_append] at h
  rcases h with h | h | h | h | h | h <;> obtain ⟨m, rfl⟩ := partAt_mem h <;> exact ⟨m, _, rfl, by decide⟩
theorem names6_ok {nm : Str} (h : nm ∈ names6) : PyData.strOk nm = true := by
  simp only [names6, List.mem_cons, List.not_mem_nil, or_false] at h
  rcases h with rfl | rfl | rfl | rfl | rfl | rfl <;> decide +kernel
theorem partOf_lt {m k : Int} {a b : Str} (h : a.cps.toList < b.cps.toList) : (partOf m a).name.cps.toList < (partOf k b).name.cps.toList := h
theorem houseOf_names (n : Int) : (houseOf n).Pairwise fun p q => p.name.cps.toList < q.name.cps.toList := by
  unfold houseOf
  refine pw_app (partAt_len _ _ _) (pw_app (partAt_len _ _ _) (pw_app (partAt_len _ _ _) (pw_app (partAt_len _ _ _) (pw_app (partAt_len _ _ _) (pw_short (partAt_len _ _ _)) ?_) ?_) ?_) ?_) ?_ <;>
    (intro a ha b hb
     obtain ⟨m, rfl⟩ := partAt_mem ha
     try simp only [List.mem_append] at hb
     first
     | (rcases hb with hb | hb | hb | hb | hb <;> obtain ⟨k, rfl⟩ := partAt_mem hb <;> exact partOf_lt (by decide +kernel))
     | (rcases hb with hb | hb | hb | hb <;> obtain ⟨k, rfl⟩ := partAt_mem hb <;> exact partOf_lt (by decide +kernel))
     | (rcases hb with hb | hb | hb <;> obtain ⟨k, rfl⟩ := partAt_mem hb <;> exact partOf_lt (by decide +kernel))
     | (rcases hb with hb | hb <;> obtain ⟨k, rfl⟩ := partAt_mem hb <;> exact partOf_lt (by decide +kernel))
     | (obtain ⟨k, rfl⟩ := partAt_mem hb; exact partOf_lt (by decide +kernel)))
theorem partOf_wl (n : Int) (nm : Str) : (partOf n nm).wants.length ≤ 3 := by
  show ((wantsOf n).drop _).length ≤ 3
  rw [List.length_drop]
  have := wantsOf_len n
  omega
theorem houseOf_good (n : Int) : GoodH (houseOf n) where
  wf := ⟨fun p hp => by obtain ⟨m, nm, rfl, k⟩ := houseOf_mem hp; exact partOf_ok (names6_ok k), by have := houseOf_len n; omega, fun p hp => by
    obtain ⟨m, nm, rfl, k⟩ := houseOf_mem hp
    have := partOf_wl m nm; omega⟩
  gp p hp := by obtain ⟨m, nm, rfl, k⟩ := houseOf_mem hp; exact partOf_good _ _
  nm := houseOf_names n
  len := by have := houseOf_len n; omega
/-- its wants the other way round -/
def revP (p : Part) : Part := { p with wants := p.wants.reverse }
theorem revP_good {h : List Part} (g : GoodH h) : GoodH (h.map revP) where
  wf := ⟨fun p hp => by
    obtain ⟨q, hq, rfl⟩ := List.mem_map.mp hp
    have k := g.wf.ok q hq
    exact ⟨k.nm, k.fs, fun w hw => k.ws w (List.mem_reverse.mp hw), k.ks⟩, by rw [List.length_map]; exact g.wf.len, fun p hp => by
    obtain ⟨q, hq, rfl⟩ := List.mem_map.mp hp
    show q.wants.reverse.length ≤ 64
    rw [List.length_reverse]; exact g.wf.wl q hq⟩
  gp p hp := by
    obtain ⟨q, hq, rfl⟩ := List.mem_map.mp hp
    have k := g.gp q hq
    refine ⟨k.fs, ?_, fun w hw => k.lo w (List.mem_reverse.mp hw)⟩
    show (q.wants.reverse.map (·.face)).Nodup
    rw [List.map_reverse]
    exact List.pairwise_reverse.mpr (k.ws.imp Ne.symm)
  nm := by
    rw [List.pairwise_map]
    exact g.nm
  len := by rw [List.length_map]; exact g.len
def lawH10 (ns : List Int) : List Part := if mixed ns 1 % 2 = 1 then (houseOf (mixed ns 0)).map revP else houseOf (mixed ns 0)
theorem lawH10_good (ns : List Int) : GoodH (lawH10 ns) := by
  unfold lawH10
  split
  · exact revP_good (houseOf_good _)
  · exact houseOf_good _
end DL


namespace DL
open PySem PySem.Spec PyProof.Rows L2
section
variable {X : Cx} {ρ : Rho} {e a b c : Expr} {d x y z : D} {ds es : List D} {k : Kd} {Φ : DL.Fin} {pos : Pos}
/-! ### all(bools) -/
theorem rp_bools {K : PySem.W.Frag} {H : Hp} : ∀ {bs : List Bool} {xs : List V}, RpAll K H xs (bs.map .bool) → xs = bs.map V.bl
  | [], _, r => by cases r; rfl
  | b :: bs, _, r => by
    cases r with
    | cons h t => rw [(Rq.of h).bl, rp_bools t]; rfl
theorem c_all {bs : List Bool} (hc : X.calm = true := by rfl) : CallV X (.builtin "all") [.list (bs.map .bool)] (.val (.bool (bs.all id))) := fun H vs Q r q => by
  obtain ⟨v, rfl, r0⟩ := paired1 r
  obtain ⟨a, xs, rfl, hs, hr⟩ := r0.lst
  rw [rp_bools hr] at hs
  exact ⟨_, cr_all hc, a, bs, rfl, hs, q _ H ⟨.refl H, .bl _⟩⟩
/-! ### list(d), len(d), sorted(d) of a dict -/
theorem rpKV_keysAll {K : PySem.W.Frag} {H : Hp} : ∀ {kvs : List (Key × V)} {es : List (D × D)}, RpKV K H kvs es → RpAll K H (kvs.map fun kv => kV kv.1) (es.map (·.1))
  | [], _, r => by cases r; exact .nil
  | (k, v) :: kvs, es, r => by
    obtain ⟨d, es', rfl, _, t⟩ := r.uncons
    refine .cons ?_ (rpKV_keysAll t)
    cases k with
    | inl i => exact .int i
    | inr s => exact .str s
theorem c_listD {es : List (D × D)} (hc : X.calm = true := by rfl) : CallV X (.type "list") [.dict es] (.new (es.map (·.1))) := fun H vs Q r q => by
  obtain ⟨v, rfl, r0⟩ := paired1 r
  obtain ⟨a, kvs, rfl, hs, hr⟩ := r0.dctR
  exact ⟨_, call_listD hc, a, kvs, rfl, hs, fun p hp => q _ _ ⟨same_new hp, p, _, rfl, hp, upd_same, (rpKV_keysAll hr).mono (stb_new hp)⟩⟩
theorem sortedS_pw : ∀ {l : List Str}, sortedS l = true → l.Pairwise fun a b => ltCps b.cps.toList a.cps.toList = false
  | [], _ => .nil
  | [a], _ => List.pairwise_singleton _ _
  | a :: b :: l, h => by
    have h : (!ltCps b.cps.toList a.cps.toList && risingS b l) = true := h
    rw [Bool.and_eq_true, Bool.not_eq_true'] at h
    have ih := sortedS_pw (l := b :: l) h.2
    refine List.pairwise_cons.mpr ⟨fun c hc => ?_, ih⟩
    rcases List.mem_cons.mp hc with rfl | hc
    · exact h.1
    · have h2 := (List.pairwise_cons.mp ih).1 c hc
      have h1 := h.1
      simp only [ltCps_eq] at *
      simp only [decide_eq_false_iff_not, List.not_lt] at *
      exact List.le_trans h1 h2
theorem perm_sorted {α : Type} {R : α → α → Prop} (anti : ∀ a b, R a b → R b a → a = b) : ∀ {l m : List α}, l.Perm m → l.Pairwise R → m.Pairwise R → l = m
  | [], m, p, _, _ => (List.nil_perm.mp p).symm
  | a :: l, [], p, _, _ => absurd p.length_eq (by simp)
  | a :: l, b :: m, p, h1, h2 => by
    have e : a = b := by
      have ha : a ∈ b :: m := p.mem_iff.mp (by simp)
      have hb : b ∈ a :: l := p.mem_iff.mpr (by simp)
      rcases List.mem_cons.mp ha with e | ha
      · exact e
      · rcases List.mem_cons.mp hb with e | hb
        · exact e.symm
        · exact anti a b ((List.pairwise_cons.mp h1).1 b hb) ((List.pairwise_cons.mp h2).1 a ha)
    subst e
    rw [perm_sorted anti (List.Perm.cons_inv p) (List.pairwise_cons.mp h1).2 (List.pairwise_cons.mp h2).2]
def sortS (l : List Str) : List Str := l.mergeSort fun a b => !PySem.W.dataLt (.str b) (.str a)
theorem sortS_map (l : List Str) : sortD (l.map .str) = (sortS l).map .str := by
  unfold sortD sortS
  exact (PySem.W.sort_maps PyData.str fun a _ b _ => rfl).symm
theorem sortS_perm (l : List Str) : (sortS l).Perm l := List.mergeSort_perm _ _
theorem sortS_pw (l : List Str) : (sortS l).Pairwise fun a b => ltCps b.cps.toList a.cps.toList = false := by
  have pw : (sortS l).Pairwise fun a b => (!PySem.W.dataLt (.str b) (.str a)) = true := PySem.W.sort_pairwise (PySem.W.sortLe_total (PyProof.Rows.listOrd PyProof.Rows.itemOrd) false fun a : Str => PySem.W.keyToks (.str a)) l
  refine pw.imp fun {a b} h => ?_
  rw [PySem.W.dataLt_str] at h
  rw [ltCps_eq]
  simpa using h
theorem strs_anti (a b : Str) (h1 : ltCps b.cps.toList a.cps.toList = false) (h2 : ltCps a.cps.toList b.cps.toList = false) : a = b := by
  rw [ltCps_eq, decide_eq_false_iff_not, List.not_lt] at h1 h2
  exact PySem.W.str_of_cps (List.le_antisymm h1 h2)
theorem sortS_uniq {l m : List Str} (p : m.Perm l) (h : sortedS m = true) : m = sortS l := perm_sorted strs_anti (p.trans (sortS_perm l).symm) (sortedS_pw h) (sortS_pw l)
theorem rp_strs {K : PySem.W.Frag} {H : Hp} : ∀ (l : List Str), RpAll K H (l.map V.str) (l.map .str)
  | [] => .nil
  | s :: l => .cons (.str s) (rp_strs l)
theorem kv_strs {K : PySem.W.Frag} {H : Hp} : ∀ {ks : List Str} {kvs : List (Key × V)} {es : List (D × D)}, RpKV K H kvs es → es.map (·.1) = ks.map .str → kvs.map (·.1) = ks.map Sum.inr
  | [], kvs, es, r, h => by
    cases es with
    | nil => cases r; rfl
    | cons _ _ => simp at h
  | s :: ks, [], es, r, h => by cases r; simp at h
  | s :: ks, (k, v) :: kvs, es, r, h => by
    obtain ⟨d, es', rfl, _, t⟩ := r.uncons
    rw [List.map_cons, List.map_cons] at h
    injection h with h1 h2
    rw [List.map_cons, List.map_cons, kv_strs t h2]
    congr 1
    cases k with
    | inl i => cases h1
    | inr s' => injection h1 with h1; rw [h1]
theorem c_sortedD {es : List (D × D)} {ks : List Str} (hk : es.map (·.1) = ks.map .str) (hl : ks.length < 64) (hc : X.calm = true := by rfl) : CallV X (.builtin "sorted") [.dict es] (.new ((sortS ks).map .str)) := fun H vs Q r q => by
  obtain ⟨v, rfl, r0⟩ := paired1 r
  obtain ⟨a, kvs, rfl, hs, hr⟩ := r0.dctR
  exact ⟨_, L2.call_sortedD hc, a, kvs, ks, rfl, hs, kv_strs hr hk, hl, fun ys p py sy hp => q _ _ ⟨same_new hp, p, _, rfl, hp, upd_same, by rw [sortS_uniq py sy]; exact rp_strs _⟩⟩
/-! ### xs.extend(value), x = xs.pop() -/
theorem list_extendW (l : Addr) (items : Array Value) (n : Nat) (b : Addr) (items2 : Array Value) (n2 : Nat) (dd2 : Option Addr) (sl2 : Array (Option Value)) (hc0 : ¬(!items.isEmpty && Builtin.List.listTooLong (items.size + items2.size)) = true) (hc1 : items.size ≤ sizeLine) (hs2 : items.size + items2.size ≤ sizeLine + 1) :
    Meets (Builtin.«list.extend» ⟨[.ref l, .ref b], []⟩) (fun _ R s => s.heap.get? l = some { cls := .type "list", dict := none, data := .seq items n, slots := #[] } ∧ s.heap.get? b = some { cls := .type "list", dict := dd2, data := .seq items2 n2, slots := sl2 } ∧ R (.ok (.ret Value.none)) { s with heap := s.heap.update l (Obj.mapSeq fun x => x ++ items2), toks := s.toks }) :=
  .of_wp fun prog w A R st h => by
    obtain ⟨hp, g, d, tk, os⟩ := st
    obtain ⟨hl, hb, h⟩ := h
    have f1 := AutoSeq1.idx_int; have f2 := AutoSeq1.sub_tuple_tuple; have f3 := AutoSeq1.sub_list_list; have f4 := AutoSeq1.sub_tuple_list; have f5 := AutoSeq1.sub_list_tuple
    have hz2 : (items ++ items2).size ≤ sizeLine + 1 := by rw [Array.size_append]; exact hs2
    wp_walk using (wpAny_updateSeq hl rfl (hz := hc1) (_hz' := hz2)), wpAny_loadPart' hl, wpAny_loadPart' hb
    exact ⟨_, rfl, h⟩
theorem mt_extendF : MtM X "list.extend" (fun x vs H Q => ∃ l b xs zs, x = .ref l ∧ vs = [.ref b] ∧ H l = some (.lst xs) ∧ SqL X.K H b zs ∧ xs.length + zs.length ≤ sizeLine ∧ Q .non (upd H l (.lst (xs ++ zs)))) := by
  intro pins s σ H x vs v us Q I rx rv h
  obtain ⟨l, b, xs, zs, rfl, rfl, hH, hB, hz, q⟩ := h
  cases rx
  obtain ⟨u, rfl, ru⟩ := rv.one
  cases ru
  obtain ⟨z, its, n, r, hl, e⟩ := I.lstM hH
  obtain ⟨its2, r2, p2, _⟩ := I.list hB
  have l2 := r2.length
  obtain ⟨⟨cls2, dd2, data2, sl2⟩, ho2, hc2, n2, hd2⟩ := p2.isList
  simp only at hc2 hd2
  subst hc2 hd2
  have hsz : its.toArray.size + its2.toArray.size ≤ sizeLine := by simp only [List.size_toArray]; omega
  have hlong : ¬ (!its.toArray.isEmpty && Builtin.List.listTooLong (its.toArray.size + its2.toArray.size)) = true := by rw [notLongL hsz, Bool.and_false]; exact Bool.false_ne_true
  refine call_meets F.slot_list_extend ⟨_, e, rfl⟩ F.entry_list_extend (F.args_list_extend_2 _ _) (list_extendW l its.toArray n b its2.toArray n2 dd2 sl2 hlong (by simp only [List.size_toArray]; omega) (by omega)) ⟨e, ho2, ?_⟩
  exact ⟨.non, _, I.lset (its' := its ++ its2) hH e (by simp) (r.append r2) (by rw [List.length_append]; omega), rfl, q⟩
theorem sx_extendV (j : Nat) {y : Str} {p2 apos cpos : Pos} {es : List D} (hj : ρ[j]? = some (.own ds)) (he : Ev X e ρ (.val (.list es))) (hz : ds.length + es.length ≤ sizeLine) (h : Φ.nx (ρ.set j (.own (ds ++ es)))) (hNj : X.N[j]? = some y := by rfl) (hv : Vis X.env.scope y := by first | exact Or.inl rfl | exact Or.inr (Or.inl rfl) | exact Or.inr (Or.inr rfl)) (hd : (y == ("__debug__" : Str)) = false := by decide)
    (hcd : (y == ("__classdict__" : Str)) = false := by decide) (hbase : attributeBase (.Name y p2) "extend" X.env (eval (.Name y p2) X.env) = eval (.Name y p2) X.env := by rfl)
    (hfew : ((backTo cpos (starEach [e] X.env)).all (fun x => !x.1) && (backToKw cpos (keywordEach [] X.env)).all (fun x => x.1.isSome)
      && decide ([e].length + ([] : List Keyword).length + (if ([] : List Keyword).isEmpty then 0 else 1) < 30)) = true := by rfl)
    (hline : (apos.endLine == cpos.line) = true := by rfl) (hs : starEach [e] X.env = (false, eval e X.env) :: starEach [] X.env := by rfl) (hplain : (backTo cpos (starEach [] X.env)).any (·.1) = false := by rfl)
    (hsw : swapsWith (.Call (.Attribute (.Name y p2) "extend" apos) [e] [] cpos) none pos.line X.env = pure false := by rfl) :
    Sx X (.Expr (.Call (.Attribute (.Name y p2) "extend" apos) [e] [] cpos) pos) ρ Φ := fun H0 H1 σ H E S F => by
  obtain ⟨a, xs, e1, e2, r⟩ := S.ok.own j ds hj
  refine ⟨_, ps_expr (pe_bm PySem.F.plainAttrs_list PySem.F.slot_list_extend PySem.F.type_list_extend mt_extendF (pe_var hNj hv hd hcd) (pa_cons pe_c pa_nil hs) hbase hfew hline hs hplain) hsw, _, e1, .inl ⟨rfl, xs, .of e2⟩, he σ H _ S.ok fun v H2 ⟨s2, r2⟩ => ?_⟩
  obtain ⟨b, zs, rfl, hs2, hr2⟩ := (Rq.of r2).lst
  refine ⟨a, b, xs, zs, rfl, rfl, s2 _ _ e2, hs2, by rw [r.length, hr2.length]; exact hz, F.nx _ _ _ ((S.mono s2).write hj e1 (.own (s2 _ _ e2) (r.mono (.of s2))) (s2 _ _ e2) trivial ?_) h⟩
  have st : Stb H2 (upd H2 a (.lst (xs ++ zs))) := stb_upd (s2 _ _ e2) trivial
  exact .own upd_same (((r.mono (.of s2)).mono st).append (hr2.mono st))
theorem RpAll.snoc {K : PySem.W.Frag} {H : Hp} : ∀ {xs : List V} {ds : List D} {d : D}, RpAll K H xs (ds ++ [d]) → ∃ ys v, xs = ys ++ [v] ∧ RpAll K H ys ds ∧ Rp K H v d
  | xs, [], d, r => by
    cases r with
    | cons h t => cases t; exact ⟨[], _, rfl, .nil, h⟩
  | xs, d0 :: ds, d, r => by
    cases r with
    | cons h t =>
      obtain ⟨ys, v, rfl, h1, h2⟩ := RpAll.snoc t
      exact ⟨_ :: ys, v, rfl, .cons h h1, h2⟩
theorem sx_pop (i j : Nat) {x y : Str} {pos' p2 apos cpos : Pos} (hN : X.N.Nodup) (hj : ρ[j]? = some (.own (ds ++ [d]))) (h : Φ.nx ((ρ.set j (.own ds)).set i (.val d))) (hi : X.N[i]? = some x := by rfl) (hx : Loc X.env.scope x := by first | exact Or.inl rfl | exact Or.inr rfl) (hNj : X.N[j]? = some y := by rfl) (hv : Vis X.env.scope y := by first | exact Or.inl rfl | exact Or.inr (Or.inl rfl) | exact Or.inr (Or.inr rfl)) (hd : (y == ("__debug__" : Str)) = false := by decide)
    (hcd : (y == ("__classdict__" : Str)) = false := by decide) (hbase : attributeBase (.Name y p2) "pop" X.env (eval (.Name y p2) X.env) = eval (.Name y p2) X.env := by rfl)
    (hline : (apos.endLine == cpos.line) = true := by rfl)
    (hs : swapsWith (.Call (.Attribute (.Name y p2) "pop" apos) [] [] cpos) (some (.Name x pos')) pos.line X.env = pure false := by rfl) (hf : X.fn x = true ∨ X.env.scope.names.lookup x = some .local := by first | exact .inl rfl | exact .inr rfl | assumption) :
    Sx X (.Assign [.Name x pos'] (.Call (.Attribute (.Name y p2) "pop" apos) [] [] cpos) pos) ρ Φ := fun H0 H1 σ H E S F => by
  obtain ⟨a, xs, e1, e2, r⟩ := S.ok.own j _ hj
  obtain ⟨ys, v, rfl, r1, r2⟩ := RpAll.snoc r
  refine ⟨_, ps_set hN hi hx (pe_bm0 PySem.F.plainAttrs_list PySem.F.slot_list_pop PySem.F.type_list_pop mt_pop (pe_var hNj hv hd hcd) hbase hline) hs hf, _, e1, .inl ⟨rfl, _, .of e2⟩, a, ys ++ [v], v, rfl, rfl, e2, by simp, ?_⟩
  have st : Stb H (upd H a (.lst (ys ++ [v]).dropLast)) := stb_upd e2 trivial
  have S2 := S.write (b1 := .own ds) hj e1 (.own e2 r) e2 trivial (o := .lst (ys ++ [v]).dropLast) (by
    refine .own upd_same ?_
    rw [List.dropLast_concat] at st ⊢
    exact r1.mono st)
  exact F.nx _ _ _ (S2.set (.refl _) (r2.mono st)) h
end
end DL


/-! The givers' book, the order, who is stuck, who leans on whom. -/
namespace DL
open PySem PySem.Spec PyProof.Rows L2
abbrev Book := List (Str × List Str)
def encB (b : Book) : List (D × D) := b.map fun q => (.str q.1, .list (q.2.map .str))
def keys (b : Book) : List Str := b.map (·.1)
def bget (b : Book) (n : Str) : List Str := ((b.find? fun q => decide (q.1 = n)).map (·.2)).getD []
theorem encB_keys (b : Book) : (encB b).map (·.1) = (keys b).map .str := by unfold encB keys; rw [List.map_map, List.map_map]; rfl
theorem look_book {b : Book} {n : Str} (h : n ∈ keys b) : lookD (encB b) (.inr n) = some (.list ((bget b n).map .str)) := by
  unfold keys at h
  obtain ⟨q, hq, rfl⟩ := List.mem_map.mp h
  induction b with
  | nil => cases hq
  | cons r b ih =>
    unfold lookD bget encB at *
    rw [List.map_cons, List.find?_cons, List.find?_cons]
    by_cases e : r.1 = q.1
    · simp [kd, e]
    · have e1 : decide (kd (PyData.str r.1) = some (Sum.inr q.1)) = false := by simpa [kd] using e
      have e2 : decide (r.1 = q.1) = false := by simpa using e
      simp only [e1, e2]
      rcases List.mem_cons.mp hq with rfl | hq
      · exact absurd rfl e
      · exact ih hq (List.mem_map.mpr ⟨q, hq, rfl⟩)
theorem put_book {b : Book} {n : Str} (l : List Str) (h : n ∉ keys b) : putD (encB b) (.inr n) (.list (l.map .str)) = encB (b ++ [(n, l)]) := by
  unfold putD
  rw [if_neg]
  · unfold encB; rw [List.map_append]; rfl
  · intro e
    obtain ⟨x, hx, e⟩ := List.any_eq_true.mp e
    unfold encB at hx
    obtain ⟨q, hq, rfl⟩ := List.mem_map.mp hx
    refine h (List.mem_map.mpr ⟨q, hq, ?_⟩)
    simpa [kd] using e
theorem any_str (b : List Str) (n : Str) : ((b.map PyData.str).any fun z => PyData.eqv z (.str n)) = decide (n ∈ b) := by
  induction b with
  | nil => simp
  | cons a b ih =>
    rw [List.map_cons, List.any_cons, ih]
    by_cases e : a = n
    · subst e; simp [PyData.eqv]
    · have : ¬ n = a := fun z => e z.symm
      simp [PyData.eqv, e, this]
theorem isNone_opt (x : Option Str) : isNon (optS x) = x.isNone := by cases x <;> rfl
def isNoneD (x : Option Str) : Bool := !isNon (optS x)
theorem opts_eq {α : Type} (g : α → Option Str) (l : List α) : ((l.filter fun w => !isNon (optS (g w))).map fun w => optS (g w)) = (l.filterMap g).map .str := by
  induction l with
  | nil => rfl
  | cons a l ih =>
    rw [List.filter_cons, List.filterMap_cons]
    cases h : g a with
    | none => rw [if_neg (by rw [isNone_opt]; simp)]; exact ih
    | some s =>
      rw [if_pos (by rw [isNone_opt]; simp), List.map_cons, ih, h]
      rfl
/-- the givers' book of a house -/
def bk (h : List Part) : Book := (st h).map fun p => (p.name, p.wants.filterMap (lawGiver (st h) p.name))
theorem bk_nodup {h : List Part} (G : GoodH h) : (keys (bk h)).Nodup := by
  unfold keys bk
  rw [List.map_map]
  have := G.st.nm
  rw [List.Nodup, List.pairwise_map]
  exact this.imp fun {p q} h e => by
    have e : p.name = q.name := e
    rw [e] at h
    exact absurd h (List.lt_irrefl _)
theorem fresh_key {h : List Part} (G : GoodH h) {b : Book} {p : Part} {l : List Part} (hb : b ++ (p :: l).map (fun p => (p.name, p.wants.filterMap (lawGiver (st h) p.name))) = bk h) : p.name ∉ keys b := by
  have n := bk_nodup G
  rw [← hb] at n
  unfold keys at *
  rw [List.map_append, List.map_cons, List.map_cons, List.nodup_append] at n
  exact fun hm => n.2.2 p.name hm p.name (by simp) rfl
/-! ### texts that can be laid -/
def OkS (l : List Str) : Prop := ∀ s ∈ l, PyData.strOk s = true
theorem OkS.filter {l : List Str} {f : Str → Bool} (h : OkS l) : OkS (l.filter f) := fun s hs => h s (List.mem_filter.mp hs).1
theorem pl_strs {n : Nat} {l : List Str} (h : OkS l) : PlAll n (l.map .str) := pla_map fun s hs => pl_str (h s hs)
theorem OkS.sort {l : List Str} (h : OkS l) : OkS (sortS l) := fun s hs => h s ((sortS_perm l).mem_iff.mp hs)
structure OkB (b : Book) : Prop where
  ks : OkS (keys b)
  vs : ∀ q ∈ b, OkS q.2
  len : b.length < 64
  sub : ∀ q ∈ b, ∀ n ∈ q.2, n ∈ keys b
  nd : (keys b).Nodup
theorem bget_mem {b : Book} {n : Str} : bget b n = [] ∨ ∃ q ∈ b, q.2 = bget b n := by
  unfold bget
  cases h : b.find? fun q => decide (q.1 = n) with
  | none => exact .inl rfl
  | some q => exact .inr ⟨q, List.mem_of_find?_eq_some h, rfl⟩
theorem OkB.get {b : Book} (h : OkB b) {n : Str} : OkS (bget b n) := by
  rcases bget_mem (b := b) (n := n) with e | ⟨q, hq, e⟩
  · rw [e]; exact fun _ z => nomatch z
  · rw [← e]; exact h.vs q hq
theorem OkB.subs {b : Book} (h : OkB b) {n m : Str} (hm : m ∈ bget b n) : m ∈ keys b := by
  rcases bget_mem (b := b) (n := n) with e | ⟨q, hq, e⟩
  · rw [e] at hm; cases hm
  · rw [← e] at hm; exact h.sub q hq m hm
theorem lawGiver_mem {ps : List Part} {n : Str} {w : Want} {m : Str} (h : lawGiver ps n w = some m) : ∃ p ∈ ps, p.name = m := by
  unfold lawGiver at h
  cases hs : sortIS (lawSome ps n w) with
  | nil => rw [hs] at h; cases h
  | cons q r =>
    rw [hs] at h
    have e : q.2 = m := Option.some.inj h
    have := (sortIS_head hs).1
    unfold lawSome lawOthers at this
    obtain ⟨p, hp, rfl⟩ := List.mem_map.mp this
    exact ⟨p, (List.mem_filter.mp hp).1, e⟩
theorem bk_ok {h : List Part} (G : GoodH h) : OkB (bk h) where
  ks s hs := by
    unfold keys bk at hs
    rw [List.map_map] at hs
    obtain ⟨p, hp, rfl⟩ := List.mem_map.mp hs
    exact (G.st.wf.ok p hp).nm
  vs q hq s hs := by
    obtain ⟨p, hp, rfl⟩ := List.mem_map.mp hq
    obtain ⟨w, hw, e⟩ := List.mem_filterMap.mp hs
    obtain ⟨r, hr, rfl⟩ := lawGiver_mem e
    exact (G.st.wf.ok r hr).nm
  len := by
    unfold bk
    rw [List.length_map]
    have := G.st.len
    omega
  sub q hq s hs := by
    obtain ⟨p, hp, rfl⟩ := List.mem_map.mp hq
    obtain ⟨w, hw, e⟩ := List.mem_filterMap.mp hs
    obtain ⟨r, hr, rfl⟩ := lawGiver_mem e
    unfold keys bk
    rw [List.map_map]
    exact List.mem_map.mpr ⟨r, hr, rfl⟩
  nd := bk_nodup G
def SubK (l : List Str) (b : Book) : Prop := ∀ n ∈ l, n ∈ keys b
theorem SubK.get {l : List Str} {b : Book} (h : SubK l b) {n : Str} (hn : n ∈ l) : n ∈ keys b := h n hn
theorem SubK.filter {l : List Str} {b : Book} {f : Str → Bool} (h : SubK l b) : SubK (l.filter f) b := fun n hn => h n (List.mem_filter.mp hn).1
theorem SubK.ok {l : List Str} {b : Book} (h : SubK l b) (o : OkB b) : OkS l := fun n hn => o.ks n (h n hn)
/-! ### the order, by the laws -/
def readyL (b : Book) (found left : List Str) : List Str := left.filter fun n => ((bget b n).filter fun o => !decide (o ∈ found)).isEmpty
def lawOrdIt : Nat → Book → List Str → List Str → List Str
  | 0, _, f, _ => f
  | m + 1, b, f, left => match readyL b f left with
    | [] => f
    | n :: _ => lawOrdIt m b (f ++ [n]) (left.filter fun x => !decide (x = n))
def lawOrd (b : Book) : List Str := lawOrdIt b.length b [] (sortS (keys b))
/-! ### the order, by the program -/
def readyP (b : Book) (f : List Str) : List Str := (keys b).filter fun n => !decide (n ∈ f) && (bget b n).all fun o => decide (o ∈ f)
def ordStep (b : Book) (f : List Str) : List Str := match readyP b f with
  | [] => f
  | n :: _ => f ++ [n]
def ordIt (b : Book) : Nat → List Str → List Str
  | 0, f => f
  | m + 1, f => ordIt b m (ordStep b f)
def ordP (b : Book) : List Str := ordIt b (keys b).length []
theorem SubK.keys (b : Book) : SubK (DL.keys b) b := fun _ h => h
section
variable {X : Cx} {ρ : Rho} {e a b c : Expr} {d x y z : D} {ds es : List D} {k : Kd}
theorem ei_book {tg it : Expr} {b : Book} (h : Ev X it ρ (.val (.dict (encB b)))) : EvI X tg it ρ false ((keys b).map .str) := by rw [← encB_keys]; exact ei_keys h
theorem ev_bget {pos : Pos} {n : Str} {bo : Book} (hu : X.A.units + 1 < cLine) (ha : Ev X a ρ (.qua (.dict (encB bo)))) (hb : Ev X b ρ (.val (.str n))) (h : n ∈ keys bo) (hs : NoSl b := by exact fun _ _ => rfl) : Ev X (.Subscript a b pos) ρ (.val (.list ((bget bo n).map .str))) := ev_dget (kk := .inr n) hu ha hb (look_book h) hs
theorem c_listB {b : Book} (hc : X.calm = true := by rfl) : CallV X (.type "list") [.dict (encB b)] (.new ((keys b).map .str)) := by rw [← encB_keys]; exact c_listD hc
theorem c_allM {α : Type} {l : List α} {f : α → Bool} (hc : X.calm = true := by rfl) : CallV X (.builtin "all") [.list (l.map fun p => .bool (f p))] (.val (.bool (l.all f))) := by
  have e1 : (l.map fun p => PyData.bool (f p)) = (l.map f).map .bool := by rw [List.map_map]; rfl
  have e2 : l.all f = (l.map f).all id := by rw [List.all_map]; rfl
  rw [e1, e2]
  exact c_all hc
end
end DL


/-! The order by the program is that of the laws; who leans on whom. -/
namespace DL
open PySem L2 PyProof.Rows
theorem ready_eq (b : Book) (f : List Str) : readyL b f ((keys b).filter fun n => !decide (n ∈ f)) = readyP b f := by
  unfold readyL readyP
  rw [List.filter_filter]
  apply List.filter_congr
  intro n _
  rw [Bool.and_comm]
  congr 1
  rw [Bool.eq_iff_iff, List.isEmpty_iff, List.filter_eq_nil_iff, List.all_eq_true]
  constructor
  · intro h o ho; simpa using h o ho
  · intro h o ho; simpa using h o ho
theorem ordIt_stop {b : Book} {f : List Str} (h : readyP b f = []) : ∀ m, ordIt b m f = f
  | 0 => rfl
  | m + 1 => by rw [ordIt, ordStep, h]; exact ordIt_stop h m
theorem ord_it (b : Book) : ∀ (m : Nat) (f : List Str), lawOrdIt m b f ((keys b).filter fun n => !decide (n ∈ f)) = ordIt b m f
  | 0, _ => rfl
  | m + 1, f => by
    rw [lawOrdIt, ready_eq, ordIt, ordStep]
    cases h : readyP b f with
    | nil => exact (ordIt_stop h m).symm
    | cons n r =>
      simp only
      rw [← ord_it b m (f ++ [n]), List.filter_filter]
      congr 1
      apply List.filter_congr
      intro x _
      by_cases e1 : x = n <;> by_cases e2 : x ∈ f <;> simp [e1, e2]
theorem sortS_rising {l : List Str} (h : l.Pairwise fun a b => a.cps.toList < b.cps.toList) : sortS l = l := by
  refine perm_sorted strs_anti (sortS_perm l) (sortS_pw l) (h.imp fun {a b} z => ?_)
  rw [ltCps_eq, decide_eq_false_iff_not]
  exact fun y => List.lt_irrefl _ (List.lt_trans z y)
theorem keys_rising {h : List Part} (G : GoodH h) : (keys (bk h)).Pairwise fun a b => a.cps.toList < b.cps.toList := by
  unfold keys bk
  rw [List.map_map, List.pairwise_map]
  exact G.st.nm
theorem ord_eq {h : List Part} (G : GoodH h) : lawOrd (bk h) = ordP (bk h) := by
  unfold lawOrd ordP
  rw [sortS_rising (keys_rising G)]
  have e := ord_it (bk h) (bk h).length []
  have e0 : ((keys (bk h)).filter fun n => !decide (n ∈ ([] : List Str))) = keys (bk h) := by simp
  rw [e0] at e
  rw [e]
  unfold keys
  rw [List.length_map]
/-! ### leaning -/
inductive Reach (b : Book) (n : Str) : Str → Prop
  | one {x : Str} : x ∈ bget b n → Reach b n x
  | more {x y : Str} : Reach b n y → x ∈ bget b y → Reach b n x
open Classical in
noncomputable def leansOf (b : Book) (n : Str) : List Str := sortS ((keys b).filter fun x => decide (Reach b n x))
theorem Reach.key {b : Book} (O : OkB b) {n x : Str} (h : Reach b n x) : x ∈ keys b := by
  cases h with
  | one h => exact O.subs h
  | more _ h => exact O.subs h
theorem sortS_congr {l m : List Str} (p : l.Perm m) : sortS l = sortS m := perm_sorted strs_anti (((sortS_perm l).trans p).trans (sortS_perm m).symm) (sortS_pw l) (sortS_pw m)
theorem leans_is {b : Book} (O : OkB b) {n : Str} {f : List Str} (nd : f.Nodup) (h : ∀ x, x ∈ f ↔ Reach b n x) : sortS f = leansOf b n := by
  unfold leansOf
  apply sortS_congr
  rw [List.perm_ext_iff_of_nodup nd (O.nd.filter _)]
  intro x
  classical
  rw [h, List.mem_filter]
  simp only [decide_eq_true_eq]
  exact ⟨fun z => ⟨z.key O, z⟩, fun z => z.2⟩
/-- what the loop over todo keeps -/
structure LeanInv (b : Book) (n : Str) (f todo : List Str) : Prop where
  nd : f.Nodup
  fr : ∀ x ∈ f, Reach b n x
  tr : ∀ x ∈ todo, Reach b n x
  st : ∀ x ∈ bget b n, x ∈ f ∨ x ∈ todo
  cl : ∀ x ∈ f, ∀ y ∈ bget b x, y ∈ f ∨ y ∈ todo
theorem LeanInv.start (b : Book) (n : Str) : LeanInv b n [] (bget b n) := ⟨.nil, fun _ h => (nomatch h), fun _ h => .one h, fun _ h => .inr h, fun _ h => (nomatch h)⟩
theorem LeanInv.old {b : Book} {n : Str} {f t : List Str} {x : Str} (h : LeanInv b n f (t ++ [x])) (hx : x ∈ f) : LeanInv b n f t := by
  have go : ∀ y, y ∈ f ∨ y ∈ t ++ [x] → y ∈ f ∨ y ∈ t := by
    intro y hy
    rcases hy with hy | hy
    · exact .inl hy
    · rcases List.mem_append.mp hy with hy | hy
      · exact .inr hy
      · simp at hy; subst hy; exact .inl hx
  exact ⟨h.nd, h.fr, fun y hy => h.tr y (by simp [hy]), fun y hy => go y (h.st y hy), fun z hz y hy => go y (h.cl z hz y hy)⟩
theorem LeanInv.new {b : Book} {n : Str} {f t : List Str} {x : Str} (h : LeanInv b n f (t ++ [x])) (hx : x ∉ f) : LeanInv b n (f ++ [x]) (t ++ bget b x) := by
  have rx : Reach b n x := h.tr x (by simp)
  have go : ∀ y, y ∈ f ∨ y ∈ t ++ [x] → y ∈ f ++ [x] ∨ y ∈ t ++ bget b x := by
    intro y hy
    rcases hy with hy | hy
    · exact .inl (by simp [hy])
    · rcases List.mem_append.mp hy with hy | hy
      · exact .inr (by simp [hy])
      · exact .inl (by simp at hy; simp [hy])
  refine ⟨?_, ?_, ?_, fun y hy => go y (h.st y hy), ?_⟩
  · rw [List.nodup_append]
    exact ⟨h.nd, by simp, fun a ha c hc e => by simp at hc; subst hc; exact hx (e ▸ ha)⟩
  · intro y hy
    rcases List.mem_append.mp hy with hy | hy
    · exact h.fr y hy
    · simp at hy; subst hy; exact rx
  · intro y hy
    rcases List.mem_append.mp hy with hy | hy
    · exact h.tr y (by simp [hy])
    · exact .more rx hy
  · intro z hz y hy
    rcases List.mem_append.mp hz with hz | hz
    · exact go y (h.cl z hz y hy)
    · simp at hz; subst hz; exact .inr (by simp [hy])
theorem LeanInv.done {b : Book} {n : Str} {f : List Str} (h : LeanInv b n f []) : ∀ x, x ∈ f ↔ Reach b n x := by
  intro x
  refine ⟨h.fr x, fun r => ?_⟩
  induction r with
  | one hx => exact (h.st _ hx).elim id (fun z => nomatch z)
  | more _ hx ih => exact (h.cl _ ih _ hx).elim id (fun z => nomatch z)
/-- how many turns are left at most -/
def mu (b : Book) (f todo : List Str) : Nat := todo.length + (((keys b).filter fun x => !decide (x ∈ f)).map fun x => (bget b x).length).sum
theorem sum_drop (g : Str → Nat) {x : Str} {f : List Str} (hx : x ∉ f) : ∀ {l : List Str}, l.Nodup → x ∈ l → ((l.filter fun y => !decide (y ∈ f)).map g).sum = g x + ((l.filter fun y => !decide (y ∈ f ++ [x])).map g).sum
  | [], _, h => nomatch h
  | a :: l, n, h => by
    rw [List.nodup_cons] at n
    by_cases e : a = x
    · subst e
      have e1 : (l.filter fun y => !decide (y ∈ f ++ [a])) = l.filter fun y => !decide (y ∈ f) := by
        apply List.filter_congr
        intro y hy
        have : y ≠ a := fun z => n.1 (z ▸ hy)
        simp [this]
      rw [List.filter_cons, if_pos (by simpa using hx), List.filter_cons, if_neg (by simp), e1]
      simp
    · have hl : x ∈ l := (List.mem_cons.mp h).resolve_left fun z => e z.symm
      have ih := sum_drop g hx n.2 hl
      by_cases ha : a ∈ f
      · rw [List.filter_cons, if_neg (by simpa using ha), List.filter_cons, if_neg (by simp [ha])]; exact ih
      · rw [List.filter_cons, if_pos (by simpa using ha), List.filter_cons, if_pos (by simp [ha, e])]
        simp only [List.map_cons, List.sum_cons]
        omega
theorem mu_old {b : Book} {f t : List Str} {x : Str} : mu b f (t ++ [x]) = mu b f t + 1 := by unfold mu; simp; omega
theorem mu_new {b : Book} (O : OkB b) {f t : List Str} {x : Str} (hx : x ∉ f) (hk : x ∈ keys b) : mu b f (t ++ [x]) = mu b (f ++ [x]) (t ++ bget b x) + 1 := by
  unfold mu
  rw [sum_drop (fun x => (bget b x).length) hx O.nd hk]
  simp only [List.length_append, List.length_cons, List.length_nil]
  omega
end DL


namespace DL
open PySem PySem.Spec PyProof.Rows L2
theorem law_in {K : PySem.W.Frag} {H : Hp} {a : Addr} {ns : List Int} {g : List D → D → Prop} {E : XK} (hO : Only H) (hS : SqL K H a (ns.map V.int)) (hg : g [.list (ns.map .int)] (.bool true)) : SpD K g [.ref a] H (fun v _ => v = .bl true) E := by
  have hf : FzL K H a (ns.map V.int) := by
    rcases hS with (h | ⟨o, h⟩) | h
    · rcases hO a with q | ⟨o, xs, q⟩ <;> (rw [h] at q; cases q)
    · exact .inl ⟨o, h⟩
    · exact .inr h
  have hr : RpAll K H (ns.map V.int) (ns.map PyData.int) := by
    clear hS hf hg
    induction ns with
    | nil => exact .nil
    | cons n ns ih => exact .cons (.int n) ih
  exact ⟨_, _, .cons (.lst hf hr) .nil, hg, fun v H' _ r => (Rq.of r).bl⟩
theorem eqv_int (i j : Int) : PyData.eqv (.int i) (.int j) = decide (i = j) := by simp [PyData.eqv, Bool.beq_eq_decide_eq]
theorem eqv_str (i j : Str) : PyData.eqv (.str i) (.str j) = decide (i = j) := by simp [PyData.eqv, Bool.beq_eq_decide_eq]
theorem eqv_opt (x y : Option Str) : PyData.eqv (optS x) (optS y) = decide (x = y) := by
  cases x <;> cases y <;> simp [optS, PyData.eqv, Bool.beq_eq_decide_eq]
theorem sc_opt (x y : Option Str) : scD (optS x) (optS y) = true := by cases x <;> cases y <;> rfl
theorem o_neOpt {X : Cx} {x y : Option Str} : OpV X (compareOp .NotEq) (optS x) (optS y) (.val (.bool (!decide (x = y)))) := by rw [← eqv_opt]; exact o_ne (sc_opt x y)
theorem o_eqOpt {X : Cx} {x y : Option Str} : OpV X (compareOp .Eq) (optS x) (optS y) (.val (.bool (decide (x = y)))) := by rw [← eqv_opt]; exact o_eq (sc_opt x y)
theorem isNon_opt (x : Option Str) : isNon (optS x) = x.isNone := by cases x <;> rfl
mutual
theorem eqv_self : ∀ d : D, nod d = true → PyData.eqv d d = true
  | .none, _ => by simp [PyData.eqv]
  | .bool _, _ => by simp [PyData.eqv]
  | .int _, _ => by simp [PyData.eqv]
  | .str _, _ => by simp [PyData.eqv]
  | .list xs, h => by rw [PyData.eqv]; exact eqvAll_self xs (by simpa [nod] using h)
  | .tuple xs, h => by rw [PyData.eqv]; exact eqvAll_self xs (by simpa [nod] using h)
  | .dict _, h => by simp [nod] at h
theorem eqvAll_self : ∀ ds : List D, nods ds = true → PyData.eqvAll ds ds = true
  | [], _ => by simp [PyData.eqvAll]
  | d :: ds, h => by
    simp only [nods, Bool.and_eq_true] at h
    rw [PyData.eqvAll, eqv_self d h.1, eqvAll_self ds h.2]; rfl
end
theorem Pl.self {n : Nat} {d : D} (h : Pl n d) : PyData.eqv d d = true := eqv_self d (lay_nod h.lay)
theorem pl_sort {n : Nat} {ds : List D} (h : PlAll n ds) : PlAll n (sortD ds) := fun d hd => h d ((List.mergeSort_perm _ _).mem_iff.mp hd)
theorem pl_SS {n : Nat} {l : List (Str × Str)} (h : ∀ q ∈ l, PyData.strOk q.1 = true ∧ PyData.strOk q.2 = true) : PlAll (n + 1) (l.map encSS) := pla_map fun q hq => pl_tup (pla_cons (pl_str (h q hq).1) (pla_cons (pl_str (h q hq).2) pla_nil))
theorem lack_ok {h ps : List Part} (k : OkH h) : ∀ q ∈ lackOf h ps, PyData.strOk q.1 = true ∧ PyData.strOk q.2 = true := by
  intro q hq
  unfold lackOf at hq
  obtain ⟨p, hp, hq⟩ := List.mem_flatMap.mp hq
  split at hq
  · obtain ⟨f, hf, rfl⟩ := List.mem_map.mp hq
    unfold lacksL at hf
    obtain ⟨w, hw, rfl⟩ := List.mem_map.mp hf
    exact ⟨(k p hp).nm, (k p hp).ws w (List.mem_filter.mp hw).1⟩
  · cases hq
theorem r65 {k : Nat} {A : Around} (hr : Room k A) : A.units + 65 < cLine := by have := hr.un; omega
theorem r64 {k : Nat} {A : Around} (hr : Room k A) : A.units + 64 < cLine := by have := hr.un; omega
theorem r12 {k : Nat} {A : Around} (hr : Room k A) : A.units + 12 < cLine := by have := hr.un; omega
theorem r1 {k : Nat} {A : Around} (hr : Room k A) : A.units + 1 < cLine := by have := hr.un; omega
section
variable {X : Cx} {ρ : Rho} {e a b c : Expr} {d x y z : D} {ds es : List D} {k : Kd}
theorem atI_g {i : Int} (h0 : 0 ≤ i) (h1 : i < ds.length) : atI ds i = some (ds.getD i.toNat .none) := by
  unfold atI ixN
  rw [if_pos h0, if_pos h1]
  show ds[i.toNat]? = _
  rw [List.getElem?_eq_getElem (by omega), List.getD_eq_getElem?_getD, List.getElem?_eq_getElem (by omega)]
  rfl
theorem ix_tupG {i : Int} (h0 : 0 ≤ i) (h1 : i < ds.length) : IxV X (.tuple ds) (.int i) (.val (ds.getD i.toNat .none)) := ix_tupD (atI_g h0 h1)
theorem ix_lstG {i : Int} (h0 : 0 ≤ i) (h1 : i < ds.length) : IxV X (.list ds) (.int i) (.val (ds.getD i.toNat .none)) := ix_lstD (atI_g h0 h1)
theorem ix_2 {x y : D} {i : Int} (h0 : 0 ≤ i) (h1 : i < 2) : atI [x, y] i = some (if i = 0 then x else y) := by
  rcases (by omega : i = 0 ∨ i = 1) with rfl | rfl <;> rfl
theorem ix_3 {x y z : D} {i : Int} (h0 : 0 ≤ i) (h1 : i < 3) : atI [x, y, z] i = some (if i = 0 then x else if i = 1 then y else z) := by
  rcases (by omega : i = 0 ∨ i = 1 ∨ i = 2) with rfl | rfl | rfl <;> rfl
theorem ix_4 {x y z u : D} {i : Int} (h0 : 0 ≤ i) (h1 : i < 4) : atI [x, y, z, u] i = some (if i = 0 then x else if i = 1 then y else if i = 2 then z else u) := by
  rcases (by omega : i = 0 ∨ i = 1 ∨ i = 2 ∨ i = 3) with rfl | rfl | rfl | rfl <;> rfl
theorem ix_6 {x y z u v w : D} {i : Int} (h0 : 0 ≤ i) (h1 : i < 6) : atI [x, y, z, u, v, w] i = some (if i = 0 then x else if i = 1 then y else if i = 2 then z else if i = 3 then u else if i = 4 then v else w) := by
  rcases (by omega : i = 0 ∨ i = 1 ∨ i = 2 ∨ i = 3 ∨ i = 4 ∨ i = 5) with rfl | rfl | rfl | rfl | rfl | rfl <;> rfl
theorem ite_i (c : Prop) [Decidable c] (a b : Int) : (if c then PyData.int a else .int b) = .int (if c then a else b) := by split <;> rfl
theorem ite_s (c : Prop) [Decidable c] (a b : Str) : (if c then PyData.str a else .str b) = .str (if c then a else b) := by split <;> rfl
theorem ix_int2 {p q i : Int} (h0 : 0 ≤ i) (h1 : i < 2) : IxV X (.tuple [.int p, .int q]) (.int i) (.val (.int (if i = 0 then p else q))) := ix_tupD (by rw [ix_2 h0 h1, ite_i])
theorem ix_str2 {p q : Str} {i : Int} (h0 : 0 ≤ i) (h1 : i < 2) : IxV X (.tuple [.str p, .str q]) (.int i) (.val (.str (if i = 0 then p else q))) := ix_tupD (by rw [ix_2 h0 h1, ite_s])
theorem ix_str3 {p q r : Str} {i : Int} (h0 : 0 ≤ i) (h1 : i < 3) : IxV X (.tuple [.str p, .str q, .str r]) (.int i) (.val (.str (if i = 0 then p else if i = 1 then q else r))) := ix_tupD (by rw [ix_3 h0 h1, ite_s, ite_s])
theorem ix_int4 {p q r t i : Int} (h0 : 0 ≤ i) (h1 : i < 4) : IxV X (.tuple [.int p, .int q, .int r, .int t]) (.int i) (.val (.int (if i = 0 then p else if i = 1 then q else if i = 2 then r else t))) := ix_tupD (by rw [ix_4 h0 h1, ite_i, ite_i, ite_i])
theorem ix_str4 {p q r t : Str} {i : Int} (h0 : 0 ≤ i) (h1 : i < 4) : IxV X (.tuple [.str p, .str q, .str r, .str t]) (.int i) (.val (.str (if i = 0 then p else if i = 1 then q else if i = 2 then r else t))) := ix_tupD (by rw [ix_4 h0 h1, ite_s, ite_s, ite_s])
theorem ix_str6 {p q r t u v : Str} {i : Int} (h0 : 0 ≤ i) (h1 : i < 6) : IxV X (.tuple [.str p, .str q, .str r, .str t, .str u, .str v]) (.int i) (.val (.str (if i = 0 then p else if i = 1 then q else if i = 2 then r else if i = 3 then t else if i = 4 then u else v))) := ix_tupD (by rw [ix_6 h0 h1, ite_s, ite_s, ite_s, ite_s, ite_s])
/-- flat data -/
def flD : D → Bool
  | .none => true
  | .bool _ => true
  | .int _ => true
  | .str _ => true
  | _ => false
theorem fl_ok {K : PySem.W.Frag} {H : Hp} {u v : V} (h1 : flD x = true) (h2 : flD y = true) (ru : Rp K H u x) (rv : Rp K H v y) : flatV u = true ∧ flatV v = true ∧ eqV u v = PyData.eqv x y := by
  cases ru <;> simp [flD] at h1 <;> cases rv <;> simp [flD] at h2 <;> refine ⟨rfl, rfl, ?_⟩ <;> first
    | rfl
    | (simp [eqV, PyData.eqv]; done)
    | (simp only [eqV, PyData.eqv]; rfl)
theorem fl_all {K : PySem.W.Frag} {H : Hp} {u : V} (h1 : flD x = true) (ru : Rp K H u x) : ∀ {xs : List V} {ds : List D}, RpAll K H xs ds → ds.all flD = true → xs.all flatV = true ∧ inV u xs = ds.any fun z => PyData.eqv z x
  | _, _, .nil, _ => ⟨rfl, rfl⟩
  | _, _, .cons r t, h => by
    rw [List.all_cons, Bool.and_eq_true] at h
    obtain ⟨a1, a2⟩ := fl_all h1 ru t h.2
    obtain ⟨b1, b2, b3⟩ := fl_ok h.1 h1 r ru
    refine ⟨by rw [List.all_cons, b1, a1]; rfl, ?_⟩
    unfold inV at a2 ⊢
    rw [List.any_cons, List.any_cons, b3, a2]
theorem Rq.flat {K : PySem.W.Frag} {H : Hp} {u : V} (h : flD x = true) (r : Rq K H u x) : Rp K H u x := by
  cases r with
  | of r => exact r
  | own => simp [flD] at h
  | dct => simp [flD] at h
theorem o_inS (hx : flD x = true := by rfl) (hy : ds.all flD = true := by rfl) : OpV X (compareOp .In) x (.list ds) (.val (.bool (ds.any fun z => PyData.eqv z x))) := fun H u v Q ru rv q => by
  have ru := ru.flat hx
  obtain ⟨a, xs, rfl, hs, hr⟩ := rv.lst
  obtain ⟨a1, a2⟩ := fl_all hx ru hr hy
  have f1 := (fl_ok hx hx ru ru).1
  exact ⟨_, op_in_seq, a, xs, rfl, .inl hs, f1, a1, by rw [if_neg (by decide), a2]; exact q _ H ⟨.refl H, .bl _⟩⟩
theorem o_ninS (hx : flD x = true := by rfl) (hy : ds.all flD = true := by rfl) : OpV X (compareOp .NotIn) x (.list ds) (.val (.bool (!ds.any fun z => PyData.eqv z x))) := fun H u v Q ru rv q => by
  have ru := ru.flat hx
  obtain ⟨a, xs, rfl, hs, hr⟩ := rv.lst
  obtain ⟨a1, a2⟩ := fl_all hx ru hr hy
  have f1 := (fl_ok hx hx ru ru).1
  exact ⟨_, op_notIn_seq, a, xs, rfl, .inl hs, f1, a1, by rw [if_pos rfl, a2]; exact q _ H ⟨.refl H, .bl _⟩⟩
theorem o_inST (hx : flD x = true := by rfl) (hy : ds.all flD = true := by rfl) : OpV X (compareOp .In) x (.tuple ds) (.val (.bool (ds.any fun z => PyData.eqv z x))) := fun H u v Q ru rv q => by
  have ru := ru.flat hx
  obtain ⟨a, xs, rfl, hs, hr⟩ := rv.tup
  obtain ⟨a1, a2⟩ := fl_all hx ru hr hy
  have f1 := (fl_ok hx hx ru ru).1
  exact ⟨_, op_in_seq, a, xs, rfl, .inr hs, f1, a1, by rw [if_neg (by decide), a2]; exact q _ H ⟨.refl H, .bl _⟩⟩
theorem o_ninST (hx : flD x = true := by rfl) (hy : ds.all flD = true := by rfl) : OpV X (compareOp .NotIn) x (.tuple ds) (.val (.bool (!ds.any fun z => PyData.eqv z x))) := fun H u v Q ru rv q => by
  have ru := ru.flat hx
  obtain ⟨a, xs, rfl, hs, hr⟩ := rv.tup
  obtain ⟨a1, a2⟩ := fl_all hx ru hr hy
  have f1 := (fl_ok hx hx ru ru).1
  exact ⟨_, op_notIn_seq, a, xs, rfl, .inr hs, f1, a1, by rw [if_pos rfl, a2]; exact q _ H ⟨.refl H, .bl _⟩⟩
theorem fl_strs {α : Type} {l : List α} {f : α → Str} : (l.map fun a => PyData.str (f a)).all flD = true := by
  rw [List.all_map]; exact List.all_eq_true.mpr fun _ _ => rfl
/-- the own names of a comprehension's block by their slots -/
def ownOf (N : List Str) (scope : Scope) : List (Str × Nat) := scope.names.filterMap fun y => match y.2 with
  | .local => if y.1 ∈ N then some (y.1, N.idxOf y.1) else none
  | .cell => if y.1 ∈ N then some (y.1, N.idxOf y.1) else none
  | _ => none
theorem ev_lcA {elt tg iter : Expr} {ifs : List Expr} {scope : Scope} {pos : Pos} {α : Type} {ps : List α} {en : α → D} {ρ' : α → Rho} {keep : α → Bool} {f : α → D} {is : List Nat} {yl : Bool}
    (hN : X.N.Nodup) (ok : blkC X.N X.env.scope scope (ownOf X.N scope) = true)
    (hi : EvIq X tg iter ρ yl (ps.map en)) (hg : ∀ p ∈ ps, Blk X scope fun Y => EvG Y yl tg (wipeB ρ ((ownOf X.N scope).map (·.2))) (en p) (ρ' p) is)
    (ht : ∀ p ∈ ps, Blk X scope fun Y => EvTs Y ifs (ρ' p) (keep p)) (he : ∀ p ∈ ps, keep p = true → Blk X scope fun Y => Ev Y elt (ρ' p) (.val (f p)))
    (hw : (is.all fun i => ((ownOf X.N scope).map (·.2)).contains i) = true) (hc : X.calm = true := by rfl) (hs : ∀ x, foldedSetIterable iter X.env x = pure x := by intro _; rfl) :
    Ev X (.ListComp elt [⟨tg, iter, ifs, 0⟩] scope pos) ρ (.new ((ps.filter keep).map f)) :=
  ev_lc hN (blkOk_by ok) hi hg ht he (fun i h => by simpa using List.all_eq_true.mp hw i h) hc hs
theorem sx_setLcA {Φ : DL.Fin} (i : Nat) {y : Str} {py : Pos} {elt tg iter : Expr} {ifs : List Expr} {scope : Scope} {pos spos : Pos} {α : Type} {ps : List α} {en : α → D} {ρ' : α → Rho} {keep : α → Bool} {f : α → D} {is : List Nat} {yl : Bool}
    (hN : X.N.Nodup) (ok : blkC X.N X.env.scope scope (ownOf X.N scope) = true)
    (hi : EvIq X tg iter ρ yl (ps.map en)) (hg : ∀ p ∈ ps, Blk X scope fun Y => EvG Y yl tg (wipeB ρ ((ownOf X.N scope).map (·.2))) (en p) (ρ' p) is)
    (ht : ∀ p ∈ ps, Blk X scope fun Y => EvTs Y ifs (ρ' p) (keep p)) (he : ∀ p ∈ ps, keep p = true → Blk X scope fun Y => Ev Y elt (ρ' p) (.val (f p)))
    (hw : (is.all fun i => ((ownOf X.N scope).map (·.2)).contains i) = true) (hsw : swapsWith (.ListComp elt [⟨tg, iter, ifs, 0⟩] scope pos) (some (.Name y py)) spos.line X.env = pure true)
    (h : Φ.nx (ρ.set i (.val (.list ((ps.filter keep).map f)))))
    (hy : X.N[i]? = some y := by rfl) (hyl : X.env.scope.names.lookup y = some .local := by rfl) (hc : X.calm = true := by rfl) (hs : ∀ x, foldedSetIterable iter X.env x = pure x := by intro _; rfl) :
    Sx X (.Assign [.Name y py] (.ListComp elt [⟨tg, iter, ifs, 0⟩] scope pos) spos) ρ Φ :=
  sx_setLc i hN (blkOk_by ok) hsw hi hg ht he h (fun i h => by simpa using List.all_eq_true.mp hw i h) hy hyl hc hs
/-! ### facts by names -/
structure Sl (N : List Str) (s : String) (i : Nat) : Prop where
  h : N[i]? = some (Str.ofString s)
  d : (Str.ofString s == ("__debug__" : Str)) = false
  c : (Str.ofString s == ("__classdict__" : Str)) = false
structure Cl (P : Program) (w : World) (K : PySem.W.Frag) (mg : Str → Option Value) (base : Heap) (s : String) (kk : Nat) (g : List D → D → Prop) : Prop where
  h : ∃ f fd ps, FnD P w K mg base kk f fd ps g ∧ mg (Str.ofString s) = some (.ref f) ∧ PySem.W.keepIn K (.ref f) = true ∧ Binds K fd ps []
structure Nb (mg : Str → Option Value) (s : String) (v : Value) : Prop where
  h : mg (Str.ofString s) = none
  v : bootBuiltins (Str.ofString s) = some v
  n : Str.ofString s ≠ "__name__"
  d : (Str.ofString s == ("__debug__" : Str)) = false
/-- what came, as a datum -/
inductive KV' : Kd → D → Prop
  | val {d : D} : KV' (.val d) d
  | new {ds : List D} : KV' (.new ds) (.list ds)
  | newD {es : List (D × D)} : KV' (.newD es) (.dict es)
theorem Ev.toV (h : Ev X e ρ k) (q : KV' k d) : Ev X e ρ (.val d) := by
  cases q with
  | val => exact h
  | new => exact h.fz
  | newD => exact h.fzD
theorem ev_vn {s : String} {i : Nat} {pos : Pos} (hs : Sl X.N s i) (h : ρ[i]? = some (.val d)) (hv : Vis X.env.scope (Str.ofString s)) : Ev X (.Name (Str.ofString s) pos) ρ (.val d) := ev_var i h hs.h hv hs.d hs.c
theorem ev_vo {s : String} {i : Nat} {pos : Pos} (hs : Sl X.N s i) (h : ρ[i]? = some (.own ds)) (hv : Vis X.env.scope (Str.ofString s)) : Ev X (.Name (Str.ofString s) pos) ρ (.qua (.list ds)) := ev_own i h hs.h hv hs.d hs.c
theorem ev_vd {s : String} {i : Nat} {pos : Pos} {es : List (D × D)} (hs : Sl X.N s i) (h : ρ[i]? = some (.dic es)) (hv : Vis X.env.scope (Str.ofString s)) : Ev X (.Name (Str.ofString s) pos) ρ (.qua (.dict es)) := ev_dic i h hs.h hv hs.d hs.c
theorem eg_vn {s : String} {i : Nat} {pos : Pos} (hs : Sl X.N s i) (hN : X.N.Nodup) (hx : Loc X.env.scope (Str.ofString s)) (hf : X.fn (Str.ofString s) = true ∨ X.env.scope.names.lookup (Str.ofString s) = some .local) : EvG X false (.Name (Str.ofString s) pos) ρ d (ρ.set i (.val d)) [i] := eg_name i hN hs.h hx hf
theorem ev_cl {s : String} {kk : Nat} {g : List D → D → Prop} {es : List Expr} {p pos : Pos} (C : Cl X.prog X.w X.K X.mg X.base s kk g) (hr : Room kk X.A) (ha : EvA X (e :: es) ρ ds) (hg' : g ds d) (hg : Gl X (Str.ofString s)) (hdb : (Str.ofString s == ("__debug__" : Str)) = false) (he : starEach (e :: es) X.env = (false, eval e X.env) :: starEach es X.env) (hpl : (backTo pos (starEach es X.env)).any (·.1) = false) :
    Ev X (.Call (.Name (Str.ofString s) p) (e :: es) [] pos) ρ (.val d) := by
  obtain ⟨f, fd, ps, F, hm, hk, hb⟩ := C.h
  exact ev_call F hr hm hk hb ha hg' hg hdb he hpl
theorem ev_nb {s id : String} {es : List Expr} {p pos : Pos} (hm : Nb X.mg s (.builtin id)) (ha : EvAq X (e :: es) ρ ds) (hc : CallV X (.builtin id) ds k) (hg : Gl X (Str.ofString s))
    (he : starEach (e :: es) X.env = (false, eval e X.env) :: starEach es X.env) (hpl : (backTo pos (starEach es X.env)).any (·.1) = false) : Ev X (.Call (.Name (Str.ofString s) p) (e :: es) [] pos) ρ k := ev_b hc hm.h ha hm.v hg hm.n hm.d he hpl
theorem ev_nt {s T : String} {es : List Expr} {p pos : Pos} (hm : Nb X.mg s (.type T)) (ha : EvAq X (e :: es) ρ ds) (hc : CallV X (.type T) ds k) (hg : Gl X (Str.ofString s))
    (he : starEach (e :: es) X.env = (false, eval e X.env) :: starEach es X.env) (hpl : (backTo pos (starEach es X.env)).any (·.1) = false) : Ev X (.Call (.Name (Str.ofString s) p) (e :: es) [] pos) ρ k := ev_ty hc hm.h ha hm.v hg hm.n hm.d he hpl
/-! ### guards -/
theorem gd_name {x : Str} {pos : Pos} (h : Ev X (.Name x pos) ρ k) : Ev X (.Name x pos) ρ k := h
theorem gd_bin {op : Operator} {pos : Pos} (h : Ev X (.BinOp a op b pos) ρ k) : Ev X (.BinOp a op b pos) ρ k := h
theorem gd_cmp {op : CmpOp} {pos : Pos} (h : Ev X (.Compare a [op] [b] pos) ρ k) : Ev X (.Compare a [op] [b] pos) ρ k := h
theorem gd_cmp2 {op op' : CmpOp} {pos : Pos} (h : Ev X (.Compare a [op, op'] [b, c] pos) ρ k) : Ev X (.Compare a [op, op'] [b, c] pos) ρ k := h
theorem gd_tup {l : List Expr} {n : Nat} {pos : Pos} (h : Ev X (.Tuple l n pos) ρ k) : Ev X (.Tuple l n pos) ρ k := h
theorem gd_lst {l : List Expr} {pos : Pos} (h : Ev X (.List l pos) ρ k) : Ev X (.List l pos) ρ k := h
theorem gd_call {x : Str} {l : List Expr} {p pos : Pos} (h : Ev X (.Call (.Name x p) l [] pos) ρ k) : Ev X (.Call (.Name x p) l [] pos) ρ k := h
theorem gd_meth {x : Str} {l : List Expr} {p pos : Pos} (h : Ev X (.Call (.Attribute a x p) l [] pos) ρ k) : Ev X (.Call (.Attribute a x p) l [] pos) ρ k := h
theorem gd_sub {pos : Pos} (h : Ev X (.Subscript a b pos) ρ k) : Ev X (.Subscript a b pos) ρ k := h
theorem gd_rev {k2 : Nat} {p1 p2 p3 pos : Pos} (h : Ev X (.Subscript a (.Slice none none (some (.UnaryOp .USub (.Constant (.int 1) k2 p1) p2)) p3) pos) ρ k) : Ev X (.Subscript a (.Slice none none (some (.UnaryOp .USub (.Constant (.int 1) k2 p1) p2)) p3) pos) ρ k := h
theorem gd_sl {lo hi : Option Expr} {p pos : Pos} (h : Ev X (.Subscript a (.Slice lo hi none p) pos) ρ k) : Ev X (.Subscript a (.Slice lo hi none p) pos) ρ k := h
theorem gd_bool {op : BoolOp} {l : List Expr} {pos : Pos} (h : Ev X (.BoolOp op l pos) ρ k) : Ev X (.BoolOp op l pos) ρ k := h
theorem gd_un {op : UnaryOp} {pos : Pos} (h : Ev X (.UnaryOp op a pos) ρ k) : Ev X (.UnaryOp op a pos) ρ k := h
theorem gd_lc {l : List Comprehension} {sc : Scope} {pos : Pos} (h : Ev X (.ListComp a l sc pos) ρ k) : Ev X (.ListComp a l sc pos) ρ k := h
theorem gd_if {pos : Pos} (h : Ev X (.IfExp a b c pos) ρ k) : Ev X (.IfExp a b c pos) ρ k := h
theorem gt_cmp {t : Bool} {op : CmpOp} {pos : Pos} (h : EvT X (.Compare a [op] [b] pos) ρ t) : EvT X (.Compare a [op] [b] pos) ρ t := h
theorem gt_cmp2 {t : Bool} {op op' : CmpOp} {pos : Pos} (h : EvT X (.Compare a [op, op'] [b, c] pos) ρ t) : EvT X (.Compare a [op, op'] [b, c] pos) ρ t := h
theorem gt_bool {t : Bool} {op : BoolOp} {l : List Expr} {pos : Pos} (h : EvT X (.BoolOp op l pos) ρ t) : EvT X (.BoolOp op l pos) ρ t := h
theorem gt_not {t : Bool} {pos : Pos} (h : EvT X (.UnaryOp .Not a pos) ρ t) : EvT X (.UnaryOp .Not a pos) ρ t := h
end
end DL


/-! More built-ins: sorted(tuple), texts compared. -/
namespace PySem.W
open PySem PySem.SeqAt PyProof.Rows
section
variable {prog : Program} {w : World} {A : Around} {E : Value → Shared → Prop} {s : Shared} {κ : PyProof.Rows.KeyKind}
theorem dl_collect_tuple {l : Addr} {vs : List Value} {Q : List Value → Shared → Prop} (hl : s.heap.IsTuple l vs.toArray)
    (h : Q vs { s with heap := (s.heap.push (seqObj "list" #[] 0)).update s.heap.objs.size (Obj.mapSeq (· ++ vs.toArray)) }) (hsz : vs.length ≤ sizeLine) :
    wpAny (model prog w) A (collect (.ref l)) Q E s := by
  obtain ⟨o, ho, hc, n, hd⟩ := id hl
  unfold collect
  refine wpAny_bind (wpAny_runValue (codeAny_builtin entry_proto_collect' ?_))
  show wpAny _ _ (do again (.builtin "list.__iadd__" ⟨[← newList [], .ref l], []⟩)) _ _ s
  refine wpAny_bind (wpAny_newList (wpAny_pure ⟨Code.quiet_builtin _ (by decide +kernel), codeAny_builtin entry_list_iadd' ?_⟩))
  show wpAny _ _ (Builtin.List.listExtendWith (.ref s.heap.objs.size) (.ref l) (.ref s.heap.objs.size)) _ _ { s with heap := s.heap.push (seqObj "list" #[] 0) }
  unfold Builtin.List.listExtendWith
  have ho' : (s.heap.push (seqObj "list" #[] 0)).get? l = some o := Heap.get?_push_of_some _ ho
  refine wpAny_bind (wpAny_typeOf (T := "tuple") ⟨o, ho', hc⟩ ?_)
  have ht : (Value.type "tuple" == Value.type "tuple") = true := by rfl
  rw [if_pos (by rw [ht]; simp)]
  refine wpAny_bind (listItems_at ho' hd ?_)
  refine wpAny_bind (listItems_at (xs := #[]) (n := 0) (Heap.get?_push_size _ rfl) rfl ?_)
  rw [if_neg (by simp)]
  refine wpAny_bind (listUpdate_at (xs := #[]) (n := 0) (Heap.get?_push_size _ rfl) rfl ?_ (Nat.zero_le _) (by show (#[] ++ vs.toArray).size ≤ sizeLine + 1; simp only [Array.size_append, List.size_toArray, List.length_nil]; omega))
  refine wpAny_pure ?_
  show wpAny (model prog w) A (do
      let o ← load s.heap.objs.size
      match o.data with
      | .seq xs _ => pure xs.toList
      | _ => unsupported "internal:collect") Q E { s with heap := (s.heap.push (seqObj "list" #[] 0)).update s.heap.objs.size (Obj.mapSeq (· ++ vs.toArray)) }
  refine wpAny_bind (wpAny_load (get?_update_seq (Heap.get?_push_size _ rfl) _) ?_)
  show wpAny _ _ (pure ((#[] : Array Value) ++ vs.toArray).toList) Q E _
  rw [show ((#[] : Array Value) ++ vs.toArray).toList = vs by simp]
  exact wpAny_pure h
theorem dl_sorted_tuple {l : Addr} {vs : List Value} {Q : Value → Shared → Prop} (hl : s.heap.IsTuple l vs.toArray) (S : SortsAt prog w A.in1.in1 { s with heap := sortingHeap (copyHeap s.heap vs) (s.heap.objs.size + 1) vs } κ vs) (hL : vs.length ≤ sizeLine)
    (h : Q (.ref (s.heap.objs.size + 1)) { s with heap := sortedAll s.heap vs (sortVals κ false vs vs).toArray }) : wpAny (model prog w) A (call (.builtin "sorted") [.ref l]) Q E s := by
  refine call_function_entry_kw kind_sorted plain_sorted entry_sorted (args_sorted1 _) ?_
  unfold Builtin.«sorted»
  refine wpAny_bind (m := checkCount "sorted" 1 1 _) (wpAny_pure ?_)
  refine wpAny_bind (dl_collect_tuple hl ?_ hL)
  refine wpAny_bind (wpAny_newList ?_ hL)
  have hsz : ((s.heap.push (seqObj "list" #[] 0)).update s.heap.objs.size (Obj.mapSeq (· ++ vs.toArray))).objs.size = s.heap.objs.size + 1 := by
    rw [Heap.size_update, size_push']
  show wpAny _ _ _ _ _ { s with heap := copyHeap s.heap vs }
  rw [hsz]
  refine wpAny_bind (wpAny_holding (wpAny_call_entry_kw slot_list_sort ⟨_, copyHeap_at s.heap vs, rfl⟩ entry_list_sort ?body (args_list_sort _)))
  case body =>
    show wpAny (model prog w) A.in1.in1 (Builtin.«list.sort» ⟨[.ref (s.heap.objs.size + 1)], []⟩) _ _ _
    refine wpAny_mono (list_sort_vals (P := fun f s' => f = .done (.ret .none) ∧ Q (.ref (s.heap.objs.size + 1)) s') (s := { s with heap := copyHeap s.heap vs }) (copyHeap_at s.heap vs) S hL ⟨rfl, h⟩) (fun f s' hf => ?_) fun _ _ e => e
    obtain ⟨rfl, hq⟩ := hf
    exact ⟨_, rfl, wpAny_pure ⟨_, rfl, hq⟩⟩
end
end PySem.W

namespace DL
open PySem PySem.Spec PyProof.Rows L2
section
variable {X : Cx} {ρ : Rho} {e a b c : Expr} {d x y z : D} {ds es : List D} {k : Kd} {Φ : DL.Fin} {pos : Pos}
theorem call_sortedDT (hu : X.A.units + 12 < cLine) : CallR X (.builtin "sorted") (fun vs H Q => ∃ a xs ds, vs = [.ref a] ∧ SqT X.K H a xs ∧ RpAll X.K H xs ds ∧ SortOk ds ∧
    ∀ ys p, H p = none → RpAll X.K H ys (sortD ds) → Q (.ref p) (upd H p (.lst ys))) := by
  intro pins s σ H vs us Q I r h
  obtain ⟨a, xs, ds, rfl, hs, hr, ok, q⟩ := h
  obtain ⟨its, rv, hl, hz⟩ := I.tuple hs
  rw [Vals.ref1 r]
  have hlen := rv.length
  have e0 : PySem.W.EachIs (fun v d => ∃ as, Reads s.heap v d as) its ds := by
    have go : ∀ {xs : List V} {ds : List D} {us : List Value}, RpAll X.K H xs ds → Vals xs us → (∀ d ∈ ds, nod d = true) → PySem.W.EachIs (fun v d => ∃ as, Reads s.heap v d as) us ds := by
      intro xs
      induction xs with
      | nil => intro ds us r v _; cases r; cases v; exact .nil
      | cons x xs ih =>
        intro ds us r v n
        cases r with
        | cons r1 r2 =>
          cases v with
          | cons v1 v2 => exact .cons (Dp.reads I _ _ _ ((Rq.of r1).dp (n _ (by simp))) v1) (ih r2 v2 fun d hd => n d (by simp [hd]))
    exact go hr rv ok.nd
  have e1 : PySem.W.EachIs (fun v d => ∃ as, Reads (PySem.W.sortingHeap (PySem.W.copyHeap s.heap its) (s.heap.objs.size + 1) its) v d as) its ds :=
    e0.mono fun v d ⟨as, h⟩ => ⟨as, PyProof.Rows.Reads.keeps (fun b o e => PySem.W.sorting_copy_old e) h⟩
  have hu2 : X.A.in1.in1.units ≤ X.A.units + 2 := by simp [Around.in1, Around.units]; try omega
  refine PySem.W.dl_sorted_tuple hl (PySem.W.SortsAt.data e1 ok.al ok.so fun d hd => by have := ok.dp d hd; omega) (by omega) ?_
  have key : PySem.W.EachIs (fun (v : Value) (p : V × D) => (PySem.W.dataKind (PySem.W.sortingHeap (PySem.W.copyHeap s.heap its) (s.heap.objs.size + 1) its) ds).keyOf v = some (PySem.W.keyToks p.2)) its (xs.zip ds) := by
    have go : ∀ {xs : List V} {es : List D} {us : List Value}, RpAll X.K H xs es → Vals xs us → (∀ d ∈ es, d ∈ ds) → PySem.W.EachIs (fun v d => ∃ as, Reads (PySem.W.sortingHeap (PySem.W.copyHeap s.heap its) (s.heap.objs.size + 1) its) v d as) us es →
        PySem.W.EachIs (fun (v : Value) (p : V × D) => (PySem.W.dataKind (PySem.W.sortingHeap (PySem.W.copyHeap s.heap its) (s.heap.objs.size + 1) its) ds).keyOf v = some (PySem.W.keyToks p.2)) us (xs.zip es) := by
      intro xs
      induction xs with
      | nil => intro es us r v _ _; cases r; cases v; exact .nil
      | cons x xs ih =>
        intro es us r v n e
        cases r with
        | cons r1 r2 =>
          cases v with
          | cons v1 v2 =>
            cases e with
            | cons e1 e2 =>
              obtain ⟨as, e1⟩ := e1
              exact .cons (PySem.W.dataKind_some ok.al (n _ (by simp)) e1) (ih r2 v2 (fun d hd => n d (by simp [hd])) e2)
    exact go hr rv (fun _ h => h) e1
  have srt := PySem.W.sortVals_each (rev := false) (κ := PySem.W.dataKind (PySem.W.sortingHeap (PySem.W.copyHeap s.heap its) (s.heap.objs.size + 1) its) ds) (fun p : V × D => PySem.W.keyToks p.2) (EachIs.zipV hr rv) key
  generalize hps : (xs.zip ds).mergeSort (PySem.W.sortLe (PySem.W.dataKind (PySem.W.sortingHeap (PySem.W.copyHeap s.heap its) (s.heap.objs.size + 1) its) ds).toKeyOrd false fun p : V × D => PySem.W.keyToks p.2) = ps at srt
  have perm : ps.Perm (xs.zip ds) := by rw [← hps]; exact List.mergeSort_perm _ _
  have snd : ps.map (·.2) = sortD ds := by
    rw [← hps]
    have := PySem.W.sort_maps (r := PySem.W.sortLe (PySem.W.dataKind (PySem.W.sortingHeap (PySem.W.copyHeap s.heap its) (s.heap.objs.size + 1) its) ds).toKeyOrd false fun p : V × D => PySem.W.keyToks p.2) (s := fun a b => !PySem.W.dataLt b a) (fun p : V × D => p.2) (l := xs.zip ds) (fun a _ b _ => rfl)
    refine this.trans ?_
    unfold sortD
    congr 1
    rw [List.map_snd_zip]
    have := hr.len
    omega
  have rp : RpAll X.K H (ps.map (·.1)) (sortD ds) := by
    rw [← snd]
    exact RpAll.of_mem fun p hp => hr.mem_zip p (perm.mem_iff.mp hp)
  obtain ⟨ep, he'⟩ := PyProof.Rows.sortedAll_at s.heap its (PySem.W.sortVals (PySem.W.dataKind (PySem.W.sortingHeap (PySem.W.copyHeap s.heap its) (s.heap.objs.size + 1) its) ds) false its its).toArray
  have hl2 : (ps.map (·.1)).length ≤ sizeLine := by
    rw [List.length_map, perm.length_eq, List.length_zip]
    omega
  have vv := each_fst (K := X.K) (H := H) srt
  exact ⟨.ref _, upd H (s.heap.objs.size + 1) (.lst (ps.map (·.1))), I.laid (t' := s.toks) (fun _ _ => PyProof.Rows.sortedAll_old) (Nat.le_succ _) ⟨hl2, _, ep, vv, he'⟩, rfl, q _ _ (I.hok.fresh (Nat.le_succ _)) rp⟩
theorem c_sortedT {ds : List D} (hu : X.A.units + 12 < cLine) (ok : SortOk ds) : CallV X (.builtin "sorted") [.tuple ds] (.new (sortD ds)) := fun H vs Q r q => by
  obtain ⟨v, rfl, r0⟩ := paired1 r
  obtain ⟨a, xs, rfl, hs, hr⟩ := r0.tup
  exact ⟨_, call_sortedDT hu, a, xs, ds, rfl, hs, hr, ok, fun ys p hp hy => q _ _ ⟨same_new hp, p, _, rfl, hp, upd_same, hy.mono (stb_new hp)⟩⟩
/-! ### <, >, <=, >= of alike data -/
def cmpOk (x y : D) : Bool := PySem.W.alike x y && (!isNon x && (nod x && (nod y && decide (x.depth ≤ 40))))
theorem op_ltDD (hu : X.A.units + 65 < cLine) : OpR X (compareOp .Lt) (fun x y H Q => ∃ d e, Dp X.K H x d ∧ Dp X.K H y e ∧ PySem.W.alike d e = true ∧ d ≠ .none ∧ d.depth ≤ 40 ∧ Q (.bl (PySem.W.dataLt d e)) H) := by
  intro pins s σ H x y v u Q I rx ry h
  obtain ⟨d, e, hd, he, al, nn, dp, q⟩ := h
  obtain ⟨as, r1⟩ := Dp.reads I d x v hd rx
  obtain ⟨bs, r2⟩ := Dp.reads I e y u he ry
  exact PySem.W.lt_data r1 r2 al nn (by have := Nat.min_le_left d.depth e.depth; omega) ⟨.bl _, H, I, rfl, q⟩
theorem op_gtDD (hu : X.A.units + 65 < cLine) : OpR X (compareOp .Gt) (fun x y H Q => ∃ d e, Dp X.K H x d ∧ Dp X.K H y e ∧ PySem.W.alike d e = true ∧ d ≠ .none ∧ d.depth ≤ 40 ∧ Q (.bl (PySem.W.dataLt e d)) H) := by
  intro pins s σ H x y v u Q I rx ry h
  obtain ⟨d, e, hd, he, al, nn, dp, q⟩ := h
  obtain ⟨as, r1⟩ := Dp.reads I d x v hd rx
  obtain ⟨bs, r2⟩ := Dp.reads I e y u he ry
  exact PySem.W.gt_data r1 r2 al nn (by have := Nat.min_le_left d.depth e.depth; omega) ⟨.bl _, H, I, rfl, q⟩
theorem cmpOk_inv (h : cmpOk x y = true) : PySem.W.alike x y = true ∧ x ≠ .none ∧ nod x = true ∧ nod y = true ∧ x.depth ≤ 40 := by
  unfold cmpOk at h
  simp only [Bool.and_eq_true, decide_eq_true_eq, Bool.not_eq_true'] at h
  refine ⟨h.1, fun e => ?_, h.2.2.1, h.2.2.2.1, h.2.2.2.2⟩
  rw [e] at h
  cases h.2.1
theorem o_ltDD (hu : X.A.units + 65 < cLine) (h : cmpOk x y = true) : OpV X (compareOp .Lt) x y (.val (.bool (PySem.W.dataLt x y))) := fun H u v Q ru rv q => by
  obtain ⟨h1, h2, h3, h4, h5⟩ := cmpOk_inv h
  exact ⟨_, op_ltDD hu, x, y, ru.dp h3, rv.dp h4, h1, h2, h5, q _ H ⟨.refl H, .bl _⟩⟩
theorem o_gtDD (hu : X.A.units + 65 < cLine) (h : cmpOk x y = true) : OpV X (compareOp .Gt) x y (.val (.bool (PySem.W.dataLt y x))) := fun H u v Q ru rv q => by
  obtain ⟨h1, h2, h3, h4, h5⟩ := cmpOk_inv h
  exact ⟨_, op_gtDD hu, x, y, ru.dp h3, rv.dp h4, h1, h2, h5, q _ H ⟨.refl H, .bl _⟩⟩
theorem o_gts {i j : Str} : OpV X (compareOp .Gt) (.str i) (.str j) (.val (.bool (decide (j.cps.toList < i.cps.toList)))) := fun H u v Q ru rv q => ⟨_, op_gt_str, i, j, ru.str, rv.str, q _ H ⟨.refl H, .bl _⟩⟩
/-! ### max(ints), index -/
theorem rp_ints {K : PySem.W.Frag} {H : Hp} : ∀ {bs : List Int} {xs : List V}, RpAll K H xs (bs.map .int) → xs = bs.map V.int
  | [], _, r => by cases r; rfl
  | b :: bs, _, r => by
    cases r with
    | cons h t => rw [(Rq.of h).int, rp_ints t]; rfl
def maxL : Int → List Int → Int
  | m, [] => m
  | m, a :: l => maxL (if a > m then a else m) l
theorem maxL_ge : ∀ (l : List Int) (m : Int), m ≤ maxL m l ∧ ∀ y ∈ l, y ≤ maxL m l
  | [], m => ⟨Int.le_refl _, fun _ h => nomatch h⟩
  | a :: l, m => by
    obtain ⟨h1, h2⟩ := maxL_ge l (if a > m then a else m)
    unfold maxL
    have h3 : m ≤ (if a > m then a else m) ∧ a ≤ (if a > m then a else m) := by split <;> omega
    generalize (if a > m then a else m) = z at h1 h2 h3
    refine ⟨by omega, fun y hy => ?_⟩
    rcases List.mem_cons.mp hy with rfl | hy
    · omega
    · exact h2 y hy
theorem maxL_mem : ∀ (l : List Int) (m : Int), maxL m l ∈ m :: l
  | [], m => by simp [maxL]
  | a :: l, m => by
    have := maxL_mem l (if a > m then a else m)
    unfold maxL
    rcases List.mem_cons.mp this with e | h
    · rw [e]; split <;> simp
    · simp only [List.mem_cons]; exact .inr (.inr h)
theorem c_maxL {m : Int} {l : List Int} (hc : X.calm = true := by rfl) : CallV X (.builtin "max") [.list ((m :: l).map .int)] (.val (.int (maxL m l))) := fun H vs Q r q => by
  obtain ⟨v, rfl, r0⟩ := paired1 r
  obtain ⟨a, xs, rfl, hs, hr⟩ := r0.lst
  rw [rp_ints hr] at hs
  refine ⟨_, cr_max hc, a, m :: l, rfl, hs, by simp, fun k hk hy => ?_⟩
  obtain ⟨g1, g2⟩ := maxL_ge l m
  have h1 := hy _ (maxL_mem l m)
  have h2 : k ≤ maxL m l := by
    rcases List.mem_cons.mp hk with rfl | hk
    · exact g1
    · exact g2 k hk
  rw [show k = maxL m l by omega]
  exact q _ H ⟨.refl H, .int _⟩
end
end DL


/-! Plain reckoning with data: what the program's text comes to, as Lean functions that may be stuck (none). -/
namespace DL
open PySem PySem.Spec PyProof.Rows L2
def bnd {α β : Type} : Option α → (α → Option β) → Option β
  | none, _ => none
  | some a, g => g a
@[simp] theorem bnd_some {α β : Type} (a : α) (g : α → Option β) : bnd (some a) g = g a := rfl
@[simp] theorem bnd_none {α β : Type} (g : α → Option β) : bnd none g = none := rfl
theorem bnd_inv {α β : Type} {f : Option α} {g : α → Option β} {r : β} (h : bnd f g = some r) : ∃ a, f = some a ∧ g a = some r := by
  cases f with
  | none => cases h
  | some a => exact ⟨a, rfl, h⟩
section
variable {α β : Type}
def op1 (h : D → Option α) (f : Option D) : Option α := bnd f h
def op2 (h : D → D → Option α) (f g : Option D) : Option α := bnd f fun x => bnd g fun y => h x y
def op3 (h : D → D → D → Option α) (f g k : Option D) : Option α := bnd f fun x => bnd g fun y => bnd k fun z => h x y z
def op4 (h : D → D → D → D → Option α) (f g k l : Option D) : Option α := bnd f fun x => bnd g fun y => bnd k fun z => bnd l fun u => h x y z u
@[simp] theorem op1_some (h : D → Option α) (x : D) : op1 h (some x) = h x := rfl
@[simp] theorem op2_some (h : D → D → Option α) (x y : D) : op2 h (some x) (some y) = h x y := rfl
@[simp] theorem op3_some (h : D → D → D → Option α) (x y z : D) : op3 h (some x) (some y) (some z) = h x y z := rfl
@[simp] theorem op4_some (h : D → D → D → D → Option α) (x y z u : D) : op4 h (some x) (some y) (some z) (some u) = h x y z u := rfl
end
def boV (f : Option Bool) : Option D := bnd f fun b => some (.bool b)
def tB (f : Option D) : Option Bool := bnd f fun d => match d with
  | .bool b => some b
  | _ => none
def lsV (f : Option (List D)) : Option D := bnd f fun ds => some (.list ds)
def dcV (f : Option (List (D × D))) : Option D := bnd f fun ds => some (.dict ds)
@[simp] theorem boV_some (b : Bool) : boV (some b) = some (.bool b) := rfl
@[simp] theorem tB_some (b : Bool) : tB (some (.bool b)) = some b := rfl
@[simp] theorem lsV_some (b : List D) : lsV (some b) = some (.list b) := rfl
@[simp] theorem dcV_some (b : List (D × D)) : dcV (some b) = some (.dict b) := rfl
def toI : D → Option Int
  | .int i => some i
  | _ => none
/-! ### operators -/
def addD : D → D → Option D
  | .int i, .int j => some (.int (i + j))
  | .str i, .str j => if i.length + j.length ≤ sizeLine then some (.str (i ++ j)) else none
  | .tuple a, .tuple b => if a.length + b.length ≤ sizeLine then some (.tuple (a ++ b)) else none
  | .list a, .list b => if a.length + b.length ≤ sizeLine then some (.list (a ++ b)) else none
  | _, _ => none
def addN : D → D → Option (List D)
  | .list a, .list b => if a.length + b.length ≤ sizeLine then some (a ++ b) else none
  | _, _ => none
def subD : D → D → Option D
  | .int i, .int j => some (.int (i - j))
  | _, _ => none
def mulD : D → D → Option D
  | .int i, .int j => if (-(2 ^ 64) < i ∧ i < 2 ^ 64) ∨ (-(2 ^ 64) < j ∧ j < 2 ^ 64) then some (.int (i * j)) else none
  | .tuple (a :: l), .int k => if k = 0 then some (.tuple []) else if k = 1 then some (.tuple (a :: l)) else none
  | _, _ => none
def divD : D → D → Option D
  | .int i, .int j => if 0 < j ∧ j < 1073741824 then some (.int (i / j)) else none
  | _, _ => none
def modD : D → D → Option D
  | .int i, .int j => if 0 < j then some (.int (i % j)) else none
  | _, _ => none
def negD : D → Option D
  | .int i => some (.int (-i))
  | _ => none
/-! ### comparisons -/
def ltB : D → D → Option Bool
  | .int i, .int j => some (decide (i < j))
  | .str i, .str j => some (decide (i.cps.toList < j.cps.toList))
  | x, y => if cmpOk x y = true then some (PySem.W.dataLt x y) else none
def leB : D → D → Option Bool
  | .int i, .int j => some (decide (i ≤ j))
  | .str i, .str j => some (!decide (j.cps.toList < i.cps.toList))
  | _, _ => none
def gtB : D → D → Option Bool
  | .int i, .int j => some (decide (j < i))
  | .str i, .str j => some (decide (j.cps.toList < i.cps.toList))
  | x, y => if cmpOk x y = true then some (PySem.W.dataLt y x) else none
def geB : D → D → Option Bool
  | .int i, .int j => some (decide (j ≤ i))
  | _, _ => none
def plB (d : D) : Bool := d.canLay0 && decide (d.depth ≤ 64)
def plBs (ds : List D) : Bool := PyData.canLayAll0 ds && decide (PyData.depthAll ds ≤ 63)
def eqB (x y : D) : Option Bool := if (scD x y || (plB x && plB y)) = true then some (PyData.eqv x y) else none
def neB (x y : D) : Option Bool := if (scD x y || (plB x && plB y)) = true then some (!PyData.eqv x y) else none
def inB (x : D) : D → Option Bool
  | .list ds => if ((flD x && ds.all flD) || (plB x && plBs ds)) = true then some (ds.any fun z => PyData.eqv z x) else none
  | .tuple ds => if ((flD x && ds.all flD) || (plB x && plBs ds)) = true then some (ds.any fun z => PyData.eqv z x) else none
  | _ => none
def notT (f : Option Bool) : Option Bool := bnd f fun b => some (!b)
def ninB (x y : D) : Option Bool := notT (inB x y)
def isNB (x : D) : Option Bool := some (isNon x)
def isNNB (x : D) : Option Bool := some (!isNon x)
def andT (f g : Option Bool) : Option Bool := bnd f fun b => match b with
  | true => g
  | false => some false
def orT (f g : Option Bool) : Option Bool := bnd f fun b => match b with
  | true => some true
  | false => g
def chT (p q : D → D → Option Bool) (f g h : Option D) : Option Bool := bnd f fun x => bnd g fun y => bnd (p x y) fun t => match t with
  | true => bnd h fun z => q y z
  | false => some false
@[simp] theorem notT_some (b : Bool) : notT (some b) = some (!b) := rfl
@[simp] theorem andT_some (a b : Bool) : andT (some a) (some b) = some (a && b) := by cases a <;> rfl
@[simp] theorem orT_some (a b : Bool) : orT (some a) (some b) = some (a || b) := by cases a <;> rfl
@[simp] theorem andT_false (f : Option Bool) : andT (some false) f = some false := rfl
@[simp] theorem orT_true (f : Option Bool) : orT (some true) f = some true := rfl
@[simp] theorem andT_true (f : Option Bool) : andT (some true) f = f := rfl
@[simp] theorem orT_false (f : Option Bool) : orT (some false) f = f := rfl
@[simp] theorem chT_some (p q : D → D → Option Bool) (x y z : D) {t u : Bool} (h : p x y = some t) (k : q y z = some u) : chT p q (some x) (some y) (some z) = some (t && u) := by
  unfold chT; simp only [bnd_some, h, k]; cases t <;> rfl
/-! ### places, cuts, built-ins -/
def ixD : D → D → Option D
  | .tuple ds, .int i => atI ds i
  | .list ds, .int i => atI ds i
  | .dict es, k => bnd (kd k) (lookD es)
  | .str s, .int i => if s.length ≤ sizeLine then bnd (atI s.cps.toList i) fun c => some (.str ⟨#[c]⟩) else none
  | _, _ => none
def getD3 : D → D → D → Option D
  | .dict es, k, x => bnd (kd k) fun kk => some ((lookD es kk).getD x)
  | _, _, _ => none
def cutF : D → Option Int → Option Int → Option D
  | .tuple ds, lo, hi => some (.tuple (cutD ds lo hi))
  | .list ds, lo, hi => some (.list (cutD ds lo hi))
  | _, _, _ => none
def cutN : D → Option Int → Option Int → Option (List D)
  | .list ds, lo, hi => some (cutD ds lo hi)
  | _, _, _ => none
def op3s {α : Type} (h : D → Option Int → Option Int → Option α) (f : Option D) (lo hi : Option (Option Int)) : Option α := bnd f fun x => bnd lo fun l => bnd hi fun u => h x l u
@[simp] theorem op3s_some {α : Type} (h : D → Option Int → Option Int → Option α) (x : D) (l u : Option Int) : op3s h (some x) (some l) (some u) = h x l u := rfl
def slP (f : Option D) : Option (Option Int) := bnd (op1 toI f) fun i => some (some i)
@[simp] theorem slP_int (i : Int) : slP (some (.int i)) = some (some i) := rfl
def revD : D → Option D
  | .tuple ds => some (.tuple ds.reverse)
  | .list ds => some (.list ds.reverse)
  | _ => none
def lenD : D → Option D
  | .list ds => some (.int (ds.length : Nat))
  | .tuple ds => some (.int (ds.length : Nat))
  | .str s => if s.length ≤ sizeLine then some (.int (s.length : Nat)) else none
  | _ => none
def listN : D → Option (List D)
  | .list ds => some ds
  | .tuple ds => some ds
  | .dict es => some (es.map (·.1))
  | _ => none
def tupD : D → Option D
  | .list ds => some (.tuple ds)
  | _ => none
def pairK : D → Option (Key × D)
  | .tuple [k, v] => bnd (kd k) fun kk => some (kk, v)
  | _ => none
def pairsK : List D → Option (List (Key × D))
  | [] => some []
  | d :: ds => bnd (pairK d) fun q => bnd (pairsK ds) fun r => some (q :: r)
def dictN : D → Option (List (D × D))
  | .tuple ds => bnd (pairsK ds) fun md => some (mergeD [] md)
  | .list ds => bnd (pairsK ds) fun md => some (mergeD [] md)
  | _ => none
mutual
def shOf : D → Option Sh
  | .int _ => some .int
  | .str _ => some .str
  | .bool _ => some .bool
  | .tuple ds => bnd (shOfAll ds) fun l => some (.tup l)
  | _ => none
def shOfAll : List D → Option (List Sh)
  | [] => some []
  | d :: ds => bnd (shOf d) fun s => bnd (shOfAll ds) fun l => some (s :: l)
end
def isTup1 : D → Bool
  | .tuple (_ :: _) => true
  | _ => false
def soG (ds : List D) : Bool := (ds.all fun d => ds.all fun e => PySem.W.alike d e) && (ds.all isTup1 && ds.all fun d => nod d && decide (d.depth ≤ 8))
def soS : List D → Bool
  | [] => true
  | d :: ds => match shOf d with
    | some s => (d :: ds).all (shOk s) && (shTop s && decide (shDep s ≤ 8))
    | none => false
def soB (ds : List D) : Bool := soS ds || soG ds
def allStr : List D → Option (List Str)
  | [] => some []
  | .str s :: ds => bnd (allStr ds) fun l => some (s :: l)
  | _ :: _ => none
def sortN : D → Option (List D)
  | .list ds => if soB ds = true then some (sortD ds) else none
  | .tuple ds => if soB ds = true then some (sortD ds) else none
  | .dict es => bnd (allStr (es.map (·.1))) fun ks => if ks.length < 64 then some ((sortS ks).map .str) else none
  | _ => none
def intD : D → Option D
  | .int i => some (.int i)
  | .bool b => some (.int (if b then 1 else 0))
  | _ => none
def allI : List D → Option (List Int)
  | [] => some []
  | .int s :: ds => bnd (allI ds) fun l => some (s :: l)
  | _ :: _ => none
def maxD1 : D → Option D
  | .list ds => bnd (allI ds) fun l => match l with
    | m :: r => some (.int (maxL m r))
    | [] => none
  | _ => none
def minD : D → D → Option D
  | .int i, .int j => some (.int (if j < i then j else i))
  | _, _ => none
def maxD : D → D → Option D
  | .int i, .int j => some (.int (if j > i then j else i))
  | _, _ => none
def allB : List D → Option (List Bool)
  | [] => some []
  | .bool s :: ds => bnd (allB ds) fun l => some (s :: l)
  | _ :: _ => none
def allD : D → Option D
  | .list ds => bnd (allB ds) fun l => some (.bool (l.all id))
  | _ => none
/-! ### walks -/
def itD : D → Option (List D)
  | .list ds => some ds
  | .tuple ds => some ds
  | .dict es => some (es.map (·.1))
  | .str s => if s.length ≤ sizeLine then some (s.cps.toList.map fun c => .str ⟨#[c]⟩) else none
  | _ => none
def rangeI : D → Option (List D)
  | .int n => if n ≤ 100000 ∧ -100000 ≤ n then some ((List.range n.toNat).map fun i => .int ((i : Nat) : Int)) else none
  | _ => none
def rangeI2 : D → D → Option (List D)
  | .int m, .int n => if -100000 ≤ m ∧ m ≤ 100000 ∧ -100000 ≤ n ∧ n ≤ 100000 then some ((List.range (n - m).toNat).map fun i => .int (m + ((i : Nat) : Int))) else none
  | _, _ => none
def enumI : D → Option (List D)
  | .tuple ds => some (enumD 0 ds)
  | _ => none
def zipI : D → D → Option (List D)
  | .tuple xs, .tuple ys => if xs.length = ys.length then some ((xs.zip ys).map fun q => .tuple [q.1, q.2]) else none
  | _, _ => none
/-! ### targets -/
def dec1 (d : D) : Option D := some d
def dec2 : D → Option (D × D)
  | .tuple [a, b] => some (a, b)
  | _ => none
def dec3 : D → Option (D × D × D)
  | .tuple [a, b, c] => some (a, b, c)
  | _ => none
def dec4 : D → Option (D × D × D × D)
  | .tuple [a, b, c, d] => some (a, b, c, d)
  | _ => none
def dec5 : D → Option (D × D × D × D × D)
  | .tuple [a, b, c, d, e] => some (a, b, c, d, e)
  | _ => none
@[simp] theorem dec1_eq (d : D) : dec1 d = some d := rfl
@[simp] theorem dec2_eq (a b : D) : dec2 (.tuple [a, b]) = some (a, b) := rfl
@[simp] theorem dec3_eq (a b c : D) : dec3 (.tuple [a, b, c]) = some (a, b, c) := rfl
@[simp] theorem dec4_eq (a b c d : D) : dec4 (.tuple [a, b, c, d]) = some (a, b, c, d) := rfl
@[simp] theorem dec5_eq (a b c d e : D) : dec5 (.tuple [a, b, c, d, e]) = some (a, b, c, d, e) := rfl
theorem dec1_inv {x v : D} (h : dec1 x = some v) : x = v := Option.some.inj h
theorem dec2_inv {x : D} {v : D × D} (h : dec2 x = some v) : x = .tuple [v.1, v.2] := by
  unfold dec2 at h; split at h
  · cases h; rfl
  · cases h
theorem dec3_inv {x : D} {v : D × D × D} (h : dec3 x = some v) : x = .tuple [v.1, v.2.1, v.2.2] := by
  unfold dec3 at h; split at h
  · cases h; rfl
  · cases h
theorem dec4_inv {x : D} {v : D × D × D × D} (h : dec4 x = some v) : x = .tuple [v.1, v.2.1, v.2.2.1, v.2.2.2] := by
  unfold dec4 at h; split at h
  · cases h; rfl
  · cases h
theorem dec5_inv {x : D} {v : D × D × D × D × D} (h : dec5 x = some v) : x = .tuple [v.1, v.2.1, v.2.2.1, v.2.2.2.1, v.2.2.2.2] := by
  unfold dec5 at h; split at h
  · cases h; rfl
  · cases h
/-! ### comprehensions -/
def keepE (t : Option Bool) (e : Option D) : Option (Option D) := bnd t fun b => match b with
  | true => bnd e fun d => some (some d)
  | false => some none
@[simp] theorem keepE_true (d : D) : keepE (some true) (some d) = some (some d) := rfl
@[simp] theorem keepE_false (e : Option D) : keepE (some false) e = some none := rfl
def lcL (F : D → Option (Option D)) : List D → Option (List D)
  | [] => some []
  | x :: xs => bnd (F x) fun o => bnd (lcL F xs) fun r => some (match o with
    | some d => d :: r
    | none => r)
def lcD (it : Option (List D)) (F : D → Option (Option D)) : Option (List D) := bnd it (lcL F)
@[simp] theorem lcD_some (xs : List D) (F : D → Option (Option D)) : lcD (some xs) F = lcL F xs := rfl
theorem lcL_map {α : Type} {en : α → D} {F : D → Option (Option D)} (keep : α → Bool) (f : α → D) : ∀ {l : List α}, (∀ a ∈ l, F (en a) = some (if keep a = true then some (f a) else none)) → lcL F (l.map en) = some ((l.filter keep).map f)
  | [], _ => rfl
  | a :: l, h => by
    rw [List.map_cons, lcL, h a List.mem_cons_self, bnd_some, lcL_map keep f fun b hb => h b (List.mem_cons_of_mem _ hb), bnd_some, List.filter_cons]
    cases keep a <;> rfl
theorem lcL_all {α : Type} {en : α → D} {F : D → Option (Option D)} (f : α → D) {l : List α} (h : ∀ a ∈ l, F (en a) = some (some (f a))) : lcL F (l.map en) = some (l.map f) := by
  rw [lcL_map (fun _ => true) f fun a ha => by rw [h a ha]; rfl]
  congr 2
  simp
/-! ### loops -/
inductive Lp (S R : Type) where
  | go (s : S) | brk (s : S) | out (r : R)
inductive Nx (S R : Type) where
  | nx (s : S) | rt (r : R)
section
variable {S R : Type}
def forD (step : S → D → Option (Lp S R)) : List D → S → Option (Nx S R)
  | [], s => some (.nx s)
  | x :: xs, s => bnd (step s x) fun o => match o with
    | .go s' => forD step xs s'
    | .brk s' => some (.nx s')
    | .out r => some (.rt r)
def whileD (c : S → Option Bool) (step : S → Option (Lp S R)) : Nat → S → Option (Nx S R)
  | 0, _ => none
  | n + 1, s => bnd (c s) fun b => match b with
    | false => some (.nx s)
    | true => bnd (step s) fun o => match o with
      | .go s' => whileD c step n s'
      | .brk s' => some (.nx s')
      | .out r => some (.rt r)
def jn (G : S → Option R) : Nx S R → Option R
  | .nx s => G s
  | .rt r => some r
@[simp] theorem jn_nx (G : S → Option R) (s : S) : jn G (.nx s) = G s := rfl
@[simp] theorem jn_rt (G : S → Option R) (r : R) : jn G (.rt r) = some r := rfl
def iteT {α : Type} (c : Option Bool) (a b : Option α) : Option α := bnd c fun t => match t with
  | true => a
  | false => b
@[simp] theorem iteT_true {α : Type} (a b : Option α) : iteT (some true) a b = a := rfl
@[simp] theorem iteT_false {α : Type} (a b : Option α) : iteT (some false) a b = b := rfl
theorem iteT_some {α : Type} (t : Bool) (a b : Option α) : iteT (some t) a b = if t = true then a else b := by cases t <;> rfl
theorem ifF {α : Type} {c : Option Bool} {a b r : Option α} (h : c = some false) (k : b = r) : iteT c a b = r := by rw [h]; exact k
theorem ifT {α : Type} {c : Option Bool} {a b r : Option α} (h : c = some true) (k : a = r) : iteT c a b = r := by rw [h]; exact k
def lim {α : Type} (n : Nat) (k : Option α) : Option α := if n ≤ sizeLine then k else none
theorem lim_ok {α : Type} {n : Nat} {k : Option α} (h : n ≤ 1000000) : lim n k = k := if_pos (by rw [sizeLine_eq]; omega)
def apL (ds : List D) (d : D) : Option (List D) := lim (ds.length + 1) (some (ds ++ [d]))
def exL (ds es : List D) : Option (List D) := lim (ds.length + es.length) (some (ds ++ es))
theorem apL_ok {ds : List D} {d : D} (h : ds.length ≤ 100000) : apL ds d = some (ds ++ [d]) := lim_ok (by omega)
theorem exL_ok {ds es : List D} (h : ds.length + es.length ≤ 1000000) : exL ds es = some (ds ++ es) := lim_ok h
def popL : List D → Option (List D × D)
  | [] => none
  | x :: xs => some ((x :: xs).dropLast, (x :: xs).getLast (by simp))
@[simp] theorem popL_snoc (xs : List D) (x : D) : popL (xs ++ [x]) = some (xs, x) := by
  cases h : xs ++ [x] with
  | nil => simp at h
  | cons a l =>
    show some ((a :: l).dropLast, (a :: l).getLast _) = _
    simp only [← h]
    simp
theorem popL_inv {ds : List D} {q : List D × D} (h : popL ds = some q) : ds = q.1 ++ [q.2] := by
  cases ds with
  | nil => cases h
  | cons a l => cases h; exact (List.dropLast_concat_getLast _).symm
def putN (es : List (D × D)) (k v : D) : Option (List (D × D)) := bnd (kd k) fun kk => if es.length < sizeLine then some (putD es kk v) else none
/-- a for over typed items, no way out -/
theorem forD_go {α β : Type} {step : S → D → Option (Lp S R)} (en : α → D) (st : β → S) (f : β → α → β) : ∀ (l : List α) (b : β), (∀ (pre : List α) (a : α) (post : List α), l = pre ++ a :: post → step (st (pre.foldl f b)) (en a) = some (.go (st (f (pre.foldl f b) a)))) → forD step (l.map en) (st b) = some (.nx (st (l.foldl f b)))
  | [], b, _ => rfl
  | a :: l, b, h => by
    rw [List.map_cons, forD, show step (st b) (en a) = _ from h [] a l rfl, bnd_some]
    exact forD_go en st f l (f b a) fun pre x post e => h (a :: pre) x post (by rw [e]; rfl)
/-- .. by what holds of the state -/
theorem forD_inv {α β : Type} {step : S → D → Option (Lp S R)} (en : α → D) (st : β → S) (f : β → α → β) (I : List α → β → Prop) (hs : ∀ a rest b, I (a :: rest) b → step (st b) (en a) = some (.go (st (f b a))) ∧ I rest (f b a)) : ∀ (l : List α) (b : β), I l b → forD step (l.map en) (st b) = some (.nx (st (l.foldl f b)))
  | [], b, _ => rfl
  | a :: l, b, h => by
    obtain ⟨h1, h2⟩ := hs a l b h
    rw [List.map_cons, forD, h1, bnd_some]
    exact forD_inv en st f I hs l (f b a) h2
theorem forD_iv {α β : Type} {step : S → D → Option (Lp S R)} {xs : List D} {s0 : S} (en : α → D) (st : β → S) (f : β → α → β) (I : List α → β → Prop) (l : List α) (b0 : β) (hI : I l b0) (hs : ∀ a rest b, I (a :: rest) b → step (st b) (en a) = some (.go (st (f b a))) ∧ I rest (f b a)) (hl : xs = l.map en := by rfl) (h0 : s0 = st b0 := by rfl) : forD step xs s0 = some (.nx (st (l.foldl f b0))) := by
  subst hl h0
  exact forD_inv en st f I hs l b0 hI
theorem forD_iv1 {α β : Type} {step : S → D → Option (Lp S R)} {xs : List D} {s0 : S} (en : α → D) (st : β → S) (f : β → α → β) (l : List α) (b0 : β) (hs : ∀ a b, a ∈ l → step (st b) (en a) = some (.go (st (f b a)))) (hl : xs = l.map en := by rfl) (h0 : s0 = st b0 := by rfl) : forD step xs s0 = some (.nx (st (l.foldl f b0))) := by
  refine forD_iv en st f (fun r _ => ∀ a ∈ r, a ∈ l) l b0 (fun _ h => h) (fun a rest b h => ⟨hs a b (h a List.mem_cons_self), fun x hx => h x (List.mem_cons_of_mem _ hx)⟩) hl h0
theorem forD_no {α : Type} {step : S → D → Option (Lp S R)} {xs : List D} {s : S} (en : α → D) (l : List α) (h : ∀ a ∈ l, step s (en a) = some (.go s)) (hl : xs = l.map en := by rfl) : forD step xs s = some (.nx s) := by
  subst hl
  induction l with
  | nil => rfl
  | cons a l ih =>
    rw [List.map_cons, forD, h a List.mem_cons_self, bnd_some]
    exact ih fun b hb => h b (List.mem_cons_of_mem _ hb)
theorem lcD_iv {α : Type} {F : D → Option (Option D)} {xs : List D} (en : α → D) (keep : α → Bool) (f : α → D) (l : List α) (h : ∀ a ∈ l, F (en a) = some (if keep a = true then some (f a) else none)) (hl : xs = l.map en := by rfl) : lcL F xs = some ((l.filter keep).map f) := by
  subst hl
  exact lcL_map keep f h
theorem lcD_all {α : Type} {F : D → Option (Option D)} {xs : List D} (en : α → D) (f : α → D) (l : List α) (h : ∀ a ∈ l, F (en a) = some (some (f a))) (hl : xs = l.map en := by rfl) : lcL F xs = some (l.map f) := by
  subst hl
  exact lcL_all f h
theorem bnd_to {α β : Type} {f : Option α} {g : α → Option β} {r : Option β} (a : α) (h : f = some a) (k : g a = r) : bnd f g = r := by rw [h]; exact k
theorem lcV_iv {α : Type} {F : D → Option (Option D)} {it : Option (List D)} (en : α → D) (keep : α → Bool) (f : α → D) (l : List α) (hl : it = some (l.map en)) (h : ∀ a ∈ l, F (en a) = some (if keep a = true then some (f a) else none)) : lsV (lcD it F) = some (.list ((l.filter keep).map f)) := by
  rw [hl, lcD, bnd_some, lcL_map keep f h]; rfl
theorem lcV_all {α : Type} {F : D → Option (Option D)} {it : Option (List D)} (en : α → D) (f : α → D) (l : List α) (hl : it = some (l.map en)) (h : ∀ a ∈ l, F (en a) = some (some (f a))) : lsV (lcD it F) = some (.list (l.map f)) := by
  rw [hl, lcD, bnd_some, lcL_all f h]; rfl
theorem for_to {α β : Type} {step : S → D → Option (Lp S R)} {xs : List D} {s0 : S} {G : S → Option R} {r : Option R} (en : α → D) (st : β → S) (f : β → α → β) (I : List α → β → Prop) (l : List α) (b0 : β) (hI : I l b0) (hs : ∀ a rest b, I (a :: rest) b → step (st b) (en a) = some (.go (st (f b a))) ∧ I rest (f b a)) (k : ∀ b, I [] b → b = l.foldl f b0 → G (st b) = r) (hl : xs = l.map en := by rfl) (h0 : s0 = st b0 := by rfl) : bnd (forD step xs s0) (jn G) = r := by
  rw [forD_iv en st f I l b0 hI hs hl h0]
  refine k _ ?_ rfl
  clear hl h0 k
  induction l generalizing b0 with
  | nil => exact hI
  | cons a l ih => exact ih (f b0 a) (hs a l b0 hI).2
theorem while_to {β : Type} {C : S → Option Bool} {B : S → Option (Lp S R)} {n : Nat} {s0 : S} {G : S → Option R} {r : Option R} (st : β → S) (go : β → Bool) (f : β → β) (μ : β → Nat) (I : β → Prop) (b0 : β) (hI : I b0) (hn : μ b0 < n) (hc : ∀ b, I b → C (st b) = some (go b)) (hb : ∀ b, I b → go b = true → B (st b) = some (.go (st (f b))) ∧ I (f b) ∧ μ (f b) < μ b) (k : ∀ b, I b → go b = false → G (st b) = r) (h0 : s0 = st b0 := by rfl) : bnd (whileD C B n s0) (jn G) = r := by
  subst h0
  induction n generalizing b0 with
  | zero => omega
  | succ n ih =>
    rw [whileD, hc b0 hI, bnd_some]
    cases hg : go b0 with
    | false => exact k b0 hI hg
    | true =>
      obtain ⟨h1, h2, h3⟩ := hb b0 hI hg
      simp only [h1, bnd_some]
      exact ih (f b0) h2 (by omega)
theorem while_to2 {β : Type} {C : S → Option Bool} {B : S → Option (Lp S R)} {n : Nat} {s0 : S} {G : S → Option R} {r : Option R} (st : β → S) (go : β → Bool) (μ : β → Nat) (I J : β → Prop) (b0 : β) (hI : I b0) (hn : μ b0 < n) (hc : ∀ b, I b → C (st b) = some (go b)) (hb : ∀ b, I b → go b = true → (∃ b', B (st b) = some (.go (st b')) ∧ I b' ∧ μ b' < μ b) ∨ (∃ b', B (st b) = some (.brk (st b')) ∧ J b')) (hj : ∀ b, I b → go b = false → J b) (k : ∀ b, J b → G (st b) = r) (h0 : s0 = st b0 := by rfl) : bnd (whileD C B n s0) (jn G) = r := by
  subst h0
  induction n generalizing b0 with
  | zero => omega
  | succ n ih =>
    rw [whileD, hc b0 hI, bnd_some]
    cases hg : go b0 with
    | false => exact k b0 (hj b0 hI hg)
    | true =>
      rcases hb b0 hI hg with ⟨b', h1, h2, h3⟩ | ⟨b', h1, h2⟩
      · simp only [h1, bnd_some]
        exact ih b' h2 (by omega)
      · simp only [h1, bnd_some]
        exact k b' h2
theorem for_toU {α : Type} {step : Unit → D → Option (Lp Unit R)} {xs : List D} {G : Unit → Option R} {r : Option R} (en : α → D) (l : List α) (hs : ∀ a ∈ l, step () (en a) = some (.go ())) (k : G () = r) (hl : xs = l.map en := by rfl) : bnd (forD step xs ()) (jn G) = r := by
  rw [forD_no en l hs hl]; exact k
/-- nothing happens -/
theorem forD_id {α : Type} {step : S → D → Option (Lp S R)} {en : α → D} {s : S} : ∀ {l : List α}, (∀ a ∈ l, step s (en a) = some (.go s)) → forD step (l.map en) s = some (.nx s)
  | [], _ => rfl
  | a :: l, h => by
    rw [List.map_cons, forD, h a List.mem_cons_self, bnd_some]
    exact forD_id fun b hb => h b (List.mem_cons_of_mem _ hb)
end
end DL


/-! The rules: an expression, a statement comes to what the plain reckoning says. -/
namespace DL
open PySem PySem.Spec PyProof.Rows L2
section
variable {X : Cx} {ρ : Rho} {e a b c : Expr} {k : Kd}
def Eo (X : Cx) (e : Expr) (ρ : Rho) (f : Option D) : Prop := ∀ d, f = some d → Ev X e ρ (.val d)
def Eu (X : Cx) (e : Expr) (ρ : Rho) (f : Option D) : Prop := ∀ d, f = some d → Ev X e ρ (.qua d)
def En (X : Cx) (e : Expr) (ρ : Rho) (f : Option (List D)) : Prop := ∀ d, f = some d → Ev X e ρ (.new d)
def Ed (X : Cx) (e : Expr) (ρ : Rho) (f : Option (List (D × D))) : Prop := ∀ d, f = some d → Ev X e ρ (.newD d)
def Et (X : Cx) (e : Expr) (ρ : Rho) (f : Option Bool) : Prop := ∀ d, f = some d → EvT X e ρ d
def Ew (X : Cx) (e : Expr) (ρ : Rho) (f : Option Bool) : Prop := ∀ d, f = some d → EvW X e ρ d
def Ao (X : Cx) (es : List Expr) (ρ : Rho) (f : Option (List D)) : Prop := ∀ d, f = some d → EvA X es ρ d
def Ao' (X : Cx) (es : List Expr) (ρ : Rho) (ds : List D) : Prop := EvA X es ρ ds
def Io (X : Cx) (tg it : Expr) (ρ : Rho) (yl : Bool) (f : Option (List D)) : Prop := ∀ d, f = some d → EvI X tg it ρ yl d
def Iq (X : Cx) (tg it : Expr) (ρ : Rho) (yl : Bool) (f : Option (List D)) : Prop := ∀ d, f = some d → EvIq X tg it ρ yl d
def Tso (X : Cx) (es : List Expr) (ρ : Rho) (f : Option Bool) : Prop := ∀ d, f = some d → EvTs X es ρ d
def A65 (A : Around) : Prop := A.units + 65 < cLine
abbrev Ru (X : Cx) : Prop := A65 X.A
theorem A65.of {k : Nat} {A : Around} (h : Room k A) : A65 A := r65 h
variable {f g h : Option D}
theorem Eo.u (h : Eo X e ρ f) : Eu X e ρ f := fun d q => (h d q).q
theorem En.o {f : Option (List D)} (h : En X e ρ f) : Eo X e ρ (lsV f) := fun d q => by
  obtain ⟨ds, h1, h2⟩ := bnd_inv q
  cases h2
  exact (h ds h1).fz
theorem Ed.o {f : Option (List (D × D))} (h : Ed X e ρ f) : Eo X e ρ (dcV f) := fun d q => by
  obtain ⟨ds, h1, h2⟩ := bnd_inv q
  cases h2
  exact (h ds h1).fzD
theorem Io.q {tg it : Expr} {yl : Bool} {f : Option (List D)} (h : Io X tg it ρ yl f) : Iq X tg it ρ yl f := fun d q => (h d q).q
/-! ### names, constants -/
theorem eo_v {s : String} {i : Nat} {pos : Pos} {d : D} (hs : Sl X.N s i) (h : ρ[i]? = some (.val d) := by rfl) (hv : Vis X.env.scope (Str.ofString s) := by first | exact Or.inl rfl | exact Or.inr (Or.inl rfl) | exact Or.inr (Or.inr rfl)) : Eo X (.Name (Str.ofString s) pos) ρ (some d) := fun d' q => by
  cases q; exact ev_vn hs h hv
theorem eu_vo {s : String} {i : Nat} {pos : Pos} {ds : List D} (hs : Sl X.N s i) (h : ρ[i]? = some (.own ds) := by rfl) (hv : Vis X.env.scope (Str.ofString s) := by first | exact Or.inl rfl | exact Or.inr (Or.inl rfl) | exact Or.inr (Or.inr rfl)) : Eu X (.Name (Str.ofString s) pos) ρ (some (.list ds)) := fun d' q => by
  cases q; exact ev_vo hs h hv
theorem eu_vd {s : String} {i : Nat} {pos : Pos} {es : List (D × D)} (hs : Sl X.N s i) (h : ρ[i]? = some (.dic es) := by rfl) (hv : Vis X.env.scope (Str.ofString s) := by first | exact Or.inl rfl | exact Or.inr (Or.inl rfl) | exact Or.inr (Or.inr rfl)) : Eu X (.Name (Str.ofString s) pos) ρ (some (.dict es)) := fun d' q => by
  cases q; exact ev_vd hs h hv
theorem eo_int {i : Int} {j : Nat} {pos : Pos} : Eo X (.Constant (.int i) j pos) ρ (some (.int i)) := fun d q => by cases q; exact ev_int
theorem eo_bl {i : Bool} {j : Nat} {pos : Pos} : Eo X (.Constant (.bool i) j pos) ρ (some (.bool i)) := fun d q => by cases q; exact ev_bl
theorem eo_str {i : Str} {j : Nat} {pos : Pos} : Eo X (.Constant (.str i) j pos) ρ (some (.str i)) := fun d q => by cases q; exact ev_str
theorem eo_non {j : Nat} {pos : Pos} : Eo X (.Constant .none j pos) ρ (some .none) := fun d q => by cases q; exact ev_non
theorem eo_gint {x : Str} {i : Int} {pos : Pos} (hm : ∃ t, X.mg x = some (.int i t)) (hg : Gl X x := by rfl) (hd : (x == ("__debug__" : Str)) = false := by decide) : Eo X (.Name x pos) ρ (some (.int i)) := fun d q => by
  cases q; obtain ⟨t, hm⟩ := hm; exact ev_gint hm hg hd
theorem eo_gstr {x : Str} {i : Str} {pos : Pos} (hm : ∃ t, X.mg x = some (.str i t)) (hg : Gl X x := by rfl) (hd : (x == ("__debug__" : Str)) = false := by decide) : Eo X (.Name x pos) ρ (some (.str i)) := fun d q => by
  cases q; obtain ⟨t, hm⟩ := hm; exact ev_gstr hm hg hd
/-! ### operators -/
def OpF (X : Cx) (p : Value → Value → Sem Value) (F : D → D → Option D) : Prop := ∀ x y d, F x y = some d → ∃ k, OpV X p x y k ∧ KV' k d
def CmF (X : Cx) (p : Value → Value → Sem Value) (F : D → D → Option Bool) : Prop := ∀ x y b, F x y = some b → OpV X p x y (.val (.bool b))
theorem op2_inv {α : Type} {F : D → D → Option α} {r : α} (q : op2 F f g = some r) : ∃ x y, f = some x ∧ g = some y ∧ F x y = some r := by
  obtain ⟨x, h1, h2⟩ := bnd_inv q
  obtain ⟨y, h3, h4⟩ := bnd_inv h2
  exact ⟨x, y, h1, h3, h4⟩
theorem eo_bin {op : Operator} {pos : Pos} {F : D → D → Option D} (o : OpF X (binaryOp op) F) (ha : Eu X a ρ f) (hb : Eu X b ρ g) : Eo X (.BinOp a op b pos) ρ (op2 F f g) := fun d q => by
  obtain ⟨x, y, h1, h2, h3⟩ := op2_inv q
  obtain ⟨k, h4, h5⟩ := o x y d h3
  exact (ev_bin h4 (ha x h1) (hb y h2)).toV h5
theorem of_add : OpF X (binaryOp .Add) addD := fun x y d h => by
  unfold addD at h
  split at h
  · cases h; exact ⟨_, o_add, .val⟩
  · split at h
    · cases h; exact ⟨_, o_adds (by assumption), .val⟩
    · cases h
  · split at h
    · cases h; exact ⟨_, o_addT (by assumption), .val⟩
    · cases h
  · split at h
    · cases h; exact ⟨_, o_addL (by assumption), .new⟩
    · cases h
  · cases h
theorem of_sub : OpF X (binaryOp .Sub) subD := fun x y d h => by
  unfold subD at h
  split at h
  · cases h; exact ⟨_, o_sub, .val⟩
  · cases h
theorem of_mul : OpF X (binaryOp .Mult) mulD := fun x y d h => by
  unfold mulD at h
  split at h
  · split at h
    · cases h; exact ⟨_, o_mul (by assumption), .val⟩
    · cases h
  · split at h
    · rename_i e
      cases h; subst e
      exact ⟨_, o_rep01 (t := false) (by simp), .val⟩
    · split at h
      · rename_i e
        cases h; subst e
        exact ⟨_, o_rep01 (t := true) (by simp), .val⟩
      · cases h
  · cases h
theorem of_div : OpF X (binaryOp .FloorDiv) divD := fun x y d h => by
  unfold divD at h
  split at h
  · split at h
    · cases h; exact ⟨_, o_div (by assumption), .val⟩
    · cases h
  · cases h
theorem of_mod : OpF X (binaryOp .Mod) modD := fun x y d h => by
  unfold modD at h
  split at h
  · split at h
    · cases h; exact ⟨_, o_mod (by assumption), .val⟩
    · cases h
  · cases h
theorem en_addL {pos : Pos} (ha : Eu X a ρ f) (hb : Eu X b ρ g) : En X (.BinOp a .Add b pos) ρ (op2 addN f g) := fun d q => by
  obtain ⟨x, y, h1, h2, h3⟩ := op2_inv q
  unfold addN at h3
  split at h3
  · split at h3
    · cases h3; exact ev_bin (o_addL (by assumption)) (ha _ h1) (hb _ h2)
    · cases h3
  · cases h3
theorem eo_neg {pos : Pos} (ha : Eo X a ρ f) : Eo X (.UnaryOp .USub a pos) ρ (op1 negD f) := fun d q => by
  obtain ⟨x, h1, h2⟩ := bnd_inv q
  unfold negD at h2
  split at h2
  · cases h2; exact ev_neg (ha _ h1)
  · cases h2
/-! ### comparisons -/
theorem plB_pl {d : D} (h : plB d = true) : Pl 64 d := by
  unfold plB at h
  rw [Bool.and_eq_true, decide_eq_true_eq] at h
  exact ⟨h.1, h.2⟩
theorem mem_lay : ∀ {ds : List D} {d : D}, PyData.canLayAll0 ds = true → d ∈ ds → d.canLay0 = true
  | x :: ds, d, h, m => by
    rw [PyData.canLayAll0, Bool.and_eq_true] at h
    rcases List.mem_cons.mp m with rfl | m
    · exact h.1
    · exact mem_lay h.2 m
theorem mem_dep : ∀ {ds : List D} {d : D}, d ∈ ds → d.depth ≤ PyData.depthAll ds
  | x :: ds, d, m => by
    rw [PyData.depthAll]
    rcases List.mem_cons.mp m with rfl | m
    · exact Nat.le_max_left _ _
    · exact Nat.le_trans (mem_dep m) (Nat.le_max_right _ _)
theorem plBs_pl {ds : List D} (h : plBs ds = true) : PlAll 63 ds := by
  unfold plBs at h
  rw [Bool.and_eq_true, decide_eq_true_eq] at h
  exact fun d hd => ⟨mem_lay h.1 hd, Nat.le_trans (mem_dep hd) h.2⟩
theorem cm_lt (r : Ru X) : CmF X (compareOp .Lt) ltB := fun x y b h => by
  unfold ltB at h
  split at h
  · cases h; exact o_lt
  · cases h; exact o_lts
  · split at h
    · cases h; exact o_ltDD r (by assumption)
    · cases h
theorem cm_le : CmF X (compareOp .LtE) leB := fun x y b h => by
  unfold leB at h
  split at h
  · cases h; exact o_le
  · cases h; exact o_les
  · cases h
theorem cm_gt (r : Ru X) : CmF X (compareOp .Gt) gtB := fun x y b h => by
  unfold gtB at h
  split at h
  · cases h; exact o_gt
  · cases h; exact o_gts
  · split at h
    · cases h; exact o_gtDD r (by assumption)
    · cases h
theorem cm_ge : CmF X (compareOp .GtE) geB := fun x y b h => by
  unfold geB at h
  split at h
  · cases h; exact o_ge
  · cases h
theorem cm_eq (r : Ru X) : CmF X (compareOp .Eq) eqB := fun x y b h => by
  unfold eqB at h
  split at h
  · rename_i c
    cases h
    rw [Bool.or_eq_true, Bool.and_eq_true] at c
    rcases c with c | ⟨c1, c2⟩
    · exact o_eq c
    · exact o_eqD (plB_pl c1) (plB_pl c2) (by have : _ + 65 < _ := r; omega)
  · cases h
theorem cm_ne (r : Ru X) : CmF X (compareOp .NotEq) neB := fun x y b h => by
  unfold neB at h
  split at h
  · rename_i c
    cases h
    rw [Bool.or_eq_true, Bool.and_eq_true] at c
    rcases c with c | ⟨c1, c2⟩
    · exact o_ne c
    · exact o_neD (plB_pl c1) (plB_pl c2) (by have : _ + 65 < _ := r; omega)
  · cases h
theorem cm_in (r : Ru X) : CmF X (compareOp .In) inB := fun x y b h => by
  unfold inB at h
  split at h
  · split at h
    · rename_i c
      cases h
      rw [Bool.or_eq_true, Bool.and_eq_true, Bool.and_eq_true] at c
      rcases c with c | ⟨c1, c2⟩
      · exact o_inS c.1 c.2
      · exact o_in (plB_pl c1) (plBs_pl c2) r
    · cases h
  · split at h
    · rename_i c
      cases h
      rw [Bool.or_eq_true, Bool.and_eq_true, Bool.and_eq_true] at c
      rcases c with c | ⟨c1, c2⟩
      · exact o_inST c.1 c.2
      · exact o_inT (plB_pl c1) (plBs_pl c2) r
    · cases h
  · cases h
theorem cm_nin (r : Ru X) : CmF X (compareOp .NotIn) ninB := fun x y b h => by
  obtain ⟨t, h1, h2⟩ := bnd_inv h
  cases h2
  unfold inB at h1
  split at h1
  · split at h1
    · rename_i c
      cases h1
      rw [Bool.or_eq_true, Bool.and_eq_true, Bool.and_eq_true] at c
      rcases c with c | ⟨c1, c2⟩
      · exact o_ninS c.1 c.2
      · exact o_nin (plB_pl c1) (plBs_pl c2) r
    · cases h1
  · split at h1
    · rename_i c
      cases h1
      rw [Bool.or_eq_true, Bool.and_eq_true, Bool.and_eq_true] at c
      rcases c with c | ⟨c1, c2⟩
      · exact o_ninST c.1 c.2
      · exact o_ninT (plB_pl c1) (plBs_pl c2) r
    · cases h1
  · cases h1
theorem eo_cmp {op : CmpOp} {pos : Pos} {F : D → D → Option Bool} (o : CmF X (compareOp op) F) (ha : Eu X a ρ f) (hb : Eu X b ρ g) (hm : behindInMarks op b = false := by first | exact nomark _ | rfl) : Eo X (.Compare a [op] [b] pos) ρ (boV (op2 F f g)) := fun d q => by
  obtain ⟨t, q1, q2⟩ := bnd_inv q
  cases q2
  obtain ⟨x, y, h1, h2, h3⟩ := op2_inv q1
  exact ev_cmp (o x y t h3) (ha x h1) (hb y h2) hm
theorem et_cmpF {op : CmpOp} {pos : Pos} {F : D → D → Option Bool} (o : CmF X (compareOp op) F) (ha : Eu X a ρ f) (hb : Eu X b ρ g) (hm : behindInMarks op b = false := by first | exact nomark _ | rfl) : Et X (.Compare a [op] [b] pos) ρ (op2 F f g) := fun t q1 => by
  obtain ⟨x, y, h1, h2, h3⟩ := op2_inv q1
  exact et_cmp (o x y t h3) (ha x h1) (hb y h2) hm
theorem eo_isN {pos p : Pos} {j : Nat} (ha : Eu X a ρ f) (hm : behindInMarks .Is (.Constant .none j p) = false := by first | exact nomark _ | rfl) : Eo X (.Compare a [.Is] [.Constant .none j p] pos) ρ (boV (op1 isNB f)) := fun d q => by
  obtain ⟨t, q1, q2⟩ := bnd_inv q
  cases q2
  obtain ⟨x, h1, h2⟩ := bnd_inv q1
  cases h2
  exact ev_cmp o_isN (ha x h1) ev_non.q hm
theorem et_isN {pos p : Pos} {j : Nat} (ha : Eu X a ρ f) (hm : behindInMarks .Is (.Constant .none j p) = false := by first | exact nomark _ | rfl) : Et X (.Compare a [.Is] [.Constant .none j p] pos) ρ (op1 isNB f) := fun t q1 => by
  obtain ⟨x, h1, h2⟩ := bnd_inv q1
  cases h2
  exact et_cmp o_isN (ha x h1) ev_non.q hm
theorem eo_isNN {pos p : Pos} {j : Nat} (ha : Eu X a ρ f) (hm : behindInMarks .IsNot (.Constant .none j p) = false := by first | exact nomark _ | rfl) : Eo X (.Compare a [.IsNot] [.Constant .none j p] pos) ρ (boV (op1 isNNB f)) := fun d q => by
  obtain ⟨t, q1, q2⟩ := bnd_inv q
  cases q2
  obtain ⟨x, h1, h2⟩ := bnd_inv q1
  cases h2
  exact ev_cmp o_notN (ha x h1) ev_non.q hm
theorem et_isNN {pos p : Pos} {j : Nat} (ha : Eu X a ρ f) (hm : behindInMarks .IsNot (.Constant .none j p) = false := by first | exact nomark _ | rfl) : Et X (.Compare a [.IsNot] [.Constant .none j p] pos) ρ (op1 isNNB f) := fun t q1 => by
  obtain ⟨x, h1, h2⟩ := bnd_inv q1
  cases h2
  exact et_cmp o_notN (ha x h1) ev_non.q hm
theorem chT_inv {p q : D → D → Option Bool} {r : Bool} (z : chT p q f g h = some r) : ∃ x y t u, f = some x ∧ g = some y ∧ p x y = some t ∧ (t = true → ∃ w, h = some w ∧ q y w = some u) ∧ r = (t && u) := by
  obtain ⟨x, h1, z⟩ := bnd_inv z
  obtain ⟨y, h2, z⟩ := bnd_inv z
  obtain ⟨t, h3, z⟩ := bnd_inv z
  cases t with
  | false => cases z; exact ⟨x, y, false, false, h1, h2, h3, (fun e => nomatch e), rfl⟩
  | true =>
    obtain ⟨w, h4, h5⟩ := bnd_inv z
    exact ⟨x, y, true, r, h1, h2, h3, fun _ => ⟨w, h4, h5⟩, by simp⟩
theorem eo_chain {op op' : CmpOp} {pos : Pos} {F F' : D → D → Option Bool} (o : CmF X (compareOp op) F) (o' : CmF X (compareOp op') F') (ha : Eo X a ρ f) (hb : Eo X b ρ g) (hc : Eo X c ρ h) (hm : lastMarks [op, op'] [b, c] = false := by with_unfolding_all rfl) : Eo X (.Compare a [op, op'] [b, c] pos) ρ (boV (chT F F' f g h)) := fun d q => by
  obtain ⟨r, q1, q2⟩ := bnd_inv q
  cases q2
  obtain ⟨x, y, t, u, h1, h2, h3, h4, rfl⟩ := chT_inv q1
  by_cases e : t = true
  · obtain ⟨w, h5, h6⟩ := h4 e
    exact ev_chain (o x y t h3) (ha x h1) (hb y h2) (fun _ => o' y w u h6) (fun _ => hc w h5) hm
  · exact ev_chain (z := .none) (o x y t h3) (ha x h1) (hb y h2) (fun e' => absurd e' e) (fun e' => absurd e' e) hm
theorem et_chainF {op op' : CmpOp} {pos : Pos} {F F' : D → D → Option Bool} (o : CmF X (compareOp op) F) (o' : CmF X (compareOp op') F') (ha : Eo X a ρ f) (hb : Eo X b ρ g) (hc : Eo X c ρ h) (hm : lastMarks [op, op'] [b, c] = false := by with_unfolding_all rfl) : Et X (.Compare a [op, op'] [b, c] pos) ρ (chT F F' f g h) := fun r q1 => by
  obtain ⟨x, y, t, u, h1, h2, h3, h4, rfl⟩ := chT_inv q1
  by_cases e : t = true
  · obtain ⟨w, h5, h6⟩ := h4 e
    exact et_chain (o x y t h3) (ha x h1) (hb y h2) (fun _ => o' y w u h6) (fun _ => hc w h5) hm
  · exact et_chain (z := .none) (o x y t h3) (ha x h1) (hb y h2) (fun e' => absurd e' e) (fun e' => absurd e' e) hm
/-! ### tests -/
theorem tB_inv {r : Bool} (q : tB f = some r) : f = some (.bool r) := by
  obtain ⟨d, h1, h2⟩ := bnd_inv q
  cases d with
  | bool b => cases h2; exact h1
  | _ => cases h2
theorem et_v (ha : Eo X a ρ f) (he : ∀ whole, isTrue a X.env whole = (do let v ← whole; standAt a.pos; holding [v] (truthy v)) := by intro _; rfl) : Et X a ρ (tB f) := fun r q => et_val (ha _ (tB_inv q)) he
theorem eo_tb (ha : Eo X a ρ f) : Eo X a ρ (boV (tB f)) := fun d q => by
  obtain ⟨t, q1, q2⟩ := bnd_inv q
  cases q2
  exact ha _ (tB_inv q1)
variable {s t u : Option Bool}
theorem andT_inv {r : Bool} (q : andT s t = some r) : ∃ x y, s = some x ∧ (x = true → t = some y) ∧ r = (x && y) := by
  obtain ⟨x, h1, h2⟩ := bnd_inv q
  cases x with
  | false => cases h2; exact ⟨false, false, h1, (fun e => nomatch e), rfl⟩
  | true => exact ⟨true, r, h1, fun _ => h2, by simp⟩
theorem orT_inv {r : Bool} (q : orT s t = some r) : ∃ x y, s = some x ∧ (x = false → t = some y) ∧ r = (x || y) := by
  obtain ⟨x, h1, h2⟩ := bnd_inv q
  cases x with
  | true => cases h2; exact ⟨true, false, h1, (fun e => nomatch e), rfl⟩
  | false => exact ⟨false, r, h1, fun _ => h2, by simp⟩
theorem et_w (h : Ew X e ρ s) : Et X e ρ s := fun r q => (h r q).t
theorem ew_a1 {pos : Pos} (h : Et X a ρ s) : Ew X (.BoolOp .And [a] pos) ρ s := fun r q => ew_and1 (h r q)
theorem ew_o1 {pos : Pos} (h : Et X a ρ s) : Ew X (.BoolOp .Or [a] pos) ρ s := fun r q => ew_or1 (h r q)
theorem ew_a {pos : Pos} {rest : List Expr} (h : Et X a ρ s) (h' : Ew X (.BoolOp .And (b :: rest) pos) ρ t) : Ew X (.BoolOp .And (a :: b :: rest) pos) ρ (andT s t) := fun r q => by
  obtain ⟨x, y, h1, h2, rfl⟩ := andT_inv q
  exact ew_and (h x h1) fun e => h' y (h2 e)
theorem ew_o {pos : Pos} {rest : List Expr} (h : Et X a ρ s) (h' : Ew X (.BoolOp .Or (b :: rest) pos) ρ t) : Ew X (.BoolOp .Or (a :: b :: rest) pos) ρ (orT s t) := fun r q => by
  obtain ⟨x, y, h1, h2, rfl⟩ := orT_inv q
  exact ew_or (h x h1) fun e => h' y (h2 e)
theorem et_n {pos : Pos} (h : Et X a ρ s) : Et X (.UnaryOp .Not a pos) ρ (notT s) := fun r q => by
  obtain ⟨x, h1, h2⟩ := bnd_inv q
  cases h2
  exact et_not (h x h1)
theorem eo_n {pos : Pos} (h : Eo X a ρ (boV s)) : Eo X (.UnaryOp .Not a pos) ρ (boV (notT s)) := fun r q => by
  obtain ⟨x, h1, h2⟩ := bnd_inv q
  cases h2
  obtain ⟨y, h3, h4⟩ := bnd_inv h1
  cases h4
  exact ev_not (h _ (by rw [h3]; rfl))
theorem eo_1 {op : BoolOp} {pos : Pos} (h : Eo X a ρ f) : Eo X (.BoolOp op [a] pos) ρ f := fun r q => ev_one (h r q)
theorem eo_a {pos : Pos} {rest : List Expr} (h : Eo X a ρ (boV s)) (h' : Eo X (.BoolOp .And (b :: rest) pos) ρ (boV t)) : Eo X (.BoolOp .And (a :: b :: rest) pos) ρ (boV (andT s t)) := fun r q => by
  obtain ⟨z, q1, q2⟩ := bnd_inv q
  cases q2
  obtain ⟨x, y, h1, h2, rfl⟩ := andT_inv q1
  exact ev_and (h _ (by rw [h1]; rfl)) fun e => h' _ (by rw [h2 e]; rfl)
theorem eo_r {pos : Pos} {rest : List Expr} (h : Eo X a ρ (boV s)) (h' : Eo X (.BoolOp .Or (b :: rest) pos) ρ (boV t)) : Eo X (.BoolOp .Or (a :: b :: rest) pos) ρ (boV (orT s t)) := fun r q => by
  obtain ⟨z, q1, q2⟩ := bnd_inv q
  cases q2
  obtain ⟨x, y, h1, h2, rfl⟩ := orT_inv q1
  exact ev_or (h _ (by rw [h1]; rfl)) fun e => h' _ (by rw [h2 e]; rfl)
/-! ### displays -/
def arg1 (f : Option D) (r : Option (List D)) : Option (List D) := bnd f fun d => bnd r fun ds => some (d :: ds)
@[simp] theorem arg1_some (d : D) (ds : List D) : arg1 (some d) (some ds) = some (d :: ds) := rfl
theorem ao_nil : Ao X [] ρ (some []) := fun d q => by cases q; exact ea_nil
theorem ao_cons {es : List Expr} {r : Option (List D)} (h : Eo X e ρ f) (t : Ao X es ρ r) (hs : starEach (e :: es) X.env = (false, eval e X.env) :: starEach es X.env := by rfl) : Ao X (e :: es) ρ (arg1 f r) := fun d q => by
  obtain ⟨x, h1, q⟩ := bnd_inv q
  obtain ⟨y, h2, q⟩ := bnd_inv q
  cases q
  exact ea_cons (h x h1) (t y h2) hs
def tupV (r : Option (List D)) : Option D := bnd r fun ds => if ds.length ≤ 1000 then some (.tuple ds) else none
def lstV (r : Option (List D)) : Option (List D) := bnd r fun ds => if ds.length ≤ 1000 then some ds else none
theorem eo_tup {es : List Expr} {n : Nat} {pos : Pos} {r : Option (List D)} (h : Ao X es ρ r) : Eo X (.Tuple es n pos) ρ (tupV r) := fun d q => by
  obtain ⟨x, h1, q⟩ := bnd_inv q
  split at q
  · cases q; exact ev_tup (h x h1) (by assumption)
  · cases q
theorem en_lst {es : List Expr} {pos : Pos} {r : Option (List D)} (h : Ao X es ρ r) : En X (.List es pos) ρ (lstV r) := fun d q => by
  obtain ⟨x, h1, q⟩ := bnd_inv q
  split at q
  · injection q with q; subst q; exact ev_lst (h _ h1) (by assumption)
  · cases q
/-! ### calls of defs -/
def g1 (m : D → Option D) : List D → D → Prop := fun ds d => ∃ a, ds = [a] ∧ m a = some d
def g2 (m : D → D → Option D) : List D → D → Prop := fun ds d => ∃ a b, ds = [a, b] ∧ m a b = some d
def g3 (m : D → D → D → Option D) : List D → D → Prop := fun ds d => ∃ a b c, ds = [a, b, c] ∧ m a b c = some d
def g4 (m : D → D → D → D → Option D) : List D → D → Prop := fun ds d => ∃ a b c e, ds = [a, b, c, e] ∧ m a b c e = some d
section
variable {st : String} {kk : Nat} {p pos : Pos} {e1 e2 e3 e4 : Expr} {k l : Option D}
theorem eo_c1 {m : D → Option D} (C : Cl X.prog X.w X.K X.mg X.base st kk (g1 m)) (hr : Room kk X.A) (h1 : Eo X e1 ρ f) (hg : Gl X (Str.ofString st) := by rfl) (hdb : (Str.ofString st == ("__debug__" : Str)) = false := by decide) (s1 : starEach [e1] X.env = (false, eval e1 X.env) :: starEach [] X.env := by rfl) (hpl : (backTo pos (starEach [] X.env)).any (·.1) = false := by rfl) :
    Eo X (.Call (.Name (Str.ofString st) p) [e1] [] pos) ρ (op1 m f) := fun d q => by
  obtain ⟨x, q1, q⟩ := bnd_inv q
  exact ev_cl C hr (ea_cons (h1 x q1) ea_nil s1) ⟨x, rfl, q⟩ hg hdb s1 hpl
theorem eo_c2 {m : D → D → Option D} (C : Cl X.prog X.w X.K X.mg X.base st kk (g2 m)) (hr : Room kk X.A) (h1 : Eo X e1 ρ f) (h2 : Eo X e2 ρ g) (hg : Gl X (Str.ofString st) := by rfl) (hdb : (Str.ofString st == ("__debug__" : Str)) = false := by decide) (s1 : starEach [e1, e2] X.env = (false, eval e1 X.env) :: starEach [e2] X.env := by rfl) (s2 : starEach [e2] X.env = (false, eval e2 X.env) :: starEach [] X.env := by rfl) (hpl : (backTo pos (starEach [e2] X.env)).any (·.1) = false := by rfl) :
    Eo X (.Call (.Name (Str.ofString st) p) [e1, e2] [] pos) ρ (op2 m f g) := fun d q => by
  obtain ⟨x, y, q1, q2, q⟩ := op2_inv q
  exact ev_cl C hr (ea_cons (h1 x q1) (ea_cons (h2 y q2) ea_nil s2) s1) ⟨x, y, rfl, q⟩ hg hdb s1 hpl
theorem eo_c3 {m : D → D → D → Option D} (C : Cl X.prog X.w X.K X.mg X.base st kk (g3 m)) (hr : Room kk X.A) (h1 : Eo X e1 ρ f) (h2 : Eo X e2 ρ g) (h3 : Eo X e3 ρ k) (hg : Gl X (Str.ofString st) := by rfl) (hdb : (Str.ofString st == ("__debug__" : Str)) = false := by decide) (s1 : starEach [e1, e2, e3] X.env = (false, eval e1 X.env) :: starEach [e2, e3] X.env := by rfl) (s2 : starEach [e2, e3] X.env = (false, eval e2 X.env) :: starEach [e3] X.env := by rfl) (s3 : starEach [e3] X.env = (false, eval e3 X.env) :: starEach [] X.env := by rfl) (hpl : (backTo pos (starEach [e2, e3] X.env)).any (·.1) = false := by rfl) :
    Eo X (.Call (.Name (Str.ofString st) p) [e1, e2, e3] [] pos) ρ (op3 m f g k) := fun d q => by
  obtain ⟨x, q1, q⟩ := bnd_inv q
  obtain ⟨y, z, q2, q3, q⟩ := op2_inv (f := g) (g := k) (F := fun y z => m x y z) q
  exact ev_cl C hr (ea_cons (h1 x q1) (ea_cons (h2 y q2) (ea_cons (h3 z q3) ea_nil s3) s2) s1) ⟨x, y, z, rfl, q⟩ hg hdb s1 hpl
theorem eo_c4 {m : D → D → D → D → Option D} (C : Cl X.prog X.w X.K X.mg X.base st kk (g4 m)) (hr : Room kk X.A) (h1 : Eo X e1 ρ f) (h2 : Eo X e2 ρ g) (h3 : Eo X e3 ρ k) (h4 : Eo X e4 ρ l) (hg : Gl X (Str.ofString st) := by rfl) (hdb : (Str.ofString st == ("__debug__" : Str)) = false := by decide) (s1 : starEach [e1, e2, e3, e4] X.env = (false, eval e1 X.env) :: starEach [e2, e3, e4] X.env := by rfl) (s2 : starEach [e2, e3, e4] X.env = (false, eval e2 X.env) :: starEach [e3, e4] X.env := by rfl) (s3 : starEach [e3, e4] X.env = (false, eval e3 X.env) :: starEach [e4] X.env := by rfl) (s4 : starEach [e4] X.env = (false, eval e4 X.env) :: starEach [] X.env := by rfl) (hpl : (backTo pos (starEach [e2, e3, e4] X.env)).any (·.1) = false := by rfl) :
    Eo X (.Call (.Name (Str.ofString st) p) [e1, e2, e3, e4] [] pos) ρ (op4 m f g k l) := fun d q => by
  obtain ⟨x, q1, q⟩ := bnd_inv q
  obtain ⟨x2, q2, q⟩ := bnd_inv q
  obtain ⟨y, z, q3, q4, q⟩ := op2_inv (f := k) (g := l) (F := fun y z => m x x2 y z) q
  exact ev_cl C hr (ea_cons (h1 x q1) (ea_cons (h2 x2 q2) (ea_cons (h3 y q3) (ea_cons (h4 z q4) ea_nil s4) s3) s2) s1) ⟨x, x2, y, z, rfl, q⟩ hg hdb s1 hpl
/-! ### built-ins -/
def CaF (X : Cx) (v : Value) (F : D → Option D) : Prop := ∀ x d, F x = some d → ∃ k, CallV X v [x] k ∧ KV' k d
def CnF (X : Cx) (v : Value) (F : D → Option (List D)) : Prop := ∀ x d, F x = some d → CallV X v [x] (.new d)
def CdF (X : Cx) (v : Value) (F : D → Option (List (D × D))) : Prop := ∀ x d, F x = some d → CallV X v [x] (.newD d)
variable {id T : String}
theorem eo_b1 {F : D → Option D} (o : CaF X (.builtin id) F) (hm : Nb X.mg st (.builtin id)) (h1 : Eu X e1 ρ f) (hg : Gl X (Str.ofString st) := by rfl) (s1 : starEach [e1] X.env = (false, eval e1 X.env) :: starEach [] X.env := by rfl) (hpl : (backTo pos (starEach [] X.env)).any (·.1) = false := by rfl) :
    Eo X (.Call (.Name (Str.ofString st) p) [e1] [] pos) ρ (op1 F f) := fun d q => by
  obtain ⟨x, q1, q⟩ := bnd_inv q
  obtain ⟨k, o1, o2⟩ := o x d q
  exact (ev_nb hm (eq_cons (h1 x q1) eq_nil s1) o1 hg s1 hpl).toV o2
theorem eo_t1 {F : D → Option D} (o : CaF X (.type T) F) (hm : Nb X.mg st (.type T)) (h1 : Eu X e1 ρ f) (hg : Gl X (Str.ofString st) := by rfl) (s1 : starEach [e1] X.env = (false, eval e1 X.env) :: starEach [] X.env := by rfl) (hpl : (backTo pos (starEach [] X.env)).any (·.1) = false := by rfl) :
    Eo X (.Call (.Name (Str.ofString st) p) [e1] [] pos) ρ (op1 F f) := fun d q => by
  obtain ⟨x, q1, q⟩ := bnd_inv q
  obtain ⟨k, o1, o2⟩ := o x d q
  exact (ev_nt hm (eq_cons (h1 x q1) eq_nil s1) o1 hg s1 hpl).toV o2
theorem en_b1 {F : D → Option (List D)} (o : CnF X (.builtin id) F) (hm : Nb X.mg st (.builtin id)) (h1 : Eu X e1 ρ f) (hg : Gl X (Str.ofString st) := by rfl) (s1 : starEach [e1] X.env = (false, eval e1 X.env) :: starEach [] X.env := by rfl) (hpl : (backTo pos (starEach [] X.env)).any (·.1) = false := by rfl) :
    En X (.Call (.Name (Str.ofString st) p) [e1] [] pos) ρ (op1 F f) := fun d q => by
  obtain ⟨x, q1, q⟩ := bnd_inv q
  exact ev_nb hm (eq_cons (h1 x q1) eq_nil s1) (o x d q) hg s1 hpl
theorem en_t1 {F : D → Option (List D)} (o : CnF X (.type T) F) (hm : Nb X.mg st (.type T)) (h1 : Eu X e1 ρ f) (hg : Gl X (Str.ofString st) := by rfl) (s1 : starEach [e1] X.env = (false, eval e1 X.env) :: starEach [] X.env := by rfl) (hpl : (backTo pos (starEach [] X.env)).any (·.1) = false := by rfl) :
    En X (.Call (.Name (Str.ofString st) p) [e1] [] pos) ρ (op1 F f) := fun d q => by
  obtain ⟨x, q1, q⟩ := bnd_inv q
  exact ev_nt hm (eq_cons (h1 x q1) eq_nil s1) (o x d q) hg s1 hpl
theorem ed_t1 {F : D → Option (List (D × D))} (o : CdF X (.type T) F) (hm : Nb X.mg st (.type T)) (h1 : Eu X e1 ρ f) (hg : Gl X (Str.ofString st) := by rfl) (s1 : starEach [e1] X.env = (false, eval e1 X.env) :: starEach [] X.env := by rfl) (hpl : (backTo pos (starEach [] X.env)).any (·.1) = false := by rfl) :
    Ed X (.Call (.Name (Str.ofString st) p) [e1] [] pos) ρ (op1 F f) := fun d q => by
  obtain ⟨x, q1, q⟩ := bnd_inv q
  exact ev_nt hm (eq_cons (h1 x q1) eq_nil s1) (o x d q) hg s1 hpl
theorem eo_b2 {F : D → D → Option D} (o : ∀ x y d, F x y = some d → CallV X (.builtin id) [x, y] (.val d)) (hm : Nb X.mg st (.builtin id)) (h1 : Eu X e1 ρ f) (h2 : Eu X e2 ρ g) (hg : Gl X (Str.ofString st) := by rfl) (s1 : starEach [e1, e2] X.env = (false, eval e1 X.env) :: starEach [e2] X.env := by rfl) (s2 : starEach [e2] X.env = (false, eval e2 X.env) :: starEach [] X.env := by rfl) (hpl : (backTo pos (starEach [e2] X.env)).any (·.1) = false := by rfl) :
    Eo X (.Call (.Name (Str.ofString st) p) [e1, e2] [] pos) ρ (op2 F f g) := fun d q => by
  obtain ⟨x, y, q1, q2, q⟩ := op2_inv q
  exact ev_nb hm (eq_cons (h1 x q1) (eq_cons (h2 y q2) eq_nil s2) s1) (o x y d q) hg s1 hpl
end
theorem ca_len : CaF X (.builtin "len") lenD := fun x d h => by
  unfold lenD at h
  split at h
  · cases h; exact ⟨_, c_lenL, .val⟩
  · cases h; exact ⟨_, c_lenT, .val⟩
  · split at h
    · cases h; exact ⟨_, c_lenS (by assumption), .val⟩
    · cases h
  · cases h
theorem cn_list (hc : X.calm = true := by rfl) : CnF X (.type "list") listN := fun x d h => by
  unfold listN at h
  split at h
  · cases h; exact c_listL
  · cases h; exact c_listT
  · cases h; exact c_listD hc
  · cases h
theorem ca_tup : CaF X (.type "tuple") tupD := fun x d h => by
  unfold tupD at h
  split at h
  · cases h; exact ⟨_, c_tupleL, .val⟩
  · cases h
theorem pairK_inv {d : D} {q : Key × D} (h : pairK d = some q) : d = .tuple [keyD q.1, q.2] := by
  unfold pairK at h
  split at h
  · obtain ⟨kk, h1, h2⟩ := bnd_inv h
    cases h2
    rw [kd_eq h1]
  · cases h
theorem pairsK_inv : ∀ {ds : List D} {md : List (Key × D)}, pairsK ds = some md → ds = md.map fun q => .tuple [keyD q.1, q.2]
  | [], _, h => by cases h; rfl
  | d :: ds, _, h => by
    obtain ⟨q, h1, h⟩ := bnd_inv h
    obtain ⟨r, h2, h⟩ := bnd_inv h
    cases h
    rw [List.map_cons, ← pairsK_inv h2, ← pairK_inv h1]
theorem cd_dict (hc : X.calm = true := by rfl) : CdF X (.type "dict") dictN := fun x d h => by
  unfold dictN at h
  split at h
  · obtain ⟨md, h1, h2⟩ := bnd_inv h
    cases h2
    rw [pairsK_inv h1]; exact c_dictT hc
  · obtain ⟨md, h1, h2⟩ := bnd_inv h
    cases h2
    rw [pairsK_inv h1]; exact c_dictL hc
  · cases h
theorem soG_ok {ds : List D} (h : soG ds = true) : SortOk ds := by
  unfold soG at h
  rw [Bool.and_eq_true, Bool.and_eq_true] at h
  obtain ⟨h1, h2, h3⟩ := h
  refine ⟨fun d hd e he => List.all_eq_true.mp (List.all_eq_true.mp h1 d hd) e he, .inl fun d hd => ?_, fun d hd => ?_, fun d hd => ?_⟩
  · have := List.all_eq_true.mp h2 d hd
    unfold isTup1 at this
    split at this
    · exact ⟨_, _, rfl⟩
    · cases this
  · have := List.all_eq_true.mp h3 d hd
    rw [Bool.and_eq_true, decide_eq_true_eq] at this
    exact this.2
  · have := List.all_eq_true.mp h3 d hd
    rw [Bool.and_eq_true] at this
    exact this.1
theorem soS_ok {ds : List D} (h : soS ds = true) : SortOk ds := by
  cases ds with
  | nil => exact so_sh .int fun _ z => nomatch z
  | cons d ds =>
    rw [soS] at h
    cases e : shOf d with
    | some s =>
      rw [e] at h
      simp only at h
      rw [Bool.and_eq_true, Bool.and_eq_true, decide_eq_true_eq] at h
      exact so_sh s (List.all_eq_true.mp h.1) h.2.1 h.2.2
    | none => rw [e] at h; cases h
theorem soB_ok {ds : List D} (h : soB ds = true) : SortOk ds := by
  unfold soB at h
  rw [Bool.or_eq_true] at h
  exact h.elim soS_ok soG_ok
theorem allI_inv : ∀ {ds : List D} {l : List Int}, allI ds = some l → ds = l.map .int
  | [], _, h => by cases h; rfl
  | d :: ds, _, h => by
    unfold allI at h
    split at h
    · rename_i e; cases e
    · rename_i s ds' e
      cases e
      obtain ⟨r, h1, h2⟩ := bnd_inv h
      cases h2
      rw [List.map_cons, ← allI_inv h1]
    · cases h
theorem ca_max1 (hc : X.calm = true := by rfl) : CaF X (.builtin "max") maxD1 := fun x d h => by
  unfold maxD1 at h
  split at h
  · obtain ⟨l, h1, h2⟩ := bnd_inv h
    rw [allI_inv h1]
    cases l with
    | nil => cases h2
    | cons m r => cases h2; exact ⟨_, c_maxL hc, .val⟩
  · cases h
theorem allStr_inv : ∀ {ds : List D} {l : List Str}, allStr ds = some l → ds = l.map .str
  | [], _, h => by cases h; rfl
  | d :: ds, _, h => by
    unfold allStr at h
    split at h
    · rename_i e; cases e
    · rename_i s ds' e
      cases e
      obtain ⟨r, h1, h2⟩ := bnd_inv h
      cases h2
      rw [List.map_cons, ← allStr_inv h1]
    · cases h
theorem allB_inv : ∀ {ds : List D} {l : List Bool}, allB ds = some l → ds = l.map .bool
  | [], _, h => by cases h; rfl
  | d :: ds, _, h => by
    unfold allB at h
    split at h
    · rename_i e; cases e
    · rename_i s ds' e
      cases e
      obtain ⟨r, h1, h2⟩ := bnd_inv h
      cases h2
      rw [List.map_cons, ← allB_inv h1]
    · cases h
theorem cn_sort (r : Ru X) (hc : X.calm = true := by rfl) : CnF X (.builtin "sorted") sortN := fun x d h => by
  unfold sortN at h
  split at h
  · split at h
    · cases h; exact c_sorted (by have : _ + 65 < _ := r; omega) (soB_ok (by assumption))
    · cases h
  · split at h
    · cases h; exact c_sortedT (by have : _ + 65 < _ := r; omega) (soB_ok (by assumption))
    · cases h
  · obtain ⟨ks, h1, h2⟩ := bnd_inv h
    split at h2
    · cases h2; exact c_sortedD (allStr_inv h1) (by assumption) hc
    · cases h2
  · cases h
theorem ca_int : CaF X (.type "int") intD := fun x d h => by
  unfold intD at h
  split at h
  · cases h; exact ⟨_, c_int, .val⟩
  · cases h; exact ⟨_, c_intB, .val⟩
  · cases h
theorem ca_all (hc : X.calm = true := by rfl) : CaF X (.builtin "all") allD := fun x d h => by
  unfold allD at h
  split at h
  · obtain ⟨l, h1, h2⟩ := bnd_inv h
    cases h2
    rw [allB_inv h1]
    exact ⟨_, c_all hc, .val⟩
  · cases h
theorem cb_min (hc : X.calm = true := by rfl) : ∀ x y d, minD x y = some d → CallV X (.builtin "min") [x, y] (.val d) := fun x y d h => by
  unfold minD at h
  split at h
  · cases h; exact c_min hc
  · cases h
theorem cb_max (hc : X.calm = true := by rfl) : ∀ x y d, maxD x y = some d → CallV X (.builtin "max") [x, y] (.val d) := fun x y d h => by
  unfold maxD at h
  split at h
  · cases h; exact c_max hc
  · cases h
/-! ### places, cuts -/
theorem eo_ix {pos : Pos} (r : Ru X) (ha : Eu X a ρ f) (hb : Eo X b ρ g) (hs : PlainIx b := by exact fun _ _ => rfl) (hn : NoSl b := by exact fun _ _ => rfl) : Eo X (.Subscript a b pos) ρ (op2 ixD f g) := fun d q => by
  obtain ⟨x, y, h1, h2, h3⟩ := op2_inv q
  have ea := ha x h1
  have eb := hb y h2
  unfold ixD at h3
  split at h3
  · exact ev_ix (ix_tupD h3) ea eb.q hs
  · exact ev_ix (ix_lstD h3) ea eb.q hs
  · obtain ⟨kk, h4, h5⟩ := bnd_inv h3
    rw [kd_eq h4] at eb
    exact ev_dget (by have : _ + 65 < _ := r; omega) ea eb h5 hn
  · split at h3
    · obtain ⟨cc, h4, h5⟩ := bnd_inv h3
      cases h5
      exact ev_ix (ix_strD (by assumption) h4) ea eb.q hs
    · cases h3
  · cases h3
theorem eo_get {apos cpos : Pos} (r : Ru X) (ha : Eu X a ρ f) (hb : Eo X b ρ g) (hc : Eo X c ρ h) (m : M2 X a "get" apos b c cpos := by exact ⟨rfl, rfl, rfl, rfl⟩) : Eo X (.Call (.Attribute a "get" apos) [b, c] [] cpos) ρ (op3 getD3 f g h) := fun d q => by
  obtain ⟨x, q1, q⟩ := bnd_inv q
  obtain ⟨y, z, q2, q3, q⟩ := op2_inv (f := g) (g := h) (F := fun y z => getD3 x y z) q
  have ea := ha x q1
  have eb := hb y q2
  have ec := hc z q3
  unfold getD3 at q
  split at q
  · obtain ⟨kk, h4, h5⟩ := bnd_inv q
    rw [kd_eq h4] at eb
    cases h5
    exact ev_dgetx (by have : _ + 65 < _ := r; omega) ea eb ec m
  · cases q
def Po (X : Cx) (e : Option Expr) (ρ : Rho) (f : Option (Option Int)) : Prop := ∀ o, f = some o → EvP X e ρ o
theorem po_n : Po X none ρ (some none) := fun o q => by cases q; exact ep_none
theorem po_s (h : Eo X e ρ f) : Po X (some e) ρ (slP f) := fun o q => by
  obtain ⟨i, h1, h2⟩ := bnd_inv q
  cases h2
  obtain ⟨x, h3, h4⟩ := bnd_inv h1
  unfold toI at h4
  split at h4
  · cases h4; exact ep_some (h _ h3)
  · cases h4
theorem op3s_inv {α : Type} {F : D → Option Int → Option Int → Option α} {lo hi : Option (Option Int)} {r : α} (q : op3s F f lo hi = some r) : ∃ x l u, f = some x ∧ lo = some l ∧ hi = some u ∧ F x l u = some r := by
  obtain ⟨x, h1, q⟩ := bnd_inv q
  obtain ⟨l, h2, q⟩ := bnd_inv q
  obtain ⟨u, h3, q⟩ := bnd_inv q
  exact ⟨x, l, u, h1, h2, h3, q⟩
theorem eo_cut {pos p2 : Pos} {lo hi : Option Expr} {l u : Option (Option Int)} (ha : Eu X a ρ f) (hl : Po X lo ρ l) (hh : Po X hi ρ u) : Eo X (.Subscript a (.Slice lo hi none p2) pos) ρ (op3s cutF f l u) := fun d q => by
  obtain ⟨x, l', u', h1, h2, h3, h4⟩ := op3s_inv q
  have ea := ha x h1
  unfold cutF at h4
  split at h4
  · cases h4; exact ev_sl s_tup ea (hl _ h2) (hh _ h3)
  · cases h4; exact (ev_sl s_lst ea (hl _ h2) (hh _ h3)).fz
  · cases h4
theorem en_cut {pos p2 : Pos} {lo hi : Option Expr} {l u : Option (Option Int)} (ha : Eu X a ρ f) (hl : Po X lo ρ l) (hh : Po X hi ρ u) : En X (.Subscript a (.Slice lo hi none p2) pos) ρ (op3s cutN f l u) := fun d q => by
  obtain ⟨x, l', u', h1, h2, h3, h4⟩ := op3s_inv q
  have ea := ha x h1
  unfold cutN at h4
  split at h4
  · cases h4; exact ev_sl s_lst ea (hl _ h2) (hh _ h3)
  · cases h4
theorem eo_rev {k : Nat} {p1 p2 p3 pos : Pos} (ha : Eu X a ρ f) : Eo X (.Subscript a (.Slice none none (some (.UnaryOp .USub (.Constant (.int 1) k p1) p2)) p3) pos) ρ (op1 revD f) := fun d q => by
  obtain ⟨x, h1, h2⟩ := bnd_inv q
  have ea := ha x h1
  unfold revD at h2
  split at h2
  · cases h2; exact ev_revT ea
  · cases h2; exact (ev_revL ea).fz
  · cases h2
theorem ed_new {pos : Pos} : Ed X (.Dict [] [] pos) ρ (some []) := fun d q => by cases q; exact ev_dnew
/-! ### walks -/
theorem io_v {tg it : Expr} (h : Eo X it ρ f) : Io X tg it ρ false (op1 itD f) := fun d q => by
  obtain ⟨x, h1, h2⟩ := bnd_inv q
  have e := h x h1
  unfold itD at h2
  split at h2
  · cases h2; exact ei_lst e
  · cases h2; exact ei_tup e
  · cases h2; exact ei_keys e
  · split at h2
    · cases h2; exact ei_str e (by assumption)
    · cases h2
  · cases h2
def itL : D → Option (List D)
  | .list ds => some ds
  | _ => none
@[simp] theorem itL_eq (ds : List D) : itL (.list ds) = some ds := rfl
/-- a list of one's own, in a comprehension -/
theorem iq_own {tg it : Expr} (h : Eu X it ρ f) : Iq X tg it ρ false (op1 itL f) := fun d q => by
  obtain ⟨x, h1, h2⟩ := bnd_inv q
  have e := h x h1
  unfold itL at h2
  split at h2
  · cases h2; exact ei_own e
  · cases h2
theorem io_range {tg : Expr} {p pos : Pos} (hm : Nb X.mg "range" (.type "range")) (h : Eo X a ρ f) (hg : Gl X "range" := by rfl) (hs : starEach [a] X.env = [(false, eval a X.env)] := by rfl) : Io X tg (.Call (.Name "range" p) [a] [] pos) ρ false (op1 rangeI f) := fun d q => by
  obtain ⟨x, h1, h2⟩ := bnd_inv q
  have e := h x h1
  unfold rangeI at h2
  split at h2
  · split at h2
    · cases h2; exact ei_range hm.h e (by assumption) hg hs
    · cases h2
  · cases h2
theorem io_range2 {tg : Expr} {p pos : Pos} (hm : Nb X.mg "range" (.type "range")) (h : Eo X a ρ f) (h' : Eo X b ρ g) (hg : Gl X "range" := by rfl) (hs : starEach [a, b] X.env = [(false, eval a X.env), (false, eval b X.env)] := by rfl) (hs2 : starEach [b] X.env = [(false, eval b X.env)] := by rfl) : Io X tg (.Call (.Name "range" p) [a, b] [] pos) ρ false (op2 rangeI2 f g) := fun d q => by
  obtain ⟨x, y, h1, h2, h3⟩ := op2_inv q
  have e := h x h1
  have e' := h' y h2
  unfold rangeI2 at h3
  split at h3
  · split at h3
    · cases h3; exact ei_range2 hm.h e e' (by assumption) hg hs hs2
    · cases h3
  · cases h3
theorem io_enum {p pos tpos : Pos} {elts : List Expr} {kk : Nat} (hm : Nb X.mg "enumerate" (.type "enumerate")) (h : Eo X a ρ f) (hg : Gl X "enumerate" := by rfl) (hs : starEach [a] X.env = [(false, eval a X.env)] := by rfl) : Io X (.Tuple elts kk tpos) (.Call (.Name "enumerate" p) [a] [] pos) ρ true (op1 enumI f) := fun d q => by
  obtain ⟨x, h1, h2⟩ := bnd_inv q
  have e := h x h1
  unfold enumI at h2
  split at h2
  · cases h2; exact ei_enumT hm.h e hg hs
  · cases h2
theorem io_zip {p pos tpos : Pos} {elts : List Expr} {kk : Nat} (hm : Nb X.mg "zip" (.type "zip")) (h : Eo X a ρ f) (h' : Eo X b ρ g) (hg : Gl X "zip" := by rfl) (hs : starEach [a, b] X.env = (false, eval a X.env) :: starEach [b] X.env := by rfl) (hs2 : starEach [b] X.env = (false, eval b X.env) :: starEach [] X.env := by rfl) (hpl : (backTo pos (starEach [b] X.env)).any (·.1) = false := by rfl) : Io X (.Tuple elts kk tpos) (.Call (.Name "zip" p) [a, b] [] pos) ρ true (op2 zipI f g) := fun d q => by
  obtain ⟨x, y, h1, h2, h3⟩ := op2_inv q
  have e := h x h1
  have e' := h' y h2
  unfold zipI at h3
  split at h3
  · split at h3
    · cases h3; exact ei_zipT hm.h e e' (by assumption) hg hs hs2 hpl
    · cases h3
  · cases h3
/-! ### targets -/
def Tg (X : Cx) {α : Type} (yl : Bool) (tg : Expr) (ρ : Rho) (dec : D → Option α) (ρ2 : α → Rho) (is : List Nat) : Prop := ∀ x v, dec x = some v → EvG X yl tg ρ x (ρ2 v) is
section
variable {s1 s2 s3 s4 s5 : String} {i1 i2 i3 i4 i5 : Nat} {p1 p2 p3 p4 p5 pt : Pos} {n : Nat} {yl : Bool}
structure Tn (X : Cx) (s : String) (i : Nat) : Prop where
  sl : Sl X.N s i
  nd : X.N.Nodup
  hx : Loc X.env.scope (Str.ofString s)
  hf : X.fn (Str.ofString s) = true ∨ X.env.scope.names.lookup (Str.ofString s) = some .local
theorem Tn.mk' {s : String} {i : Nat} (sl : Sl X.N s i) (nd : X.N.Nodup) (hx : Loc X.env.scope (Str.ofString s) := by first | exact Or.inl rfl | exact Or.inr rfl) (hf : X.fn (Str.ofString s) = true ∨ X.env.scope.names.lookup (Str.ofString s) = some .local := by first | exact Or.inl rfl | exact Or.inr rfl) : Tn X s i := ⟨sl, nd, hx, hf⟩
theorem Tn.ev {s : String} {i : Nat} {p : Pos} {d : D} (h : Tn X s i) : EvG X false (.Name (Str.ofString s) p) ρ d (ρ.set i (.val d)) [i] := eg_vn h.sl h.nd h.hx h.hf
theorem tg_1 (h1 : Tn X s1 i1) : Tg X false (.Name (Str.ofString s1) p1) ρ dec1 (fun v => ρ.set i1 (.val v)) [i1] := fun x v h => by rw [dec1_inv h]; exact h1.ev
theorem tg_2 (h1 : Tn X s1 i1) (h2 : Tn X s2 i2) (hc : X.calm = true := by rfl) : Tg X yl (.Tuple [.Name (Str.ofString s1) p1, .Name (Str.ofString s2) p2] n pt) ρ dec2 (fun v => (ρ.set i1 (.val v.1)).set i2 (.val v.2)) [i1, i2] := fun x v h => by
  rw [dec2_inv h]; exact eg_tup (egs_cons h1.ev (egs_cons h2.ev egs_nil)) rfl rfl hc
theorem tg_3 (h1 : Tn X s1 i1) (h2 : Tn X s2 i2) (h3 : Tn X s3 i3) (hc : X.calm = true := by rfl) : Tg X yl (.Tuple [.Name (Str.ofString s1) p1, .Name (Str.ofString s2) p2, .Name (Str.ofString s3) p3] n pt) ρ dec3 (fun v => ((ρ.set i1 (.val v.1)).set i2 (.val v.2.1)).set i3 (.val v.2.2)) [i1, i2, i3] := fun x v h => by
  rw [dec3_inv h]; exact eg_tup (egs_cons h1.ev (egs_cons h2.ev (egs_cons h3.ev egs_nil))) rfl rfl hc
theorem tg_4 (h1 : Tn X s1 i1) (h2 : Tn X s2 i2) (h3 : Tn X s3 i3) (h4 : Tn X s4 i4) (hc : X.calm = true := by rfl) : Tg X yl (.Tuple [.Name (Str.ofString s1) p1, .Name (Str.ofString s2) p2, .Name (Str.ofString s3) p3, .Name (Str.ofString s4) p4] n pt) ρ dec4 (fun v => (((ρ.set i1 (.val v.1)).set i2 (.val v.2.1)).set i3 (.val v.2.2.1)).set i4 (.val v.2.2.2)) [i1, i2, i3, i4] := fun x v h => by
  rw [dec4_inv h]; exact eg_tup (egs_cons h1.ev (egs_cons h2.ev (egs_cons h3.ev (egs_cons h4.ev egs_nil)))) rfl rfl hc
theorem tg_5 (h1 : Tn X s1 i1) (h2 : Tn X s2 i2) (h3 : Tn X s3 i3) (h4 : Tn X s4 i4) (h5 : Tn X s5 i5) (hc : X.calm = true := by rfl) : Tg X yl (.Tuple [.Name (Str.ofString s1) p1, .Name (Str.ofString s2) p2, .Name (Str.ofString s3) p3, .Name (Str.ofString s4) p4, .Name (Str.ofString s5) p5] n pt) ρ dec5 (fun v => ((((ρ.set i1 (.val v.1)).set i2 (.val v.2.1)).set i3 (.val v.2.2.1)).set i4 (.val v.2.2.2.1)).set i5 (.val v.2.2.2.2)) [i1, i2, i3, i4, i5] := fun x v h => by
  rw [dec5_inv h]; exact eg_tup (egs_cons h1.ev (egs_cons h2.ev (egs_cons h3.ev (egs_cons h4.ev (egs_cons h5.ev egs_nil))))) rfl rfl hc
end
/-! ### comprehensions -/
theorem ts_nil : Tso X [] ρ (some true) := fun d q => by cases q; exact ets_nil
theorem ts_one (h : Et X e ρ s) : Tso X [e] ρ s := fun d q => ets_one (h d q)
theorem lcL_inv {F : D → Option (Option D)} : ∀ {xs r : List D}, lcL F xs = some r → (∀ x ∈ xs, ∃ o, F x = some o) ∧ r = xs.filterMap fun x => (F x).getD none
  | [], _, h => by cases h; exact ⟨(fun _ z => nomatch z), rfl⟩
  | x :: xs, _, h => by
    obtain ⟨o, h1, h⟩ := bnd_inv h
    obtain ⟨r, h2, h⟩ := bnd_inv h
    cases h
    obtain ⟨i1, i2⟩ := lcL_inv h2
    refine ⟨fun y hy => ?_, ?_⟩
    · rcases List.mem_cons.mp hy with rfl | hy
      · exact ⟨o, h1⟩
      · exact i1 y hy
    · rw [List.filterMap_cons, h1, i2]
      cases o <;> rfl
theorem fm_split {α β : Type} (F : α → Option β) (d0 : β) : ∀ (l : List α), l.filterMap F = (l.filter fun x => (F x).isSome).map fun x => (F x).getD d0
  | [] => rfl
  | a :: l => by
    rw [List.filterMap_cons, List.filter_cons]
    cases h : F a with
    | none => simp only [Option.isSome_none, Bool.false_eq_true, if_false]; exact fm_split F d0 l
    | some b => simp only [Option.isSome_some, if_true, List.map_cons, h, Option.getD_some]; rw [fm_split F d0 l]
theorem keepE_inv {e : Option D} {o : Option D} (h : keepE s e = some o) : ∃ t, s = some t ∧ (t = true → e = o) ∧ o.isSome = t := by
  obtain ⟨t, h1, h2⟩ := bnd_inv h
  cases t with
  | false => cases h2; exact ⟨false, h1, (fun e => nomatch e), rfl⟩
  | true =>
    obtain ⟨d, h3, h4⟩ := bnd_inv h2
    cases h4
    exact ⟨true, h1, fun _ => h3, rfl⟩
section
variable {α : Type} {elt tg iter : Expr} {ifs : List Expr} {scope : Scope} {pos spos py : Pos} {yl : Bool} {it : Option (List D)} {dec : D → Option α} {ρ2 : α → Rho} {T : α → Option Bool} {E : α → Option D} {is : List Nat}
theorem lc_parts {xs r : List D} (h2 : lcL (fun x => bnd (dec x) fun v => keepE (T v) (E v)) xs = some r) : (∀ x ∈ xs, ∃ v o, dec x = some v ∧ keepE (T v) (E v) = some o) ∧ r = (xs.filter fun x => ((bnd (dec x) fun v => keepE (T v) (E v)).getD none).isSome).map fun x => ((bnd (dec x) fun v => keepE (T v) (E v)).getD none).getD .none := by
  obtain ⟨i1, i2⟩ := lcL_inv h2
  refine ⟨fun x hx => ?_, ?_⟩
  · obtain ⟨o, h⟩ := i1 x hx
    obtain ⟨v, h3, h4⟩ := bnd_inv h
    exact ⟨v, o, h3, h4⟩
  · rw [i2]; exact fm_split _ PyData.none _
theorem lc_r2 (dec : D → Option α) (ρ2 : α → Rho) : ∃ ρ' : D → Rho, ∀ x v, dec x = some v → ρ' x = ρ2 v :=
  ⟨fun x => match dec x with | some v => ρ2 v | none => [], fun x v h => by simp only [h]⟩
theorem en_lc (hN : X.N.Nodup) (ok : blkC X.N X.env.scope scope (ownOf X.N scope) = true)
    (hi : Iq X tg iter ρ yl it) (hg : Blk X scope fun Y => Tg Y yl tg (wipeB ρ ((ownOf X.N scope).map (·.2))) dec ρ2 is)
    (ht : ∀ v, Blk X scope fun Y => Tso Y ifs (ρ2 v) (T v)) (he : ∀ v, Blk X scope fun Y => Eo Y elt (ρ2 v) (E v))
    (hw : (is.all fun i => ((ownOf X.N scope).map (·.2)).contains i) = true) (hc : X.calm = true := by rfl) (hs : ∀ x, foldedSetIterable iter X.env x = pure x := by intro _; rfl) :
    En X (.ListComp elt [⟨tg, iter, ifs, 0⟩] scope pos) ρ (lcD it fun x => bnd (dec x) fun v => keepE (T v) (E v)) := fun r q => by
  obtain ⟨xs, h1, h2⟩ := bnd_inv q
  obtain ⟨i1, rfl⟩ := lc_parts h2
  obtain ⟨ρ', hρ⟩ := lc_r2 dec ρ2
  refine ev_lcA (en := fun x => x) (ps := xs) (ρ' := ρ') hN ok (by rw [List.map_id']; exact hi xs h1) (fun x hx s H C cl fp => ?_) (fun x hx s H C cl fp => ?_) (fun x hx hk s H C cl fp => ?_) hw hc hs
  · obtain ⟨v, o, h3, h4⟩ := i1 x hx
    rw [hρ x v h3]
    exact hg s H C cl fp x v h3
  · obtain ⟨v, o, h3, h4⟩ := i1 x hx
    rw [hρ x v h3, h3, bnd_some, h4]
    obtain ⟨t, z1, z2, z3⟩ := keepE_inv h4
    show EvTs _ ifs (ρ2 v) o.isSome
    rw [z3]
    exact ht v s H C cl fp t z1
  · obtain ⟨v, o, h3, h4⟩ := i1 x hx
    rw [h3, bnd_some, h4] at hk
    rw [hρ x v h3, h3, bnd_some, h4]
    obtain ⟨t, z1, z2, z3⟩ := keepE_inv h4
    have ht : t = true := by rw [← z3]; exact hk
    have e := z2 ht
    cases o with
    | none => cases hk
    | some d => exact he v s H C cl fp d e
end
end
end DL


/-! The rules of statements. -/
namespace DL
open PySem PySem.Spec PyProof.Rows L2
/-- a block comes to what f says -/
def So {R : Type} (X : Cx) (sts : List Stmt) (ρ : Rho) (Φ : R → DL.Fin) (f : Option R) : Prop := ∀ r, f = some r → Sxs X sts ρ (Φ r)
def FnΦ : D → DL.Fin := fun d => { nx := fun _ => d = .none, rt := fun r _ => r = d }
def NoΦ {R : Type} (Φ : R → DL.Fin) : R → DL.Fin := fun r => { Φ r with nx := fun _ => False }
def JΦ {J R : Type} (Φ : R → DL.Fin) (enc : J → Rho) : Nx J R → DL.Fin
  | .nx j => { nx := fun ρ => Le ρ (enc j), rt := fun _ _ => False }
  | .rt r => { Φ r with nx := fun _ => False }
def LΦ {S R : Type} (Φ : R → DL.Fin) (enc : S → Rho) : Lp S R → DL.Fin
  | .go s => { nx := fun ρ => Le ρ (enc s), rt := fun _ _ => False, ct := fun ρ => Le ρ (enc s) }
  | .brk s => { nx := fun _ => False, rt := fun _ _ => False, bk := fun ρ => Le ρ (enc s) }
  | .out r => { nx := fun _ => False, rt := (Φ r).rt, ro := (Φ r).ro }
section
variable {R S J α : Type} {X : Cx} {ρ : Rho} {Φ : R → DL.Fin} {e a b c : Expr} {st : Stmt} {rest : List Stmt} {pos : Pos} {f : Option D}
theorem Le.trans {ρ1 ρ2 ρ3 : Rho} (h : Le ρ1 ρ2) (k : Le ρ2 ρ3) : Le ρ1 ρ3 := ⟨k.1.trans h.1, fun i b e n => h.2 i b (k.2 i b e n) n⟩
theorem Sx.cast {Φ Ψ : DL.Fin} (h : Sx X st ρ Ψ) (n : ∀ ρ, Ψ.nx ρ → Φ.nx ρ) (r : ∀ d ρ, Ψ.rt d ρ → Φ.rt d ρ) (bk : ∀ ρ, Ψ.bk ρ → Φ.bk ρ) (ct : ∀ ρ, Ψ.ct ρ → Φ.ct ρ) (ro : ∀ q ρ, Ψ.ro q ρ → Φ.ro q ρ) : Sx X st ρ Φ := h.imp n r bk ct ro
theorem so_nil {r : R} (h : (Φ r).nx ρ) : So X [] ρ Φ (some r) := fun r' q => by cases q; exact xs_nil h
theorem so_pass {r : Option R} (h : So X rest ρ Φ r) : So X (.Pass pos :: rest) ρ Φ r := fun r' q => xs_cons (sx_pass (h r' q))
theorem so_brk {r : R} (h : (Φ r).bk ρ) : So X [.Break pos] ρ Φ (some r) := fun r' q => by cases q; exact xs_one (sx_break h)
theorem so_cont {r : R} (h : (Φ r).ct ρ) : So X [.Continue pos] ρ Φ (some r) := fun r' q => by cases q; exact xs_one (sx_cont h)
theorem so_ret (w : D → R) (he : Eo X e ρ f) (hw : ∀ d ρ', (Φ (w d)).rt d ρ' := by intro _ _; rfl) : So X [.Return (some e) pos] ρ Φ (bnd f fun d => some (w d)) := fun r q => by
  obtain ⟨d, h1, h2⟩ := bnd_inv q
  cases h2
  exact xs_one (sx_ret (he d h1) (hw d _))
theorem so_retOwn (w : D → R) (i : Nat) {x : String} {p : Pos} {ds : List D} (hs : Sl X.N x i) (hi : ρ[i]? = some (.own ds) := by rfl) (hv : Vis X.env.scope (Str.ofString x) := by first | exact Or.inl rfl | exact Or.inr (Or.inl rfl) | exact Or.inr (Or.inr rfl)) (hw : ∀ d ρ', (Φ (w d)).rt d ρ' := by intro _ _; rfl) : So X [.Return (some (.Name (Str.ofString x) p)) pos] ρ Φ (some (w (.list ds))) := fun r q => by
  cases q
  exact xs_one (sx_retOwn i hi (hw _ _) hs.h hv hs.d hs.c)
theorem so_retDic (w : D → R) (i : Nat) {x : String} {p : Pos} {ds : List (D × D)} (hs : Sl X.N x i) (hi : ρ[i]? = some (.dic ds) := by rfl) (hv : Vis X.env.scope (Str.ofString x) := by first | exact Or.inl rfl | exact Or.inr (Or.inl rfl) | exact Or.inr (Or.inr rfl)) (hw : ∀ d ρ', (Φ (w d)).rt d ρ' := by intro _ _; rfl) : So X [.Return (some (.Name (Str.ofString x) p)) pos] ρ Φ (some (w (.dict ds))) := fun r q => by
  cases q
  exact xs_one (sx_retDic i hi (hw _ _) hs.h hv hs.d hs.c)
/-! ### name = value -/
theorem so_set (i : Nat) {x : Str} {pos' : Pos} {G : D → Option R} (hN : X.N.Nodup) (he : Eo X e ρ f) (h : ∀ d, So X rest (ρ.set i (.val d)) Φ (G d)) (hi : X.N[i]? = some x := by rfl) (hx : Loc X.env.scope x := by first | exact Or.inl rfl | exact Or.inr rfl) (hs : swapsWith e (some (.Name x pos')) pos.line X.env = pure false := by rfl) (hf : X.fn x = true ∨ X.env.scope.names.lookup x = some .local := by first | exact .inl rfl | exact .inr rfl | assumption) :
    So X (.Assign [.Name x pos'] e pos :: rest) ρ Φ (bnd f G) := fun r q => by
  obtain ⟨d, h1, h2⟩ := bnd_inv q
  exact xs_cons (sx_set i hN (he d h1) (h d r h2) hi hx hs hf)
theorem so_new (i : Nat) {x : Str} {pos' : Pos} {f : Option (List D)} {G : List D → Option R} (hN : X.N.Nodup) (he : En X e ρ f) (h : ∀ d, So X rest (ρ.set i (.own d)) Φ (G d)) (hi : X.N[i]? = some x := by rfl) (hx : Loc X.env.scope x := by first | exact Or.inl rfl | exact Or.inr rfl) (hs : swapsWith e (some (.Name x pos')) pos.line X.env = pure false := by rfl) (hf : X.fn x = true ∨ X.env.scope.names.lookup x = some .local := by first | exact .inl rfl | exact .inr rfl | assumption) :
    So X (.Assign [.Name x pos'] e pos :: rest) ρ Φ (bnd f G) := fun r q => by
  obtain ⟨d, h1, h2⟩ := bnd_inv q
  exact xs_cons (sx_new i hN (he d h1) (h d r h2) hi hx hs hf)
theorem so_newD (i : Nat) {x : Str} {pos' : Pos} {f : Option (List (D × D))} {G : List (D × D) → Option R} (hN : X.N.Nodup) (he : Ed X e ρ f) (h : ∀ d, So X rest (ρ.set i (.dic d)) Φ (G d)) (hi : X.N[i]? = some x := by rfl) (hx : Loc X.env.scope x := by first | exact Or.inl rfl | exact Or.inr rfl) (hs : swapsWith e (some (.Name x pos')) pos.line X.env = pure false := by rfl) (hf : X.fn x = true ∨ X.env.scope.names.lookup x = some .local := by first | exact .inl rfl | exact .inr rfl | assumption) :
    So X (.Assign [.Name x pos'] e pos :: rest) ρ Φ (bnd f G) := fun r q => by
  obtain ⟨d, h1, h2⟩ := bnd_inv q
  exact xs_cons (sx_newD i hN (he d h1) (h d r h2) hi hx hs hf)
section
variable {elt tg iter : Expr} {ifs : List Expr} {scope : Scope} {spos py : Pos} {yl : Bool} {it : Option (List D)} {dec : D → Option α} {ρ2 : α → Rho} {T : α → Option Bool} {E : α → Option D} {is : List Nat}
/-- name = [..], the stores exchanged -/
theorem so_lc (i : Nat) {y : Str} {G : D → Option R} (hN : X.N.Nodup) (ok : blkC X.N X.env.scope scope (ownOf X.N scope) = true)
    (hi : Iq X tg iter ρ yl it) (hg : Blk X scope fun Y => Tg Y yl tg (wipeB ρ ((ownOf X.N scope).map (·.2))) dec ρ2 is)
    (ht : ∀ v, Blk X scope fun Y => Tso Y ifs (ρ2 v) (T v)) (he : ∀ v, Blk X scope fun Y => Eo Y elt (ρ2 v) (E v))
    (hw : (is.all fun i => ((ownOf X.N scope).map (·.2)).contains i) = true) (hsw : swapsWith (.ListComp elt [⟨tg, iter, ifs, 0⟩] scope pos) (some (.Name y py)) spos.line X.env = pure true)
    (h : ∀ d, So X rest (ρ.set i (.val d)) Φ (G d))
    (hy : X.N[i]? = some y := by rfl) (hyl : X.env.scope.names.lookup y = some .local := by rfl) (hc : X.calm = true := by rfl) (hs : ∀ x, foldedSetIterable iter X.env x = pure x := by intro _; rfl) :
    So X (.Assign [.Name y py] (.ListComp elt [⟨tg, iter, ifs, 0⟩] scope pos) spos :: rest) ρ Φ (bnd (lsV (lcD it fun x => bnd (dec x) fun v => keepE (T v) (E v))) G) := fun r q => by
  obtain ⟨d, q1, q2⟩ := bnd_inv q
  obtain ⟨ds, q3, q4⟩ := bnd_inv q1
  cases q4
  obtain ⟨xs, h1, h2⟩ := bnd_inv q3
  obtain ⟨i1, rfl⟩ := lc_parts h2
  obtain ⟨ρ', hρ⟩ := lc_r2 dec ρ2
  refine xs_cons (sx_setLcA i (en := fun x => x) (ps := xs) (ρ' := ρ') hN ok (by rw [List.map_id']; exact hi xs h1) (fun x hx s H C cl fp => ?_) (fun x hx s H C cl fp => ?_) (fun x hx hk s H C cl fp => ?_) hw hsw (h _ r q2) hy hyl hc hs)
  · obtain ⟨v, o, h3, h4⟩ := i1 x hx
    rw [hρ x v h3]
    exact hg s H C cl fp x v h3
  · obtain ⟨v, o, h3, h4⟩ := i1 x hx
    rw [hρ x v h3, h3, bnd_some, h4]
    obtain ⟨t, z1, z2, z3⟩ := keepE_inv h4
    show EvTs _ ifs (ρ2 v) o.isSome
    rw [z3]
    exact ht v s H C cl fp t z1
  · obtain ⟨v, o, h3, h4⟩ := i1 x hx
    rw [h3, bnd_some, h4] at hk
    rw [hρ x v h3, h3, bnd_some, h4]
    obtain ⟨t, z1, z2, z3⟩ := keepE_inv h4
    have ht : t = true := by rw [← z3]; exact hk
    have e := z2 ht
    cases o with
    | none => cases hk
    | some d => exact he v s H C cl fp d e
theorem so_lcN (i : Nat) {y : Str} {G : List D → Option R} (hN : X.N.Nodup) (ok : blkC X.N X.env.scope scope (ownOf X.N scope) = true)
    (hi : Iq X tg iter ρ yl it) (hg : Blk X scope fun Y => Tg Y yl tg (wipeB ρ ((ownOf X.N scope).map (·.2))) dec ρ2 is)
    (ht : ∀ v, Blk X scope fun Y => Tso Y ifs (ρ2 v) (T v)) (he : ∀ v, Blk X scope fun Y => Eo Y elt (ρ2 v) (E v))
    (hw : (is.all fun i => ((ownOf X.N scope).map (·.2)).contains i) = true) (hsw : swapsWith (.ListComp elt [⟨tg, iter, ifs, 0⟩] scope pos) (some (.Name y py)) spos.line X.env = pure true)
    (h : ∀ d, So X rest (ρ.set i (.own d)) Φ (G d))
    (hy : X.N[i]? = some y := by rfl) (hyl : X.env.scope.names.lookup y = some .local := by rfl) (hc : X.calm = true := by rfl) (hs : ∀ x, foldedSetIterable iter X.env x = pure x := by intro _; rfl) :
    So X (.Assign [.Name y py] (.ListComp elt [⟨tg, iter, ifs, 0⟩] scope pos) spos :: rest) ρ Φ (bnd (lcD it fun x => bnd (dec x) fun v => keepE (T v) (E v)) G) := fun r q => by
  obtain ⟨ds, q3, q2⟩ := bnd_inv q
  obtain ⟨xs, h1, h2⟩ := bnd_inv q3
  obtain ⟨i1, rfl⟩ := lc_parts h2
  obtain ⟨ρ', hρ⟩ := lc_r2 dec ρ2
  refine xs_cons (sx_newLc i (en := fun x => x) (ps := xs) (ρ' := ρ') hN (blkOk_by ok) hsw (by rw [List.map_id']; exact hi xs h1) (fun x hx s H C cl fp => ?_) (fun x hx s H C cl fp => ?_) (fun x hx hk s H C cl fp => ?_) (h _ r q2) (fun i h => by simpa using List.all_eq_true.mp hw i h) hy hyl hc hs)
  · obtain ⟨v, o, h3, h4⟩ := i1 x hx
    rw [hρ x v h3]
    exact hg s H C cl fp x v h3
  · obtain ⟨v, o, h3, h4⟩ := i1 x hx
    rw [hρ x v h3, h3, bnd_some, h4]
    obtain ⟨t, z1, z2, z3⟩ := keepE_inv h4
    show EvTs _ ifs (ρ2 v) o.isSome
    rw [z3]
    exact ht v s H C cl fp t z1
  · obtain ⟨v, o, h3, h4⟩ := i1 x hx
    rw [h3, bnd_some, h4] at hk
    rw [hρ x v h3, h3, bnd_some, h4]
    obtain ⟨t, z1, z2, z3⟩ := keepE_inv h4
    have ht : t = true := by rw [← z3]; exact hk
    have e := z2 ht
    cases o with
    | none => cases hk
    | some d => exact he v s H C cl fp d e
end
theorem so_move (i j : Nat) {x : Str} {y : String} {pos' p : Pos} {ds : List D} {G : Option R} (hN : X.N.Nodup) (hs : Sl X.N y j) (hj : ρ[j]? = some (.own ds)) (hv : Vis X.env.scope (Str.ofString y)) (h : So X rest ((ρ.set j (.val (.list ds))).set i (.val (.list ds))) Φ G) (hi : X.N[i]? = some x := by rfl) (hx : Loc X.env.scope x := by first | exact Or.inl rfl | exact Or.inr rfl)
    (hsw : swapsWith (.Name (Str.ofString y) p) (some (.Name x pos')) pos.line X.env = pure false := by rfl) (hf : X.fn x = true ∨ X.env.scope.names.lookup x = some .local := by first | exact .inl rfl | exact .inr rfl | assumption) :
    So X (.Assign [.Name x pos'] (.Name (Str.ofString y) p) pos :: rest) ρ Φ G := fun r q =>
  xs_cons (sx_move i j hN hj (h r q) hi hx hs.h hv hs.d hs.c hsw hf)
theorem so_unpack {es : List Expr} {n : Nat} {pt : Pos} {dec : D → Option α} {ρ2 : α → Rho} {is : List Nat} {G : α → Option R} (he : Eo X e ρ f) (hg : Tg X false (.Tuple es n pt) ρ dec ρ2 is) (h : ∀ v, So X rest (ρ2 v) Φ (G v)) (hs : swapsWithSole [.Tuple es n pt] e pos.line X.env = pure false := by rfl) (hw : swappedStores [.Tuple es n pt] e X.env = pure none := by rfl)
    (h1 : (assignEach [.Tuple es n pt] X.env).map (·.2) = [assign (.Tuple es n pt) X.env] := by rfl) : So X (.Assign [.Tuple es n pt] e pos :: rest) ρ Φ (bnd f fun x => bnd (dec x) G) := fun r q => by
  obtain ⟨x, q1, q⟩ := bnd_inv q
  obtain ⟨v, q2, q⟩ := bnd_inv q
  exact xs_cons (sx_unpack (he x q1) (hg x v q2) (h v r q) hs hw h1)
/-! ### if -/
variable {s : Option Bool}
theorem iteT_inv {β : Type} {A B : Option β} {r : β} (h : iteT s A B = some r) : ∃ t, s = some t ∧ (t = true → A = some r) ∧ (t = false → B = some r) := by
  obtain ⟨t, h1, h2⟩ := bnd_inv h
  cases t with
  | true => exact ⟨true, h1, fun _ => h2, fun e => nomatch e⟩
  | false => exact ⟨false, h1, (fun e => nomatch e), fun _ => h2⟩
theorem so_ifT {as : List Stmt} {A B : Option R} (hc : Et X c ρ s) (ha : So X as ρ (NoΦ Φ) A) (hb : So X rest ρ Φ B) : So X (.If c as [] pos :: rest) ρ Φ (iteT s A B) := fun r q => by
  obtain ⟨t, h1, h2, h3⟩ := iteT_inv q
  refine xs_cons (sx_if (hc t h1) (fun e => ?_) (fun e => ?_))
  · exact (ha r (h2 e)).imp (fun _ z => z.elim) (fun _ _ z => z) (fun _ z => z) (fun _ z => z)
  · exact xs_nil (hb r (h3 e))
theorem so_ifTT {as bs : List Stmt} {A B : Option R} (hc : Et X c ρ s) (ha : So X as ρ (NoΦ Φ) A) (hb : So X bs ρ (NoΦ Φ) B) : So X (.If c as bs pos :: rest) ρ Φ (iteT s A B) := fun r q => by
  obtain ⟨t, h1, h2, h3⟩ := iteT_inv q
  refine xs_cons (sx_if (hc t h1) (fun e => ?_) (fun e => ?_))
  · exact (ha r (h2 e)).imp (fun _ z => z.elim) (fun _ _ z => z) (fun _ z => z) (fun _ z => z)
  · exact (hb r (h3 e)).imp (fun _ z => z.elim) (fun _ _ z => z) (fun _ z => z) (fun _ z => z)
/-- the last if of a block -/
theorem so_ifE {as bs : List Stmt} {A B : Option R} (hc : Et X c ρ s) (ha : So X as ρ Φ A) (hb : So X bs ρ Φ B) : So X [.If c as bs pos] ρ Φ (iteT s A B) := fun r q => by
  obtain ⟨t, h1, h2, h3⟩ := iteT_inv q
  exact xs_one (sx_if (hc t h1) (fun e => ha r (h2 e)) (fun e => hb r (h3 e)))
theorem so_join (enc : J → Rho) {as bs : List Stmt} {A B : Option (Nx J R)} {G : J → Option R} (hc : Et X c ρ s) (ha : So X as ρ (JΦ Φ enc) A) (hb : So X bs ρ (JΦ Φ enc) B) (hr : ∀ j, So X rest (enc j) Φ (G j)) : So X (.If c as bs pos :: rest) ρ Φ (bnd (iteT s A B) (jn G)) := fun r q => by
  obtain ⟨n, q1, q2⟩ := bnd_inv q
  obtain ⟨t, h1, h2, h3⟩ := iteT_inv q1
  cases n with
  | nx j =>
    have hn := hr j r q2
    refine xs_cons (sx_weak (enc j) (sx_if (hc t h1) (fun e => ?_) (fun e => ?_)) hn)
    · exact (ha _ (h2 e)).imp (fun _ z => z) (fun _ _ z => z.elim) (fun _ z => z.elim) (fun _ z => z.elim)
    · exact (hb _ (h3 e)).imp (fun _ z => z) (fun _ _ z => z.elim) (fun _ z => z.elim) (fun _ z => z.elim)
  | rt r' =>
    cases q2
    refine xs_cons (sx_if (hc t h1) (fun e => ?_) (fun e => ?_))
    · exact (ha _ (h2 e)).imp (fun _ z => z.elim) (fun _ _ z => z) (fun _ z => z) (fun _ z => z)
    · exact (hb _ (h3 e)).imp (fun _ z => z.elim) (fun _ _ z => z) (fun _ z => z) (fun _ z => z)
theorem so_jn {J : Type} {enc : J → Rho} {j : J} (h : Le ρ (enc j)) : So X [] ρ (JΦ Φ enc) (some (.nx j)) := so_nil h
/-! ### loops -/
theorem so_for (enc : S → Rho) {yl : Bool} {tg it : Expr} {body : List Stmt} {xs : Option (List D)} {dec : D → Option α} {ρ2 : S → α → Rho} {is : List Nat} {s0 : S} {B : S → α → Option (Lp S R)} {G : S → Option R} (h0 : Le ρ (enc s0)) (hi : Io X tg it ρ yl xs)
    (hg : ∀ s, Tg X yl tg (enc s) dec (ρ2 s) is) (hb : ∀ s v, So X body (ρ2 s v) (LΦ Φ enc) (B s v)) (hr : ∀ s, So X rest (enc s) Φ (G s))
    (hp : PassesOwn (model X.prog X.w) X.A X.env X.xe := by exact PassesOwn.never) (hc : X.calm = true := by rfl) (hs : ∀ x, foldedSetIterable it X.env x = pure x := by intro _; rfl) :
    So X (.For tg it body [] pos :: rest) ρ Φ (bnd xs fun l => bnd (forD (fun s x => bnd (dec x) (B s)) l s0) (jn G)) := fun r q => by
  obtain ⟨l, q1, q⟩ := bnd_inv q
  refine xs_cons (sx_for' (fun _ => True) (hi l q1) ?_ hp hc hs)
  clear hi q1
  have key : ∀ (l : List D) (s : S), (bnd (forD (fun s x => bnd (dec x) (B s)) l s) (jn G)) = some r → ForW X yl tg body l (enc s) { nx := fun ρ' => ∃ ρ2, Le ρ' ρ2 ∧ Sxs X rest ρ2 (Φ r), rt := (Φ r).rt, bk := (Φ r).bk, ct := (Φ r).ct, ro := (Φ r).ro } := by
    intro l
    induction l with
    | nil =>
      intro s q
      exact ⟨_, .refl _, hr s r q⟩
    | cons x xs ih =>
      intro s q
      obtain ⟨n, q1, q2⟩ := bnd_inv q
      obtain ⟨o, q3, q4⟩ := bnd_inv (show bnd (bnd (dec x) (B s)) _ = some n from q1)
      obtain ⟨v, q5, q6⟩ := bnd_inv q3
      refine ⟨ρ2 s v, is, hg s x v q5, ?_⟩
      have hb' := hb s v o q6
      have next : ∀ (s' : S) (ρ' : Rho), (bnd (forD (fun s x => bnd (dec x) (B s)) xs s') (jn G)) = some r → Le ρ' (enc s') → ForW X yl tg body xs ρ' { nx := fun ρ' => ∃ ρ2, Le ρ' ρ2 ∧ Sxs X rest ρ2 (Φ r), rt := (Φ r).rt, bk := (Φ r).bk, ct := (Φ r).ct, ro := (Φ r).ro } := fun s' ρ' qq l' =>
        forW_le (fun r1 r2 q h3 => by
          obtain ⟨r3, l3, q3⟩ := h3
          exact ⟨r3, q.trans l3, q3⟩) l' (ih s' qq)
      cases o with
      | go s' =>
        have q4' : (bnd (forD (fun s x => bnd (dec x) (B s)) xs s') (jn G)) = some r := by rw [show forD (fun s x => bnd (dec x) (B s)) xs s' = some n from q4]; exact q2
        exact hb'.imp (fun ρ' z => next s' ρ' q4' z) (fun _ _ z => z.elim) (fun _ z => z.elim) (fun ρ' z => next s' ρ' q4' z)
      | brk s' =>
        cases q4
        exact hb'.imp (fun _ z => z.elim) (fun _ _ z => z.elim) (fun ρ' z => ⟨_, z, hr s' r q2⟩) (fun _ z => z.elim)
      | out r' =>
        cases q4
        cases q2
        exact hb'.imp (fun _ z => z.elim) (fun _ _ z => z) (fun _ z => z.elim) (fun _ z => z.elim)
  exact forW_le (fun r1 r2 q h3 => by
    obtain ⟨r3, l3, q3⟩ := h3
    exact ⟨r3, q.trans l3, q3⟩) h0 (key l s0 q)
theorem EvT.le {t : Bool} {ρ2 : Rho} (h : EvT X c ρ2 t) (l : Le ρ ρ2) : EvT X c ρ t := fun σ H Q S q => h σ H Q (S.weak (by rw [l.1]; exact S.len) fun i b e n => ⟨l.2 i b e n, rfl⟩) q
theorem so_while (enc : S → Rho) (n : Nat) {body : List Stmt} {s0 : S} {C : S → Option Bool} {B : S → Option (Lp S R)} {G : S → Option R} (h0 : Le ρ (enc s0)) (hc : ∀ s, Et X c (enc s) (C s)) (hb : ∀ s, So X body (enc s) (LΦ Φ enc) (B s)) (hr : ∀ s, So X rest (enc s) Φ (G s))
    (hp : PassesOwn (model X.prog X.w) X.A X.env X.xe := by exact PassesOwn.never) : So X (.While c body [] pos :: rest) ρ Φ (bnd (whileD C B n s0) (jn G)) := fun r q => by
  refine xs_cons (sx_while (fun m ρ' => ∃ s, Le ρ' (enc s) ∧ bnd (whileD C B m s) (jn G) = some r) n ⟨s0, h0, q⟩ (fun m ρ' ⟨s, l, q⟩ => ?_) hp)
  cases m with
  | zero => cases q
  | succ m =>
    obtain ⟨nn, q1, q2⟩ := bnd_inv q
    obtain ⟨t, q3, q4⟩ := bnd_inv (show bnd (C s) _ = some nn from q1)
    refine ⟨t, (hc s t q3).le l, fun e => ?_, fun e => ?_⟩
    · subst e
      obtain ⟨o, q5, q6⟩ := bnd_inv q4
      refine xs_le l ?_
      have hb' := hb s o q5
      cases o with
      | go s' =>
        have q4' : bnd (whileD C B m s') (jn G) = some r := by rw [show whileD C B m s' = some nn from q6]; exact q2
        exact hb'.imp (fun ρ' z => ⟨m, Nat.lt_succ_self m, s', z, q4'⟩) (fun _ _ z => z.elim) (fun _ z => z.elim) (fun ρ' z => ⟨m, Nat.lt_succ_self m, s', z, q4'⟩)
      | brk s' =>
        cases q6
        exact hb'.imp (fun _ z => z.elim) (fun _ _ z => z.elim) (fun ρ' z => xs_le z (hr s' r q2)) (fun _ z => z.elim)
      | out r' =>
        cases q6
        cases q2
        exact hb'.imp (fun _ z => z.elim) (fun _ _ z => z) (fun _ z => z.elim) (fun _ z => z.elim)
    · subst e
      cases q4
      exact xs_le l (hr s r q2)
theorem so_go {enc : S → Rho} {s : S} (h : Le ρ (enc s)) : So X [] ρ (LΦ Φ enc) (some (.go s)) := so_nil h
/-! ### a list, a dict of one's own is changed -/
theorem lim_inv {β : Type} {n : Nat} {k : Option β} {r : β} (h : lim n k = some r) : n ≤ sizeLine ∧ k = some r := by
  unfold lim at h
  split at h
  · exact ⟨by assumption, h⟩
  · cases h
theorem so_append (j : Nat) {y : String} {p2 apos cpos : Pos} {ds : List D} {G : List D → Option R} (hsl : Sl X.N y j) (hj : ρ[j]? = some (.own ds)) (hv : Vis X.env.scope (Str.ofString y)) (he : Eo X e ρ f) (h : ∀ d, So X rest (ρ.set j (.own d)) Φ (G d)) (hbase : attributeBase (.Name (Str.ofString y) p2) "append" X.env (eval (.Name (Str.ofString y) p2) X.env) = eval (.Name (Str.ofString y) p2) X.env := by rfl)
    (hfew : ((backTo cpos (starEach [e] X.env)).all (fun x => !x.1) && (backToKw cpos (keywordEach [] X.env)).all (fun x => x.1.isSome)
      && decide ([e].length + ([] : List Keyword).length + (if ([] : List Keyword).isEmpty then 0 else 1) < 30)) = true := by rfl)
    (hline : (apos.endLine == cpos.line) = true := by rfl) (hs : starEach [e] X.env = (false, eval e X.env) :: starEach [] X.env := by rfl) (hplain : (backTo cpos (starEach [] X.env)).any (·.1) = false := by rfl)
    (hsw : swapsWith (.Call (.Attribute (.Name (Str.ofString y) p2) "append" apos) [e] [] cpos) none pos.line X.env = pure false := by rfl) :
    So X (.Expr (.Call (.Attribute (.Name (Str.ofString y) p2) "append" apos) [e] [] cpos) pos :: rest) ρ Φ (bnd (op1 (apL ds) f) G) := fun r q => by
  obtain ⟨l, q1, q⟩ := bnd_inv q
  obtain ⟨d, q1', q2⟩ := bnd_inv q1
  clear q1
  obtain ⟨q2', q3⟩ := lim_inv q2
  cases q3
  exact xs_cons (sx_append j hj (he d q1') q2' (h _ r q) hsl.h hv hsl.d hsl.c hbase hfew hline hs hplain hsw)
theorem so_extend (j : Nat) {y : String} {p2 apos cpos : Pos} {ds : List D} {f : Option (List D)} {G : List D → Option R} (hsl : Sl X.N y j) (hj : ρ[j]? = some (.own ds)) (hv : Vis X.env.scope (Str.ofString y)) (he : En X e ρ f) (h : ∀ d, So X rest (ρ.set j (.own d)) Φ (G d)) (hbase : attributeBase (.Name (Str.ofString y) p2) "extend" X.env (eval (.Name (Str.ofString y) p2) X.env) = eval (.Name (Str.ofString y) p2) X.env := by rfl)
    (hfew : ((backTo cpos (starEach [e] X.env)).all (fun x => !x.1) && (backToKw cpos (keywordEach [] X.env)).all (fun x => x.1.isSome)
      && decide ([e].length + ([] : List Keyword).length + (if ([] : List Keyword).isEmpty then 0 else 1) < 30)) = true := by rfl)
    (hline : (apos.endLine == cpos.line) = true := by rfl) (hs : starEach [e] X.env = (false, eval e X.env) :: starEach [] X.env := by rfl) (hplain : (backTo cpos (starEach [] X.env)).any (·.1) = false := by rfl)
    (hsw : swapsWith (.Call (.Attribute (.Name (Str.ofString y) p2) "extend" apos) [e] [] cpos) none pos.line X.env = pure false := by rfl) :
    So X (.Expr (.Call (.Attribute (.Name (Str.ofString y) p2) "extend" apos) [e] [] cpos) pos :: rest) ρ Φ (bnd (bnd f (exL ds)) G) := fun r q => by
  obtain ⟨l, q1, q⟩ := bnd_inv q
  obtain ⟨d, q1', q2⟩ := bnd_inv q1
  clear q1
  obtain ⟨q2', q3⟩ := lim_inv q2
  cases q3
  exact xs_cons (sx_extend j hj (he d q1') q2' (h _ r q) hsl.h hv hsl.d hsl.c hbase hfew hline hs hplain hsw)
theorem so_extendV (j : Nat) {y : String} {p2 apos cpos : Pos} {ds : List D} {G : List D → Option R} (hsl : Sl X.N y j) (hj : ρ[j]? = some (.own ds)) (hv : Vis X.env.scope (Str.ofString y)) (he : Eo X e ρ f) (h : ∀ d, So X rest (ρ.set j (.own d)) Φ (G d)) (hbase : attributeBase (.Name (Str.ofString y) p2) "extend" X.env (eval (.Name (Str.ofString y) p2) X.env) = eval (.Name (Str.ofString y) p2) X.env := by rfl)
    (hfew : ((backTo cpos (starEach [e] X.env)).all (fun x => !x.1) && (backToKw cpos (keywordEach [] X.env)).all (fun x => x.1.isSome)
      && decide ([e].length + ([] : List Keyword).length + (if ([] : List Keyword).isEmpty then 0 else 1) < 30)) = true := by rfl)
    (hline : (apos.endLine == cpos.line) = true := by rfl) (hs : starEach [e] X.env = (false, eval e X.env) :: starEach [] X.env := by rfl) (hplain : (backTo cpos (starEach [] X.env)).any (·.1) = false := by rfl)
    (hsw : swapsWith (.Call (.Attribute (.Name (Str.ofString y) p2) "extend" apos) [e] [] cpos) none pos.line X.env = pure false := by rfl) :
    So X (.Expr (.Call (.Attribute (.Name (Str.ofString y) p2) "extend" apos) [e] [] cpos) pos :: rest) ρ Φ (bnd (bnd (op1 itL f) (exL ds)) G) := fun r q => by
  obtain ⟨l, q1, q⟩ := bnd_inv q
  obtain ⟨d, q1', q2⟩ := bnd_inv q1
  clear q1
  obtain ⟨q2', q3⟩ := lim_inv q2
  cases q3
  obtain ⟨x, q4, q5⟩ := bnd_inv q1'
  unfold itL at q5
  split at q5
  · cases q5
    exact xs_cons (sx_extendV j hj (he _ q4) q2' (h _ r q) hsl.h hv hsl.d hsl.c hbase hfew hline hs hplain hsw)
  · cases q5
theorem so_pop (i j : Nat) {x : Str} {y : String} {pos' p2 apos cpos : Pos} {ds : List D} {G : List D × D → Option R} (hN : X.N.Nodup) (hsl : Sl X.N y j) (hj : ρ[j]? = some (.own ds)) (hv : Vis X.env.scope (Str.ofString y)) (h : ∀ q, So X rest ((ρ.set j (.own q.1)).set i (.val q.2)) Φ (G q)) (hi : X.N[i]? = some x := by rfl) (hx : Loc X.env.scope x := by first | exact Or.inl rfl | exact Or.inr rfl) (hbase : attributeBase (.Name (Str.ofString y) p2) "pop" X.env (eval (.Name (Str.ofString y) p2) X.env) = eval (.Name (Str.ofString y) p2) X.env := by rfl)
    (hline : (apos.endLine == cpos.line) = true := by rfl)
    (hs : swapsWith (.Call (.Attribute (.Name (Str.ofString y) p2) "pop" apos) [] [] cpos) (some (.Name x pos')) pos.line X.env = pure false := by rfl) (hf : X.fn x = true ∨ X.env.scope.names.lookup x = some .local := by first | exact .inl rfl | exact .inr rfl | assumption) :
    So X (.Assign [.Name x pos'] (.Call (.Attribute (.Name (Str.ofString y) p2) "pop" apos) [] [] cpos) pos :: rest) ρ Φ (bnd (popL ds) G) := fun r q => by
  obtain ⟨d, q1, q⟩ := bnd_inv q
  rw [popL_inv q1] at hj
  exact xs_cons (sx_pop i j hN hj (h d r q) hi hx hsl.h hv hsl.d hsl.c hbase hline hs hf)
theorem so_dput (j : Nat) {y : String} {p2 tpos : Pos} {es : List (D × D)} {g : Option D} {G : List (D × D) → Option R} (r : Ru X) (hsl : Sl X.N y j) (hj : ρ[j]? = some (.dic es)) (hv : Vis X.env.scope (Str.ofString y)) (hb : Eo X b ρ f) (he : Eo X e ρ g) (h : ∀ es', So X rest (ρ.set j (.dic es')) Φ (G es')) (hs : swapsWith e (some (.Subscript (.Name (Str.ofString y) p2) b tpos)) pos.line X.env = pure false := by rfl) :
    So X (.Assign [.Subscript (.Name (Str.ofString y) p2) b tpos] e pos :: rest) ρ Φ (bnd (op2 (putN es) f g) G) := fun r' q => by
  obtain ⟨es', q1, q⟩ := bnd_inv q
  obtain ⟨x, v, q2, q3, q4⟩ := op2_inv q1
  obtain ⟨kk, q5, q6⟩ := bnd_inv q4
  split at q6
  · cases q6
    have eb := hb x q2
    rw [kd_eq q5] at eb
    exact xs_cons (sx_dput j hj (by have : _ + 65 < _ := r; omega) eb (he v q3) (by assumption) (h _ r' q) hsl.h hv hsl.d hsl.c hs)
  · cases q6
end
/-! ### a def by its body -/
section
variable {P : Program} {w : World} {K : PySem.W.Frag} {mg : Str → Option Value} {base : Heap} {x qual : Str} {params : Arguments} {body : List Stmt} {scope : Scope} {kws : List (Str × V)} {f : Addr} {fd : FuncData} {N ps : List Str} {k : Nat}
abbrev BodyO (P : Program) (w : World) (K : PySem.W.Frag) (mg : Str → Option Value) (base : Heap) (N : List Str) (qual : Str) (scope : Scope) (f : Addr) (k : Nat) (body : List Stmt) (ds : List D) (r : Option D) : Prop :=
  ∀ (cdv : Value) (A : Around) (outer : List Env) (s : Shared) (H : Hp) (E : XK), Room k (A.deeper (envOfC qual scope s.heap.objs.size f cdv)) → So (cxOf CX0 P w K mg base N qual scope f cdv A outer s H E).nox body (startB N.length ds) FnΦ r
theorem fn_1 {m : D → Option D} (F : FunD K x qual params body scope [] kws f fd) (S : FnScope N ps scope) (hl : ps.length = 1) (h : ∀ a, BodyO P w K mg base N qual scope f k body [a] (m a)) : FnD P w K mg base (k + 1) f fd ps (g1 m) :=
  fn_d F S (fun ds d ⟨a, e, _⟩ => by rw [e, hl]; rfl) fun cdv A outer s H E ds d hr ⟨a, e, q⟩ => by subst e; exact h a cdv A outer s H E hr d q
theorem fn_2 {m : D → D → Option D} (F : FunD K x qual params body scope [] kws f fd) (S : FnScope N ps scope) (hl : ps.length = 2) (h : ∀ a b, BodyO P w K mg base N qual scope f k body [a, b] (m a b)) : FnD P w K mg base (k + 1) f fd ps (g2 m) :=
  fn_d F S (fun ds d ⟨a, b, e, _⟩ => by rw [e, hl]; rfl) fun cdv A outer s H E ds d hr ⟨a, b, e, q⟩ => by subst e; exact h a b cdv A outer s H E hr d q
theorem fn_3 {m : D → D → D → Option D} (F : FunD K x qual params body scope [] kws f fd) (S : FnScope N ps scope) (hl : ps.length = 3) (h : ∀ a b c, BodyO P w K mg base N qual scope f k body [a, b, c] (m a b c)) : FnD P w K mg base (k + 1) f fd ps (g3 m) :=
  fn_d F S (fun ds d ⟨a, b, c, e, _⟩ => by rw [e, hl]; rfl) fun cdv A outer s H E ds d hr ⟨a, b, c, e, q⟩ => by subst e; exact h a b c cdv A outer s H E hr d q
theorem fn_4 {m : D → D → D → D → Option D} (F : FunD K x qual params body scope [] kws f fd) (S : FnScope N ps scope) (hl : ps.length = 4) (h : ∀ a b c e, BodyO P w K mg base N qual scope f k body [a, b, c, e] (m a b c e)) : FnD P w K mg base (k + 1) f fd ps (g4 m) :=
  fn_d F S (fun ds d ⟨a, b, c, e', e, _⟩ => by rw [e, hl]; rfl) fun cdv A outer s H E ds d hr ⟨a, b, c, e', e, q⟩ => by subst e; exact h a b c e' cdv A outer s H E hr d q
end
end DL


/-! Dict displays, tuple.index, targets in targets. -/
namespace DL
open PySem PySem.Spec PyProof.Rows L2
section
variable {X : Cx} {ρ : Rho} {e a b c : Expr} {f g h : Option D}
/-! ### {k: v, ..} -/
def Pd (X : Cx) (pos : Pos) (ks : List (Option Expr)) (vs : List Expr) (ρ : Rho) (f : Option (List (Key × D))) : Prop := ∀ md, f = some md → ∃ trs, PPs X pos ks vs trs ∧ ∀ σ H Q, SOk X.K ρ σ H →
  (∀ ps H', Same H H' → (∃ kvs : List (Key × V), ps = kvs.map (fun kv => (kV kv.1, kv.2)) ∧ Paired (fun (p : Key × V) (q : Key × D) => p.1 = q.1 ∧ Rp X.K H' p.2 q.2) kvs md) → Q ps H') → tPairs trs σ H Q
theorem pd_nil {pos : Pos} : Pd X pos [] [] ρ (some []) := fun md q => by
  cases q
  exact ⟨[], pps_nil, fun σ H Q S q => q [] H (.refl H) ⟨[], rfl, .nil⟩⟩
def dp1 (f g : Option D) (r : Option (List (Key × D))) : Option (List (Key × D)) := bnd f fun k => bnd (kd k) fun kk => bnd g fun d => bnd r fun md => some ((kk, d) :: md)
theorem paired_kv {K : PySem.W.Frag} {H H' : Hp} (s : Same H H') : ∀ {kvs : List (Key × V)} {md : List (Key × D)}, Paired (fun (p : Key × V) (q : Key × D) => p.1 = q.1 ∧ Rp K H p.2 q.2) kvs md → Paired (fun (p : Key × V) (q : Key × D) => p.1 = q.1 ∧ Rp K H' p.2 q.2) kvs md
  | _, _, .nil => .nil
  | _, _, .cons h t => .cons ⟨h.1, h.2.mono (.of s)⟩ (paired_kv s t)
theorem pd_cons {pos : Pos} {k v : Expr} {ks : List (Option Expr)} {vs : List Expr} {r : Option (List (Key × D))} (hk : Eo X k ρ f) (hv : Eo X v ρ g) (hr : Pd X pos ks vs ρ r) : Pd X pos (some k :: ks) (v :: vs) ρ (dp1 f g r) := fun md q => by
  obtain ⟨x, q1, q⟩ := bnd_inv q
  obtain ⟨kk, q2, q⟩ := bnd_inv q
  obtain ⟨d, q3, q⟩ := bnd_inv q
  obtain ⟨md', q4, q⟩ := bnd_inv q
  cases q
  obtain ⟨trs, h1, h2⟩ := hr md' q4
  have ek := hk x q1
  rw [kd_eq q2] at ek
  refine ⟨_, pps_cons pe_c pe_c h1, fun σ H Q S q => ?_⟩
  refine ek σ H _ S fun u H1 ⟨s1, r1⟩ => hv d q3 σ H1 _ (S.mono s1) fun w H2 ⟨s2, r2⟩ => h2 σ H2 _ (S.mono (s1.trans s2)) fun ps H3 s3 ⟨kvs, e, p⟩ => ?_
  have e1 := (Rq.of r1).key
  subst e1 e
  exact q _ H3 ((s1.trans s2).trans s3) ⟨(kk, w) :: kvs, rfl, .cons ⟨rfl, r2.mono (.of s3)⟩ p⟩
def dspV (f : Option (List (Key × D))) : Option (List (D × D)) := bnd f fun md => if md.length ≤ 15 then some (mergeD [] md) else none
theorem paired_len {α β : Type} {R : α → β → Prop} : ∀ {l : List α} {m : List β}, Paired R l m → l.length = m.length
  | _, _, .nil => rfl
  | _, _, .cons _ t => congrArg (· + 1) (paired_len t)
theorem ed_disp {pos : Pos} {ks : List (Option Expr)} {vs : List Expr} {f : Option (List (Key × D))} (h : Pd X pos ks vs ρ f) (hall : ks.all (·.isSome) = true := by rfl) (hl : ks.length = vs.length := by rfl) (h0 : ks ≠ [] := by simp) (h15 : ks.length ≤ 15 := by decide) : Ed X (.Dict ks vs pos) ρ (dspV f) := fun d q => by
  obtain ⟨md, q1, q2⟩ := bnd_inv q
  split at q2
  · rename_i hmd
    cases q2
    obtain ⟨trs, h1, h2⟩ := h md q1
    intro σ H Q S q
    refine ⟨_, pe_disp h1 hall hl h0 h15, fun p hp => h2 σ _ _ (S.mono (same_new hp)) fun ps H2 s2 ⟨kvs, e, pr⟩ => ?_⟩
    have e2 : H2 p = some (.dK []) := s2 _ _ upd_same
    refine ⟨e2, kvs, e, by rw [paired_len pr]; exact hmd, q _ _ ?_⟩
    have sm : Same H H2 := (same_new hp).trans s2
    have hn : ∀ b u, H b = some u → b ≠ p := fun b u hb e => by subst e; rw [hp] at hb; cases hb
    refine ⟨fun b u hb => ?_, p, _, rfl, hp, upd_same, (RpKV.merge pr .nil).mono (stb_upd e2 trivial)⟩
    rw [upd_ne (hn b u hb)]
    exact sm b u hb
  · cases q2
/-! ### t.index(x), t a tuple of texts -/
def idxL (l : List Str) (x : Str) : Option Nat := if x ∈ l then some (l.idxOf x) else none
def idxD : D → D → Option D
  | .tuple ds, .str x => bnd (allStr ds) fun l => bnd (idxL l x) fun j => some (.int (j : Nat))
  | _, _ => none
theorem rp_strs' {K : PySem.W.Frag} {H : Hp} : ∀ {bs : List Str} {xs : List V}, RpAll K H xs (bs.map .str) → xs = bs.map V.str
  | [], _, r => by cases r; rfl
  | b :: bs, _, r => by
    cases r with
    | cons h t => rw [(Rq.of h).str, rp_strs' t]; rfl
theorem pe_bmP {o : Expr} {es : List Expr} {to : TE} {t : TA} {name : Str} {apos cpos : Pos} {id : String} {r : V → List V → Hp → VK → Prop} (slot : Slot "tuple" name id) (hty : typeOf (.builtin id) = pure (.type "method_descriptor")) (hm : MtR X id r) (ho : PE X o to) (ha : PA X (e :: es) t)
    (hbase : attributeBase o name X.env (eval o X.env) = eval o X.env)
    (hfew : ((backTo cpos (starEach (e :: es) X.env)).all (fun x => !x.1) && (backToKw cpos (keywordEach [] X.env)).all (fun x => x.1.isSome)
      && decide ((e :: es).length + ([] : List Keyword).length + (if ([] : List Keyword).isEmpty then 0 else 1) < 30)) = true)
    (hline : (apos.endLine == cpos.line) = true) (hs : starEach (e :: es) X.env = (false, eval e X.env) :: starEach es X.env) (hplain : (backTo cpos (starEach es X.env)).any (·.1) = false) :
    PE X (.Call (.Attribute o name apos) (e :: es) [] cpos) (fun σ H Q => to σ H fun x H1 => (∃ a xs, x = .ref a ∧ PlT X.K H1 a xs) ∧ t σ H1 fun xs H2 => r x xs H2 Q) := by
  refine ⟨fun pins s σ H Q I h => ?_⟩
  refine wpAny_Call_method_late hbase hfew hline rfl (thn (ho.run pins s σ H _ I h) fun v s1 ⟨x, H1, I1, r1, ⟨a, xs, ex, pl⟩, q1⟩ => ?_)
  subst ex
  cases r1
  obtain ⟨ob, its, n, e1, e2, e3, _⟩ := inv_pl I1 pl
  refine ⟨"tuple", id, PySem.F.plainAttrs_tuple, slot, hty, ⟨ob, e1, e2⟩, fun b eb => by cases eb; exact ⟨ob, e1, e3⟩, ?_⟩
  have hA := ha.run cpos pins s1 σ H1 _ I1 q1
  rw [hs] at hA ⊢
  refine Calls.callWith_builtin (by show (false || (backTo cpos (starEach es X.env)).any (·.1)) = false; rw [hplain] <;> rfl) (Calls.evalArgs_plain ?_)
  exact thn hA fun us s2 ⟨vs, H2, I2, r2, q2⟩ => hm pins s2 σ H2 (.ref a) vs (.ref a) us Q I2 rfl r2 q2
theorem eo_idxT {apos cpos : Pos} (ha : Eo X a ρ f) (hb : Eo X b ρ g) (hbase : attributeBase a "index" X.env (eval a X.env) = eval a X.env := by rfl)
    (hfew : ((backTo cpos (starEach [b] X.env)).all (fun x => !x.1) && (backToKw cpos (keywordEach [] X.env)).all (fun x => x.1.isSome)
      && decide ([b].length + ([] : List Keyword).length + (if ([] : List Keyword).isEmpty then 0 else 1) < 30)) = true := by rfl)
    (hline : (apos.endLine == cpos.line) = true := by rfl) (hs : starEach [b] X.env = (false, eval b X.env) :: starEach [] X.env := by rfl) (hplain : (backTo cpos (starEach [] X.env)).any (·.1) = false := by rfl) : Eo X (.Call (.Attribute a "index" apos) [b] [] cpos) ρ (op2 idxD f g) := fun d q => by
  obtain ⟨x, y, q1, q2, q3⟩ := op2_inv q
  unfold idxD at q3
  split at q3
  · rename_i ds z
    obtain ⟨l, q4, q5⟩ := bnd_inv q3
    obtain ⟨j, q6, q7⟩ := bnd_inv q5
    cases q7
    unfold idxL at q6
    split at q6
    · rename_i hm
      cases q6
      have el := allStr_inv q4
      subst el
      intro σ H Q S q
      refine ⟨_, pe_bmP PySem.F.slot_tuple_index PySem.F.type_tuple_index mt_tup_index pe_c (pa_cons pe_c pa_nil hs) hbase hfew hline hs hplain, ha _ q1 σ H _ S fun u H1 ⟨s1, r1⟩ => ?_⟩
      obtain ⟨p, xs, rfl, hpl, hr⟩ := (Rq.of r1).tupP
      have hq := hpl.sq
      have ex := rp_strs' hr
      subst ex
      refine ⟨⟨p, _, rfl, hpl⟩, hb _ q2 σ H1 _ (S.mono s1) fun v H2 ⟨s2, r2⟩ => ?_⟩
      have ev := (Rq.of r2).str
      subst ev
      refine ⟨p, l, z, l.idxOf z, rfl, rfl, sqT_stb (.of s2) hq, ?_, fun m hm' e => ?_, q _ H2 ⟨s1.trans s2, .int _⟩⟩
      · rw [List.getElem?_eq_getElem (List.idxOf_lt_length_of_mem hm)]
        simp
      · have hml : m < l.length := Nat.lt_trans hm' (List.idxOf_lt_length_of_mem hm)
        rw [List.getElem?_eq_getElem hml] at e
        have h9 := List.not_of_lt_findIdx (p := (· == z)) (xs := l) (i := m) hm'
        rw [Option.some.inj e] at h9
        simp at h9
    · cases q6
  · cases q3
/-! ### for k, (a, b, c, d, e) in .. -/
def dec15 : D → Option (D × D × D × D × D × D)
  | .tuple [k, .tuple [a, b, c, d, e]] => some (k, a, b, c, d, e)
  | _ => none
@[simp] theorem dec15_eq (k a b c d e : D) : dec15 (.tuple [k, .tuple [a, b, c, d, e]]) = some (k, a, b, c, d, e) := rfl
theorem dec15_inv {x : D} {v : D × D × D × D × D × D} (h : dec15 x = some v) : x = .tuple [v.1, .tuple [v.2.1, v.2.2.1, v.2.2.2.1, v.2.2.2.2.1, v.2.2.2.2.2]] := by
  unfold dec15 at h; split at h
  · cases h; rfl
  · cases h
theorem tg_15 {s1 s2 s3 s4 s5 s6 : String} {i1 i2 i3 i4 i5 i6 : Nat} {p1 p2 p3 p4 p5 p6 pt pu : Pos} {n m : Nat} {yl : Bool} (h1 : Tn X s1 i1) (h2 : Tn X s2 i2) (h3 : Tn X s3 i3) (h4 : Tn X s4 i4) (h5 : Tn X s5 i5) (h6 : Tn X s6 i6) (hc : X.calm = true := by rfl) :
    Tg X yl (.Tuple [.Name (Str.ofString s1) p1, .Tuple [.Name (Str.ofString s2) p2, .Name (Str.ofString s3) p3, .Name (Str.ofString s4) p4, .Name (Str.ofString s5) p5, .Name (Str.ofString s6) p6] m pu] n pt) ρ dec15 (fun v => (((((ρ.set i1 (.val v.1)).set i2 (.val v.2.1)).set i3 (.val v.2.2.1)).set i4 (.val v.2.2.2.1)).set i5 (.val v.2.2.2.2.1)).set i6 (.val v.2.2.2.2.2)) [i1, i2, i3, i4, i5, i6] := fun x v h => by
  rw [dec15_inv h]
  exact eg_tup (egs_cons h1.ev (egs_cons (eg_tup (egs_cons h2.ev (egs_cons h3.ev (egs_cons h4.ev (egs_cons h5.ev (egs_cons h6.ev egs_nil))))) rfl rfl hc) egs_nil)) rfl rfl hc
end
end DL


namespace DL
open PySem PySem.Spec PyProof.Rows L2
/-! Sets of texts: set(xs) of a list or tuple of texts, len, sorted. -/
theorem perm_of_sub {α : Type} [DecidableEq α] : ∀ {l m : List α}, l.Nodup → (∀ x ∈ l, x ∈ m) → m.length ≤ l.length → l.Perm m
  | [], m, _, _, h => by
    cases m with
    | nil => exact .nil
    | cons _ _ => simp at h
  | x :: l, m, nd, sub, h => by
    have hx := sub x List.mem_cons_self
    refine .trans (.cons x (perm_of_sub (m := m.erase x) (List.nodup_cons.mp nd).2 (fun y hy => ?_) ?_)) (List.perm_cons_erase hx).symm
    · have : y ≠ x := fun e => (List.nodup_cons.mp nd).1 (e ▸ hy)
      exact (List.mem_erase_of_ne this).mpr (sub y (List.mem_cons_of_mem _ hy))
    · rw [List.length_erase_of_mem hx]
      simp only [List.length_cons] at h
      omega
/-- the set at a has just the texts l -/
def SetT (P : Program) (w : World) (h : Heap) (a : Addr) (l : List Str) : Prop :=
  ∃ D : Froz.SD, h.get? a = some (Froz.sObj "set" D) ∧ Froz.TxOk P w D l ∧ l.Nodup ∧ Ris D.2.2.place.toList ∧ (w.params.followText "set-order" = true ∨ D.2.2.led = true)
theorem SetT.at {P : Program} {w : World} {h h' : Heap} {a : Addr} {l : List Str} (R : SetT P w h a l) (k : ∀ o, h.get? a = some o → h'.get? a = some o) : SetT P w h' a l := by
  obtain ⟨D, h1, r⟩ := R
  exact ⟨D, k _ h1, r⟩
def addL (l : List Str) (k : Str) : List Str := if k ∈ l then l else k :: l
theorem addL_len (l : List Str) (k : Str) : (addL l k).length ≤ l.length + 1 := by
  unfold addL; split <;> simp
theorem mem_addL {l : List Str} {k x : Str} : x ∈ addL l k ↔ x = k ∨ x ∈ l := by
  unfold addL
  split
  · rename_i h
    exact ⟨.inr, fun z => z.elim (fun e => e ▸ h) id⟩
  · exact List.mem_cons
theorem tail_led {ep : Nat} {es : Array (Int × Value)} {t : SetTable} {b : Bool} (r : Ris t.place.toList) : Ris (Froz.tailTx ep es t b).2.2.place.toList ∧ (Froz.tailTx ep es t b).2.2.led = t.led := by
  unfold Froz.tailTx
  split
  · exact ⟨relayAll_ris _ _ _, relayAll_led _ _ _⟩
  · exact ⟨r, rfl⟩
theorem add_led {v : Value} {i : Int} {D : Froz.SD} (r : Ris D.2.2.place.toList) : Ris (Froz.addTx i v D).2.2.place.toList ∧ (Froz.addTx i v D).2.2.led = D.2.2.led := by
  unfold Froz.addTx
  have h1 := layNew_ris D.2.2 D.1 i v r
  have h2 := layNew_led D.2.2 D.1 i v
  generalize layNew D.2.2 D.1 i v = Z at h1 h2 ⊢
  split
  · have q := tail_led (ep := D.2.1) (es := Z.1) (t := { Z.2.1 with plain := false }) (b := Z.2.2.1) h1
    exact ⟨q.1, q.2.trans h2⟩
  · have q := tail_led (ep := D.2.1) (es := Z.1) (t := Z.2.1) (b := Z.2.2.1) h1
    exact ⟨q.1, q.2.trans h2⟩
section
variable {P : Program} {w : World} {A : Around} {E : Value → Shared → Prop} {s : Shared} {a : Addr} {l : List Str}
theorem setT_add {k : Str} {u : Tok} {Q : Bool → Shared → Prop} (R : SetT P w s.heap a l) (room : l.length + 1 < scanBound)
    (hQ : ∀ b h', Heap.SameBut a s.heap h' → SetT P w h' a (addL l k) → Q b { s with heap := h' }) : wpAny (model P w) A (setAddHashed a (.str k u) (hashStr w k)) Q E s := by
  obtain ⟨D, ho, F, nd, r, ld⟩ := R
  by_cases c : k ∈ l
  · obtain ⟨es, ep, t⟩ := D
    have hd : (Froz.sObj "set" (es, ep, t)).data = .set es ep t := rfl
    have hf : t.fits es.size = true := F.fit
    have hel : ElemsOf (strKind P w) es.toList := F.el
    have hb : es.size < scanBound := by have := F.sz; dsimp only at this; omega
    unfold setAddHashed setAddHashedIn
    refine wpAny_holding (wpAny_bind (wpAny_setState_of ho hd hf ?_))
    dsimp only
    rw [byScan_of (knd := strKind P w) (show (Value.str k u).scannable = true from rfl) hb hel]
    simp only [↓reduceIte]
    unfold setAddByScan
    refine wpAny_bind (wpAny_bind (wpAny_rule (wpAny_bind (wpAny_setScan_of (knd := strKind P w) (Froz.is_str k u) ho hd hf hel ?_))))
    cases hfi : List.findIdx? (fun e => (strKind P w).is k e.2) es.toList with
    | none =>
      obtain ⟨e, he, q⟩ := (F.mem k).mp c
      have z := List.findIdx?_eq_none_iff.mp hfi e he
      rw [q] at z; cases z
    | some j =>
      dsimp only
      refine wpAny_pure (wpAny_pure ?_)
      exact hQ _ s.heap (Heap.SameBut.refl a s.heap) (by unfold addL; rw [if_pos c]; exact ⟨_, ho, F, nd, r, ld⟩)
  · refine Froz.add_x ho F c room ?_
    have q := add_led (v := .str k u) (i := hashStr w k) r
    refine hQ true _ (Heap.SameBut.update _ _ _) ?_
    unfold addL
    rw [if_neg c]
    exact ⟨_, Froz.get_upd _ ho rfl, Froz.add_ok u F, List.nodup_cons.mpr ⟨c, nd⟩, q.1, ld.imp id fun z => by rw [q.2]; exact z⟩
theorem setT_loop {I : Addr} {fp wr : List Addr} {G : Array GenState → Array GenState → Prop} {n : Nat} {Pv : Nat → Value → Prop} {St : Nat → Shared → Prop} {R : Result → Shared → Prop}
    (W : WalksS P w A.in1 I fp wr G n Pv St) (hSf : a ∉ fp) (ks : List Str) (hn : n = ks.length) (hb : ks.length + 1 < scanBound) (hval : ∀ i v, Pv i v → ∃ k t, ks[i]? = some k ∧ v = .str k t) :
    ∀ (m i : Nat) (s : Shared) (l : List Str), i + m = n → St i s → SetT P w s.heap a l → l.length ≤ i →
      (∀ s', Moved (a :: wr) G s s' → SetT P w s'.heap a ((ks.drop i).foldl addL l) → R (.ok (.ret .none)) s') → codeAny (model P w) A (.builtin "set.update.loop" ⟨[.ref a, .ref I], []⟩) R s := by
  have hSw : a ∉ wr := fun h => hSf (W.sub _ h)
  have hsub : ∀ b ∈ wr, b ∈ a :: wr := fun b hb => List.mem_cons_of_mem _ hb
  intro m
  induction m with
  | zero =>
    intro i s l hi st hS hl hR
    have e : i = n := by omega
    subst e
    refine codeAny_builtin F.entry_set_update_loop ?_
    rw [Around.under_plainId F.plain_set_update_loop _]
    show wpAny _ A.in1 (pyNext (.ref I) >>= _) _ _ s
    refine wpAny_bind (W.done s _ _ st fun s' hm => ?_)
    show wpAny _ A.in1 (ret Value.none) _ _ s'
    refine wpAny_pure (hR s' (hm.mono hsub) ?_)
    rw [List.drop_eq_nil_of_le (by omega)]
    exact hS.at fun o e => hm.heap a o hSw e
  | succ m ih =>
    intro i s l hi st hS hl hR
    refine codeAny_builtin F.entry_set_update_loop ?_
    rw [Around.under_plainId F.plain_set_update_loop _]
    show wpAny _ A.in1 (pyNext (.ref I) >>= _) _ _ s
    refine wpAny_bind (W.item i s _ _ (by omega) st fun v s' hP st' hm => ?_)
    obtain ⟨k, t, hk, rfl⟩ := hval i v hP
    show wpAny _ A.in1 (holding [Value.str k t] (setAdd a (.str k t)) >>= _) _ _ s'
    refine wpAny_bind (wpAny_holding ?_)
    unfold setAdd
    refine wpAny_holding (wpAny_bind ((strKind P w).pyHash (k := k) (Froz.is_str k t) ?_))
    refine setT_add (s := { s' with toks := s'.toks + 1 }) (hS.at fun o e => hm.heap a o hSw e) (by omega) fun b h' sb R' => ?_
    refine wpAny_pure ⟨plainId_quiet F.plain_set_update_loop _, ih (i + 1) _ (addL l k) (by omega) (W.frame _ s' _ _ st' (Nat.le_succ _) fun b hb o e => ?_) R' (by have := addL_len l k; omega) fun s'' hm'' hS'' => ?_⟩
    · rw [sb.2 b (fun h : b = a => hSf (by rw [← h]; exact hb))]; exact e
    · refine hR s'' (Moved.trans W.gtrans ((hm.mono hsub).then_heap (Nat.le_succ _) fun b o hb e => ?_) hm'') ?_
      · rw [sb.2 b (fun h : b = a => hb (by rw [h]; exact List.mem_cons_self))]; exact e
      · obtain ⟨hlt, e⟩ := List.getElem?_eq_some_iff.mp hk
        rw [List.drop_eq_getElem_cons hlt, e]
        exact hS''
end
end DL


namespace DL
open PySem PySem.Spec PyProof.Rows L2
def newSet (w : World) : Obj := Froz.sObj "set" (#[], 0, .fresh 0 0 (!w.params.followText "set-order"))
theorem newSet_is {P : Program} {w : World} {h : Heap} {a : Addr} (e : h.get? a = some (newSet w)) : SetT P w h a [] := by
  refine ⟨_, e, Froz.TxOk.nil rfl, List.nodup_nil, List.Pairwise.nil, ?_⟩
  show _ ∨ (!w.params.followText "set-order") = true
  cases w.params.followText "set-order"
  · exact .inr rfl
  · exact .inl rfl
def IsSeq (h : Heap) (l : Addr) (its : Array Value) : Prop := h.IsList l its ∨ h.IsTuple l its
section
variable {P : Program} {w : World} {A : Around} {E : Value → Shared → Prop} {s : Shared}
/-- the words of the texts, each once -/
def onceS (ks : List Str) : List Str := ks.foldl addL []
theorem init_setT {a l : Addr} {its : Array Value} {ks : List Str} {Q : PySem.Fin → Shared → Prop} (hh : A.handled = none) (hal : a ≠ l) (ho : s.heap.get? a = some (newSet w)) (hl : IsSeq s.heap l its) (hi : StrsAre its.toList ks) (hb : ks.length + 1 < scanBound)
    (h : ∀ h' tk, SetT P w h' a (onceS ks) → (∀ b o, b ≠ a → s.heap.get? b = some o → h'.get? b = some o) → Q (.done (.ret .none)) { s with heap := h', toks := tk }) :
    wpAny (model P w) A (Builtin.«set.__init__» ⟨[.ref a, .ref l], []⟩) Q E s := by
  have hlen : its.size = ks.length := by rw [← StrsAre.len_eq hi, Array.length_toList]
  have hval : ∀ (i : Nat) (v : Value), its[i]? = some v → ∃ k t, ks[i]? = some k ∧ v = .str k t := fun i v hv => by
    have hk : i < ks.length := by rw [← hlen]; exact (Array.getElem?_eq_some_iff.mp hv).1
    obtain ⟨t, e⟩ := SS.strs_at hi i v (by rw [Array.getElem?_toList]; exact hv)
    exact ⟨ks[i], t, List.getElem?_eq_getElem hk, by rw [e, List.getD_eq_getElem?_getD, List.getElem?_eq_getElem hk] <;> rfl⟩
  rcases hl with hl | hl
  · obtain ⟨ol, hol, hcl, nl, hdl⟩ := id hl
    obtain ⟨ocls, odict, odata, oslots⟩ := ol
    simp only at hcl hdl
    subst hcl; subst hdl
    have f1 := F.sub_list_set
    have f2 := F.sub_list_frozenset
    have f3 : (Value.type "list" == Value.type "dict") = false := by decide
    unfold Builtin.«set.__init__» noKeywords Builtin.Frozenset.updateFrom
    generalize hPI : pyIter = PI
    wp_walk
    subst hPI
    refine wpAny_pyIter_list hl ?_
    refine wpAny_bind (wpAny_runValue ?_)
    have hlS : l < s.heap.objs.size := Heap.lt_size hol
    have haS : a < s.heap.objs.size := Heap.lt_size ho
    refine setT_loop (a := a) ((Walks.list (A := A.in1) hh s.heap.objs.size l (Nat.ne_of_lt hlS) its).toS) (by simp only [List.mem_cons, List.mem_singleton, List.not_mem_nil, or_false, not_or]; exact ⟨Nat.ne_of_lt haS, hal⟩) ks hlen hb hval its.size 0 _ [] (Nat.zero_add _) ⟨⟨_, Heap.get?_push_size _ rfl, rfl, rfl⟩, hl.push _⟩ (newSet_is (Heap.get?_push_of_some _ ho)) (Nat.le_refl 0) fun s' hm hS' => ?_
    obtain ⟨h', g2, d', tk', os'⟩ := s'
    have eg : g2 = s.gens := hm.gens
    have ed : d' = s.drawn := hm.drawn
    have eo : os' = s.os := hm.os
    subst eg; subst ed; subst eo
    show wpAny _ _ _ _ _ _
    refine wpAny_pure ?_
    show wpAny _ _ (ret Value.none) _ _ _
    refine wpAny_pure (h h' tk' hS' fun b o hb e => hm.heap b o ?_ (Heap.get?_push_of_some _ e))
    simp only [List.mem_cons, List.mem_singleton, List.not_mem_nil, or_false, not_or]
    exact ⟨hb, Nat.ne_of_lt (Heap.lt_size e)⟩
  · obtain ⟨ol, hol, hcl, nl, hdl⟩ := id hl
    obtain ⟨ocls, odict, odata, oslots⟩ := ol
    simp only at hcl hdl
    subst hcl; subst hdl
    have f1 := F.sub_tuple_set
    have f2 := F.sub_tuple_frozenset
    have f3 : (Value.type "tuple" == Value.type "dict") = false := by decide
    unfold Builtin.«set.__init__» noKeywords Builtin.Frozenset.updateFrom
    generalize hPI : pyIter = PI
    wp_walk
    subst hPI
    refine wpAny_pyIter_tuple hl ?_
    refine wpAny_bind (wpAny_runValue ?_)
    have hlS : l < s.heap.objs.size := Heap.lt_size hol
    have haS : a < s.heap.objs.size := Heap.lt_size ho
    refine setT_loop (a := a) ((Walks.tuple (A := A.in1) hh s.heap.objs.size l (Nat.ne_of_lt hlS) its).toS) (by simp only [List.mem_cons, List.mem_singleton, List.not_mem_nil, or_false, not_or]; exact ⟨Nat.ne_of_lt haS, hal⟩) ks hlen hb hval its.size 0 _ [] (Nat.zero_add _) ⟨⟨_, Heap.get?_push_size _ rfl, rfl, rfl⟩, hl.push _⟩ (newSet_is (Heap.get?_push_of_some _ ho)) (Nat.le_refl 0) fun s' hm hS' => ?_
    obtain ⟨h', g2, d', tk', os'⟩ := s'
    have eg : g2 = s.gens := hm.gens
    have ed : d' = s.drawn := hm.drawn
    have eo : os' = s.os := hm.os
    subst eg; subst ed; subst eo
    show wpAny _ _ _ _ _ _
    refine wpAny_pure ?_
    show wpAny _ _ (ret Value.none) _ _ _
    refine wpAny_pure (h h' tk' hS' fun b o hb e => hm.heap b o ?_ (Heap.get?_push_of_some _ e))
    simp only [List.mem_cons, List.mem_singleton, List.not_mem_nil, or_false, not_or]
    exact ⟨hb, Nat.ne_of_lt (Heap.lt_size e)⟩
end
end DL


namespace DL
open PySem PySem.Spec PyProof.Rows L2
section
variable {P : Program} {w : World} {A : Around} {E : Value → Shared → Prop} {s : Shared}
/-- set(xs) of texts -/
theorem call_setT {l : Addr} {its : Array Value} {ks : List Str} {Q : Value → Shared → Prop} (hh : A.handled = none) (hl : IsSeq s.heap l its) (hi : StrsAre its.toList ks) (hb : ks.length + 1 < scanBound)
    (h : ∀ h' tk, SetT P w h' s.heap.objs.size (onceS ks) → (∀ b o, s.heap.get? b = some o → h'.get? b = some o) → Q (.ref s.heap.objs.size) { s with heap := h', toks := tk }) :
    wpAny (model P w) A (call (.type "set") [.ref l]) Q E s := by
  have hlS : l < s.heap.objs.size := by
    rcases hl with ⟨_, z, _⟩ | ⟨_, z, _⟩ <;> exact Heap.lt_size z
  obtain ⟨c, tl, hmro⟩ := F.called_set.mro
  have hmade := F.called_set.made
  have hsub := F.called_set.sub
  refine wpAny_call (codeAny_of_tree ?_)
  show wpAny _ _ (callAny (.type "set") _) _ _ _
  refine wpAny_pure ⟨Code.quiet_builtin _ (by decide +kernel), codeAny_builtin F.entry_type_call ?_⟩
  rw [Around.under_plain (weight_type_call_type "set" [.ref l] []) rfl]
  have h1 := F.called_set.notType
  have h2 := F.called_set.canCreate
  have hct := F.typeCall_set_1 (.ref l)
  repeat (any_goals (first | assumption | wp_step))
  refine codeAny_mono (code_set_led1 (.ref l) (E := E) (Q₁ := fun obj s₁ => obj = .ref s.heap.objs.size ∧ s₁ = { s with heap := s.heap.push (newSet w) }) ⟨rfl, rfl⟩) fun r s₁ hr => ?_
  cases r with
  | error e => exact hr
  | ok fl =>
    cases fl with
    | ret obj =>
      obtain ⟨rfl, rfl⟩ := hr
      have hS : (s.heap.push (newSet w)).get? s.heap.objs.size = some (newSet w) := Heap.get?_push_size _ rfl
      have hT : Shared.TypeIs { s with heap := s.heap.push (newSet w) } (.ref s.heap.objs.size) "set" := ⟨_, hS, rfl⟩
      have hli := F.called_set.init.lookup
      have hbi := F.called_set.init.bind (.ref s.heap.objs.size)
      repeat (any_goals (first | assumption | wp_step))
      refine codeAny_mono (codeAny_call_builtin (R := wants (fun r s₂ => r = .none ∧ ∃ h' tk, s₂ = { s with heap := h', toks := tk } ∧ SetT P w h' s.heap.objs.size (onceS ks) ∧ (∀ b o, s.heap.get? b = some o → h'.get? b = some o)) E) F.called_set.init.plain F.entry_set_init (check_set_init_1 hT ?_)) fun r₂ s₂ hr₂ => ?_
      · refine init_setT (s := { s with heap := s.heap.push (newSet w) }) (by simp [hh]) (Nat.ne_of_gt hlS) hS (hl.imp (fun z => z.push _) (fun z => z.push _)) hi hb fun h' tk R k => ?_
        exact ⟨rfl, h', tk, rfl, R, fun b o e => k b o (Nat.ne_of_lt (Heap.lt_size e)) (Heap.get?_push_of_some _ e)⟩
      · cases r₂ with
        | error e => exact hr₂
        | ok fl₂ =>
          cases fl₂ with
          | ret r =>
            obtain ⟨rfl, h', tk, rfl, hS', hk'⟩ := hr₂
            repeat (any_goals (first | assumption | wp_step))
            exact h _ _ hS' hk'
          | _ => exact hr₂.elim
    | _ => exact hr.elim
end
end DL


namespace DL
open PySem PySem.Spec PyProof.Rows L2
def SetTO (P : Program) (w : World) (a : Addr) (l : List Str) : HO := .ext fun h => SetT P w h a l
theorem setTO_new {P : Program} {w : World} {H : Hp} {h : Heap} {a : Addr} {l : List Str} (R : SetT P w h a l) : ObjOk P w H h a (SetTO P w a l) := by
  have ⟨D, ho, _⟩ := R
  exact ⟨R, ⟨_, ho⟩, fun h1 h2 p k => SetT.at p k⟩
theorem strs_len : ∀ {us : List Value} {ks : List Str}, StrsAre us ks → us.length = ks.length
  | _, _, .nil => rfl
  | _, _, .cons _ _ t => by rw [List.length_cons, List.length_cons, strs_len t]
def txt : Value → Str
  | .str k _ => k
  | _ => Str.empty
theorem strs_txt : ∀ (us : List Value), (∀ v ∈ us, ∃ k t, v = Value.str k t) → StrsAre us (us.map txt)
  | [], _ => .nil
  | v :: us, h => by
    obtain ⟨k, t, rfl⟩ := h v List.mem_cons_self
    exact .cons k t (strs_txt us fun u hu => h u (List.mem_cons_of_mem _ hu))
section
variable {X : Cx}
theorem cr_setT (hc : X.calm = true) : CallR X (.type "set") (fun vs H Q => ∃ (p : Addr) (ks : List Str), vs = [.ref p] ∧ (SqL X.K H p (ks.map V.str) ∨ SqT X.K H p (ks.map V.str)) ∧ ks.length ≤ 1000 ∧ ∀ q, H q = none → Q (.ref q) (upd H q (SetTO X.prog X.w q (onceS ks)))) := by
  intro pins s σ H xs us Q I r h
  obtain ⟨p, ks, rfl, hq, hl, q⟩ := h
  rw [Vals.ref1 r]
  have fin : ∀ its : Array Value, IsSeq s.heap p its → StrsAre its.toList ks → wpAny (model X.prog X.w) X.A (call (.type "set") [.ref p]) (EP X pins σ Q) X.xe s := fun its h1 h2 =>
    call_setT (I.ok.hd hc) h1 h2 (by unfold scanBound; omega) fun h' tk R k => ⟨.ref _, _, I.laid (t' := tk) k (Nat.le_refl _) (setTO_new R), rfl, q _ (I.hok.fresh (Nat.le_refl _))⟩
  rcases hq with hq | hq
  · obtain ⟨its, r, pl, hz⟩ := I.list hq
    exact fin _ (.inl pl.isList) (by simpa using strsAre_of r)
  · obtain ⟨its, r, pl, hz⟩ := I.tuple hq
    exact fin _ (.inr pl) (by simpa using strsAre_of r)
theorem cr_lenT (hc : X.calm = true) : CallR X (.builtin "len") (fun vs H Q => ∃ (a : Addr) (l : List Str), vs = [.ref a] ∧ H a = some (SetTO X.prog X.w a l) ∧ l.length ≤ 1000 ∧ Q (.int (l.length : Nat)) H) := by
  intro pins s σ H xs us Q I r h
  obtain ⟨a, l, rfl, ha, hl, q⟩ := h
  rw [Vals.ref1 r]
  obtain ⟨⟨es, ep, t⟩, ho, F, _⟩ := (I.hok a _ ha).1
  have hs : es.size = l.length := F.sz
  refine call_len_set ho ⟨rfl, rfl, rfl⟩ rfl F.fit (by dsimp only; rw [hs]; omega) ⟨.int (l.length : Nat), H, I.tok _, ⟨_, by dsimp only; rw [hs]⟩, q⟩
theorem cr_sortT (hc : X.calm = true) : CallR X (.builtin "sorted") (fun vs H Q => ∃ (a : Addr) (l : List Str), vs = [.ref a] ∧ H a = some (SetTO X.prog X.w a l) ∧ l.length < 64 ∧ ∀ p, H p = none → Q (.ref p) (upd H p (.lst ((sortS l).map V.str)))) := by
  intro pins s σ H xs us Q I r h
  obtain ⟨a, l, rfl, ha, h64, q⟩ := h
  rw [Vals.ref1 r]
  obtain ⟨⟨es, ep, t⟩, ho, F, nd, ri, ld⟩ := (I.hok a _ ha).1
  have hsz : es.size = l.length := F.sz
  refine Calls.call_function_entry PyProof.Rows.kind_sorted PyProof.Rows.plain_sorted PyProof.Rows.entry_sorted (PyProof.Rows.args_sorted1 _) ?_
  unfold Builtin.«sorted»
  refine wpAny_bind (m := checkCount "sorted" 1 1 _) (wpAny_pure ?_)
  refine wpAny_bind (collect_set (A := X.A.in1) (I.ok.hd hc) ⟨_, ho, rfl, rfl⟩ F.fit (by show es.size < 4096; omega) ri ld fun s1 vs k1 hz g1 o1 pm => ?_)
  have isS : ∀ v ∈ vs, ∃ k t, v = Value.str k t := fun v hv => by
    obtain ⟨e, he, rfl⟩ := List.mem_map.mp (pm.mem_iff.mp hv)
    obtain ⟨⟨k, hk, _⟩, _⟩ := F.el e he
    obtain ⟨t, e⟩ := Value.isStrOf_shape (x := k) hk
    exact ⟨k, t, e⟩
  have hS := strs_txt vs isS
  have hvl : vs.length = l.length := by rw [pm.length_eq, List.length_map, Array.length_toList]; exact hsz
  have pl : l.Perm (vs.map txt) := perm_of_sub nd (fun x hx => by
    obtain ⟨e, he, hk⟩ := (F.mem x).mp hx
    obtain ⟨t, ev⟩ := Value.isStrOf_shape (x := x) hk
    exact List.mem_map.mpr ⟨e.2, pm.mem_iff.mpr (List.mem_map.mpr ⟨e, he, rfl⟩), by rw [ev]; rfl⟩) (by rw [List.length_map, hvl]; exact Nat.le_refl _)
  have es : s1 = { s with heap := s1.heap, gens := s1.gens, drawn := s1.drawn, toks := s1.toks } := by
    cases s1; cases s; cases o1; rfl
  refine wpAny_bind (wpAny_newList ?_ (by rw [hvl, sizeLine_eq]; omega))
  have hoL : (s1.heap.push (seqObj "list" vs.toArray 0)).get? s1.heap.objs.size = some (seqObj "list" vs.toArray 0) := Heap.get?_push_size _ rfl
  refine wpAny_bind (wpAny_holding (wpAny_call_entry PyProof.Rows.slot_list_sort ⟨_, hoL, rfl⟩ PyProof.Rows.entry_list_sort
    (list_sort_treeK strKind_oneLt (s := { s1 with heap := s1.heap.push (seqObj "list" vs.toArray 0) }) hoL hS.keysOf (fun v₁ v₂ rest e => keyKind_strs (by rw [← e]; exact hS)) (by rw [hvl]; exact h64) fun st' hp hs => ⟨_, rfl, ?_⟩)
    (PyProof.Rows.args_list_sort _)))
  obtain ⟨ys, g1', g2, g3⟩ := sorted_out_str hS hp hs
  obtain ⟨e', he'⟩ := PyProof.Rows.sortedHeap_at (vs := vs) (out := (arrOf st').map (·.2)) hoL
  have ey : ys = sortS l := sortS_uniq (g2.trans pl.symm) g3
  subst ey
  have hlen : ((sortS l).map V.str).length ≤ sizeLine := by
    rw [List.length_map, (sortS_perm l).length_eq, sizeLine_eq]; omega
  have hn : H s1.heap.objs.size = none := I.hok.fresh hz
  have kk : ∀ b o, s.heap.get? b = some o → (PyProof.Rows.sortedHeap (s1.heap.push (seqObj "list" vs.toArray 0)) s1.heap.objs.size vs ((arrOf st').map (·.2))).get? b = some o := fun b o e => by
    have hb : b < s1.heap.objs.size := Heap.lt_size (k1 b o e)
    rw [PyProof.Rows.sortedHeap_old (Nat.ne_of_lt hb) (by rw [size_push']; exact Nat.lt_succ_of_lt hb)]
    exact Heap.get?_push_of_some _ (k1 b o e)
  have J : Inv X pins σ (upd H s1.heap.objs.size (.lst ((sortS l).map V.str))) { s with heap := PyProof.Rows.sortedHeap (s1.heap.push (seqObj "list" vs.toArray 0)) s1.heap.objs.size vs ((arrOf st').map (·.2)), gens := s1.gens, drawn := s1.drawn, toks := s1.toks } :=
    I.call (ch := []) (Un.laid kk hz hn) (I.hok.laid kk hz ⟨hlen, ((arrOf st').map (·.2)).toList, e', vals_of_strs g1', by rw [Array.toArray_toList]; exact he'⟩) (by rw [g1]; exact I.bare) (fun _ z => nomatch z)
  refine wpAny_pure ⟨_, rfl, .ref s1.heap.objs.size, _, ?_, rfl, q _ hn⟩
  rw [es]
  exact J
/-! ### sorted(set(e)), len(set(e)) -/
def sortSetN : D → Option (List D)
  | .list ds => bnd (allStr ds) fun ks => if ks.length < 64 then some ((sortS (onceS ks)).map .str) else none
  | .tuple ds => bnd (allStr ds) fun ks => if ks.length < 64 then some ((sortS (onceS ks)).map .str) else none
  | _ => none
def lenSetD : D → Option D
  | .list ds => bnd (allStr ds) fun ks => if ks.length < 64 then some (.int ((onceS ks).length : Nat)) else none
  | .tuple ds => bnd (allStr ds) fun ks => if ks.length < 64 then some (.int ((onceS ks).length : Nat)) else none
  | _ => none
theorem once_le (ks : List Str) : ∀ l : List Str, (ks.foldl addL l).length ≤ l.length + ks.length := by
  induction ks with
  | nil => intro l; simp
  | cons k ks ih =>
    intro l
    rw [List.foldl_cons, List.length_cons]
    have := ih (addL l k)
    have := addL_len l k
    omega
theorem once_len (ks : List Str) : (onceS ks).length ≤ ks.length := by
  have := once_le ks []
  rw [List.length_nil] at this
  unfold onceS; omega
variable {ρ : Rho} {e1 : Expr} {f : Option D} {p p2 pos pos2 : Pos}
/-- texts in a list or tuple -/
def Txts (x : D) (ks : List Str) : Prop := x = .list (ks.map .str) ∨ x = .tuple (ks.map .str)
theorem rp_strsV {K : PySem.W.Frag} {H : Hp} : ∀ {ks : List Str} {xs : List V}, RpAll K H xs (ks.map .str) → xs = ks.map V.str
  | [], _, r => by cases r; rfl
  | b :: bs, _, r => by
    cases r with
    | cons h t => rw [(Rq.of h).str, rp_strsV t]; rfl
theorem Txts.sq {K : PySem.W.Frag} {H : Hp} {v : V} {x : D} {ks : List Str} (h : Txts x ks) (r : Rq K H v x) : ∃ p, v = .ref p ∧ (SqL K H p (ks.map V.str) ∨ SqT K H p (ks.map V.str)) := by
  rcases h with rfl | rfl
  · obtain ⟨a, xs, rfl, hs, hr⟩ := r.lst
    rw [rp_strsV hr] at hs
    exact ⟨a, rfl, .inl hs⟩
  · obtain ⟨a, xs, rfl, hs, hr⟩ := r.tup
    rw [rp_strsV hr] at hs
    exact ⟨a, rfl, .inr hs⟩
theorem pe_setT {es : TA} (hc : X.calm = true) (hm : Nb X.mg "set" (.type "set")) (hg : Gl X (Str.ofString "set")) (s1 : starEach [e1] X.env = (false, eval e1 X.env) :: starEach [] X.env) (hpl : (backTo pos (starEach [] X.env)).any (·.1) = false) (ha : PA X [e1] es) : PE X (.Call (.Name (Str.ofString "set") p) [e1] [] pos) (fun σ H Q => es σ H fun vs H1 => (∃ (p : Addr) (ks : List Str), vs = [.ref p] ∧ (SqL X.K H1 p (ks.map V.str) ∨ SqT X.K H1 p (ks.map V.str)) ∧ ks.length ≤ 1000 ∧ ∀ q, H1 q = none → Q (.ref q) (upd H1 q (SetTO X.prog X.w q (onceS ks))))) :=
  pe_callTy (cr_setT hc) hg hm.h hm.v ha hm.n hm.d s1 hpl
end
end DL


namespace DL
open PySem PySem.Spec PyProof.Rows L2
section
variable {X : Cx} {ρ : Rho} {e1 : Expr} {f : Option D} {p p2 pos pos2 : Pos}
theorem allStr_txts {ds : List D} {ks : List Str} (h : allStr ds = some ks) : ds = ks.map .str := allStr_inv h
theorem sortSet_inv {x : D} {d : List D} (h : sortSetN x = some d) : ∃ ks, Txts x ks ∧ ks.length < 64 ∧ d = (sortS (onceS ks)).map .str := by
  unfold sortSetN at h
  split at h
  · obtain ⟨ks, h1, h2⟩ := bnd_inv h
    split at h2
    · cases h2; exact ⟨ks, .inl (by rw [allStr_txts h1]), by assumption, rfl⟩
    · cases h2
  · obtain ⟨ks, h1, h2⟩ := bnd_inv h
    split at h2
    · cases h2; exact ⟨ks, .inr (by rw [allStr_txts h1]), by assumption, rfl⟩
    · cases h2
  · cases h
theorem lenSet_inv {x d : D} (h : lenSetD x = some d) : ∃ ks, Txts x ks ∧ ks.length < 64 ∧ d = .int ((onceS ks).length : Nat) := by
  unfold lenSetD at h
  split at h
  · obtain ⟨ks, h1, h2⟩ := bnd_inv h
    split at h2
    · cases h2; exact ⟨ks, .inl (by rw [allStr_txts h1]), by assumption, rfl⟩
    · cases h2
  · obtain ⟨ks, h1, h2⟩ := bnd_inv h
    split at h2
    · cases h2; exact ⟨ks, .inr (by rw [allStr_txts h1]), by assumption, rfl⟩
    · cases h2
  · cases h
theorem en_sortset (hs : Nb X.mg "sorted" (.builtin "sorted")) (ht : Nb X.mg "set" (.type "set")) (h1 : Eu X e1 ρ f) (hc : X.calm = true := by rfl) (gs : Gl X (Str.ofString "sorted") := by rfl) (gt : Gl X (Str.ofString "set") := by rfl) (s1 : starEach [e1] X.env = (false, eval e1 X.env) :: starEach [] X.env := by rfl) (hpl : (backTo pos (starEach [] X.env)).any (·.1) = false := by rfl)
    (s2 : starEach [.Call (.Name (Str.ofString "set") p) [e1] [] pos] X.env = (false, eval (.Call (.Name (Str.ofString "set") p) [e1] [] pos) X.env) :: starEach [] X.env := by rfl) (hp2 : (backTo pos2 (starEach [] X.env)).any (·.1) = false := by rfl) :
    En X (.Call (.Name (Str.ofString "sorted") p2) [.Call (.Name (Str.ofString "set") p) [e1] [] pos] [] pos2) ρ (op1 sortSetN f) := fun d q => by
  obtain ⟨x, q1, q2⟩ := bnd_inv q
  obtain ⟨ks, tx, hl, rfl⟩ := sortSet_inv q2
  intro σ H Q S q
  refine ⟨_, pe_callB (cr_sortT hc) gs hs.h hs.v (pa_cons (pe_setT hc ht gt s1 hpl (pa_cons pe_c pa_nil s1)) pa_nil s2) hs.n hs.d s2 hp2, ?_⟩
  refine h1 x q1 σ H _ S fun v H1 ⟨sm, r⟩ => ?_
  obtain ⟨a, rfl, sq⟩ := tx.sq r
  refine ⟨a, ks, rfl, sq, by omega, fun b hb => ?_⟩
  refine ⟨b, onceS ks, rfl, upd_same, by have := once_len ks; omega, fun c hc => ?_⟩
  refine q _ _ ⟨sm.trans ((same_new hb).trans (same_new hc)), c, _, rfl, ?_, upd_same, rp_strs _⟩
  cases e : H c with
  | none => rfl
  | some o =>
    have := (sm.trans (same_new (o := SetTO X.prog X.w b (onceS ks)) hb)) c o e
    rw [hc] at this; cases this
theorem eo_lenset (hs : Nb X.mg "len" (.builtin "len")) (ht : Nb X.mg "set" (.type "set")) (h1 : Eu X e1 ρ f) (hc : X.calm = true := by rfl) (gs : Gl X (Str.ofString "len") := by rfl) (gt : Gl X (Str.ofString "set") := by rfl) (s1 : starEach [e1] X.env = (false, eval e1 X.env) :: starEach [] X.env := by rfl) (hpl : (backTo pos (starEach [] X.env)).any (·.1) = false := by rfl)
    (s2 : starEach [.Call (.Name (Str.ofString "set") p) [e1] [] pos] X.env = (false, eval (.Call (.Name (Str.ofString "set") p) [e1] [] pos) X.env) :: starEach [] X.env := by rfl) (hp2 : (backTo pos2 (starEach [] X.env)).any (·.1) = false := by rfl) :
    Eo X (.Call (.Name (Str.ofString "len") p2) [.Call (.Name (Str.ofString "set") p) [e1] [] pos] [] pos2) ρ (op1 lenSetD f) := fun d q => by
  obtain ⟨x, q1, q2⟩ := bnd_inv q
  obtain ⟨ks, tx, hl, rfl⟩ := lenSet_inv q2
  intro σ H Q S q
  refine ⟨_, pe_callB (cr_lenT hc) gs hs.h hs.v (pa_cons (pe_setT hc ht gt s1 hpl (pa_cons pe_c pa_nil s1)) pa_nil s2) hs.n hs.d s2 hp2, ?_⟩
  refine h1 x q1 σ H _ S fun v H1 ⟨sm, r⟩ => ?_
  obtain ⟨a, rfl, sq⟩ := tx.sq r
  refine ⟨a, ks, rfl, sq, by omega, fun b hb => ?_⟩
  refine ⟨b, onceS ks, rfl, upd_same, by have := once_len ks; omega, ?_⟩
  exact q _ _ ⟨sm.trans (same_new hb), .int _⟩
end
end DL


/-! list.count, list.index of texts. -/
namespace DL
open PySem PySem.Spec PyProof.Rows L2
def rCntS (K : PySem.W.Frag) : V → List V → Hp → VK → Prop := fun x xs H Q => ∃ (p : Addr) (l : List Str) (z : Str), x = .ref p ∧ xs = [.str z] ∧ SqL K H p (l.map V.str) ∧ Q (.int (l.count z : Nat)) H
theorem cnt_strs {z : Str} : ∀ {l : List Str} {us : List Value}, Vals (l.map V.str) us → us.countP (eqU (.str z)) = l.count z
  | [], _, h => by cases h; rfl
  | a :: l, _, h => by
    cases h with
    | cons r t =>
      obtain ⟨tk, rfl⟩ := r
      rw [List.countP_cons, List.count_cons, cnt_strs t]
      rfl
theorem mt_lcountS {X : Cx} : MtR X "list.count" (rCntS X.K) := by
  intro pins s σ H x xs v us Q I rx rxs h
  obtain ⟨p, l, z, rfl, rfl, hs, q⟩ := h
  cases rx
  obtain ⟨u, rfl, ru⟩ := rxs.one
  obtain ⟨t, rfl⟩ := ru
  obtain ⟨its, rv, ⟨⟨cls, dd, data, sl⟩, n, ho, hc, hdn, hd⟩, hlen⟩ := I.list hs
  simp only at hc hd
  subst hc hd
  refine call_meets PySem.F.slot_list_count ⟨_, ho, rfl⟩ PySem.F.entry_list_count (PySem.F.args_list_count_2 _ _)
    (SeqAt.list_countAt p its.toArray n dd sl (.str z t) (eqU (.str z))) ⟨ho, fun y hy => mem_eqAt (x := .str z) ⟨t, rfl⟩ rfl rv (flat_strs l) y (by simpa using hy), ?_⟩
  have ec : its.toArray.toList.countP (eqU (.str z)) = l.count z := cnt_strs rv
  refine ⟨.int (l.count z : Nat), H, I.tok _, ⟨s.toks, ?_⟩, q⟩
  show Value.int ((its.toArray.toList.countP (eqU (.str z)) : Nat) : Int) s.toks = Value.int ((l.count z : Nat) : Int) s.toks
  rw [ec]
def cntD : D → D → Option D
  | .list ds, .str x => bnd (allStr ds) fun l => some (.int (l.count x : Nat))
  | _, _ => none
def idxLD : D → D → Option D
  | .list ds, .str x => bnd (allStr ds) fun l => bnd (idxL l x) fun j => some (.int (j : Nat))
  | _, _ => none
section
variable {X : Cx} {ρ : Rho} {e a b c : Expr} {f g h : Option D}
theorem eo_cntL {apos cpos : Pos} (ha : Eu X a ρ f) (hb : Eo X b ρ g) (hbase : attributeBase a "count" X.env (eval a X.env) = eval a X.env := by rfl)
    (hfew : ((backTo cpos (starEach [b] X.env)).all (fun x => !x.1) && (backToKw cpos (keywordEach [] X.env)).all (fun x => x.1.isSome)
      && decide ([b].length + ([] : List Keyword).length + (if ([] : List Keyword).isEmpty then 0 else 1) < 30)) = true := by rfl)
    (hline : (apos.endLine == cpos.line) = true := by rfl) (hs : starEach [b] X.env = (false, eval b X.env) :: starEach [] X.env := by rfl) (hplain : (backTo cpos (starEach [] X.env)).any (·.1) = false := by rfl) : Eo X (.Call (.Attribute a "count" apos) [b] [] cpos) ρ (op2 cntD f g) := fun d q => by
  obtain ⟨x, y, q1, q2, q3⟩ := op2_inv q
  unfold cntD at q3
  split at q3
  · rename_i ds z
    obtain ⟨l, q4, q5⟩ := bnd_inv q3
    cases q5
    have el := allStr_inv q4
    subst el
    intro σ H Q S q
    refine ⟨_, pe_bm PySem.F.plainAttrs_list PySem.F.slot_list_count PySem.F.type_list_count mt_lcountS pe_c (pa_cons pe_c pa_nil hs) hbase hfew hline hs hplain, ha _ q1 σ H _ S fun u H1 ⟨s1, r1⟩ => ?_⟩
    obtain ⟨p, xs, rfl, hq, hr⟩ := r1.lst
    have ex := rp_strs' hr
    subst ex
    refine ⟨.inl ⟨rfl, _, hq⟩, hb _ q2 σ H1 _ (S.mono s1) fun v H2 ⟨s2, r2⟩ => ?_⟩
    have ev := (Rq.of r2).str
    subst ev
    exact ⟨p, l, z, rfl, rfl, s2.seq hq, q _ H2 ⟨s1.trans s2, .int _⟩⟩
  · cases q3
theorem eo_idxL {apos cpos : Pos} (ha : Eu X a ρ f) (hb : Eo X b ρ g) (hbase : attributeBase a "index" X.env (eval a X.env) = eval a X.env := by rfl)
    (hfew : ((backTo cpos (starEach [b] X.env)).all (fun x => !x.1) && (backToKw cpos (keywordEach [] X.env)).all (fun x => x.1.isSome)
      && decide ([b].length + ([] : List Keyword).length + (if ([] : List Keyword).isEmpty then 0 else 1) < 30)) = true := by rfl)
    (hline : (apos.endLine == cpos.line) = true := by rfl) (hs : starEach [b] X.env = (false, eval b X.env) :: starEach [] X.env := by rfl) (hplain : (backTo cpos (starEach [] X.env)).any (·.1) = false := by rfl) : Eo X (.Call (.Attribute a "index" apos) [b] [] cpos) ρ (op2 idxLD f g) := fun d q => by
  obtain ⟨x, y, q1, q2, q3⟩ := op2_inv q
  unfold idxLD at q3
  split at q3
  · rename_i ds z
    obtain ⟨l, q4, q5⟩ := bnd_inv q3
    obtain ⟨j, q6, q7⟩ := bnd_inv q5
    cases q7
    unfold idxL at q6
    split at q6
    · rename_i hm
      cases q6
      have el := allStr_inv q4
      subst el
      intro σ H Q S q
      refine ⟨_, pe_bm PySem.F.plainAttrs_list PySem.F.slot_list_index PySem.F.type_list_index mt_index pe_c (pa_cons pe_c pa_nil hs) hbase hfew hline hs hplain, ha _ q1 σ H _ S fun u H1 ⟨s1, r1⟩ => ?_⟩
      obtain ⟨p, xs, rfl, hq, hr⟩ := r1.lst
      have ex := rp_strs' hr
      subst ex
      refine ⟨.inl ⟨rfl, _, hq⟩, hb _ q2 σ H1 _ (S.mono s1) fun v H2 ⟨s2, r2⟩ => ?_⟩
      have ev := (Rq.of r2).str
      subst ev
      have hlt := List.idxOf_lt_length_of_mem hm
      refine ⟨p, l.map V.str, .str z, l.idxOf z, .str z, rfl, rfl, s2.seq hq, rfl, flat_strs l, ?_, ?_, fun m z' hm' e => ?_, q _ H2 ⟨s1.trans s2, .int _⟩⟩
      · rw [List.getElem?_map, List.getElem?_eq_getElem hlt]
        simp
      · show (z == z) = true
        simp
      · have hml : m < l.length := Nat.lt_trans hm' hlt
        rw [List.getElem?_map, List.getElem?_eq_getElem hml] at e
        cases e
        have h9 := List.not_of_lt_findIdx (p := (· == z)) (xs := l) (i := m) hm'
        show (l[m] == z) = false
        simpa using h9
    · cases q6
  · cases q3
end
end DL


namespace DL
open PySem PySem.Spec PyProof.Rows L2
/-! the reckoning of the program's defs and of the laws' helpers -/
def m__law_cell_at (a_script a_k : D) : Option D :=
  (iteT (op2 ltB (some a_k) (op1 lenD (some a_script)))
  (bnd (op2 ixD (some a_script) (some a_k)) fun d => some d)
  (bnd (some (.int 0)) fun d => some d))
def m__law_mixed (a_script a_k : D) : Option D :=
  (bnd (op2 modD (op2 mulD (op2 addD (op2 addD (op2 m__law_cell_at (some a_script) (some a_k)) (op2 mulD (some (.int 7919)) (some a_k))) (some (.int 1))) (some (.int 48271))) (some (.int 2147483647))) fun x_drawn1 =>
  (bnd (op2 modD (op2 addD (op2 addD (op2 mulD (some x_drawn1) (some x_drawn1)) (op2 mulD (some (.int 7)) (some x_drawn1))) (some a_k)) (some (.int 2147483629))) fun d => some d))
def m__law_drawn (a_number a_k : D) : Option D :=
  (bnd (op2 modD (op2 mulD (op2 addD (op2 addD (some a_number) (op2 mulD (some (.int 104729)) (some a_k))) (some (.int 17))) (some (.int 69621))) (some (.int 2147483647))) fun x_drawn1 =>
  (bnd (op2 modD (op2 addD (op2 addD (op2 mulD (some x_drawn1) (some x_drawn1)) (op2 mulD (some (.int 3)) (some x_drawn1))) (some a_k)) (some (.int 2147483629))) fun d => some d))
def m__law_part (a_number a_name : D) : Option D :=
  (bnd (tupV (some [])) fun x_faces1 =>
  (bnd (tupV (some [])) fun x_wants2 =>
  (bnd (tupV (some [])) fun x_hooks3 =>
  (bnd (op1 enumI (tupV (arg1 (some (.str "f")) (arg1 (some (.str "g")) (arg1 (some (.str "h")) (some [])))))) fun l => bnd (forD (fun (s4 : D × D) x => bnd (dec2 x) fun v5 =>
    (bnd (op2 divD (op2 m__law_drawn (some a_number) (some v5.1)) (some (.int 4))) fun x_drawn6 =>
    (bnd (iteT (op2 eqB (op2 modD (some x_drawn6) (some (.int 3))) (some (.int 0)))
    (bnd (op2 addD (some s4.1) (tupV (arg1 (tupV (arg1 (some v5.2) (arg1 (op2 addD (some (.int 1)) (op2 modD (op2 divD (some x_drawn6) (some (.int 4))) (some (.int 4)))) (some [])))) (some [])))) fun x_faces8 =>
      (some (Nx.nx x_faces8)))
    (some (Nx.nx s4.1))) (jn fun (j7 : D) =>
    (iteT (op2 eqB (op2 modD (some x_drawn6) (some (.int 4))) (some (.int 1)))
    (bnd (op2 addD (some (.int 1)) (op2 modD (op2 divD (some x_drawn6) (some (.int 4))) (some (.int 3)))) fun x_low9 =>
      (bnd (tupV (arg1 (some v5.2) (arg1 (some x_low9) (arg1 (op2 minD (some (.int 9)) (op2 addD (some x_low9) (op2 modD (op2 divD (some x_drawn6) (some (.int 16))) (some (.int 4))))) (arg1 (boV (op2 gtB (op2 modD (op2 divD (some x_drawn6) (some (.int 64))) (some (.int 3))) (some (.int 0)))) (some [])))))) fun x_want10 =>
      (bnd (op2 addD (some s4.2) (tupV (arg1 (some x_want10) (some [])))) fun x_wants11 =>
      (some (Lp.go (j7, x_wants11))))))
    (some (Lp.go (j7, s4.2)))))))) l (x_faces1, x_wants2)) (jn fun (s4 : D × D) =>
  (bnd (op1 rangeI (op2 modD (some a_number) (some (.int 4)))) fun l => bnd (forD (fun (s12 : D) x => bnd (dec1 x) fun v13 =>
    (bnd (op2 divD (op2 m__law_drawn (some a_number) (op2 addD (some (.int 10)) (some v13))) (some (.int 4))) fun x_drawn14 =>
    (bnd (tupV (arg1 (some (.str "plus")) (arg1 (some (.str "times")) (arg1 (some (.str "set")) (arg1 (some (.str "stop")) (arg1 (some (.str "fail")) (arg1 (some (.str "plus")) (some [])))))))) fun x_words15 =>
    (bnd (op2 ixD (some x_words15) (op2 modD (some x_drawn14) (some (.int 6)))) fun x_word16 =>
    (bnd (op2 addD (tupV (arg1 (some x_word16) (some []))) (op2 mulD (tupV (arg1 (op2 modD (op2 divD (some x_drawn14) (some (.int 8))) (op2 ixD (tupV (arg1 (some (.int 1000)) (arg1 (some (.int 5)) (some [])))) (op2 modD (op2 divD (some x_drawn14) (some (.int 8192))) (some (.int 2))))) (some []))) (op1 intD (boV (op2 neB (some x_word16) (some (.str "stop"))))))) fun x_deed17 =>
    (bnd (op2 ixD (tupV (arg1 (some (.str "go")) (arg1 (some (.str "end")) (some [])))) (op2 modD (op2 divD (some x_drawn14) (some (.int 16384))) (some (.int 2)))) fun x_hook18 =>
    (bnd (op2 addD (some s12) (tupV (arg1 (tupV (arg1 (some x_hook18) (arg1 (op2 ixD (tupV (arg1 (some (.int 0)) (arg1 (op1 negD (some (.int 1))) (arg1 (some (.int 5)) (arg1 (op1 negD (some (.int 9))) (some [])))))) (op2 modD (op2 divD (some x_drawn14) (some (.int 32768))) (some (.int 4)))) (arg1 (some x_deed17) (some []))))) (some [])))) fun x_hooks19 =>
    (some (Lp.go x_hooks19))))))))) l x_hooks3) (jn fun (s12 : D) =>
  (bnd (tupV (arg1 (some a_name) (arg1 (op2 addD (some (.int 1)) (op2 modD (op2 divD (some a_number) (some (.int 4))) (some (.int 4)))) (arg1 (some s4.1) (arg1 (op3s cutF (some s4.2) (slP (op2 modD (op2 divD (some a_number) (some (.int 64))) (some (.int 2)))) (some none)) (arg1 (some s12) (some []))))))) fun d => some d))))))))
def m__law_house (a_number : D) : Option D :=
  (bnd (tupV (some [])) fun x_found1 =>
  (bnd (op1 enumI (tupV (arg1 (some (.str "a")) (arg1 (some (.str "b")) (arg1 (some (.str "c")) (arg1 (some (.str "d")) (arg1 (some (.str "e")) (arg1 (some (.str "log")) (some []))))))))) fun l => bnd (forD (fun (s2 : D) x => bnd (dec2 x) fun v3 =>
    (bnd (op2 divD (op2 m__law_drawn (some a_number) (op2 addD (some (.int 20)) (some v3.1))) (some (.int 4))) fun x_drawn4 =>
    (iteT (op2 gtB (op2 modD (some x_drawn4) (some (.int 8))) (op2 modD (some a_number) (some (.int 4))))
    (bnd (op2 addD (some s2) (tupV (arg1 (op2 m__law_part (op2 divD (some x_drawn4) (some (.int 8))) (some v3.2)) (some [])))) fun x_found5 =>
      (some (Lp.go x_found5)))
    (some (Lp.go s2))))) l x_found1) (jn fun (s2 : D) =>
  (bnd (some s2) fun d => some d))))
def m__law_edges (a_number : D) : Option D :=
  (bnd (op3s cutF (some (.str "abcdefg")) (some none) (slP (op2 addD (some (.int 4)) (op2 modD (some a_number) (some (.int 3)))))) fun x_long1 =>
  (bnd (op1 tupD (lsV (lcD (op1 rangeI (op2 addD (some (.int 2)) (op2 modD (op2 divD (some a_number) (some (.int 16))) (some (.int 3))))) fun x => bnd (dec1 x) fun v3 => keepE (some true) (tupV (arg1 (op2 ixD (some (.str "fghij")) (some v3)) (arg1 (op2 addD (some (.int 8)) (op2 modD (op2 divD (some a_number) (some (.int 4))) (some (.int 3)))) (some []))))))) fun x_faces2 =>
  (bnd (op1 tupD (lsV (lcD (op1 rangeI (op2 addD (some (.int 2)) (op2 modD (op2 divD (some a_number) (some (.int 64))) (some (.int 3))))) fun x => bnd (dec1 x) fun v5 => keepE (some true) (tupV (arg1 (op2 ixD (some (.str "fghij")) (some v5)) (arg1 (some (.int 1)) (arg1 (some (.int 9)) (arg1 (boV (op2 eqB (some v5) (some (.int 1)))) (some []))))))))) fun x_wants4 =>
  (bnd (op2 mulD (tupV (arg1 (tupV (arg1 (some x_long1) (arg1 (some (.int 9)) (arg1 (tupV (arg1 (some (.str "plus")) (arg1 (op2 addD (some (.int 998)) (op2 modD (op2 divD (some a_number) (some (.int 256))) (some (.int 3)))) (some [])))) (some []))))) (some []))) (op2 addD (some (.int 2)) (op2 modD (op2 divD (some a_number) (some (.int 1024))) (some (.int 3))))) fun x_hooks6 =>
  (bnd (tupV (arg1 (some (.str "a")) (arg1 (some (.int 1)) (arg1 (tupV (some [])) (arg1 (tupV (some [])) (arg1 (tupV (some [])) (some []))))))) fun x_plain7 =>
  (bnd (tupV (arg1 (tupV (arg1 (some (.str "a")) (arg1 (some (.int 1)) (arg1 (some x_faces2) (arg1 (tupV (some [])) (arg1 (tupV (some [])) (some []))))))) (arg1 (tupV (arg1 (some (.str "a")) (arg1 (some (.int 9)) (arg1 (tupV (some [])) (arg1 (some x_wants4) (arg1 (tupV (some [])) (some []))))))) (arg1 (tupV (arg1 (some (.str "a")) (arg1 (some (.int 1)) (arg1 (tupV (some [])) (arg1 (tupV (some [])) (arg1 (some x_hooks6) (some []))))))) (arg1 (tupV (arg1 (some x_long1) (arg1 (some (.int 1)) (arg1 (tupV (some [])) (arg1 (tupV (some [])) (arg1 (tupV (some [])) (some []))))))) (some [])))))) fun x_found8 =>
  (bnd (op2 addD (some x_found8) (tupV (arg1 (tupV (arg1 (some x_plain7) (some []))) (arg1 (tupV (arg1 (tupV (arg1 (some x_long1) (arg1 (some (.int 1)) (arg1 (tupV (some [])) (arg1 (tupV (some [])) (arg1 (tupV (some [])) (some []))))))) (some []))) (some []))))) fun d => some d)))))))
def m_are_rising (a_some : D) : Option D :=
  (bnd (op1 allD (lsV (lcD (op2 zipI (op3s cutF (some a_some) (some none) (slP (op1 negD (some (.int 1))))) (op3s cutF (some a_some) (slP (some (.int 1))) (some none))) fun x => bnd (dec2 x) fun v1 => keepE (some true) (boV (op2 ltB (some v1.1) (some v1.2)))))) fun d => some d)
def m_part_rows (a_part : D) : Option D :=
  (bnd (some a_part) fun x => bnd (dec5 x) fun v1 =>
  (bnd (lstV (arg1 (lsV (lstV (arg1 (some (.str "part")) (arg1 (some v1.1) (arg1 (some v1.2.1) (some [])))))) (some []))) fun x_rows2 =>
  (bnd (bnd (lcD (op1 itD (some v1.2.2.1)) fun x => bnd (dec2 x) fun v4 => keepE (some true) (lsV (lstV (arg1 (some (.str "face")) (arg1 (some v4.1) (arg1 (some v4.2) (some []))))))) (exL x_rows2)) fun x_rows5 =>
  (bnd (bnd (lcD (op1 itD (some v1.2.2.2.1)) fun x => bnd (dec4 x) fun v7 => keepE (some true) (lsV (lstV (arg1 (op2 ixD (lsV (lstV (arg1 (some (.str "may")) (arg1 (some (.str "must")) (some []))))) (op1 intD (some v7.2.2.2))) (arg1 (some v7.1) (arg1 (some v7.2.1) (arg1 (some v7.2.2.1) (some [])))))))) (exL x_rows5)) fun x_rows8 =>
  (bnd (bnd (lcD (op1 itD (some v1.2.2.2.2)) fun x => bnd (dec3 x) fun v10 => keepE (some true) (op2 addD (lsV (lstV (arg1 (some (.str "hook")) (arg1 (some v10.1) (arg1 (some v10.2.1) (some [])))))) (lsV (op1 listN (some v10.2.2))))) (exL x_rows8)) fun x_rows11 =>
  (some (.list x_rows11)))))))
def m__law_give (a_part a_want : D) : Option D :=
  (bnd (boV (op2 neB (lsV (lcD (op1 itD (op2 ixD (some a_part) (some (.int 2)))) fun x => bnd (dec2 x) fun v1 => keepE (andT (op2 eqB (some v1.1) (op2 ixD (some a_want) (some (.int 0)))) (chT leB leB (op2 ixD (some a_want) (some (.int 1))) (some v1.2) (op2 ixD (some a_want) (some (.int 2))))) (some v1.2))) (lsV (lstV (some []))))) fun d => some d)
def m__law_stand (a_house : D) : Option D :=
  (bnd (lsV (op1 listN (some a_house))) fun x_parts1 =>
  (bnd (op1 rangeI (some (.int 7))) fun l => bnd (forD (fun (s2 : D) x => bnd (dec1 x) fun v3 =>
    (bnd (lstV (some [])) fun x_kept4 =>
    (bnd (op1 itD (some s2)) fun l => bnd (forD (fun (s5 : List D) x => bnd (dec1 x) fun v6 =>
      (bnd (some (.bool true)) fun x_good7 =>
      (bnd (op1 itD (op2 ixD (some v6) (some (.int 3)))) fun l => bnd (forD (fun (s8 : D) x => bnd (dec1 x) fun v9 =>
        (bnd (lsV (lcD (op1 itD (some s2)) fun x => bnd (dec1 x) fun v11 => keepE (andT (op2 neB (op2 ixD (some v11) (some (.int 0))) (op2 ixD (some v6) (some (.int 0)))) (tB (op2 m__law_give (some v11) (some v9)))) (some v11))) fun x_others10 =>
        (bnd (boV (andT (tB (some s8)) (orT (op2 neB (some x_others10) (lsV (lstV (some [])))) (notT (tB (op2 ixD (some v9) (some (.int 3)))))))) fun x_good12 =>
        (some (Lp.go x_good12))))) l x_good7) (jn fun (s8 : D) =>
      (iteT (tB (some s8))
      (bnd (op1 (apL s5) (some v6)) fun x_kept14 =>
        (some (Lp.go x_kept14)))
      (some (Lp.go s5))))))) l x_kept4) (jn fun (s5 : List D) =>
    (some (Lp.go (.list s5))))))) l x_parts1) (jn fun (s2 : D) =>
  (bnd (some s2) fun d => some d))))
def m_make_of (a_part a_face : D) : Option D :=
  (bnd (op3 getD3 (dcV (op1 dictN (op2 ixD (some a_part) (some (.int 2))))) (some a_face) (some (.int 0))) fun d => some d)
def m_gives (a_part a_want : D) : Option D :=
  (bnd (boV (chT leB leB (op2 ixD (some a_want) (some (.int 1))) (op2 m_make_of (some a_part) (op2 ixD (some a_want) (some (.int 0)))) (op2 ixD (some a_want) (some (.int 2))))) fun d => some d)
def m_givers_for (a_parts a_name a_want : D) : Option D :=
  (bnd (lsV (lcD (op1 itD (some a_parts)) fun x => bnd (dec1 x) fun v1 => keepE (andT (op2 neB (op2 ixD (some v1) (some (.int 0))) (some a_name)) (tB (op2 m_gives (some v1) (some a_want)))) (some v1))) fun d => some d)
def m_lacks (a_parts a_part : D) : Option D :=
  (bnd (lsV (lcD (op1 itD (op2 ixD (some a_part) (some (.int 3)))) fun x => bnd (dec1 x) fun v1 => keepE (andT (tB (op2 ixD (some v1) (some (.int 3)))) (op2 eqB (op1 lenD (op3 m_givers_for (some a_parts) (op2 ixD (some a_part) (some (.int 0))) (some v1))) (some (.int 0)))) (op2 ixD (some v1) (some (.int 0))))) fun d => some d)
def m_standing_parts (a_house : D) : Option D :=
  (bnd (lsV (op1 listN (some a_house))) fun x_parts1 =>
  (bnd (lsV (lcD (op1 itD (some x_parts1)) fun x => bnd (dec1 x) fun v3 => keepE (op2 eqB (op1 lenD (op2 m_lacks (some x_parts1) (some v3))) (some (.int 0))) (some v3))) fun x_left2 =>
  (bnd (whileD (fun (s4 : D × D) => (op2 ltB (op1 lenD (some s4.2)) (op1 lenD (some s4.1)))) (fun (s4 : D × D) =>
    (bnd (some s4.2) fun x_parts5 =>
    (bnd (lsV (lcD (op1 itD (some x_parts5)) fun x => bnd (dec1 x) fun v7 => keepE (op2 eqB (op1 lenD (op2 m_lacks (some x_parts5) (some v7))) (some (.int 0))) (some v7))) fun x_left6 =>
    (some (Lp.go (x_parts5, x_left6)))))) 4096 (x_parts1, x_left2)) (jn fun (s4 : D × D) =>
  (bnd (some s4.1) fun d => some d)))))
def m_standing (a_house : D) : Option D :=
  (bnd (op1 tupD (lsV (lcD (op1 itD (op1 m_standing_parts (some a_house))) fun x => bnd (dec1 x) fun v1 => keepE (some true) (op2 ixD (some v1) (some (.int 0)))))) fun d => some d)
def m_lacking (a_house : D) : Option D :=
  (bnd (op1 m_standing_parts (some a_house)) fun x_parts1 =>
  (bnd (lstV (some [])) fun x_found2 =>
  (bnd (op1 itD (some a_house)) fun l => bnd (forD (fun (s3 : List D) x => bnd (dec1 x) fun v4 =>
    (iteT (op2 ninB (some v4) (some x_parts1))
    (bnd (bnd (lcD (op1 itD (op2 m_lacks (some x_parts1) (some v4))) fun x => bnd (dec1 x) fun v6 => keepE (some true) (tupV (arg1 (op2 ixD (some v4) (some (.int 0))) (arg1 (some v6) (some []))))) (exL s3)) fun x_found7 =>
      (some (Lp.go x_found7)))
    (some (Lp.go s3)))) l x_found2) (jn fun (s3 : List D) =>
  (bnd (op1 tupD (lsV (op1 sortN (some (.list s3))))) fun d => some d)))))
def m__law_giver (a_parts a_name a_want : D) : Option D :=
  (bnd (lsV (lcD (op1 itD (some a_parts)) fun x => bnd (dec1 x) fun v2 => keepE (andT (op2 neB (op2 ixD (some v2) (some (.int 0))) (some a_name)) (tB (op2 m__law_give (some v2) (some a_want)))) (tupV (arg1 (op2 subD (some (.int 0)) (op2 ixD (dcV (op1 dictN (op2 ixD (some v2) (some (.int 2))))) (op2 ixD (some a_want) (some (.int 0))))) (arg1 (op2 ixD (some v2) (some (.int 0))) (some [])))))) fun x_some1 =>
  (bnd (op2 ixD (op2 ixD (op2 addD (lsV (op1 sortN (some x_some1))) (lsV (lstV (arg1 (tupV (arg1 (some (.int 0)) (arg1 (some .none) (some [])))) (some []))))) (some (.int 0))) (some (.int 1))) fun d => some d))
def m_giver_among (a_parts a_name a_want : D) : Option D :=
  (bnd (some .none) fun x_best1 =>
  (bnd (op1 itD (op3 m_givers_for (some a_parts) (some a_name) (some a_want))) fun l => bnd (forD (fun (s2 : D) x => bnd (dec1 x) fun v3 =>
    (iteT (orT (op1 isNB (some s2)) (op2 gtB (op2 m_make_of (some v3) (op2 ixD (some a_want) (some (.int 0)))) (op2 m_make_of (some s2) (op2 ixD (some a_want) (some (.int 0))))))
    (bnd (some v3) fun x_best4 =>
      (some (Lp.go x_best4)))
    (some (Lp.go s2)))) l x_best1) (jn fun (s2 : D) =>
  (iteT (op1 isNB (some s2))
  (bnd (some .none) fun d => some d)
  (bnd (op2 ixD (some s2) (some (.int 0))) fun d => some d)))))
def m_giver (a_house a_name a_face : D) : Option D :=
  (bnd (op2 ixD (lsV (lcD (op1 itD (some a_house)) fun x => bnd (dec1 x) fun v2 => keepE (op2 eqB (op2 ixD (some v2) (some (.int 0))) (some a_name)) (some v2))) (some (.int 0))) fun x_part1 =>
  (bnd (op2 ixD (lsV (lcD (op1 itD (op2 ixD (some x_part1) (some (.int 3)))) fun x => bnd (dec1 x) fun v4 => keepE (op2 eqB (op2 ixD (some v4) (some (.int 0))) (some a_face)) (some v4))) (some (.int 0))) fun x_want3 =>
  (bnd (op3 m_giver_among (op1 m_standing_parts (some a_house)) (some a_name) (some x_want3)) fun d => some d)))
def m__law_holds (a_parts : D) : Option D :=
  (bnd (op1 itD (some a_parts)) fun l => bnd (forD (fun (s1 : Unit) x => bnd (dec1 x) fun v2 =>
    (bnd (op1 itD (op2 ixD (some v2) (some (.int 3)))) fun l => bnd (forD (fun (s3 : Unit) x => bnd (dec1 x) fun v4 =>
      (bnd (lsV (lcD (op1 itD (some a_parts)) fun x => bnd (dec1 x) fun v6 => keepE (andT (op2 neB (op2 ixD (some v6) (some (.int 0))) (op2 ixD (some v2) (some (.int 0)))) (tB (op2 m__law_give (some v6) (some v4)))) (some v6))) fun x_some5 =>
      (iteT (andT (tB (op2 ixD (some v4) (some (.int 3)))) (op2 eqB (some x_some5) (lsV (lstV (some [])))))
      (bnd (some (.bool false)) fun d => some (Lp.out (Lp.out d)))
      (some (Lp.go ()))))) l ()) (jn fun (s3 : Unit) =>
    (some (Lp.go ()))))) l ()) (jn fun (s1 : Unit) =>
  (bnd (some (.bool true)) fun d => some d)))
def m__law_wants (a_part : D) : Option D :=
  (bnd (lsV (lcD (op1 itD (op2 ixD (some a_part) (some (.int 3)))) fun x => bnd (dec1 x) fun v1 => keepE (some true) (op2 ixD (some v1) (some (.int 0))))) fun d => some d)
def m_givers (a_house : D) : Option D :=
  (bnd (op1 m_standing_parts (some a_house)) fun x_parts1 =>
  (bnd (some []) fun x_found2 =>
  (bnd (op1 itD (some x_parts1)) fun l => bnd (forD (fun (s3 : List (D × D)) x => bnd (dec1 x) fun v4 =>
    (bnd (lsV (lcD (op1 itD (op2 ixD (some v4) (some (.int 3)))) fun x => bnd (dec1 x) fun v6 => keepE (some true) (op3 m_giver_among (some x_parts1) (op2 ixD (some v4) (some (.int 0))) (some v6)))) fun x_some5 =>
    (bnd (op2 (putN s3) (op2 ixD (some v4) (some (.int 0))) (lsV (lcD (op1 itD (some x_some5)) fun x => bnd (dec1 x) fun v7 => keepE (op1 isNNB (some v7)) (some v7)))) fun x_found8 =>
    (some (Lp.go x_found8))))) l x_found2) (jn fun (s3 : List (D × D)) =>
  (some (.dict s3))))))
def m_order (a_house : D) : Option D :=
  (bnd (op1 m_givers (some a_house)) fun x_book1 =>
  (bnd (lstV (some [])) fun x_found2 =>
  (bnd (op1 itD (lsV (op1 listN (some x_book1)))) fun l => bnd (forD (fun (s3 : List D) x => bnd (dec1 x) fun v4 =>
    (bnd (lsV (lcD (op1 itD (some x_book1)) fun x => bnd (dec1 x) fun v6 => keepE (andT (op2 ninB (some v6) (some (.list s3))) (tB (op1 allD (lsV (lcD (op1 itD (op2 ixD (some x_book1) (some v6))) fun x => bnd (dec1 x) fun v7 => keepE (some true) (boV (op2 inB (some v7) (some (.list s3))))))))) (some v6))) fun x_ready5 =>
    (iteT (op2 gtB (op1 lenD (some x_ready5)) (some (.int 0)))
    (bnd (op1 (apL s3) (op2 ixD (some x_ready5) (some (.int 0)))) fun x_found9 =>
      (some (Lp.go x_found9)))
    (some (Lp.go s3))))) l x_found2) (jn fun (s3 : List D) =>
  (bnd (op1 tupD (some (.list s3))) fun d => some d)))))
def m_stuck (a_house : D) : Option D :=
  (bnd (op1 m_order (some a_house)) fun x_begun1 =>
  (bnd (op1 tupD (lsV (lcD (op1 itD (op1 m_givers (some a_house))) fun x => bnd (dec1 x) fun v2 => keepE (op2 ninB (some v2) (some x_begun1)) (some v2)))) fun d => some d))
def m_leans (a_house a_name : D) : Option D :=
  (bnd (op1 m_givers (some a_house)) fun x_book1 =>
  (bnd (lstV (some [])) fun x_found2 =>
  (bnd (op1 listN (op2 ixD (some x_book1) (some a_name))) fun x_todo3 =>
  (bnd (whileD (fun (s4 : List D × List D) => (op2 gtB (op1 lenD (some (.list s4.2))) (some (.int 0)))) (fun (s4 : List D × List D) =>
    (bnd (popL s4.2) fun x_one5 =>
    (iteT (op2 ninB (some x_one5.2) (some (.list s4.1)))
    (bnd (op1 (apL s4.1) (some x_one5.2)) fun x_found7 =>
      (bnd (bnd (op1 itL (op2 ixD (some x_book1) (some x_one5.2))) (exL x_one5.1)) fun x_todo9 =>
      (some (Lp.go (x_found7, x_todo9)))))
    (some (Lp.go (s4.1, x_one5.1)))))) 4096 (x_found2, x_todo3)) (jn fun (s4 : List D × List D) =>
  (bnd (op1 tupD (lsV (op1 sortN (some (.list s4.1))))) fun d => some d))))))
def m_chain (a_house a_hook : D) : Option D :=
  (bnd (dcV (op1 dictN (lsV (lcD (op1 itD (some a_house)) fun x => bnd (dec1 x) fun v2 => keepE (some true) (tupV (arg1 (op2 ixD (some v2) (some (.int 0))) (arg1 (some v2) (some [])))))))) fun x_book1 =>
  (bnd (lstV (some [])) fun x_found3 =>
  (bnd (op1 enumI (op1 m_order (some a_house))) fun l => bnd (forD (fun (s4 : List D) x => bnd (dec2 x) fun v5 =>
    (bnd (op1 enumI (op2 ixD (op2 ixD (some x_book1) (some v5.2)) (some (.int 4)))) fun l => bnd (forD (fun (s6 : List D) x => bnd (dec2 x) fun v7 =>
      (iteT (op2 eqB (op2 ixD (some v7.2) (some (.int 0))) (some a_hook))
      (bnd (op1 (apL s6) (tupV (arg1 (op2 ixD (some v7.2) (some (.int 1))) (arg1 (some v5.1) (arg1 (some v7.1) (arg1 (some v5.2) (arg1 (op2 ixD (some v7.2) (some (.int 2))) (some [])))))))) fun x_found9 =>
        (some (Lp.go x_found9)))
      (some (Lp.go s6)))) l s4) (jn fun (s6 : List D) =>
    (some (Lp.go s6))))) l x_found3) (jn fun (s4 : List D) =>
  (bnd (op1 tupD (lsV (lcD (op1 itD (lsV (op1 sortN (some (.list s4))))) fun x => bnd (dec5 x) fun v11 => keepE (some true) (tupV (arg1 (some v11.2.2.2.1) (arg1 (some v11.1) (arg1 (some v11.2.2.2.2) (some [])))))))) fun d => some d)))))
def m_pulled (a_house a_hook a_worth : D) : Option D :=
  (bnd (op1 itD (op2 m_chain (some a_house) (some a_hook))) fun l => bnd (forD (fun (s1 : D) x => bnd (dec3 x) fun v2 =>
    (bnd (op2 ixD (some v2.2.2) (some (.int 0))) fun x_word3 =>
    (iteT (op2 eqB (some x_word3) (some (.str "stop")))
    (bnd (tupV (arg1 (some s1) (arg1 (some .none) (some [])))) fun d => some (Lp.out d))
    (iteT (andT (op2 eqB (some x_word3) (some (.str "fail"))) (op2 geB (some s1) (op2 ixD (some v2.2.2) (some (.int 1)))))
    (bnd (tupV (arg1 (some s1) (arg1 (some v2.1) (some [])))) fun d => some (Lp.out d))
    (iteT (op2 eqB (some x_word3) (some (.str "plus")))
    (bnd (op2 modD (op2 addD (some s1) (op2 ixD (some v2.2.2) (some (.int 1)))) (some (.int 1000))) fun x_worth4 =>
      (some (Lp.go x_worth4)))
    (iteT (op2 eqB (some x_word3) (some (.str "times")))
      (bnd (op2 modD (op2 mulD (some s1) (op2 ixD (some v2.2.2) (some (.int 1)))) (some (.int 1000))) fun x_worth5 =>
        (some (Lp.go x_worth5)))
      (iteT (op2 eqB (some x_word3) (some (.str "set")))
        (bnd (op2 ixD (some v2.2.2) (some (.int 1))) fun x_worth6 =>
          (some (Lp.go x_worth6)))
        (some (Lp.go s1))))))))) l a_worth) (jn fun (s1 : D) =>
  (bnd (tupV (arg1 (some s1) (arg1 (some .none) (some [])))) fun d => some d)))
def m_lost (a_house a_name : D) : Option D :=
  (bnd (op1 m_order (op1 tupD (lsV (lcD (op1 itD (some a_house)) fun x => bnd (dec1 x) fun v2 => keepE (op2 neB (op2 ixD (some v2) (some (.int 0))) (some a_name)) (some v2))))) fun x_left1 =>
  (bnd (op1 tupD (lsV (op1 sortN (lsV (lcD (op1 itD (op1 m_order (some a_house))) fun x => bnd (dec1 x) fun v3 => keepE (andT (op2 neB (some v3) (some a_name)) (op2 ninB (some v3) (some x_left1))) (some v3)))))) fun d => some d))
def m__law_givers (a_house : D) : Option D :=
  (bnd (op1 m__law_stand (some a_house)) fun x_parts1 =>
  (bnd (some []) fun x_found2 =>
  (bnd (op1 itD (some x_parts1)) fun l => bnd (forD (fun (s3 : List (D × D)) x => bnd (dec1 x) fun v4 =>
    (bnd (lsV (lcD (op1 itD (op2 ixD (some v4) (some (.int 3)))) fun x => bnd (dec1 x) fun v6 => keepE (some true) (op3 m__law_giver (some x_parts1) (op2 ixD (some v4) (some (.int 0))) (some v6)))) fun x_some5 =>
    (bnd (op2 (putN s3) (op2 ixD (some v4) (some (.int 0))) (lsV (lcD (op1 itD (some x_some5)) fun x => bnd (dec1 x) fun v7 => keepE (op1 isNNB (some v7)) (some v7)))) fun x_found8 =>
    (some (Lp.go x_found8))))) l x_found2) (jn fun (s3 : List (D × D)) =>
  (some (.dict s3))))))
def m__law_order (a_house : D) : Option D :=
  (bnd (op1 m__law_givers (some a_house)) fun x_book1 =>
  (bnd (lstV (some [])) fun x_found2 =>
  (bnd (lsV (op1 sortN (some x_book1))) fun x_left3 =>
  (bnd (whileD (fun (s4 : List D × D) => (op2 neB (some s4.2) (lsV (lstV (some []))))) (fun (s4 : List D × D) =>
    (bnd (lsV (lcD (op1 itD (some s4.2)) fun x => bnd (dec1 x) fun v6 => keepE (op2 eqB (lsV (lcD (op1 itD (op2 ixD (some x_book1) (some v6))) fun x => bnd (dec1 x) fun v7 => keepE (op2 ninB (some v7) (some (.list s4.1))) (some v7))) (lsV (lstV (some [])))) (some v6))) fun x_ready5 =>
    (iteT (op2 eqB (some x_ready5) (lsV (lstV (some []))))
    (some (Lp.brk (s4.1, s4.2)))
    (bnd (op1 (apL s4.1) (op2 ixD (some x_ready5) (some (.int 0)))) fun x_found9 =>
    (bnd (lsV (lcD (op1 itD (some s4.2)) fun x => bnd (dec1 x) fun v11 => keepE (op2 neB (some v11) (op2 ixD (some x_ready5) (some (.int 0)))) (some v11))) fun x_left10 =>
    (some (Lp.go (x_found9, x_left10)))))))) 4096 (x_found2, x_left3)) (jn fun (s4 : List D × D) =>
  (bnd (op1 tupD (some (.list s4.1))) fun d => some d))))))
def m_ring (a_house a_name : D) : Option D :=
  (bnd (op1 m_givers (some a_house)) fun x_book1 =>
  (bnd (op1 m_stuck (some a_house)) fun x_names2 =>
  (bnd (lstV (arg1 (some a_name) (some []))) fun x_way3 =>
  (bnd (whileD (fun (s4 : List D) => (op2 eqB (op2 cntD (some (.list s4)) (op2 ixD (some (.list s4)) (op1 negD (some (.int 1))))) (some (.int 1)))) (fun (s4 : List D) =>
    (bnd (op1 (apL s4) (op2 ixD (lsV (lcD (op1 itD (op2 ixD (some x_book1) (op2 ixD (some (.list s4)) (op1 negD (some (.int 1)))))) fun x => bnd (dec1 x) fun v6 => keepE (op2 inB (some v6) (some x_names2)) (some v6))) (some (.int 0)))) fun x_way7 =>
    (some (Lp.go x_way7)))) 4096 x_way3) (jn fun (s4 : List D) =>
  (bnd (op1 tupD (op3s cutF (some (.list s4)) (slP (op2 idxLD (some (.list s4)) (op2 ixD (some (.list s4)) (op1 negD (some (.int 1)))))) (slP (op1 negD (some (.int 1)))))) fun d => some d))))))
def m__law_chain (a_house a_hook : D) : Option D :=
  (bnd (lsV (lstV (some []))) fun x_found1 =>
  (bnd (op2 rangeI2 (op1 negD (some (.int 9))) (some (.int 10))) fun l => bnd (forD (fun (s2 : D) x => bnd (dec1 x) fun v3 =>
    (bnd (op1 itD (op1 m__law_order (some a_house))) fun l => bnd (forD (fun (s4 : D) x => bnd (dec1 x) fun v5 =>
      (bnd (op2 ixD (lsV (lcD (op1 itD (some a_house)) fun x => bnd (dec1 x) fun v7 => keepE (op2 eqB (op2 ixD (some v7) (some (.int 0))) (some v5)) (some v7))) (some (.int 0))) fun x_part6 =>
      (bnd (op2 addD (some s4) (lsV (lcD (op1 itD (op2 ixD (some x_part6) (some (.int 4)))) fun x => bnd (dec1 x) fun v9 => keepE (andT (op2 eqB (op2 ixD (some v9) (some (.int 0))) (some a_hook)) (op2 eqB (op2 ixD (some v9) (some (.int 1))) (some v3))) (tupV (arg1 (some v5) (arg1 (some v3) (arg1 (op2 ixD (some v9) (some (.int 2))) (some [])))))))) fun x_found8 =>
      (some (Lp.go x_found8))))) l s2) (jn fun (s4 : D) =>
    (some (Lp.go s4))))) l x_found1) (jn fun (s2 : D) =>
  (bnd (some s2) fun d => some d))))
def m__law_pulled (a_house a_hook a_worth : D) : Option D :=
  (bnd (op1 itD (op2 m__law_chain (some a_house) (some a_hook))) fun l => bnd (forD (fun (s1 : D) x => bnd (dec3 x) fun v2 =>
    (iteT (op2 eqB (op2 ixD (some v2.2.2) (some (.int 0))) (some (.str "stop")))
    (some (Lp.brk s1))
    (iteT (andT (op2 eqB (op2 ixD (some v2.2.2) (some (.int 0))) (some (.str "fail"))) (op2 geB (some s1) (op2 ixD (some v2.2.2) (some (.int 1)))))
    (bnd (tupV (arg1 (some s1) (arg1 (some v2.1) (some [])))) fun d => some (Lp.out d))
    (bnd (dcV (dspV (dp1 (some (.str "plus")) (op2 addD (some s1) (op2 ixD (some v2.2.2) (some (.int 1)))) (dp1 (some (.str "times")) (op2 mulD (some s1) (op2 ixD (some v2.2.2) (some (.int 1)))) (dp1 (some (.str "set")) (op2 ixD (some v2.2.2) (some (.int 1))) (dp1 (some (.str "fail")) (some s1) (some []))))))) fun x_some3 =>
    (bnd (op2 modD (op2 ixD (some x_some3) (op2 ixD (some v2.2.2) (some (.int 0)))) (some (.int 1000))) fun x_worth4 =>
    (some (Lp.go x_worth4))))))) l a_worth) (jn fun (s1 : D) =>
  (bnd (tupV (arg1 (some s1) (arg1 (some .none) (some [])))) fun d => some d)))
def m__law_less (a_house : D) : Option D :=
  (bnd (tupV (some [])) fun x_found1 =>
  (bnd (op1 itD (some a_house)) fun l => bnd (forD (fun (s2 : D) x => bnd (dec1 x) fun v3 =>
    (bnd (tupV (some [])) fun x_hooks4 =>
    (bnd (op1 itD (op2 ixD (some v3) (some (.int 4)))) fun l => bnd (forD (fun (s5 : D) x => bnd (dec3 x) fun v6 =>
      (bnd (op2 addD (some s5) (tupV (arg1 (tupV (arg1 (some v6.1) (arg1 (op2 maxD (op1 negD (some (.int 9))) (op2 subD (some v6.2.1) (some (.int 1)))) (arg1 (some v6.2.2) (some []))))) (some [])))) fun x_hooks7 =>
      (some (Lp.go x_hooks7)))) l x_hooks4) (jn fun (s5 : D) =>
    (bnd (op2 addD (some s2) (tupV (arg1 (op2 addD (op3s cutF (some v3) (some none) (slP (some (.int 4)))) (tupV (arg1 (some s5) (some [])))) (some [])))) fun x_found8 =>
    (some (Lp.go x_found8))))))) l x_found1) (jn fun (s2 : D) =>
  (bnd (some s2) fun d => some d))))
def m__law_one_by_one (a_some a_worth : D) : Option D :=
  (bnd (op1 itD (some a_some)) fun l => bnd (forD (fun (s1 : D) x => bnd (dec3 x) fun v2 =>
    (bnd (tupV (arg1 (some v2.1) (arg1 (some (.int 1)) (arg1 (tupV (some [])) (arg1 (tupV (some [])) (arg1 (tupV (arg1 (tupV (arg1 (some (.str "go")) (arg1 (some (.int 0)) (arg1 (some v2.2.2) (some []))))) (some []))) (some []))))))) fun x_own3 =>
    (bnd (op3 m_pulled (tupV (arg1 (some x_own3) (some []))) (some (.str "go")) (some s1)) fun x => bnd (dec2 x) fun v4 =>
    (iteT (orT (op1 isNNB (some v4.2)) (op2 eqB (some v2.2.2) (tupV (arg1 (some (.str "stop")) (some [])))))
    (bnd (tupV (arg1 (some v4.1) (arg1 (some v4.2) (some [])))) fun d => some (Lp.out d))
    (some (Lp.go v4.1)))))) l a_worth) (jn fun (s1 : D) =>
  (bnd (tupV (arg1 (some s1) (arg1 (some .none) (some [])))) fun d => some d)))
def m__law_houses (a_choices a_names : D) : Option D :=
  (bnd (lsV (lstV (arg1 (tupV (some [])) (some [])))) fun x_found1 =>
  (bnd (op1 itD (some a_names)) fun l => bnd (forD (fun (s2 : D) x => bnd (dec1 x) fun v3 =>
    (bnd (lsV (lcD (op1 itD (some a_choices)) fun x => bnd (dec1 x) fun v5 => keepE (op2 eqB (op2 ixD (some v5) (some (.int 0))) (some v3)) (some v5))) fun x_makes4 =>
    (bnd (lsV (lstV (some []))) fun x_more6 =>
    (bnd (op1 itD (some s2)) fun l => bnd (forD (fun (s7 : D) x => bnd (dec1 x) fun v8 =>
      (bnd (op2 addD (op2 addD (some s7) (lsV (lstV (arg1 (some v8) (some []))))) (lsV (lcD (op1 itD (some x_makes4)) fun x => bnd (dec1 x) fun v10 => keepE (some true) (op2 addD (some v8) (tupV (arg1 (some v10) (some []))))))) fun x_more9 =>
      (some (Lp.go x_more9)))) l x_more6) (jn fun (s7 : D) =>
    (bnd (some s7) fun x_found11 =>
    (some (Lp.go x_found11)))))))) l x_found1) (jn fun (s2 : D) =>
  (bnd (some s2) fun d => some d))))
def m_houses_of (a_choices : D) : Option D :=
  (bnd (lsV (lstV (arg1 (tupV (some [])) (some [])))) fun x_found1 =>
  (bnd (op1 itD (lsV (op1 sortSetN (lsV (lcD (op1 itD (some a_choices)) fun x => bnd (dec1 x) fun v3 => keepE (some true) (op2 ixD (some v3) (some (.int 0)))))))) fun l => bnd (forD (fun (s2 : D) x => bnd (dec1 x) fun v4 =>
    (bnd (lsV (lcD (op1 itD (some a_choices)) fun x => bnd (dec1 x) fun v6 => keepE (op2 eqB (op2 ixD (some v6) (some (.int 0))) (some v4)) (some v6))) fun x_makes5 =>
    (bnd (op1 listN (some s2)) fun x_longer7 =>
    (bnd (op1 itD (some s2)) fun l => bnd (forD (fun (s8 : List D) x => bnd (dec1 x) fun v9 =>
      (bnd (bnd (lcD (op1 itD (some x_makes5)) fun x => bnd (dec1 x) fun v11 => keepE (some true) (op2 addD (some v9) (tupV (arg1 (some v11) (some []))))) (exL s8)) fun x_longer12 =>
      (some (Lp.go x_longer12)))) l x_longer7) (jn fun (s8 : List D) =>
    (some (Lp.go (.list s8)))))))) l x_found1) (jn fun (s2 : D) =>
  (bnd (some s2) fun d => some d))))
def m_chosen (a_choices a_wanted : D) : Option D :=
  (bnd (some .none) fun x_best1 =>
  (bnd (op1 itD (op1 m_houses_of (some a_choices))) fun l => bnd (forD (fun (s2 : D) x => bnd (dec1 x) fun v3 =>
    (bnd (op1 tupD (lsV (lcD (op1 itD (some v3)) fun x => bnd (dec1 x) fun v5 => keepE (some true) (op2 ixD (some v5) (some (.int 0)))))) fun x_names4 =>
    (iteT (andT (tB (op1 allD (lsV (lcD (op1 itD (some a_wanted)) fun x => bnd (dec1 x) fun v6 => keepE (some true) (boV (op2 inB (some v6) (some x_names4))))))) (op2 eqB (op1 lenD (op1 m_order (some v3))) (op1 lenD (some v3))))
    (bnd (tupV (arg1 (op1 lenD (some v3)) (arg1 (some x_names4) (arg1 (op1 tupD (lsV (lcD (op1 itD (some v3)) fun x => bnd (dec1 x) fun v8 => keepE (some true) (op2 subD (some (.int 0)) (op2 ixD (some v8) (some (.int 1))))))) (some []))))) fun x_look7 =>
      (iteT (orT (op1 isNB (some s2)) (op2 ltB (some x_look7) (op2 ixD (some s2) (some (.int 0)))))
      (bnd (tupV (arg1 (some x_look7) (arg1 (some v3) (some [])))) fun x_best9 =>
        (some (Lp.go x_best9)))
      (some (Lp.go s2))))
    (some (Lp.go s2))))) l x_best1) (jn fun (s2 : D) =>
  (iteT (op1 isNB (some s2))
  (bnd (some .none) fun d => some d)
  (bnd (op2 ixD (some s2) (some (.int 1))) fun d => some d)))))
def m__law_choices (a_number a_many : D) : Option D :=
  (bnd (tupV (some [])) fun x_found1 =>
  (bnd (op1 rangeI (some a_many)) fun l => bnd (forD (fun (s2 : D) x => bnd (dec1 x) fun v3 =>
    (bnd (op2 divD (op2 m__law_drawn (some a_number) (op2 addD (some (.int 50)) (some v3))) (some (.int 4))) fun x_drawn4 =>
    (bnd (op2 m__law_part (op2 divD (some x_drawn4) (some (.int 8))) (op2 ixD (tupV (arg1 (some (.str "a")) (arg1 (some (.str "b")) (arg1 (some (.str "c")) (arg1 (some (.str "d")) (some [])))))) (op2 modD (some x_drawn4) (some (.int 4))))) fun x_part5 =>
    (iteT (op2 ninB (tupV (arg1 (op2 ixD (some x_part5) (some (.int 0))) (arg1 (op2 ixD (some x_part5) (some (.int 1))) (some [])))) (lsV (lcD (op1 itD (some s2)) fun x => bnd (dec1 x) fun v6 => keepE (some true) (tupV (arg1 (op2 ixD (some v6) (some (.int 0))) (arg1 (op2 ixD (some v6) (some (.int 1))) (some [])))))))
    (bnd (op2 addD (some s2) (tupV (arg1 (some x_part5) (some [])))) fun x_found7 =>
      (some (Lp.go x_found7)))
    (some (Lp.go s2)))))) l x_found1) (jn fun (s2 : D) =>
  (bnd (some s2) fun d => some d))))
end DL


/-! What the defs come to on parts and houses. -/
namespace DL
open PySem PySem.Spec PyProof.Rows L2
/-! ### small facts -/
@[simp] theorem ixP0 (p : Part) : ixD (encP p) (.int 0) = some (.str p.name) := rfl
@[simp] theorem ixP1 (p : Part) : ixD (encP p) (.int 1) = some (.int p.make) := rfl
@[simp] theorem ixP2 (p : Part) : ixD (encP p) (.int 2) = some (.tuple (p.faces.map encF)) := rfl
@[simp] theorem ixP3 (p : Part) : ixD (encP p) (.int 3) = some (.tuple (p.wants.map encW)) := rfl
@[simp] theorem ixP4 (p : Part) : ixD (encP p) (.int 4) = some (.tuple (p.hooks.map encK)) := rfl
@[simp] theorem ixW0 (p : Want) : ixD (encW p) (.int 0) = some (.str p.face) := rfl
@[simp] theorem ixW1 (p : Want) : ixD (encW p) (.int 1) = some (.int p.low) := rfl
@[simp] theorem ixW2 (p : Want) : ixD (encW p) (.int 2) = some (.int p.high) := rfl
@[simp] theorem ixW3 (p : Want) : ixD (encW p) (.int 3) = some (.bool p.must) := rfl
@[simp] theorem ixK0 (p : Hook) : ixD (encK p) (.int 0) = some (.str p.hook) := rfl
@[simp] theorem ixK1 (p : Hook) : ixD (encK p) (.int 1) = some (.int p.rank) := rfl
@[simp] theorem ixK2 (p : Hook) : ixD (encK p) (.int 2) = some (encDeed p) := rfl
@[simp] theorem dec2F (f : Str × Int) : dec2 (encF f) = some (.str f.1, .int f.2) := rfl
@[simp] theorem dec2SS (f : Str × Str) : dec2 (encSS f) = some (.str f.1, .str f.2) := rfl
@[simp] theorem ixT0 (a : D) (l : List D) : ixD (.tuple (a :: l)) (.int 0) = some a := atI_zero a l
@[simp] theorem ixL0 (a : D) (l : List D) : ixD (.list (a :: l)) (.int 0) = some a := atI_zero a l
@[simp] theorem itD_l (ds : List D) : itD (.list ds) = some ds := rfl
@[simp] theorem itD_t (ds : List D) : itD (.tuple ds) = some ds := rfl
@[simp] theorem itD_h (h : House) : itD (encH h) = some (h.map encP) := rfl
@[simp] theorem listN_l (ds : List D) : listN (.list ds) = some ds := rfl
@[simp] theorem listN_t (ds : List D) : listN (.tuple ds) = some ds := rfl
@[simp] theorem listN_h (h : House) : listN (encH h) = some (h.map encP) := rfl
@[simp] theorem tupD_l (ds : List D) : tupD (.list ds) = some (.tuple ds) := rfl
@[simp] theorem lenD_l (ds : List D) : lenD (.list ds) = some (.int (ds.length : Nat)) := rfl
@[simp] theorem lenD_t (ds : List D) : lenD (.tuple ds) = some (.int (ds.length : Nat)) := rfl
@[simp] theorem lenD_h (h : House) : lenD (encH h) = some (.int (h.length : Nat)) := by rw [encH, lenD_t, List.length_map]
@[simp] theorem addD_i (a b : Int) : addD (.int a) (.int b) = some (.int (a + b)) := rfl
@[simp] theorem subD_i (a b : Int) : subD (.int a) (.int b) = some (.int (a - b)) := rfl
@[simp] theorem negD_i (a : Int) : negD (.int a) = some (.int (-a)) := rfl
@[simp] theorem ltB_i (a b : Int) : ltB (.int a) (.int b) = some (decide (a < b)) := rfl
@[simp] theorem leB_i (a b : Int) : leB (.int a) (.int b) = some (decide (a ≤ b)) := rfl
@[simp] theorem gtB_i (a b : Int) : gtB (.int a) (.int b) = some (decide (b < a)) := rfl
@[simp] theorem geB_i (a b : Int) : geB (.int a) (.int b) = some (decide (b ≤ a)) := rfl
@[simp] theorem eqB_i (a b : Int) : eqB (.int a) (.int b) = some (decide (a = b)) := by rw [← eqv_int]; rfl
@[simp] theorem eqB_s (a b : Str) : eqB (.str a) (.str b) = some (decide (a = b)) := by rw [← eqv_str]; rfl
@[simp] theorem neB_s (a b : Str) : neB (.str a) (.str b) = some (!decide (a = b)) := by rw [← eqv_str]; rfl
@[simp] theorem neB_i (a b : Int) : neB (.int a) (.int b) = some (!decide (a = b)) := by rw [← eqv_int]; rfl
@[simp] theorem isNB_eq (x : D) : isNB x = some (isNon x) := rfl
@[simp] theorem isNNB_eq (x : D) : isNNB x = some (!isNon x) := rfl
@[simp] theorem lstV_nil : lstV (some []) = some [] := rfl
@[simp] theorem tupV_nil : tupV (some []) = some (.tuple []) := rfl
@[simp] theorem tupV1 (a : D) : tupV (some [a]) = some (.tuple [a]) := rfl
@[simp] theorem tupV2 (a b : D) : tupV (some [a, b]) = some (.tuple [a, b]) := rfl
@[simp] theorem tupV3 (a b c : D) : tupV (some [a, b, c]) = some (.tuple [a, b, c]) := rfl
@[simp] theorem tupV4 (a b c d : D) : tupV (some [a, b, c, d]) = some (.tuple [a, b, c, d]) := rfl
@[simp] theorem tupV5 (a b c d e : D) : tupV (some [a, b, c, d, e]) = some (.tuple [a, b, c, d, e]) := rfl
@[simp] theorem tupV6 (a b c d e f : D) : tupV (some [a, b, c, d, e, f]) = some (.tuple [a, b, c, d, e, f]) := rfl
@[simp] theorem lstV1 (a : D) : lstV (some [a]) = some [a] := rfl
@[simp] theorem lstV2 (a b : D) : lstV (some [a, b]) = some [a, b] := rfl
@[simp] theorem lstV3 (a b c : D) : lstV (some [a, b, c]) = some [a, b, c] := rfl
@[simp] theorem intD_b (b : Bool) : intD (.bool b) = some (.int (if b then 1 else 0)) := rfl
@[simp] theorem intD_i (b : Int) : intD (.int b) = some (.int b) := rfl
@[simp] theorem minD_i (a b : Int) : minD (.int a) (.int b) = some (.int (if b < a then b else a)) := rfl
@[simp] theorem keepE_some (t : Bool) (d : D) : keepE (some t) (some d) = some (if t = true then some d else none) := by cases t <;> rfl
theorem mulD_i {a b : Int} (h : (-(2 ^ 64) < a ∧ a < 2 ^ 64) ∨ (-(2 ^ 64) < b ∧ b < 2 ^ 64)) : mulD (.int a) (.int b) = some (.int (a * b)) := if_pos h
theorem divD_i {a b : Int} (h : 0 < b ∧ b < 1073741824) : divD (.int a) (.int b) = some (.int (a / b)) := if_pos h
theorem modD_i {a b : Int} (h : 0 < b) : modD (.int a) (.int b) = some (.int (a % b)) := if_pos h
theorem addD_t {a b : List D} (h : a.length + b.length ≤ 1000000) : addD (.tuple a) (.tuple b) = some (.tuple (a ++ b)) := if_pos (by rw [sizeLine_eq]; omega)
theorem addD_l {a b : List D} (h : a.length + b.length ≤ 1000000) : addD (.list a) (.list b) = some (.list (a ++ b)) := if_pos (by rw [sizeLine_eq]; omega)
theorem addN_l {a b : List D} (h : a.length + b.length ≤ 1000000) : addN (.list a) (.list b) = some (a ++ b) := if_pos (by rw [sizeLine_eq]; omega)
theorem plB_of {n : Nat} {d : D} (h : Pl n d) (hn : n ≤ 64 := by decide) : plB d = true := by
  unfold plB
  rw [h.lay, decide_eq_true (Nat.le_trans h.dep hn)]; rfl
theorem plBs_of {n : Nat} {ds : List D} (h : PlAll n ds) (hn : n ≤ 63 := by decide) : plBs ds = true := by
  unfold plBs
  rw [h.lay, decide_eq_true (Nat.le_trans h.dep hn)]; rfl
theorem eqB_pl {n m : Nat} {x y : D} (h : Pl n x) (k : Pl m y) (hn : n ≤ 64 := by decide) (hm : m ≤ 64 := by decide) : eqB x y = some (PyData.eqv x y) := if_pos (by rw [plB_of h hn, plB_of k hm]; simp)
theorem neB_pl {n m : Nat} {x y : D} (h : Pl n x) (k : Pl m y) (hn : n ≤ 64 := by decide) (hm : m ≤ 64 := by decide) : neB x y = some (!PyData.eqv x y) := if_pos (by rw [plB_of h hn, plB_of k hm]; simp)
theorem eqB_nil {n : Nat} {ds : List D} (h : PlAll n ds) (hn : n + 1 ≤ 64 := by decide) : eqB (.list ds) (.list []) = some ds.isEmpty := by rw [eqB_pl (pl_lst h) (pl_lst (n := 0) pla_nil) hn, eqv_nilL]
theorem neB_nil {n : Nat} {ds : List D} (h : PlAll n ds) (hn : n + 1 ≤ 64 := by decide) : neB (.list ds) (.list []) = some (!ds.isEmpty) := by rw [neB_pl (pl_lst h) (pl_lst (n := 0) pla_nil) hn, eqv_nilL]
theorem inB_l {n m : Nat} {x : D} {ds : List D} (h : Pl n x) (k : PlAll m ds) (hn : n ≤ 64 := by decide) (hm : m ≤ 63 := by decide) : inB x (.list ds) = some (ds.any fun z => PyData.eqv z x) := if_pos (by rw [plB_of h hn, plBs_of k hm]; simp)
theorem inB_t {n m : Nat} {x : D} {ds : List D} (h : Pl n x) (k : PlAll m ds) (hn : n ≤ 64 := by decide) (hm : m ≤ 63 := by decide) : inB x (.tuple ds) = some (ds.any fun z => PyData.eqv z x) := if_pos (by rw [plB_of h hn, plBs_of k hm]; simp)
theorem fl_map (l : List Str) : (l.map PyData.str).all flD = true := by rw [List.all_map]; exact List.all_eq_true.mpr fun _ _ => rfl
@[simp] theorem inB_sl (n : Str) (l : List Str) : inB (.str n) (.list (l.map .str)) = some (decide (n ∈ l)) := by rw [← any_str]; exact if_pos (by rw [fl_map]; rfl)
@[simp] theorem inB_st (n : Str) (l : List Str) : inB (.str n) (.tuple (l.map .str)) = some (decide (n ∈ l)) := by rw [← any_str]; exact if_pos (by rw [fl_map]; rfl)
@[simp] theorem ninB_eq (x y : D) : ninB x y = notT (inB x y) := rfl
theorem eqTs {l m : List Str} (hl : OkS l) (hm : OkS m) : eqB (.tuple (l.map .str)) (.tuple (m.map .str)) = some (decide (l = m)) := by
  rw [eqB_pl (pl_tup (pl_strs (n := 0) hl)) (pl_tup (pl_strs (n := 0) hm)), PyData.eqv, eqv_strs]
theorem neTs {l m : List Str} (hl : OkS l) (hm : OkS m) : neB (.tuple (l.map .str)) (.tuple (m.map .str)) = some (!decide (l = m)) := by
  rw [neB_pl (pl_tup (pl_strs (n := 0) hl)) (pl_tup (pl_strs (n := 0) hm)), PyData.eqv, eqv_strs]
theorem soB_map {α : Type} {l : List α} {f : α → D} (s : Sh) (h : ∀ a ∈ l, shOk s (f a) = true) (h1 : ∀ a ∈ l, shOf (f a) = some s) (ht : shTop s = true := by rfl) (hd : shDep s ≤ 8 := by decide) : soB (l.map f) = true := by
  unfold soB
  rw [Bool.or_eq_true]
  refine .inl ?_
  cases l with
  | nil => rfl
  | cons a l =>
    rw [List.map_cons, soS, h1 a List.mem_cons_self]
    simp only
    rw [ht, decide_eq_true hd, ← List.map_cons, List.all_map, show (a :: l).all (shOk s ∘ f) = true from List.all_eq_true.mpr (fun x hx => h x hx)]
    rfl
theorem sortN_s (l : List Str) : sortN (.list (l.map .str)) = some ((sortS l).map .str) := by
  rw [← sortS_map]; exact if_pos (soB_map .str (fun _ _ => rfl) fun _ _ => rfl)
theorem sortN_st (l : List Str) : sortN (.tuple (l.map .str)) = some ((sortS l).map .str) := by
  rw [← sortS_map]; exact if_pos (soB_map .str (fun _ _ => rfl) fun _ _ => rfl)
theorem allStr_map : ∀ (l : List Str), allStr (l.map .str) = some l
  | [] => rfl
  | s :: l => by rw [List.map_cons, allStr, allStr_map l]; rfl
theorem allB_map : ∀ (l : List Bool), allB (l.map .bool) = some l
  | [] => rfl
  | s :: l => by rw [List.map_cons, allB, allB_map l]; rfl
theorem allD_map {α : Type} (l : List α) (f : α → Bool) : allD (.list (l.map fun a => .bool (f a))) = some (.bool (l.all f)) := by
  have e1 : (l.map fun p => PyData.bool (f p)) = (l.map f).map .bool := by rw [List.map_map]; rfl
  rw [e1, allD, allB_map, bnd_some, List.all_map]; rfl
/-! ### draws -/
theorem q_cell_at (ns : List Int) (k : Nat) : m__law_cell_at (.list (ns.map .int)) (.int (k : Nat)) = some (.int (cellAt ns (k : Nat))) := by
  unfold m__law_cell_at cellAt
  simp only [op1_some, op2_some, lenD_l, ltB_i, iteT_some, List.length_map, decide_eq_true_eq, bnd_some]
  split
  · rename_i h
    have hk : k < ns.length := by omega
    show bnd (atI _ _) _ = _
    rw [atI_g (by omega) (by simpa using h)]
    simp [List.getD_eq_getElem?_getD, hk]
  · rfl
theorem q_mixed (ns : List Int) (k : Nat) (hk : (k : Int) < 1000) : m__law_mixed (.list (ns.map .int)) (.int (k : Nat)) = some (.int (mixed ns (k : Nat))) := by
  have b := mixed0_b ns (k : Nat)
  unfold m__law_mixed
  simp only [op2_some, q_cell_at]
  rw [mulD_i (.inr ⟨by omega, by omega⟩)]
  simp only [op2_some, addD_i]
  rw [mulD_i (.inr ⟨by decide, by decide⟩), op2_some, modD_i (by decide), bnd_some]
  show bnd (op2 modD (op2 addD (op2 addD (op2 mulD (some (.int (mixed0 ns (k : Nat)))) (some (.int (mixed0 ns (k : Nat))))) (op2 mulD (some (.int 7)) (some (.int (mixed0 ns (k : Nat)))))) _) _) _ = _
  simp only [op2_some]
  rw [mulD_i (.inr ⟨by omega, by omega⟩), mulD_i (.inr ⟨by omega, by omega⟩)]
  simp only [op2_some, addD_i]
  rw [modD_i (by decide), bnd_some]
  rfl
theorem q_drawn (n k : Int) (hk : 0 ≤ k ∧ k < 1000) : m__law_drawn (.int n) (.int k) = some (.int (drawn n k)) := by
  have b := drawn0_b n k
  unfold m__law_drawn
  simp only [op2_some]
  rw [mulD_i (.inr ⟨by omega, by omega⟩)]
  simp only [op2_some, addD_i]
  rw [mulD_i (.inr ⟨by decide, by decide⟩), op2_some, modD_i (by decide), bnd_some]
  show bnd (op2 modD (op2 addD (op2 addD (op2 mulD (some (.int (drawn0 n k))) (some (.int (drawn0 n k)))) (op2 mulD (some (.int 3)) (some (.int (drawn0 n k))))) _) _) _ = _
  simp only [op2_some]
  rw [mulD_i (.inr ⟨by omega, by omega⟩), mulD_i (.inr ⟨by omega, by omega⟩)]
  simp only [op2_some, addD_i]
  rw [modD_i (by decide), bnd_some]
  rfl
end DL


namespace DL
open PySem PySem.Spec PyProof.Rows L2
local macro_rules | `(tactic| walk_at "ev") => `(tactic| try simp only [bnd_some, op1_some, op2_some, op3_some, op4_some, op3s_some, slP_int, boV_some, tB_some, lsV_some, dcV_some, lcD_some, arg1_some, dec1_eq, dec2_eq, dec3_eq, dec4_eq, dec5_eq, jn_nx, jn_rt, iteT_true, iteT_false, notT_some, andT_some, orT_some, andT_false, orT_true, andT_true, orT_false, ixP0, ixP1, ixP2, ixP3, ixP4, ixW0, ixW1, ixW2, ixW3, ixK0, ixK1, ixK2, dec2F, dec2SS, ixT0, ixL0, itD_l, itD_t, itD_h, itL_eq, listN_l, listN_t, listN_h, tupD_l, lenD_l, lenD_t, lenD_h, addD_i, subD_i, negD_i, ltB_i, leB_i, gtB_i, geB_i, eqB_i, eqB_s, neB_s, neB_i, isNB_eq, isNNB_eq, lstV_nil, tupV_nil, tupV1, tupV2, tupV3, tupV4, tupV5, tupV6, lstV1, lstV2, lstV3, intD_b, intD_i, minD_i, keepE_some, keepE_true, keepE_false, inB_sl, inB_st, ninB_eq, List.length_map, if_true, if_false, Bool.false_eq_true])
theorem ixW6 {p q r t u v : Str} {i : Int} (h0 : 0 ≤ i) (h1 : i < 6) : ixD (.tuple [.str p, .str q, .str r, .str t, .str u, .str v]) (.int i) = some (.str (if i = 0 then p else if i = 1 then q else if i = 2 then r else if i = 3 then t else if i = 4 then u else v)) := by
  show atI _ _ = _
  rw [ix_6 h0 h1, ite_s, ite_s, ite_s, ite_s, ite_s]
theorem ixI2 {p q i : Int} (h0 : 0 ≤ i) (h1 : i < 2) : ixD (.tuple [.int p, .int q]) (.int i) = some (.int (if i = 0 then p else q)) := by
  show atI _ _ = _
  rw [ix_2 h0 h1, ite_i]
theorem ixS2 {p q : Str} {i : Int} (h0 : 0 ≤ i) (h1 : i < 2) : ixD (.tuple [.str p, .str q]) (.int i) = some (.str (if i = 0 then p else q)) := by
  show atI _ _ = _
  rw [ix_2 h0 h1, ite_s]
theorem ixI4 {p q r t i : Int} (h0 : 0 ≤ i) (h1 : i < 4) : ixD (.tuple [.int p, .int q, .int r, .int t]) (.int i) = some (.int (if i = 0 then p else if i = 1 then q else if i = 2 then r else t)) := by
  show atI _ _ = _
  rw [ix_4 h0 h1, ite_i, ite_i, ite_i]
theorem mulD_t (a : D) (t : Bool) : mulD (.tuple [a]) (.int (if t = true then 1 else 0)) = some (.tuple (if t = true then [a] else [])) := by cases t <;> rfl
theorem rangeI_n {n : Int} (h : 0 ≤ n ∧ n ≤ 1000) : rangeI (.int n) = some ((List.range n.toNat).map fun k => .int ((k : Nat) : Int)) := if_pos ⟨by omega, by omega⟩
theorem ite_len1 (c : Prop) [Decidable c] (a d : D) : ([d] : List D).length + (if c then [a] else []).length ≤ 1000000 := by split <;> simp
theorem q_part (n : Int) (nm : Str) : m__law_part (.int n) (.str nm) = some (encP (partOf n nm)) := by
  unfold m__law_part
  walk_at "ev"
  rw [show enumI (.tuple [.str "f", .str "g", .str "h"]) = some (([((0 : Nat), ("f" : Str)), (1, "g"), (2, "h")]).map fun q => .tuple [.int (q.1 : Nat), .str q.2]) from rfl, bnd_some]
  rw [forD_iv (α := Nat × Str) (β := List (Str × Int) × List Want) (fun q => .tuple [.int (q.1 : Nat), .str q.2]) (fun b => (.tuple (b.1.map encF), .tuple (b.2.map encW))) (fun b q => (b.1 ++ faceOf n (q.1 : Nat) q.2, b.2 ++ wantOf n (q.1 : Nat) q.2)) (fun l b => b.1.length + l.length ≤ 3 ∧ b.2.length + l.length ≤ 3 ∧ ∀ q ∈ l, q.1 < 3) [((0 : Nat), ("f" : Str)), (1, "g"), (2, "h")] ([], []) ?hI ?hs]
  case hI => exact ⟨by decide, by decide, by decide⟩
  case hs =>
    rintro ⟨j, f⟩ rest ⟨A, B⟩ ⟨l1, l2, l3⟩
    have hj : j < 3 := l3 (j, f) List.mem_cons_self
    simp only [List.length_cons] at l1 l2
    have f1 := faceOf_len n (j : Nat) f
    have f2 := wantOf_len n (j : Nat) f
    refine ⟨?_, by simp only [List.length_append]; omega, by simp only [List.length_append]; omega, fun q hq => l3 q (List.mem_cons_of_mem _ hq)⟩
    walk_at "ev"
    rw [q_drawn n (j : Nat) ⟨by omega, by omega⟩]
    walk_at "ev"
    rw [divD_i ⟨by decide, by decide⟩]
    walk_at "ev"
    rw [modD_i (by decide), divD_i ⟨by decide, by decide⟩, divD_i ⟨by decide, by decide⟩, divD_i ⟨by decide, by decide⟩, modD_i (by decide)]
    walk_at "ev"
    rw [modD_i (by decide), modD_i (by decide), modD_i (by decide), modD_i (by decide)]
    walk_at "ev"
    rw [addD_t (by simp; omega)]
    walk_at "ev"
    rw [addD_t (by simp; omega)]
    walk_at "ev"
    unfold faceOf wantOf
    simp only [iteT_some, decide_eq_true_eq]
    split <;> split <;> simp [encF, encW, *]
  rw [show ([((0 : Nat), ("f" : Str)), (1, "g"), (2, "h")] : List (Nat × Str)).foldl (fun (b : List (Str × Int) × List Want) q => (b.1 ++ faceOf n (q.1 : Nat) q.2, b.2 ++ wantOf n (q.1 : Nat) q.2)) ([], []) = (facesOf n, wantsOf n) from by simp [facesOf, wantsOf, List.append_assoc]]
  walk_at "ev"
  rw [modD_i (by decide)]
  walk_at "ev"
  rw [rangeI_n ⟨by omega, by omega⟩, bnd_some]
  rw [forD_iv (α := Nat) (β := List Hook) (fun k => .int ((k : Nat) : Int)) (fun b => .tuple (b.map encK)) (fun b k => b ++ [hookOf n ((k : Nat) : Int)]) (fun l b => b.length + l.length ≤ 3 ∧ ∀ k ∈ l, k < 3) (List.range (n % 4).toNat) [] ?hI ?hs]
  case hI => exact ⟨by simp; omega, fun k hk => by have := List.mem_range.mp hk; omega⟩
  case hs =>
    intro j rest b ⟨l1, l3⟩
    have hj : j < 3 := l3 j List.mem_cons_self
    simp only [List.length_cons] at l1
    refine ⟨?_, by simp only [List.length_append, List.length_cons, List.length_nil]; omega, fun q hq => l3 q (List.mem_cons_of_mem _ hq)⟩
    walk_at "ev"
    rw [q_drawn n (10 + (j : Nat)) ⟨by omega, by omega⟩]
    walk_at "ev"
    rw [divD_i ⟨by decide, by decide⟩]
    walk_at "ev"
    generalize hr : drawn n (10 + (j : Nat)) / 4 = r
    rw [modD_i (by decide)]
    walk_at "ev"
    rw [ixW6 (by omega) (by omega)]
    walk_at "ev"
    rw [divD_i ⟨by decide, by decide⟩, divD_i ⟨by decide, by decide⟩, divD_i ⟨by decide, by decide⟩, divD_i ⟨by decide, by decide⟩]
    walk_at "ev"
    rw [modD_i (by decide), modD_i (by decide), modD_i (by decide)]
    walk_at "ev"
    rw [ixI2 (by omega) (by omega), ixS2 (by omega) (by omega), ixI4 (by omega) (by omega)]
    walk_at "ev"
    rw [modD_i (by split <;> decide)]
    walk_at "ev"
    rw [mulD_t]
    walk_at "ev"
    rw [addD_t (ite_len1 _ _ _)]
    walk_at "ev"
    rw [addD_t (by simp; omega)]
    walk_at "ev"
    have e : encK (hookOf n (j : Nat)) = .tuple [.str (hookNm r), .int (rankOf r), .tuple (.str (wordOf r) :: (if (!decide (wordOf r = "stop")) = true then [.int (worthOf r)] else []))] := by
      unfold encK hookOf encDeed
      rw [hr]
      simp only
      by_cases hw : wordOf r = "stop"
      · rw [if_pos hw, hw]; rfl
      · rw [if_neg hw, if_pos (by simp [hw])]
    rw [List.map_append, List.map_cons, List.map_nil, e]
    rfl
  have hh : (List.range (n % 4).toNat).foldl (fun (b : List Hook) (k : Nat) => b ++ [hookOf n ((k : Nat) : Int)]) [] = hooksOf n := by
    have : ∀ (l : List Nat) (b : List Hook), l.foldl (fun (b : List Hook) (k : Nat) => b ++ [hookOf n ((k : Nat) : Int)]) b = b ++ l.map fun k => hookOf n ((k : Nat) : Int) := by
      intro l
      induction l with
      | nil => intro b; simp
      | cons a l ih => intro b; rw [List.foldl_cons, ih]; simp
    rw [this]; rfl
  rw [hh]
  walk_at "ev"
  rw [divD_i ⟨by decide, by decide⟩, divD_i ⟨by decide, by decide⟩]
  walk_at "ev"
  rw [modD_i (by decide), modD_i (by decide)]
  walk_at "ev"
  show bnd (tupV (arg1 _ (arg1 _ (arg1 _ (arg1 (some (.tuple (cutD _ _ _))) _))))) _ = _
  walk_at "ev"
  unfold encP partOf
  have e : (n / 64 % 2) = (((n / 64 % 2).toNat : Nat) : Int) := by omega
  rw [e, cut_from, ← e, List.map_drop]
theorem q_house (n : Int) : m__law_house (.int n) = some (encH (houseOf n)) := by
  unfold m__law_house
  walk_at "ev"
  rw [show enumI (.tuple [.str "a", .str "b", .str "c", .str "d", .str "e", .str "log"]) = some (([((0 : Nat), ("a" : Str)), (1, "b"), (2, "c"), (3, "d"), (4, "e"), (5, "log")]).map fun q => .tuple [.int (q.1 : Nat), .str q.2]) from rfl, bnd_some]
  rw [forD_iv (α := Nat × Str) (β := List Part) (fun q => .tuple [.int (q.1 : Nat), .str q.2]) encH (fun b q => b ++ partAt n (q.1 : Nat) q.2) (fun l b => b.length + l.length ≤ 6 ∧ ∀ q ∈ l, q.1 < 6) [((0 : Nat), ("a" : Str)), (1, "b"), (2, "c"), (3, "d"), (4, "e"), (5, "log")] [] ?hI ?hs]
  case hI => exact ⟨by decide, by decide⟩
  case hs =>
    rintro ⟨j, f⟩ rest A ⟨l1, l3⟩
    have hj : j < 6 := l3 (j, f) List.mem_cons_self
    simp only [List.length_cons] at l1
    have f1 := partAt_len n (j : Nat) f
    refine ⟨?_, by simp only [List.length_append]; omega, fun q hq => l3 q (List.mem_cons_of_mem _ hq)⟩
    walk_at "ev"
    rw [q_drawn n (20 + (j : Nat)) ⟨by omega, by omega⟩]
    walk_at "ev"
    rw [divD_i ⟨by decide, by decide⟩]
    walk_at "ev"
    rw [modD_i (by decide), modD_i (by decide), divD_i ⟨by decide, by decide⟩]
    walk_at "ev"
    rw [q_part]
    walk_at "ev"
    show iteT _ (bnd (addD (.tuple (A.map encP)) _) _) _ = _
    rw [addD_t (by simp; omega)]
    walk_at "ev"
    unfold partAt encH
    rw [iteT_some]
    simp only [decide_eq_true_eq]
    split <;> simp
  walk_at "ev"
  simp [houseOf, List.append_assoc]
end DL


namespace DL
open PySem PySem.Spec PyProof.Rows L2
local macro_rules | `(tactic| walk_at "ev") => `(tactic| try simp only [bnd_some, op1_some, op2_some, op3_some, op4_some, op3s_some, slP_int, boV_some, tB_some, lsV_some, dcV_some, lcD_some, arg1_some, dec1_eq, dec2_eq, dec3_eq, dec4_eq, dec5_eq, jn_nx, jn_rt, iteT_true, iteT_false, notT_some, andT_some, orT_some, andT_false, orT_true, andT_true, orT_false, ixP0, ixP1, ixP2, ixP3, ixP4, ixW0, ixW1, ixW2, ixW3, ixK0, ixK1, ixK2, dec2F, dec2SS, ixT0, ixL0, itD_l, itD_t, itD_h, itL_eq, listN_l, listN_t, listN_h, tupD_l, lenD_l, lenD_t, lenD_h, addD_i, subD_i, negD_i, ltB_i, leB_i, gtB_i, geB_i, eqB_i, eqB_s, neB_s, neB_i, isNB_eq, isNNB_eq, lstV_nil, tupV_nil, tupV1, tupV2, tupV3, tupV4, tupV5, tupV6, lstV1, lstV2, lstV3, intD_b, intD_i, minD_i, keepE_some, keepE_true, keepE_false, inB_sl, inB_st, ninB_eq, List.length_map, if_true, if_false, Bool.false_eq_true])
/-! ### who can stand -/
theorem pairsK_faces : ∀ (fs : List (Str × Int)), pairsK (fs.map encF) = some (facesK fs)
  | [] => rfl
  | f :: fs => by rw [List.map_cons, pairsK, pairsK_faces fs]; rfl
theorem q_make_of (p : Part) (x : Str) : m_make_of (encP p) (.str x) = some (.int (makeOf p x)) := by
  unfold m_make_of
  walk_at "ev"
  rw [show dictN (.tuple (p.faces.map encF)) = some (mergeD [] (facesK p.faces)) from by rw [dictN, pairsK_faces]; rfl]
  walk_at "ev"
  show some ((lookD _ (.inr x)).getD _) = _
  rw [look_faces]
  unfold makeOf
  cases lookF p.faces x <;> rfl
theorem q_gives (p : Part) (w : Want) : m_gives (encP p) (encW w) = some (.bool (gives p w)) := by
  unfold m_gives
  walk_at "ev"
  rw [q_make_of, chT_some leB leB _ _ _ (leB_i _ _) (leB_i _ _)]
  rfl
theorem q_givers_for (ps : List Part) (n : Str) (w : Want) : m_givers_for (.list (ps.map encP)) (.str n) (encW w) = some (.list ((giversFor ps n w).map encP)) := by
  unfold m_givers_for
  walk_at "ev"
  rw [lcD_iv encP (fun p => !(p.name == n) && gives p w) encP ps ?h]
  case h =>
    intro p _
    walk_at "ev"
    rw [q_gives]
    walk_at "ev"
    congr
  rfl
theorem q_lacks (ps : List Part) (p : Part) : m_lacks (.list (ps.map encP)) (encP p) = some (.list ((lacksL ps p).map .str)) := by
  unfold m_lacks
  walk_at "ev"
  rw [lcD_iv encW (fun w => w.must && (giversFor ps p.name w).isEmpty) (fun w => .str w.face) p.wants ?h]
  case h =>
    intro w _
    walk_at "ev"
    rw [q_givers_for]
    walk_at "ev"
    congr 4
    cases giversFor ps p.name w with
    | nil => rfl
    | cons a l => simp; omega
  walk_at "ev"
  unfold lacksL
  rw [List.map_map]
  rfl
theorem q_standing_parts {h : House} (hl : h.length ≤ 4000) : m_standing_parts (encH h) = some (.list ((st h).map encP)) := by
  have hk : ∀ (ps : List Part) (p : Part), keepE (op2 eqB (op1 lenD (op2 m_lacks (some (.list (ps.map encP))) (some (encP p)))) (some (.int 0))) (some (encP p)) = some (if (lacksL ps p).isEmpty = true then some (encP p) else none) := by
    intro ps p
    walk_at "ev"
    rw [q_lacks]
    walk_at "ev"
    congr 2
    cases lacksL ps p with
    | nil => simp
    | cons a l => simp; omega
  unfold m_standing_parts
  refine bnd_to (.list (h.map encP)) rfl ?_
  refine bnd_to (.list ((stands h).map encP)) (lcV_iv encP (fun p => (lacksL h p).isEmpty) encP h rfl fun p _ => hk h p) ?_
  refine while_to (fun ps : List Part => (.list (ps.map encP), .list ((stands ps).map encP))) (fun ps => decide ((stands ps).length < ps.length)) stands (fun ps => ps.length) (fun ps => standIt ps.length ps = st h ∧ ps.length ≤ h.length) h ⟨rfl, Nat.le_refl _⟩ (by omega) ?hc ?hb ?k
  case hc =>
    intro ps _
    walk_at "ev"
    congr 1
    simp
  case hb =>
    intro ps ⟨h1, h2⟩ hg
    have hg := of_decide_eq_true hg
    refine ⟨?_, ⟨?_, by omega⟩, hg⟩
    · refine bnd_to _ rfl ?_
      refine bnd_to (.list ((stands (stands ps)).map encP)) (lcV_iv encP (fun p => (lacksL (stands ps) p).isEmpty) encP (stands ps) rfl fun p _ => hk (stands ps) p) ?_
      rfl
    · rw [← h1]
      cases hp : ps.length with
      | zero => omega
      | succ m => rw [standIt, if_pos (by omega), standIt_ge (m := (stands ps).length) (n := m) (by omega) (Nat.le_refl _)]
  case k =>
    intro ps ⟨h1, h2⟩ hg
    have hg := of_decide_eq_false hg
    have e : standIt ps.length ps = ps := by
      cases hp : ps.length with
      | zero => rfl
      | succ m => rw [standIt, if_neg (by omega)]
    rw [← h1, e]
    rfl
theorem q_standing {h : House} (hl : h.length ≤ 4000) : m_standing (encH h) = some (.tuple ((st h).map fun p => .str p.name)) := by
  unfold m_standing
  walk_at "ev"
  rw [q_standing_parts hl]
  walk_at "ev"
  rw [lcD_all encP (fun p => .str p.name) (st h) ?h]
  case h => intro p _; walk_at "ev"
  rfl
def encSSs (l : List (Str × Str)) : D := .tuple (l.map encSS)
theorem sortN_SS (l : List (Str × Str)) : sortN (.list (l.map encSS)) = some (sortD (l.map encSS)) := if_pos (soB_map (.tup [.str, .str]) (fun _ _ => rfl) fun _ _ => rfl)
theorem q_lacking {h : House} (w : WfH h) : m_lacking (encH h) = some (.tuple (sortD ((lackOf h (st h)).map encSS))) := by
  have hl := w.len
  unfold m_lacking
  refine bnd_to _ (by walk_at "ev"; exact q_standing_parts (by omega)) ?_
  refine bnd_to [] rfl ?_
  refine bnd_to (h.map encP) rfl ?_
  refine for_to encP (fun b : List (Str × Str) => b.map encSS) (fun b p => b ++ (if notIn (st h) p then (lacksL (st h) p).map fun f => (p.name, f) else [])) (fun l b => (∀ p ∈ l, p ∈ h) ∧ b.length + 64 * l.length ≤ 64 * h.length) h [] ⟨fun _ h => h, by simp⟩ ?hs ?k
  case hs =>
    intro p rest b ⟨h1, h2⟩
    have hp := h1 p List.mem_cons_self
    rw [List.length_cons] at h2
    have hlk : (lacksL (st h) p).length ≤ 64 := by
      unfold lacksL
      rw [List.length_map]
      exact Nat.le_trans (List.length_filter_le _ _) (w.wl p hp)
    refine ⟨?_, fun q hq => h1 q (List.mem_cons_of_mem _ hq), ?_⟩
    · walk_at "ev"
      rw [inB_l (pl_encP (n := 0) (w.ok p hp)) (pl_parts (n := 0) w.st)]
      walk_at "ev"
      show iteT (some (notIn (st h) p)) _ _ = _
      rw [q_lacks]
      walk_at "ev"
      cases notIn (st h) p with
      | false => simp
      | true =>
        rw [iteT_true, lcD_all PyData.str (fun f => encSS (p.name, f)) (lacksL (st h) p) (fun f _ => rfl)]
        walk_at "ev"
        rw [exL_ok (by simp; omega)]
        simp [List.map_map, Function.comp_def]
    · rw [List.length_append]
      split <;> simp <;> omega
  case k =>
    intro b _ hb
    have e : b = lackOf h (st h) := by
      rw [hb]
      have : ∀ (l : List Part) (b : List (Str × Str)), l.foldl (fun b p => b ++ (if notIn (st h) p then (lacksL (st h) p).map fun f => (p.name, f) else [])) b = b ++ lackOf l (st h) := by
        intro l
        induction l with
        | nil => intro b; simp [lackOf]
        | cons a l ih => intro b; rw [List.foldl_cons, ih]; simp [lackOf]
      rw [this]; simp
    rw [e]
    walk_at "ev"
    rw [sortN_SS]
    walk_at "ev"
theorem q_giver_among (ps : List Part) (n : Str) (w : Want) : m_giver_among (.list (ps.map encP)) (.str n) (encW w) = some (optS (giverAmong ps n w)) := by
  unfold m_giver_among
  refine bnd_to .none rfl ?_
  refine bnd_to ((giversFor ps n w).map encP) (by walk_at "ev"; rw [q_givers_for]; rfl) ?_
  refine for_to encP optP (better w.face) (fun _ _ => True) (giversFor ps n w) none trivial ?hs ?k
  case hs =>
    intro p rest b _
    refine ⟨?_, trivial⟩
    cases b with
    | none => rfl
    | some q =>
      walk_at "ev"
      show iteT (orT (some false) (op2 gtB (m_make_of (encP p) (.str w.face)) (m_make_of (encP q) (.str w.face)))) _ _ = _
      rw [q_make_of, q_make_of]
      walk_at "ev"
      rw [iteT_some]
      simp only [Bool.false_or, decide_eq_true_eq, better]
      by_cases c : makeOf q w.face < makeOf p w.face
      · rw [if_pos c, if_pos c]; rfl
      · rw [if_neg c, if_neg c]
  case k =>
    intro b _ hb
    have e : giverAmong ps n w = b.map (·.name) := by rw [hb]; rfl
    rw [e]
    cases b with
    | none => rfl
    | some q => rfl
end DL


namespace DL
open PySem PySem.Spec PyProof.Rows L2
local macro_rules | `(tactic| walk_at "ev") => `(tactic| try simp only [bnd_some, op1_some, op2_some, op3_some, op4_some, op3s_some, slP_int, boV_some, tB_some, lsV_some, dcV_some, lcD_some, arg1_some, dec1_eq, dec2_eq, dec3_eq, dec4_eq, dec5_eq, jn_nx, jn_rt, iteT_true, iteT_false, notT_some, andT_some, orT_some, andT_false, orT_true, andT_true, orT_false, ixP0, ixP1, ixP2, ixP3, ixP4, ixW0, ixW1, ixW2, ixW3, ixK0, ixK1, ixK2, dec2F, dec2SS, ixT0, ixL0, itD_l, itD_t, itD_h, itL_eq, listN_l, listN_t, listN_h, tupD_l, lenD_l, lenD_t, lenD_h, addD_i, subD_i, negD_i, ltB_i, leB_i, gtB_i, geB_i, eqB_i, eqB_s, neB_s, neB_i, isNB_eq, isNNB_eq, lstV_nil, tupV_nil, tupV1, tupV2, tupV3, tupV4, tupV5, tupV6, lstV1, lstV2, lstV3, intD_b, intD_i, minD_i, keepE_some, keepE_true, keepE_false, inB_sl, inB_st, ninB_eq, List.length_map, if_true, if_false, Bool.false_eq_true])
/-! ### givers, order -/
theorem bnd_id (f : Option D) : bnd f (fun d => some d) = f := by cases f <;> rfl
theorem hd_filter {α : Type} {l : List α} {P : α → Bool} {en : α → D} {a : α} (h : (l.filter P).head? = some a) : ixD (.list ((l.filter P).map en)) (.int 0) = some (en a) := atI_head h
theorem q_giver {h : House} (G : GoodH h) {p : Part} (hp : p ∈ h) {w : Want} (hw : w ∈ p.wants) : m_giver (encH h) (.str p.name) (.str w.face) = some (optS (giverAmong (st h) p.name w)) := by
  have hl := G.wf.len
  unfold m_giver
  refine bnd_to (encP p) ?_ ?_
  · walk_at "ev"
    rw [lcD_iv encP (fun q => decide (q.name = p.name)) encP h fun q _ => by walk_at "ev"]
    exact hd_filter (head_name G hp)
  refine bnd_to (encW w) ?_ ?_
  · walk_at "ev"
    rw [lcD_iv encW (fun q => decide (q.face = w.face)) encW p.wants fun q _ => by walk_at "ev"]
    exact hd_filter (head_want (G.gp p hp).ws hw)
  walk_at "ev"
  rw [q_standing_parts (by omega)]
  walk_at "ev"
  rw [q_giver_among]
  rfl
theorem putN_ok {es : List (D × D)} {s : Str} {v : D} (h : es.length ≤ 100000) : putN es (.str s) v = some (putD es (.inr s) v) := by
  unfold putN
  show (if _ then _ else _) = _
  rw [if_pos (by rw [sizeLine_eq]; omega)]
theorem q_givers {h : House} (G : GoodH h) : m_givers (encH h) = some (.dict (encB (bk h))) := by
  have hl := G.wf.len
  unfold m_givers
  refine bnd_to _ (by walk_at "ev"; exact q_standing_parts (by omega)) ?_
  refine bnd_to [] rfl ?_
  refine bnd_to ((st h).map encP) rfl ?_
  refine for_to encP encB (fun b p => b ++ [(p.name, p.wants.filterMap (lawGiver (st h) p.name))]) (fun l b => b ++ l.map (fun p => (p.name, p.wants.filterMap (lawGiver (st h) p.name))) = bk h ∧ (∀ p ∈ l, p ∈ st h)) (st h) [] ⟨rfl, fun _ h => h⟩ ?hs ?k
  case hs =>
    rintro p rest b ⟨hb, hm⟩
    have hn : p.name ∉ keys b := fresh_key G hb
    refine ⟨?_, by rw [List.append_assoc]; exact hb, fun q hq => hm q (List.mem_cons_of_mem _ hq)⟩
    have hz : (encB b).length ≤ 1000 := by
      have h1 := congrArg List.length hb
      have h2 := G.st.wf.len
      unfold bk at *
      simp only [List.length_append, List.length_map, List.length_cons] at *
      unfold encB
      rw [List.length_map]; omega
    refine bnd_to _ rfl ?_
    refine bnd_to (.list (p.wants.map fun w => optS (giverAmong (st h) p.name w))) (lcV_all encW _ p.wants rfl fun w _ => by walk_at "ev"; rw [q_giver_among]; rfl) ?_
    refine bnd_to _ (by
      walk_at "ev"
      rw [lcD_iv (fun w => optS (giverAmong (st h) p.name w)) (fun w => !isNon (optS (giverAmong (st h) p.name w))) (fun w => optS (giverAmong (st h) p.name w)) p.wants fun w _ => by walk_at "ev"]
      walk_at "ev"
      rw [putN_ok (by omega), opts_eq, show p.wants.filterMap (giverAmong (st h) p.name) = p.wants.filterMap (lawGiver (st h) p.name) from fm_congr fun w hw => giver_eq G.st ((G.gp p (st_sub h p (hm p (by simp)))).lo w hw), put_book _ hn]) ?_
    rfl
  case k =>
    intro b ⟨hb, _⟩ _
    rw [List.map_nil, List.append_nil] at hb
    rw [hb]
theorem itD_book (b : Book) : itD (.dict (encB b)) = some ((keys b).map .str) := by rw [itD, encB_keys]
theorem listN_book (b : Book) : listN (.dict (encB b)) = some ((keys b).map .str) := by rw [listN, encB_keys]
theorem ixD_book {b : Book} {n : Str} (h : n ∈ keys b) : ixD (.dict (encB b)) (.str n) = some (.list ((bget b n).map .str)) := look_book h
theorem sortN_book {b : Book} (h : (keys b).length < 64) : sortN (.dict (encB b)) = some ((sortS (keys b)).map .str) := by
  rw [sortN, encB_keys, allStr_map, bnd_some, if_pos h]
theorem ordIt_fold (b : Book) : ∀ (l : List Str) (f : List Str), l.foldl (fun f _ => ordStep b f) f = ordIt b l.length f
  | [], _ => rfl
  | _ :: l, f => by rw [List.foldl_cons, ordIt_fold b l, List.length_cons, ordIt]
theorem ordStep_len (b : Book) (f : List Str) : (ordStep b f).length ≤ f.length + 1 := by
  unfold ordStep; split <;> simp
theorem q_order {h : House} (G : GoodH h) : m_order (encH h) = some (.tuple ((ordP (bk h)).map .str)) := by
  have O := bk_ok G
  unfold m_order
  refine bnd_to _ (by walk_at "ev"; exact q_givers G) ?_
  generalize bk h = b at O
  have ho := O.len
  refine bnd_to [] rfl ?_
  refine bnd_to ((keys b).map .str) (by walk_at "ev"; rw [listN_book]; rfl) ?_
  refine for_to PyData.str (fun f : List Str => f.map .str) (fun f _ => ordStep b f) (fun l f => f.length + l.length ≤ 64) (keys b) [] (by unfold keys; simp; omega) ?hs ?k
  case hs =>
    intro t rest f hz
    rw [List.length_cons] at hz
    have hos := ordStep_len b f
    refine ⟨?_, by omega⟩
    refine bnd_to (.str t) rfl ?_
    refine bnd_to (.list ((readyP b f).map .str)) (lcV_iv PyData.str (fun n => !decide (n ∈ f) && (bget b n).all fun o => decide (o ∈ f)) .str (keys b) (by walk_at "ev"; exact itD_book b) fun n hn => by
      walk_at "ev"
      rw [ixD_book hn]
      walk_at "ev"
      rw [lcD_all PyData.str (fun o => .bool (decide (o ∈ f))) (bget b n) fun o _ => by walk_at "ev"]
      walk_at "ev"
      rw [allD_map]
      walk_at "ev") ?_
    unfold ordStep
    cases hr : readyP b f with
    | nil => rfl
    | cons n rd =>
      walk_at "ev"
      rw [decide_eq_true (by simp <;> omega), iteT_true, List.map_cons]
      walk_at "ev"
      rw [apL_ok (by simp; omega)]
      walk_at "ev"
      rw [List.map_append]
      rfl
  case k =>
    intro f _ hf
    rw [ordIt_fold] at hf
    rw [hf]
    rfl
theorem q_stuck {h : House} (G : GoodH h) : m_stuck (encH h) = some (.tuple (((keys (bk h)).filter fun n => !decide (n ∈ ordP (bk h))).map .str)) := by
  unfold m_stuck
  refine bnd_to _ (by walk_at "ev"; exact q_order G) ?_
  walk_at "ev"
  rw [q_givers G]
  walk_at "ev"
  rw [itD_book]
  walk_at "ev"
  rw [lcD_iv PyData.str (fun n => !decide (n ∈ ordP (bk h))) .str (keys (bk h)) fun n _ => by walk_at "ev"]
  walk_at "ev"
theorem snoc_cases {α : Type} (l : List α) : l = [] ∨ ∃ r x, l = r ++ [x] := by
  cases l with
  | nil => exact .inl rfl
  | cons a l => exact .inr ⟨(a :: l).dropLast, (a :: l).getLast (by simp), (List.dropLast_concat_getLast _).symm⟩
structure SmB (b : Book) : Prop where
  ok : OkB b
  sm : b.length ≤ 7
  vl : ∀ q ∈ b, q.2.length ≤ 64
theorem bk_sm {h : House} (G : GoodH h) : SmB (bk h) where
  ok := bk_ok G
  sm := by unfold bk; rw [List.length_map]; exact G.st.len
  vl := fun q hq => by
    unfold bk at hq
    obtain ⟨p, hp, rfl⟩ := List.mem_map.mp hq
    exact Nat.le_trans (List.length_filterMap_le _ _) (G.st.wf.wl p hp)
theorem SmB.get {b : Book} (O : SmB b) (n : Str) : (bget b n).length ≤ 64 := by
  rcases bget_mem (b := b) (n := n) with e | ⟨q, hq, e⟩
  · rw [e]; simp
  · rw [← e]; exact O.vl q hq
theorem sum_le {α : Type} (g : α → Nat) (c : Nat) (hg : ∀ a, g a ≤ c) : ∀ (l : List α), (l.map g).sum ≤ c * l.length
  | [] => by simp
  | a :: l => by
    have := sum_le g c hg l
    have := hg a
    simp only [List.map_cons, List.sum_cons, List.length_cons, Nat.mul_add]
    omega
theorem mu_start {b : Book} (O : SmB b) (n : Str) : mu b [] (bget b n) < 4096 := by
  have h1 := O.get n
  have h2 := sum_le (fun x => (bget b x).length) 64 O.get ((keys b).filter fun x => !decide (x ∈ ([] : List Str)))
  have h3 : ((keys b).filter fun x => !decide (x ∈ ([] : List Str))).length ≤ 7 := Nat.le_trans (List.length_filter_le _ _) (by unfold keys; rw [List.length_map]; exact O.sm)
  unfold mu
  omega
theorem q_leans {h : House} (G : GoodH h) {n : Str} (hn : n ∈ keys (bk h)) : m_leans (encH h) (.str n) = some (.tuple ((leansOf (bk h) n).map .str)) := by
  have O := bk_sm G
  unfold m_leans
  refine bnd_to _ (by walk_at "ev"; exact q_givers G) ?_
  generalize bk h = b at O hn
  refine bnd_to [] rfl ?_
  refine bnd_to ((bget b n).map .str) (by walk_at "ev"; rw [ixD_book hn]; rfl) ?_
  refine while_to (fun q : List Str × List Str => (q.1.map .str, q.2.map .str)) (fun q => !q.2.isEmpty) (fun q => match q.2.getLast? with
    | none => q
    | some x => if x ∈ q.1 then (q.1, q.2.dropLast) else (q.1 ++ [x], q.2.dropLast ++ bget b x)) (fun q => mu b q.1 q.2) (fun q => LeanInv b n q.1 q.2 ∧ q.1.length + mu b q.1 q.2 ≤ 9000) ([], bget b n) ⟨.start b n, by have := mu_start O n; simp; omega⟩ (mu_start O n) ?hc ?hb ?k
  case hc =>
    intro ⟨f, t⟩ _
    cases t with
    | nil => rfl
    | cons a l => walk_at "ev"; rw [decide_eq_true (by simp <;> omega)]; rfl
  case hb =>
    intro ⟨f, t⟩ ⟨hL, hz⟩ hg
    rcases snoc_cases t with rfl | ⟨t, x, rfl⟩
    · cases hg
    have hk : x ∈ keys b := (hL.tr x (by simp)).key O.ok
    have hbx := O.get x
    have htl : t.length ≤ mu b f (t ++ [x]) := by unfold mu; simp; omega
    simp only at hz htl
    simp only [List.getLast?_append, List.getLast?_singleton, Option.some_or, List.dropLast_concat]
    rw [List.map_append, List.map_cons, List.map_nil]
    rw [popL_snoc]
    walk_at "ev"
    by_cases hx : x ∈ f
    · rw [if_pos hx, decide_eq_true hx]
      refine ⟨rfl, ⟨hL.old hx, ?_⟩, ?_⟩
      · rw [mu_old] at hz; simp only; omega
      · simp only; rw [mu_old]; omega
    · rw [if_neg hx, decide_eq_false hx]
      have hm := mu_new (t := t) O.ok hx hk
      refine ⟨?_, ⟨hL.new hx, ?_⟩, ?_⟩
      · walk_at "ev"
        rw [apL_ok (by simp; omega)]
        walk_at "ev"
        rw [ixD_book hk]
        walk_at "ev"
        rw [exL_ok (by simp; omega)]
        walk_at "ev"
        rw [List.map_append, List.map_append]
        rfl
      · simp only [List.length_append, List.length_cons, List.length_nil]; omega
      · simp only; omega
  case k =>
    intro ⟨f, t⟩ ⟨hL, _⟩ hg
    have ht : t = [] := by cases t with
      | nil => rfl
      | cons a l => cases hg
    subst ht
    walk_at "ev"
    rw [sortN_s]
    walk_at "ev"
    rw [leans_is O.ok hL.nd hL.done]
/-! ### the laws' own ways -/
theorem pl_wants {p : Part} (h : OkP p) : PlAll 1 (p.wants.map encW) := pla_map fun w hw => pl_encW (h.ws w hw)
theorem q_law_give (p : Part) (w : Want) : m__law_give (encP p) (encW w) = some (.bool (lawGive p w)) := by
  unfold m__law_give
  walk_at "ev"
  rw [lcD_iv encF (fun f => decide (f.1 = w.face) && (decide (w.low ≤ f.2) && decide (f.2 ≤ w.high))) (fun f => .int f.2) p.faces fun f _ => by
    walk_at "ev"
    rw [chT_some leB leB _ _ _ (leB_i _ _) (leB_i _ _)]
    walk_at "ev"]
  walk_at "ev"
  rw [neB_nil (n := 1) (pla_map fun f _ => pl_int)]
  walk_at "ev"
  rw [isE_map]
  rfl
theorem foldl_app {α β : Type} (g : α → List β) : ∀ (l : List α) (b : List β), l.foldl (fun b a => b ++ g a) b = b ++ l.flatMap g
  | [], b => by simp
  | a :: l, b => by rw [List.foldl_cons, foldl_app g l]; simp
theorem q_law_stand {h : House} (ok : OkH h) (hl : h.length ≤ 4000) : m__law_stand (encH h) = some (.list ((lawStand h).map encP)) := by
  unfold m__law_stand
  refine bnd_to (.list (h.map encP)) rfl ?_
  refine bnd_to ((List.range 7).map fun k => .int ((k : Nat) : Int)) rfl ?_
  refine for_to (fun k : Nat => .int ((k : Nat) : Int)) (fun ps : List Part => .list (ps.map encP)) (fun ps _ => lawStep ps) (fun _ ps => OkH ps ∧ ps.length ≤ 4000) (List.range 7) h ⟨ok, hl⟩ ?hs ?k
  case hs =>
    intro _ _ ps ⟨okp, hlp⟩
    refine ⟨?_, okp.filter, Nat.le_trans (lawStep_len ps) hlp⟩
    refine bnd_to _ rfl ?_
    refine bnd_to [] rfl ?_
    refine bnd_to (ps.map encP) rfl ?_
    refine for_to encP (fun b : List Part => b.map encP) (fun b p => b ++ (if lawGood ps p p.wants then [p] else [])) (fun l b => b.length + l.length ≤ 4000) ps [] (by simpa using hlp) ?hs2 ?k2
    case hs2 =>
      intro p rest b hb
      rw [List.length_cons] at hb
      refine ⟨?_, by rw [List.length_append]; split <;> simp <;> omega⟩
      refine bnd_to _ rfl ?_
      refine bnd_to (.bool true) rfl ?_
      refine bnd_to (p.wants.map encW) rfl ?_
      refine for_to encW PyData.bool (fun g w => g && (!(lawOthers ps p.name w).isEmpty || !w.must)) (fun _ _ => True) p.wants true trivial ?hs3 ?k3
      case hs3 =>
        intro w _ g _
        refine ⟨?_, trivial⟩
        refine bnd_to _ rfl ?_
        refine bnd_to _ (lcV_iv encP (fun q => !decide (q.name = p.name) && lawGive q w) encP ps rfl fun q _ => by walk_at "ev"; rw [q_law_give]; walk_at "ev") ?_
        walk_at "ev"
        rw [neB_nil (pl_parts (n := 0) okp.filter), isE_map]
        walk_at "ev"
        rfl
      case k3 =>
        intro g _ hg
        have e : g = lawGood ps p p.wants := by
          rw [hg]
          have : ∀ (l : List Want) (g : Bool), l.foldl (fun g w => g && (!(lawOthers ps p.name w).isEmpty || !w.must)) g = (g && lawGood ps p l) := by
            intro l
            induction l with
            | nil => intro g; simp [lawGood]
            | cons a l ih => intro g; rw [List.foldl_cons, ih]; simp [lawGood, Bool.and_assoc]
          rw [this]; simp
        rw [e]
        walk_at "ev"
        cases lawGood ps p p.wants with
        | false => simp
        | true => rw [iteT_true, apL_ok (by simp; omega)]; simp
    case k2 =>
      intro b _ hb
      rw [hb, foldl_app]
      have e : (ps.flatMap fun p => if lawGood ps p p.wants then [p] else []) = lawStep ps := by
        unfold lawStep
        have : ∀ l : List Part, (l.flatMap fun p => if lawGood ps p p.wants then [p] else []) = l.filter fun p => lawGood ps p p.wants := by
          intro l
          induction l with
          | nil => rfl
          | cons a l ih => rw [List.flatMap_cons, ih, List.filter_cons]; split <;> simp
        exact this ps
      rw [e]
      rfl
  case k =>
    intro ps _ hps
    have e : ps = lawStand h := by rw [hps]; rfl
    rw [e]
    rfl
theorem sortN_IS (l : List (Int × Str)) : sortN (.list (l.map encIS)) = some ((sortIS l).map encIS) := by
  rw [← sortIS_map]; exact if_pos (soB_map (.tup [.int, .str]) (fun _ _ => rfl) fun _ _ => rfl)
theorem q_law_giver {ps : List Part} (hl : ps.length ≤ 4000) (n : Str) (w : Want) : m__law_giver (.list (ps.map encP)) (.str n) (encW w) = some (optS (lawGiver ps n w)) := by
  unfold m__law_giver
  refine bnd_to (.list ((lawSome ps n w).map encIS)) ?_ ?_
  · refine (lcV_iv encP (fun q => !decide (q.name = n) && lawGive q w) (fun q => encIS (0 - makeOf q w.face, q.name)) ps rfl ?h).trans ?_
    case h =>
      intro q _
      walk_at "ev"
      rw [q_law_give]
      walk_at "ev"
      rw [show dictN (.tuple (q.faces.map encF)) = some (mergeD [] (facesK q.faces)) from by rw [dictN, pairsK_faces]; rfl]
      walk_at "ev"
      cases hc : (!decide (q.name = n) && lawGive q w) with
      | false => rfl
      | true =>
        rw [Bool.and_eq_true] at hc
        show keepE (some true) (tupV (arg1 (op2 subD _ (lookD _ (.inr w.face))) _)) = _
        rw [lawGive_look hc.2]
        rfl
    unfold lawSome lawOthers
    rw [List.map_map]
    rfl
  · walk_at "ev"
    rw [sortN_IS]
    walk_at "ev"
    have hls := lawSome_len ps n w
    have hlen : (sortIS (lawSome ps n w)).length ≤ 4000 := by
      unfold sortIS; rw [List.length_mergeSort]; omega
    rw [addD_l (by simp; omega)]
    walk_at "ev"
    unfold lawGiver
    cases sortIS (lawSome ps n w) with
    | nil => rfl
    | cons q l => simp [ixL0]; rfl
theorem q_law_givers {h : House} (G : GoodH h) : m__law_givers (encH h) = some (.dict (encB (bk h))) := by
  have hl := G.wf.len
  unfold m__law_givers
  refine bnd_to (.list ((st h).map encP)) (by walk_at "ev"; rw [q_law_stand G.wf.ok (by omega), G.stand]) ?_
  refine bnd_to [] rfl ?_
  refine bnd_to ((st h).map encP) rfl ?_
  refine for_to encP encB (fun b p => b ++ [(p.name, p.wants.filterMap (lawGiver (st h) p.name))]) (fun l b => b ++ l.map (fun p => (p.name, p.wants.filterMap (lawGiver (st h) p.name))) = bk h ∧ (∀ p ∈ l, p ∈ st h)) (st h) [] ⟨rfl, fun _ h => h⟩ ?hs ?k
  case hs =>
    rintro p rest b ⟨hb, hm⟩
    have hn : p.name ∉ keys b := fresh_key G hb
    refine ⟨?_, by rw [List.append_assoc]; exact hb, fun q hq => hm q (List.mem_cons_of_mem _ hq)⟩
    have hz : (encB b).length ≤ 1000 := by
      have h1 := congrArg List.length hb
      have h2 := G.st.wf.len
      unfold bk at *
      simp only [List.length_append, List.length_map, List.length_cons] at *
      unfold encB
      rw [List.length_map]; omega
    refine bnd_to _ rfl ?_
    refine bnd_to (.list (p.wants.map fun w => optS (lawGiver (st h) p.name w))) (lcV_all encW _ p.wants rfl fun w _ => by walk_at "ev"; rw [q_law_giver (by have := G.st.wf.len; omega)]; rfl) ?_
    refine bnd_to _ (by
      walk_at "ev"
      rw [lcD_iv (fun w => optS (lawGiver (st h) p.name w)) (fun w => !isNon (optS (lawGiver (st h) p.name w))) (fun w => optS (lawGiver (st h) p.name w)) p.wants fun w _ => by walk_at "ev"]
      walk_at "ev"
      rw [putN_ok (by omega), opts_eq, put_book _ hn]) ?_
    rfl
  case k =>
    intro b ⟨hb, _⟩ _
    rw [List.map_nil, List.append_nil] at hb
    rw [hb]
end DL


namespace DL
open PySem PySem.Spec PyProof.Rows L2
/-! ### the greatest set that stands -/
def Sup (S : List Part) : Prop := ∀ p ∈ S, ∀ w ∈ p.wants, w.must = true → ∃ q ∈ S, q.name ≠ p.name ∧ gives q w = true
theorem lacks_nil {ps : List Part} {p : Part} : (lacksL ps p).isEmpty = true ↔ ∀ w ∈ p.wants, w.must = true → ∃ q ∈ ps, q.name ≠ p.name ∧ gives q w = true := by
  unfold lacksL
  rw [isE_map, List.isEmpty_iff, List.filter_eq_nil_iff]
  constructor
  · intro h w hw hm
    have := h w hw
    rw [hm, Bool.true_and, Bool.not_eq_true] at this
    have hne : giversFor ps p.name w ≠ [] := fun e => by rw [e] at this; cases this
    obtain ⟨q, hq⟩ := List.exists_mem_of_ne_nil _ hne
    unfold giversFor at hq
    rw [List.mem_filter, Bool.and_eq_true] at hq
    exact ⟨q, hq.1, by simpa using hq.2.1, hq.2.2⟩
  · intro h w hw
    rw [Bool.and_eq_true, not_and]
    intro hm he
    obtain ⟨q, hq, h1, h2⟩ := h w hw hm
    rw [List.isEmpty_iff] at he
    have : q ∈ giversFor ps p.name w := List.mem_filter.mpr ⟨hq, by rw [h2]; simpa using h1⟩
    rw [he] at this
    cases this
theorem standIt_fix : ∀ (n : Nat) (ps : List Part), ps.length ≤ n → stands (standIt n ps) = standIt n ps
  | 0, ps, h => by
    have : ps = [] := List.length_eq_zero_iff.mp (by omega)
    subst this; rfl
  | n + 1, ps, h => by
    rw [standIt]
    split
    · exact standIt_fix n _ (by omega)
    · unfold stands
      rw [List.filter_eq_self]
      have : (stands ps).length = ps.length := by have := stands_len ps; omega
      unfold stands at this
      exact List.length_filter_eq_length_iff.mp this
theorem sup_st (h : List Part) : Sup (st h) := fun p hp => by
  have e := standIt_fix h.length h (Nat.le_refl _)
  have e : stands (st h) = st h := e
  have hp2 : p ∈ stands (st h) := by rw [e]; exact hp
  exact lacks_nil.mp (List.mem_filter.mp hp2).2
theorem standIt_max {S : List Part} (hS : Sup S) : ∀ (n : Nat) (ps : List Part), (∀ p ∈ S, p ∈ ps) → ∀ p ∈ S, p ∈ standIt n ps
  | 0, ps, h => h
  | n + 1, ps, h => by
    rw [standIt]
    split
    · refine standIt_max hS n _ fun p hp => List.mem_filter.mpr ⟨h p hp, lacks_nil.mpr fun w hw hm => ?_⟩
      obtain ⟨q, hq, h1, h2⟩ := hS p hp w hw hm
      exact ⟨q, h q hq, h1, h2⟩
    · exact h
theorem st_max {h S : List Part} (hS : Sup S) (sub : ∀ p ∈ S, p ∈ h) : ∀ p ∈ S, p ∈ st h := standIt_max hS _ h sub
theorem sub_eq {α : Type} [DecidableEq α] {l m h : List α} (hl : l.Sublist h) (hm : m.Sublist h) (nd : h.Nodup) (e : ∀ x, x ∈ l ↔ x ∈ m) : l = m := by
  induction h generalizing l m with
  | nil => rw [List.sublist_nil.mp hl, List.sublist_nil.mp hm]
  | cons a h ih =>
    rw [List.nodup_cons] at nd
    cases hl with
    | cons _ hl =>
      have na : a ∉ l := fun z => nd.1 (hl.subset z)
      cases hm with
      | cons _ hm => exact ih hl hm nd.2 e
      | cons_cons _ hm => exact absurd ((e a).mpr (by simp)) na
    | cons_cons _ hl =>
      cases hm with
      | cons _ hm => exact absurd ((e a).mp (by simp)) fun z => nd.1 (hm.subset z)
      | cons_cons _ hm =>
        rename_i l' m'
        have : l' = m' := ih hl hm nd.2 fun x => by
          have := e x
          simp only [List.mem_cons] at this
          constructor
          · intro hx
            rcases this.mp (.inr hx) with z | z
            · exact absurd (hl.subset hx) (z ▸ nd.1)
            · exact z
          · intro hx
            rcases this.mpr (.inr hx) with z | z
            · exact absurd (hm.subset hx) (z ▸ nd.1)
            · exact z
        rw [this]
theorem sub_eqP {l m h : List Part} (hl : l.Sublist h) (hm : m.Sublist h) (nd : h.Pairwise fun p q => p.name.cps.toList < q.name.cps.toList) (e : ∀ x, x ∈ l ↔ x ∈ m) : l = m := by
  have nd' : h.Nodup := nd.imp fun {p q} z e => by rw [e] at z; exact List.lt_irrefl _ z
  classical
  exact sub_eq hl hm nd' e
/-- what stands, of a part of a house and of the house -/
theorem st_mono {h g : List Part} (sub : ∀ p ∈ g, p ∈ h) : ∀ p ∈ st g, p ∈ st h := st_max (sup_st g) fun p hp => sub p (st_sub g p hp)
theorem st_st {h : List Part} (G : GoodH h) : st (st h) = st h :=
  sub_eqP (standIt_sublist _ _) (.refl _) G.st.nm fun p => ⟨fun hp => st_sub _ p hp, fun hp => st_max (sup_st h) (fun _ z => z) p hp⟩
theorem bk_st {h : List Part} (G : GoodH h) : bk (st h) = bk h := by unfold bk; rw [st_st G]
/-! ### the best giver -/
theorem best_all {x : Str} {l : List Part} {q : Part} (nm : l.Pairwise fun p q => p.name.cps.toList < q.name.cps.toList) (h : bestOf x l = some q) : q ∈ l ∧ ∀ p ∈ l, p = q ∨ Beats x p q := by
  cases l with
  | nil => cases h
  | cons b l => exact best_inv x l b q nm h
theorem beats_not {x : Str} {p q : Part} (h1 : Beats x p q) (h2 : Beats x q p) : False := by
  rcases h1 with h1 | ⟨h1, n1⟩ <;> rcases h2 with h2 | ⟨h2, n2⟩
  · omega
  · omega
  · omega
  · exact List.lt_irrefl _ (List.lt_trans n1 n2)
theorem best_is {x : Str} {l : List Part} {q : Part} (nm : l.Pairwise fun p q => p.name.cps.toList < q.name.cps.toList) (hq : q ∈ l) (h : ∀ p ∈ l, p = q ∨ Beats x p q) : bestOf x l = some q := by
  cases l with
  | nil => cases hq
  | cons b l =>
    obtain ⟨r, hr⟩ := best_some x l b
    have hr : bestOf x (b :: l) = some r := hr
    obtain ⟨m, k⟩ := best_all nm hr
    rw [hr]
    rcases h r m with e | e
    · rw [e]
    · rcases k q hq with e' | e'
      · rw [e']
      · exact (beats_not e e').elim
theorem best_none {x : Str} {l : List Part} : bestOf x l = none ↔ l = [] := by
  cases l with
  | nil => exact ⟨fun _ => rfl, fun _ => rfl⟩
  | cons b l =>
    obtain ⟨r, hr⟩ := best_some x l b
    have hr : bestOf x (b :: l) = some r := hr
    rw [hr]
    simp
/-- q is the one that gives -/
structure IsG (ps : List Part) (n : Str) (w : Want) (q : Part) : Prop where
  mem : q ∈ ps
  ne : q.name ≠ n
  gv : gives q w = true
  best : ∀ p ∈ ps, p.name ≠ n → gives p w = true → p = q ∨ Beats w.face p q
theorem mem_for {ps : List Part} {n : Str} {w : Want} {p : Part} : p ∈ giversFor ps n w ↔ p ∈ ps ∧ p.name ≠ n ∧ gives p w = true := by
  unfold giversFor
  rw [List.mem_filter, Bool.and_eq_true]
  simp
theorem giver_some {ps : List Part} (G : GoodH ps) {n m : Str} {w : Want} : giverAmong ps n w = some m ↔ ∃ q, IsG ps n w q ∧ q.name = m := by
  have nm : (giversFor ps n w).Pairwise fun p q => p.name.cps.toList < q.name.cps.toList := G.nm.filter _
  unfold giverAmong
  rw [Option.map_eq_some_iff]
  constructor
  · rintro ⟨q, h1, h2⟩
    obtain ⟨h3, h4⟩ := best_all nm h1
    have h5 := mem_for.mp h3
    exact ⟨q, ⟨h5.1, h5.2.1, h5.2.2, fun p hp h6 h7 => h4 p (mem_for.mpr ⟨hp, h6, h7⟩)⟩, h2⟩
  · rintro ⟨q, h1, h2⟩
    exact ⟨q, best_is nm (mem_for.mpr ⟨h1.mem, h1.ne, h1.gv⟩) fun p hp => h1.best p (mem_for.mp hp).1 (mem_for.mp hp).2.1 (mem_for.mp hp).2.2, h2⟩
theorem giver_no {ps : List Part} {n : Str} {w : Want} : giverAmong ps n w = none ↔ ∀ q ∈ ps, q.name ≠ n → gives q w = false := by
  unfold giverAmong
  rw [Option.map_eq_none_iff, best_none]
  constructor
  · intro h q hq hn
    cases e : gives q w with
    | false => rfl
    | true =>
      have := mem_for.mpr ⟨hq, hn, e⟩
      rw [h] at this
      cases this
  · intro h
    cases e : giversFor ps n w with
    | nil => rfl
    | cons a l =>
      have : a ∈ giversFor ps n w := by rw [e]; simp
      have := mem_for.mp this
      rw [h a this.1 this.2.1] at this
      exact absurd this.2.2 (by simp)
/-- fewer parts, of whom the one that gave is one -/
theorem giver_sub {ps qs : List Part} (G : GoodH ps) (H : GoodH qs) (sub : ∀ p ∈ qs, p ∈ ps) {n : Str} {w : Want} (k : ∀ q, IsG ps n w q → q ∈ qs) : giverAmong qs n w = giverAmong ps n w := by
  cases e : giverAmong ps n w with
  | none => exact giver_no.mpr fun q hq => giver_no.mp e q (sub q hq)
  | some m =>
    obtain ⟨q, hq, hm⟩ := (giver_some G).mp e
    exact (giver_some H).mpr ⟨q, ⟨k q hq, hq.ne, hq.gv, fun p hp => hq.best p (sub p hp)⟩, hm⟩
/-! ### the book -/
def gvs (ps : List Part) (p : Part) : List Str := p.wants.filterMap (giverAmong ps p.name)
theorem bk_eq {h : List Part} (G : GoodH h) : bk h = (st h).map fun p => (p.name, gvs (st h) p) := by
  unfold bk
  apply List.map_congr_left
  intro p hp
  show (p.name, _) = (p.name, _)
  congr 1
  exact fm_congr fun w hw => (giver_eq G.st ((G.gp p (st_sub h p hp)).lo w hw)).symm
theorem keys_bk (h : List Part) : keys (bk h) = (st h).map (·.name) := by unfold keys bk; rw [List.map_map]; rfl
theorem bget_of {b : Book} (nd : (keys b).Nodup) {q : Str × List Str} (hq : q ∈ b) : bget b q.1 = q.2 := by
  unfold bget
  have : b.find? (fun r => decide (r.1 = q.1)) = some q := by
    unfold keys at nd
    induction b with
    | nil => cases hq
    | cons a b ih =>
      rw [List.map_cons, List.nodup_cons] at nd
      rw [List.find?_cons]
      rcases List.mem_cons.mp hq with e | hq
      · rw [e]; simp
      · have : a.1 ≠ q.1 := fun z => nd.1 (List.mem_map.mpr ⟨q, hq, z.symm⟩)
        rw [decide_eq_false this]
        exact ih nd.2 hq
  rw [this]; rfl
theorem bget_none {b : Book} {n : Str} (h : n ∉ keys b) : bget b n = [] := by
  unfold bget
  have : b.find? (fun r => decide (r.1 = n)) = none := by
    rw [List.find?_eq_none]
    intro q hq
    simp only [decide_eq_true_eq]
    exact fun e => h (List.mem_map.mpr ⟨q, hq, e⟩)
  rw [this]; rfl
theorem bget_bk {h : List Part} (G : GoodH h) {p : Part} (hp : p ∈ st h) : bget (bk h) p.name = gvs (st h) p := by
  have nd := bk_nodup G
  rw [bk_eq G] at nd ⊢
  exact bget_of (q := (p.name, gvs (st h) p)) nd (List.mem_map.mpr ⟨p, hp, rfl⟩)
theorem mem_keys {h : List Part} {n : Str} : n ∈ keys (bk h) ↔ ∃ p ∈ st h, p.name = n := by rw [keys_bk, List.mem_map]
/-! ### who begins -/
inductive Beg (b : Book) : Str → Prop
  | mk {x : Str} : x ∈ keys b → (∀ y ∈ bget b x, Beg b y) → Beg b x
theorem ready_mem {b : Book} {f : List Str} {n : Str} : n ∈ readyP b f ↔ n ∈ keys b ∧ n ∉ f ∧ ∀ o ∈ bget b n, o ∈ f := by
  unfold readyP
  rw [List.mem_filter, Bool.and_eq_true, List.all_eq_true]
  simp
theorem ordStep_cases (b : Book) (f : List Str) : (readyP b f = [] ∧ ordStep b f = f) ∨ ∃ n, (∃ l, readyP b f = n :: l) ∧ ordStep b f = f ++ [n] := by
  unfold ordStep
  cases h : readyP b f with
  | nil => exact .inl ⟨rfl, rfl⟩
  | cons n l => exact .inr ⟨n, ⟨l, rfl⟩, rfl⟩
/-- what holds of the names that began -/
structure OrdInv (b : Book) (f : List Str) : Prop where
  nd : f.Nodup
  bg : ∀ x ∈ f, Beg b x
  cl : ∀ (pre post : List Str) (x : Str), f = pre ++ x :: post → ∀ y ∈ bget b x, y ∈ pre
theorem OrdInv.key {b : Book} {f : List Str} (h : OrdInv b f) : ∀ x ∈ f, x ∈ keys b := fun x hx => by
  cases h.bg x hx with
  | mk k _ => exact k
theorem OrdInv.nil (b : Book) : OrdInv b [] := ⟨.nil, (fun _ h => nomatch h), fun pre post x e => absurd e.symm (by simp)⟩
theorem OrdInv.snoc {b : Book} {f : List Str} (h : OrdInv b f) {n : Str} (hn : n ∈ readyP b f) : OrdInv b (f ++ [n]) := by
  obtain ⟨h1, h2, h3⟩ := ready_mem.mp hn
  refine ⟨?_, fun x hx => ?_, fun pre post x e y hy => ?_⟩
  · rw [List.nodup_append]
    exact ⟨h.nd, by simp, fun a ha c hc e => h2 (by simp at hc; rw [← hc, ← e]; exact ha)⟩
  · rcases List.mem_append.mp hx with hx | hx
    · exact h.bg x hx
    · simp at hx; subst hx; exact .mk h1 fun y hy => h.bg y (h3 y hy)
  · rcases snoc_cases post with rfl | ⟨post', z, rfl⟩
    · obtain ⟨rfl, rfl⟩ : f = pre ∧ n = x := by
        have := List.append_inj' (s₁ := f) (t₁ := [n]) (s₂ := pre) (t₂ := [x]) e rfl
        simpa using this
      exact h3 y hy
    · have e' : f ++ [n] = (pre ++ x :: post') ++ [z] := by rw [e]; simp
      have := (List.append_inj' e' rfl).1
      exact h.cl pre post' x this y hy
theorem OrdInv.step {b : Book} {f : List Str} (h : OrdInv b f) : OrdInv b (ordStep b f) := by
  rcases ordStep_cases b f with ⟨_, e⟩ | ⟨n, ⟨l, e1⟩, e⟩
  · rw [e]; exact h
  · rw [e]; exact h.snoc (by rw [e1]; simp)
theorem ordIt_inv {b : Book} : ∀ (m : Nat) {f : List Str}, OrdInv b f → OrdInv b (ordIt b m f)
  | 0, _, h => h
  | m + 1, _, h => ordIt_inv m h.step
theorem ord_inv (b : Book) : OrdInv b (ordP b) := ordIt_inv _ (.nil b)
theorem nd_len : ∀ {f l : List Str}, f.Nodup → (∀ x ∈ f, x ∈ l) → f.length ≤ l.length
  | [], _, _, _ => Nat.zero_le _
  | a :: f, l, n, s => by
    rw [List.nodup_cons] at n
    have ha : a ∈ l := s a List.mem_cons_self
    have h1 := nd_len (l := l.erase a) n.2 fun x hx => (List.mem_erase_of_ne (fun e => n.1 (by rw [← e]; exact hx))).mpr (s x (List.mem_cons_of_mem _ hx))
    rw [List.length_erase_of_mem ha] at h1
    have := List.length_pos_of_mem ha
    rw [List.length_cons]; omega
theorem nd_all {f l : List Str} (n : f.Nodup) (s : ∀ x ∈ f, x ∈ l) (h : l.length ≤ f.length) {x : Str} (hx : x ∈ l) : x ∈ f := by
  apply Decidable.byContradiction
  intro hn
  have := nd_len (f := x :: f) (l := l) (List.nodup_cons.mpr ⟨hn, n⟩) fun y hy => by
    rcases List.mem_cons.mp hy with rfl | hy
    · exact hx
    · exact s y hy
  rw [List.length_cons] at this
  omega
/-- it has come to its end -/
theorem ordIt_end {b : Book} : ∀ (m : Nat) {f : List Str}, OrdInv b f → (keys b).length ≤ f.length + m → readyP b (ordIt b m f) = []
  | 0, f, h, hl => by
    cases e : readyP b f with
    | nil => exact e
    | cons n l =>
      have hn : n ∈ readyP b f := by rw [e]; simp
      obtain ⟨h1, h2, _⟩ := ready_mem.mp hn
      exact absurd (nd_all h.nd h.key (by omega) h1) h2
  | m + 1, f, h, hl => by
    rcases ordStep_cases b f with ⟨e1, e⟩ | ⟨n, ⟨l, e1⟩, e⟩
    · rw [ordIt_stop e1]; exact e1
    · rw [ordIt]
      refine ordIt_end m h.step ?_
      rw [e, List.length_append]
      simp only [List.length_cons, List.length_nil]
      omega
theorem ord_end (b : Book) : readyP b (ordP b) = [] := ordIt_end _ (.nil b) (by simp)
theorem mem_ord {b : Book} {x : Str} : x ∈ ordP b ↔ Beg b x := by
  refine ⟨fun h => (ord_inv b).bg x h, fun h => ?_⟩
  induction h with
  | mk k _ ih =>
    apply Decidable.byContradiction
    intro hn
    have := ready_mem.mpr ⟨k, hn, ih⟩
    rw [ord_end] at this
    cases this
/-- more turns change nothing -/
theorem ordIt_more {b : Book} {f : List Str} (h : OrdInv b f) {m k : Nat} (hm : (keys b).length ≤ f.length + m) (hk : (keys b).length ≤ f.length + k) : ordIt b m f = ordIt b k f := by
  induction m generalizing f k with
  | zero =>
    have : readyP b f = [] := ordIt_end 0 h hm
    rw [ordIt, ordIt_stop this]
  | succ m ih =>
    rcases ordStep_cases b f with ⟨e1, e⟩ | ⟨n, ⟨l, e1⟩, e⟩
    · rw [ordIt_stop e1, ordIt_stop e1]
    · cases k with
      | zero =>
        have : readyP b f = [] := ordIt_end 0 h hk
        rw [this] at e1; cases e1
      | succ k =>
        rw [ordIt, ordIt]
        have el : (ordStep b f).length = f.length + 1 := by rw [e]; simp
        exact ih h.step (by omega) (by omega)
/-- two books, of which one knows more names on which none of the others leans -/
theorem ord_sim {b c : Book} {P : Str → Bool} (hk : keys c = (keys b).filter P) (hg : ∀ x ∈ keys c, bget c x = bget b x) (hP : ∀ x ∈ keys c, ∀ y ∈ bget b x, P y = true) : ∀ (m : Nat) (f : List Str), OrdInv b f → (keys b).length ≤ f.length + m → ∀ k, (keys c).length ≤ (f.filter P).length + k → OrdInv c (f.filter P) → ordIt c k (f.filter P) = (ordIt b m f).filter P := by
  have rdy : ∀ f, readyP c (f.filter P) = (readyP b f).filter P := by
    intro f
    unfold readyP
    rw [hk, List.filter_filter, List.filter_filter]
    apply List.filter_congr
    intro x hx
    cases hp : P x with
    | false => simp
    | true =>
      have hc : x ∈ keys c := by rw [hk]; exact List.mem_filter.mpr ⟨hx, hp⟩
      rw [hg x hc]
      have e1 : decide (x ∈ f.filter P) = decide (x ∈ f) := by simp [hp]
      have e2 : ((bget b x).all fun o => decide (o ∈ f.filter P)) = (bget b x).all fun o => decide (o ∈ f) := by
        rw [Bool.eq_iff_iff, List.all_eq_true, List.all_eq_true]
        constructor
        · intro h y hy
          have := h y hy
          simp only [decide_eq_true_eq] at this ⊢
          exact (List.mem_filter.mp this).1
        · intro h y hy
          have := h y hy
          simp only [decide_eq_true_eq] at this ⊢
          exact List.mem_filter.mpr ⟨this, hP x hc y hy⟩
      rw [e1, e2]; simp
  intro m
  induction m with
  | zero =>
    intro f h hl k hkk hc
    have e : readyP b f = [] := ordIt_end 0 h hl
    have e2 : readyP c (f.filter P) = [] := by rw [rdy, e]; rfl
    rw [ordIt_stop e2]; rfl
  | succ m ih =>
    intro f h hl k hkk hc
    rcases ordStep_cases b f with ⟨e1, e⟩ | ⟨n, ⟨l, e1⟩, e⟩
    · have e2 : readyP c (f.filter P) = [] := by rw [rdy, e1]; rfl
      rw [ordIt_stop e2, ordIt_stop e1]
    · rw [ordIt, e]
      have hs : OrdInv b (f ++ [n]) := h.snoc (by rw [e1]; simp)
      have hl2 : (keys b).length ≤ (f ++ [n]).length + m := by simp; omega
      cases hp : P n with
      | false =>
        have e3 : (f ++ [n]).filter P = f.filter P := by simp [hp]
        rw [← e3]
        exact ih (f ++ [n]) hs hl2 k (by rw [e3]; exact hkk) (by rw [e3]; exact hc)
      | true =>
        have e3 : (f ++ [n]).filter P = f.filter P ++ [n] := by simp [hp]
        have er : readyP c (f.filter P) = n :: l.filter P := by rw [rdy, e1, List.filter_cons, if_pos hp]
        cases k with
        | zero =>
          have : readyP c (f.filter P) = [] := ordIt_end 0 hc hkk
          rw [er] at this; cases this
        | succ k =>
          have es : ordStep c (f.filter P) = f.filter P ++ [n] := by unfold ordStep; rw [er]
          rw [ordIt, es, ← e3]
          refine ih (f ++ [n]) hs hl2 k (by rw [e3]; simp; omega) ?_
          rw [e3]
          exact hc.snoc (by rw [er]; simp)
theorem ordP_sim {b c : Book} {P : Str → Bool} (hk : keys c = (keys b).filter P) (hg : ∀ x ∈ keys c, bget c x = bget b x) (hP : ∀ x ∈ keys c, ∀ y ∈ bget b x, P y = true) : ordP c = (ordP b).filter P := by
  have := ord_sim hk hg hP (keys b).length [] (.nil b) (by simp) (keys c).length (by simp) (.nil c)
  simpa [ordP] using this
end DL


namespace DL
open PySem PySem.Spec PyProof.Rows L2
local macro_rules | `(tactic| walk_at "ev") => `(tactic| try simp only [bnd_some, op1_some, op2_some, op3_some, op4_some, op3s_some, slP_int, boV_some, tB_some, lsV_some, dcV_some, lcD_some, arg1_some, dec1_eq, dec2_eq, dec3_eq, dec4_eq, dec5_eq, jn_nx, jn_rt, iteT_true, iteT_false, notT_some, andT_some, orT_some, andT_false, orT_true, andT_true, orT_false, ixP0, ixP1, ixP2, ixP3, ixP4, ixW0, ixW1, ixW2, ixW3, ixK0, ixK1, ixK2, dec2F, dec2SS, ixT0, ixL0, itD_l, itD_t, itD_h, itL_eq, listN_l, listN_t, listN_h, tupD_l, lenD_l, lenD_t, lenD_h, addD_i, subD_i, negD_i, ltB_i, leB_i, gtB_i, geB_i, eqB_i, eqB_s, neB_s, neB_i, isNB_eq, isNNB_eq, lstV_nil, tupV_nil, tupV1, tupV2, tupV3, tupV4, tupV5, tupV6, lstV1, lstV2, lstV3, intD_b, intD_i, minD_i, keepE_some, keepE_true, keepE_false, inB_sl, inB_st, ninB_eq, List.length_map, if_true, if_false, Bool.false_eq_true])
theorem q_law_order {h : House} (G : GoodH h) : m__law_order (encH h) = some (.tuple ((ordP (bk h)).map .str)) := by
  rw [← ord_eq G]
  have O := bk_ok G
  unfold m__law_order
  refine bnd_to _ (by walk_at "ev"; exact q_law_givers G) ?_
  generalize bk h = b at O
  have hlk : (keys b).length < 64 := by unfold keys; rw [List.length_map]; exact O.len
  refine bnd_to [] rfl ?_
  refine bnd_to (.list ((sortS (keys b)).map .str)) (by walk_at "ev"; rw [sortN_book hlk]; rfl) ?_
  refine while_to2 (fun q : Nat × List Str × List Str => (q.2.1.map .str, .list (q.2.2.map .str))) (fun q => !q.2.2.isEmpty) (fun q => q.1) (fun q => lawOrdIt q.1 b q.2.1 q.2.2 = lawOrd b ∧ q.2.2.length ≤ q.1 ∧ SubK q.2.2 b ∧ q.2.1.length + q.1 ≤ 64) (fun q => q.2.1 = lawOrd b) (b.length, [], sortS (keys b)) ⟨rfl, ?h1, ?h2, ?h3⟩ ?hn ?hc ?hb ?hj ?k
  case h1 => simp only; rw [(sortS_perm _).length_eq]; unfold keys; rw [List.length_map]; exact Nat.le_refl _
  case h2 => exact fun n hn => (sortS_perm _).mem_iff.mp hn
  case h3 => have := O.len; simp; omega
  case hn => have := O.len; simp only; omega
  case hc =>
    rintro ⟨m, f, left⟩ ⟨hs, hlm, hsub, hfl⟩
    walk_at "ev"
    rw [neB_nil (pl_strs (n := 0) (hsub.ok O)), isE_map]
  case hj =>
    rintro ⟨m, f, left⟩ ⟨hs, hlm, hsub, hfl⟩ hg
    have e : left = [] := by cases left with
      | nil => rfl
      | cons a l => cases hg
    subst e
    simp only at hs
    rw [← hs]
    cases m with
    | zero => rfl
    | succ m => rfl
  case hb =>
    rintro ⟨m, f, left⟩ ⟨hs, hlm, hsub, hfl⟩ hg
    simp only at hs hlm hsub hfl hg
    have e : lsV (lcD (op1 itD (some (.list (left.map .str)))) fun x => bnd (dec1 x) fun v6 => keepE (op2 eqB (lsV (lcD (op1 itD (op2 ixD (some (.dict (encB b))) (some v6))) fun x => bnd (dec1 x) fun v7 => keepE (op2 ninB (some v7) (some (.list (f.map .str)))) (some v7))) (lsV (lstV (some [])))) (some v6)) = some (.list ((readyL b f left).map .str)) := by
      refine lcV_iv PyData.str (fun n => ((bget b n).filter fun o => !decide (o ∈ f)).isEmpty) .str left rfl fun n hn => ?_
      walk_at "ev"
      rw [ixD_book (hsub n hn)]
      walk_at "ev"
      rw [lcD_iv PyData.str (fun o => !decide (o ∈ f)) .str (bget b n) fun o _ => by walk_at "ev"]
      walk_at "ev"
      rw [eqB_nil (pl_strs (n := 0) O.get.filter), isE_map]
      walk_at "ev"
    have okr : OkS (readyL b f left) := (hsub.ok O).filter
    cases hrd : readyL b f left with
    | nil =>
      refine .inr ⟨(m, f, left), ?_, ?_⟩
      · refine bnd_to _ e ?_
        rw [hrd]
        rfl
      · simp only
        rw [← hs]
        cases m with
        | zero => rfl
        | succ m => rw [lawOrdIt, hrd]
    | cons n rd =>
      have nl : n ∈ left := by
        have : n ∈ readyL b f left := by rw [hrd]; simp
        exact (List.mem_filter.mp this).1
      have hlt : (left.filter fun x => !decide (x = n)).length < left.length := by
        rw [List.length_filter_lt_length_iff_exists]
        exact ⟨n, nl, by simp⟩
      cases m with
      | zero => omega
      | succ m =>
      refine .inl ⟨(m, f ++ [n], left.filter fun x => !decide (x = n)), ?_, ⟨?_, ?_, hsub.filter, ?_⟩, ?_⟩
      · refine bnd_to _ e ?_
        rw [hrd] at okr ⊢
        walk_at "ev"
        rw [eqB_nil (pl_strs (n := 0) okr), isE_map]
        walk_at "ev"
        show iteT (some false) _ _ = _
        rw [iteT_false]
        simp only [List.map_cons]
        walk_at "ev"
        rw [apL_ok (by simp; omega)]
        walk_at "ev"
        rw [lcD_iv PyData.str (fun x => !decide (x = n)) .str left fun o _ => by walk_at "ev"]
        walk_at "ev"
        rw [List.map_append]
        rfl
      · simp only; rw [← hs, lawOrdIt, hrd]
      · simp only; omega
      · simp only [List.length_append, List.length_cons, List.length_nil]; omega
      · simp only; omega
  case k =>
    rintro ⟨m, f, left⟩ hf
    simp only at hf
    rw [hf]
    rfl
theorem OkS.leans {b : Book} (O : OkB b) (n : Str) : OkS (leansOf b n) := by
  unfold leansOf
  exact OkS.sort (O.ks.filter)
theorem OkS.ord {b : Book} (O : OkB b) : OkS (ordP b) := by
  have key : ∀ (m : Nat) (f : List Str), OkS f → OkS (ordIt b m f) := by
    intro m
    induction m with
    | zero => exact fun f h => h
    | succ m ih =>
      intro f h
      refine ih _ ?_
      unfold ordStep
      cases hr : readyP b f with
      | nil => exact h
      | cons n l =>
        intro s hs
        rcases List.mem_append.mp hs with hs | hs
        · exact h s hs
        · simp at hs
          subst hs
          have : s ∈ readyP b f := by rw [hr]; simp
          exact O.ks s (List.mem_filter.mp this).1
  exact key _ _ fun _ z => nomatch z

theorem eq0 : (PyData.int 0) = .int ((0 : Nat) : Int) := rfl
theorem eq1 : (PyData.int 1) = .int ((1 : Nat) : Int) := rfl
theorem q_start (ns : List Int) : op1 m__law_house (op2 m__law_mixed (some (.list (ns.map .int))) (some (.int 0))) = some (encH (houseOf (mixed ns 0))) := by
  walk_at "ev"
  rw [eq0, q_mixed ns 0 (by decide)]
  walk_at "ev"
  exact q_house _
/-- a house without some parts -/
def outP (h : List Part) (n : Str) : List Part := h.filter fun p => !decide (p.name = n)
theorem q_lost {h : House} (G : GoodH h) (n : Str) : m_lost (encH h) (.str n) = some (.tuple ((sortS ((ordP (bk h)).filter fun x => !decide (x = n) && !decide (x ∈ ordP (bk (outP h n))))).map .str)) := by
  have G' : GoodH (outP h n) := G.filter
  unfold m_lost
  refine bnd_to (.tuple ((ordP (bk (outP h n))).map .str)) ?_ ?_
  · walk_at "ev"
    rw [lcD_iv encP (fun p => !decide (p.name = n)) encP h fun p _ => by walk_at "ev"]
    walk_at "ev"
    exact q_order G'
  · walk_at "ev"
    rw [q_order G]
    walk_at "ev"
    rw [lcD_iv PyData.str (fun x => !decide (x = n) && !decide (x ∈ ordP (bk (outP h n)))) .str (ordP (bk h)) fun x _ => by walk_at "ev"]
    walk_at "ev"
    rw [sortN_s]
    walk_at "ev"
end DL


namespace DL
open PySem PySem.Spec PyProof.Rows L2
/-! ### without a part -/
theorem beg_key {b : Book} {x : Str} (h : Beg b x) : x ∈ keys b := by cases h with | mk k _ => exact k
theorem isG_ex {ps : List Part} (G : GoodH ps) {n : Str} {w : Want} (h : ∃ q ∈ ps, q.name ≠ n ∧ gives q w = true) : ∃ q, IsG ps n w q := by
  obtain ⟨q, h1, h2, h3⟩ := h
  cases e : giverAmong ps n w with
  | none => rw [giver_no.mp e q h1 h2] at h3; cases h3
  | some m => obtain ⟨r, hr, _⟩ := (giver_some G).mp e; exact ⟨r, hr⟩
theorem isG_gvs {ps : List Part} (G : GoodH ps) {p q : Part} {w : Want} (hw : w ∈ p.wants) (h : IsG ps p.name w q) : q.name ∈ gvs ps p :=
  List.mem_filterMap.mpr ⟨w, hw, (giver_some G).mpr ⟨q, h, rfl⟩⟩
/-- a set of standing parts that holds their givers stands in each house that has it -/
theorem closed_st {h g : List Part} (G : GoodH h) (Gg : GoodH g) (sub : ∀ p ∈ g, p ∈ h) {C : Part → Prop} (c1 : ∀ p ∈ st h, C p → ∀ w ∈ p.wants, ∀ q, IsG (st h) p.name w q → C q) (c2 : ∀ p ∈ st h, C p → p ∈ g) :
    (∀ p ∈ st h, C p → p ∈ st g) ∧ ∀ p ∈ st h, C p → gvs (st g) p = gvs (st h) p := by
  have h1 : ∀ p ∈ st h, C p → p ∈ st g := by
    intro p hp hc
    classical
    refine st_max (S := (st h).filter fun p => decide (C p)) (fun r hr w hw hm => ?_) (fun r hr => ?_) p (List.mem_filter.mpr ⟨hp, by simpa using hc⟩)
    · obtain ⟨r1, r2⟩ := List.mem_filter.mp hr
      have r2 : C r := by simpa using r2
      obtain ⟨q, hq⟩ := isG_ex G.st (sup_st h r r1 w hw hm)
      exact ⟨q, List.mem_filter.mpr ⟨hq.mem, by simpa using c1 r r1 r2 w hw q hq⟩, hq.ne, hq.gv⟩
    · obtain ⟨r1, r2⟩ := List.mem_filter.mp hr
      exact c2 r r1 (by simpa using r2)
  refine ⟨h1, fun p hp hc => ?_⟩
  unfold gvs
  refine fm_congr fun w hw => giver_sub G.st Gg.st (st_mono sub) fun q hq => h1 q hq.mem (c1 p hp hc w hw q hq)
theorem beg_out {h : List Part} (G : GoodH h) {n x : Str} (hx : x ≠ n) (hr : ¬ Reach (bk h) x n) (hb : Beg (bk h) x) : Beg (bk (outP h n)) x := by
  have Gg : GoodH (outP h n) := G.filter
  have sub : ∀ p ∈ outP h n, p ∈ h := fun p hp => (List.mem_filter.mp hp).1
  obtain ⟨k1, k2⟩ := closed_st (C := fun p => p.name = x ∨ Reach (bk h) x p.name) G Gg sub (fun p hp hc w hw q hq => by
    have hg : q.name ∈ bget (bk h) p.name := by rw [bget_bk G hp]; exact isG_gvs G.st hw hq
    rcases hc with e | e
    · rw [e] at hg; exact .inr (.one hg)
    · exact .inr (.more e hg)) (fun p hp hc => by
    refine List.mem_filter.mpr ⟨st_sub h p hp, ?_⟩
    simp only [Bool.not_eq_true', decide_eq_false_iff_not]
    rcases hc with e | e
    · rw [e]; exact hx
    · exact fun z => hr (z ▸ e))
  have key : ∀ y, Beg (bk h) y → (y = x ∨ Reach (bk h) x y) → Beg (bk (outP h n)) y := by
    intro y hy
    induction hy with
    | @mk y hk _ ih =>
      intro hc
      obtain ⟨p, hp, rfl⟩ := mem_keys.mp hk
      have hp' := k1 p hp hc
      refine .mk (mem_keys.mpr ⟨p, hp', rfl⟩) fun z hz => ?_
      rw [bget_bk Gg hp', k2 p hp hc, ← bget_bk G hp] at hz
      exact ih z hz (hc.elim (fun e => .inr (.one (e ▸ hz))) fun e => .inr (.more e hz))
  exact key x hb (.inl rfl)
theorem mem_leans {b : Book} (O : OkB b) {n x : Str} : x ∈ leansOf b n ↔ Reach b n x := by
  unfold leansOf
  rw [(sortS_perm _).mem_iff, List.mem_filter]
  classical
  simp only [decide_eq_true_eq]
  exact ⟨fun z => z.2, fun z => ⟨z.key O, z⟩⟩
theorem OkS.ofKey {b : Book} (O : OkB b) {l : List Str} (h : ∀ x ∈ l, x ∈ keys b) : OkS l := fun s hs => O.ks s (h s hs)
end DL


namespace DL
open PySem PySem.Spec PyProof.Rows L2
/-! ### a house with those parts alone that some closed set of names tells -/
structure SubB (h g : List Part) (P : Str → Bool) : Prop where
  st : DL.st g = (DL.st h).filter fun p => P p.name
  ks : keys (bk g) = (keys (bk h)).filter P
  gt : ∀ x ∈ keys (bk g), bget (bk g) x = bget (bk h) x
  or : ordP (bk g) = (ordP (bk h)).filter P
theorem sub_book {h : List Part} (G : GoodH h) {P : Str → Bool} (cl : ∀ x ∈ keys (bk h), P x = true → ∀ y ∈ bget (bk h) x, P y = true) : SubB h (h.filter fun p => P p.name) P := by
  have Gg : GoodH (h.filter fun p => P p.name) := G.filter
  have sub : ∀ p ∈ h.filter (fun p => P p.name), p ∈ h := fun p hp => (List.mem_filter.mp hp).1
  obtain ⟨k1, k2⟩ := closed_st (C := fun p => P p.name = true) G Gg sub (fun p hp hc w hw q hq => by
    have hg : q.name ∈ bget (bk h) p.name := by rw [bget_bk G hp]; exact isG_gvs G.st hw hq
    exact cl p.name (mem_keys.mpr ⟨p, hp, rfl⟩) hc q.name hg) (fun p hp hc => List.mem_filter.mpr ⟨st_sub h p hp, hc⟩)
  have e1 : DL.st (h.filter fun p => P p.name) = (DL.st h).filter fun p => P p.name := by
    refine sub_eqP (h := h) ((standIt_sublist _ _).trans List.filter_sublist) (List.filter_sublist.trans (standIt_sublist _ _)) G.nm fun p => ⟨fun hp => ?_, fun hp => ?_⟩
    · exact List.mem_filter.mpr ⟨st_mono sub p hp, (List.mem_filter.mp (st_sub _ p hp)).2⟩
    · obtain ⟨h1, h2⟩ := List.mem_filter.mp hp
      exact k1 p h1 h2
  have e2 : keys (bk (h.filter fun p => P p.name)) = (keys (bk h)).filter P := by
    rw [keys_bk, keys_bk, e1, List.filter_map]
    rfl
  have e3 : ∀ x ∈ keys (bk (h.filter fun p => P p.name)), bget (bk (h.filter fun p => P p.name)) x = bget (bk h) x := by
    intro x hx
    obtain ⟨p, hp, rfl⟩ := mem_keys.mp hx
    have hp2 : p ∈ (DL.st h).filter fun p => P p.name := e1 ▸ hp
    obtain ⟨h1, h2⟩ := List.mem_filter.mp hp2
    rw [bget_bk Gg hp, bget_bk G h1, k2 p h1 h2]
  refine ⟨e1, e2, e3, ordP_sim e2 e3 fun x hx y hy => ?_⟩
  rw [e2] at hx
  obtain ⟨h1, h2⟩ := List.mem_filter.mp hx
  exact cl x h1 h2 y hy
theorem OkS.gvs {b : Book} (O : OkB b) : ∀ x ∈ ordP b, x ∈ keys b := (ord_inv b).key
/-- what began is closed -/
theorem ord_closed (b : Book) : ∀ x ∈ ordP b, ∀ y ∈ bget b x, y ∈ ordP b := fun x hx y hy => by
  have := mem_ord.mp hx
  cases this with
  | mk _ h => exact mem_ord.mpr (h y hy)
theorem rising_sort {l k : List Str} (hk : k.Pairwise fun a b => a.cps.toList < b.cps.toList) (hl : l.Nodup) (h : ∀ x, x ∈ l ↔ x ∈ k) : sortS l = k := by
  have nk : k.Nodup := hk.imp fun {a b} z e => by rw [e] at z; exact List.lt_irrefl _ z
  rw [← sortS_rising hk]
  exact sortS_congr ((List.perm_ext_iff_of_nodup hl nk).mpr h)
theorem filter_self' {α : Type} {l : List α} {P : α → Bool} (h : ∀ x ∈ l, P x = true) : l.filter P = l := List.filter_eq_self.mpr h
theorem readyP_head {b : Book} {x : Str} {l : List Str} (h : readyP b [] = x :: l) : ∃ r, ordP b = x :: r := by
  have hk : x ∈ keys b := (ready_mem.mp (by rw [h]; simp : x ∈ readyP b [])).1
  have pre : ∀ (m : Nat) (f : List Str), ∃ g, ordIt b m f = f ++ g := by
    intro m
    induction m with
    | zero => exact fun f => ⟨[], by simp [ordIt]⟩
    | succ m ih =>
      intro f
      rcases ordStep_cases b f with ⟨_, e⟩ | ⟨n, _, e⟩
      · rw [ordIt, e]; exact ih f
      · rw [ordIt, e]
        obtain ⟨g, hg⟩ := ih (f ++ [n])
        exact ⟨n :: g, by rw [hg]; simp⟩
  unfold ordP
  cases hl : (keys b).length with
  | zero => rw [List.length_eq_zero_iff] at hl; rw [hl] at hk; cases hk
  | succ m =>
    have e : ordStep b [] = [x] := by unfold ordStep; rw [h]; rfl
    rw [ordIt, e]
    obtain ⟨g, hg⟩ := pre m [x]
    exact ⟨g, by rw [hg]; rfl⟩
theorem ordP_nil {b : Book} (h : readyP b [] = []) : ordP b = [] := by unfold ordP; rw [ordIt_stop h]
/-! ### parts sorted by their names -/
theorem dataLt_tup (a b : D) (as bs : List D) (h : PySem.W.alike a b = true) (e : PyData.eqv a b = false) : PySem.W.dataLt (.tuple (a :: as)) (.tuple (b :: bs)) = PySem.W.dataLt a b := PySem.W.dataLt_all_no h e
theorem dataLt_encP {p q : Part} (h : p.name ≠ q.name) : PySem.W.dataLt (encP p) (encP q) = decide (p.name.cps.toList < q.name.cps.toList) := by
  unfold encP
  rw [dataLt_tup _ _ _ _ (by simp [PySem.W.alike]) (by rw [eqv_str]; simpa using h), PySem.W.dataLt_str]
theorem perm_sortedM {α : Type} {R : α → α → Prop} : ∀ {l m : List α}, (∀ a ∈ l, ∀ b ∈ l, R a b → R b a → a = b) → l.Perm m → l.Pairwise R → m.Pairwise R → l = m
  | [], m, _, p, _, _ => (List.nil_perm.mp p).symm
  | a :: l, [], _, p, _, _ => absurd p.length_eq (by simp)
  | a :: l, b :: m, anti, p, h1, h2 => by
    have e : a = b := by
      have ha : a ∈ b :: m := p.mem_iff.mp (by simp)
      have hb : b ∈ a :: l := p.mem_iff.mpr (by simp)
      rcases List.mem_cons.mp ha with e | ha
      · exact e
      · rcases List.mem_cons.mp hb with e | hb
        · exact e.symm
        · exact anti a (by simp) b (by simp [hb]) ((List.pairwise_cons.mp h1).1 b hb) ((List.pairwise_cons.mp h2).1 a ha)
    subst e
    rw [perm_sortedM (fun x hx y hy => anti x (by simp [hx]) y (by simp [hy])) (List.Perm.cons_inv p) (List.pairwise_cons.mp h1).2 (List.pairwise_cons.mp h2).2]
theorem sortD_perm (l : List D) : (sortD l).Perm l := List.mergeSort_perm _ _
theorem sortD_pw (l : List D) : (sortD l).Pairwise fun a b => PySem.W.dataLt b a = false := by
  have pw : (sortD l).Pairwise fun a b => (!PySem.W.dataLt b a) = true := PySem.W.sort_pairwise (PySem.W.sortLe_total (PyProof.Rows.listOrd PyProof.Rows.itemOrd) false fun a : D => PySem.W.keyToks a) l
  exact pw.imp fun {a b} h => by simpa using h
/-- parts whose names rise are the sorted ones -/
theorem sort_parts {l k : List Part} (p : l.Perm k) (hk : k.Pairwise fun p q => p.name.cps.toList < q.name.cps.toList) : sortD (l.map encP) = k.map encP := by
  have ne : ∀ {a b : Part}, a.name.cps.toList < b.name.cps.toList → a.name ≠ b.name := fun z e => by rw [e] at z; exact List.lt_irrefl _ z
  have pk : (k.map encP).Pairwise fun a b => PySem.W.dataLt b a = false := by
    rw [List.pairwise_map]
    refine hk.imp fun {a b} z => ?_
    rw [dataLt_encP (ne z).symm, decide_eq_false_iff_not]
    exact fun y => List.lt_irrefl _ (List.lt_trans z y)
  refine perm_sortedM (fun a ha b hb h1 h2 => ?_) ((sortD_perm _).trans (p.map encP)) (sortD_pw _) pk
  have ha := (p.map encP).mem_iff.mp ((sortD_perm _).mem_iff.mp ha)
  have hb := (p.map encP).mem_iff.mp ((sortD_perm _).mem_iff.mp hb)
  obtain ⟨x, hx, rfl⟩ := List.mem_map.mp ha
  obtain ⟨y, hy, rfl⟩ := List.mem_map.mp hb
  by_cases e : x.name = y.name
  · have inj : ∀ {l : List Part}, l.Pairwise (fun p q => p.name.cps.toList < q.name.cps.toList) → ∀ x ∈ l, ∀ y ∈ l, x.name = y.name → x = y := by
      intro l
      induction l with
      | nil => intro _ x hx; cases hx
      | cons a l ih =>
        intro n x hx y hy e
        rw [List.pairwise_cons] at n
        rcases List.mem_cons.mp hx with e1 | h1 <;> rcases List.mem_cons.mp hy with e2 | h2
        · rw [e1, e2]
        · exact absurd e (by rw [e1]; exact ne (n.1 y h2))
        · exact absurd e.symm (by rw [e2]; exact ne (n.1 x h1))
        · exact ih n.2 x h1 y h2 e
    rw [inj hk x hx y hy e]
  · rw [dataLt_encP (Ne.symm e), decide_eq_false_iff_not, List.not_lt] at h1
    rw [dataLt_encP e, decide_eq_false_iff_not, List.not_lt] at h2
    exact absurd (PySem.W.str_of_cps (List.le_antisymm h1 h2)) e
theorem al_encF (a b : Str × Int) : PySem.W.alike (encF a) (encF b) = true := by simp [encF, PySem.W.alike, PySem.W.alikeAll]
theorem al_encW (a b : Want) : PySem.W.alike (encW a) (encW b) = true := by simp [encW, PySem.W.alike, PySem.W.alikeAll]
theorem al_encK (a b : Hook) : PySem.W.alike (encK a) (encK b) = true := by
  unfold encK encDeed
  cases a.worth <;> cases b.worth <;> simp [PySem.W.alike, PySem.W.alikeAll]
theorem al_map {α : Type} {f : α → D} (h : ∀ a b, PySem.W.alike (f a) (f b) = true) : ∀ (l m : List α), PySem.W.alikeAll (l.map f) (m.map f) = true
  | [], m => by cases m <;> simp [PySem.W.alikeAll]
  | a :: l, [] => by simp [PySem.W.alikeAll]
  | a :: l, b :: m => by simp only [List.map_cons, PySem.W.alikeAll, h a b, al_map h l m, Bool.and_self]
theorem al_encP (p q : Part) : PySem.W.alike (encP p) (encP q) = true := by
  unfold encP
  simp only [PySem.W.alike, PySem.W.alikeAll, al_map al_encF, al_map al_encW, al_map al_encK, Bool.and_self]
theorem soB_parts {l : List Part} (ok : OkH l) : soB (l.map encP) = true := by
  unfold soB
  rw [Bool.or_eq_true]
  refine .inr ?_
  unfold soG
  simp only [Bool.and_eq_true, List.all_eq_true, List.mem_map, decide_eq_true_eq]
  refine ⟨?_, ?_, ?_⟩
  · rintro _ ⟨p, _, rfl⟩ _ ⟨q, _, rfl⟩
    exact al_encP p q
  · rintro _ ⟨p, _, rfl⟩; rfl
  · rintro _ ⟨p, hp, rfl⟩
    have := pl_encP (n := 0) (ok p hp)
    exact ⟨lay_nod this.lay, Nat.le_trans this.dep (by decide)⟩
theorem q_sort_parts {l k : List Part} (ok : OkH l) (p : l.Perm k) (hk : k.Pairwise fun p q => p.name.cps.toList < q.name.cps.toList) : sortN (.tuple (l.map encP)) = some (k.map encP) := by
  rw [← sort_parts p hk]
  exact if_pos (soB_parts ok)
end DL


namespace DL
open PySem PySem.Spec PyProof.Rows L2
theorem okS_nil : OkS [] := fun _ z => (nomatch z)
theorem ixD_neg1 {l : List Str} {r : List Str} {x : Str} (h : l = r ++ [x]) : ixD (.tuple (l.map .str)) (.int (-1)) = some (.str x) := by
  show atI _ _ = _
  unfold atI ixN
  subst h
  have e : (-1 + (((r ++ [x]).map PyData.str).length : Int)).toNat = (r.map PyData.str).length := by simp; omega
  rw [if_neg (by decide)]
  show (if _ then some (-1 + (((r ++ [x]).map PyData.str).length : Int)).toNat else none).bind _ = _
  rw [if_pos (by simp; omega), e]
  simp
theorem lt_trans' {a b c : Str} (h : a.cps.toList < b.cps.toList) (k : b.cps.toList < c.cps.toList) : a.cps.toList < c.cps.toList := List.lt_trans h k
def newP (n : Str) (m : Int) : Part := ⟨n, 1, [("none", m)], [], []⟩
theorem newP_ok {n : Str} {m : Int} (h : PyData.strOk n = true) : OkP (newP n m) where
  nm := h
  fs f hf := by simp [newP] at hf; subst hf; show PyData.strOk "none" = true; decide +kernel
  ws w hw := by cases hw
  ks w hw := by cases hw
/-- the new part among the others -/
def insP (h : List Part) (p : Part) : List Part := (h.filter fun q => decide (q.name.cps.toList < p.name.cps.toList)) ++ p :: (h.filter fun q => !decide (q.name.cps.toList < p.name.cps.toList))
theorem insP_perm (h : List Part) (p : Part) : (h ++ [p]).Perm (insP h p) := by
  unfold insP
  refine (List.perm_append_comm (l₁ := h) (l₂ := [p])).trans ?_
  refine .trans ?_ (List.perm_middle).symm
  exact .cons p (List.filter_append_perm _ h).symm
theorem insP_rise {h : List Part} {p : Part} (nm : h.Pairwise fun p q => p.name.cps.toList < q.name.cps.toList) (ne : ∀ q ∈ h, q.name ≠ p.name) : (insP h p).Pairwise fun p q => p.name.cps.toList < q.name.cps.toList := by
  unfold insP
  rw [List.pairwise_append]
  refine ⟨nm.filter _, List.pairwise_cons.mpr ⟨fun q hq => ?_, nm.filter _⟩, fun a ha b hb => ?_⟩
  · obtain ⟨h1, h2⟩ := List.mem_filter.mp hq
    simp only [Bool.not_eq_true', decide_eq_false_iff_not, List.not_lt] at h2
    rcases List.le_iff_lt_or_eq.mp h2 with z | z
    · exact z
    · exact absurd (PySem.W.str_of_cps z).symm (ne q h1)
  · obtain ⟨h1, h2⟩ := List.mem_filter.mp ha
    have h2 : a.name.cps.toList < p.name.cps.toList := by simpa using h2
    rcases List.mem_cons.mp hb with rfl | hb
    · exact h2
    · obtain ⟨h3, h4⟩ := List.mem_filter.mp hb
      simp only [Bool.not_eq_true', decide_eq_false_iff_not, List.not_lt] at h4
      rcases List.le_iff_lt_or_eq.mp h4 with z | z
      · exact List.lt_trans h2 z
      · rw [← z]; exact h2
theorem insP_good {h : List Part} (G : GoodH h) {p : Part} (okp : OkP p) (gp : GoodP p) (wl : p.wants.length ≤ 64) (ne : ∀ q ∈ h, q.name ≠ p.name) (hl : h.length ≤ 6) : GoodH (insP h p) := by
  have mem : ∀ q ∈ insP h p, q ∈ h ∨ q = p := fun q hq => by
    have := (insP_perm h p).mem_iff.mpr hq
    simpa using this
  have len : (insP h p).length = h.length + 1 := by rw [← (insP_perm h p).length_eq]; simp
  refine ⟨⟨fun q hq => ?_, by omega, fun q hq => ?_⟩, fun q hq => ?_, insP_rise G.nm ne, by omega⟩
  · rcases mem q hq with z | rfl
    · exact G.wf.ok q z
    · exact okp
  · rcases mem q hq with z | rfl
    · exact G.wf.wl q z
    · exact wl
  · rcases mem q hq with z | rfl
    · exact G.gp q z
    · exact gp
theorem insP_out {h : List Part} {p : Part} (ne : ∀ q ∈ h, q.name ≠ p.name) (nm : h.Pairwise fun p q => p.name.cps.toList < q.name.cps.toList) : (insP h p).filter (fun q => !decide (q.name = p.name)) = h := by
  have e1 : (insP h p).filter (fun q => !decide (q.name = p.name)) = (h.filter fun q => decide (q.name.cps.toList < p.name.cps.toList)) ++ (h.filter fun q => !decide (q.name.cps.toList < p.name.cps.toList)) := by
    unfold insP
    have a1 : ∀ Q : Part → Bool, (h.filter Q).filter (fun q => !decide (q.name = p.name)) = h.filter Q := fun Q => filter_self' fun x hx => by simpa using ne x (List.mem_filter.mp hx).1
    rw [List.filter_append, List.filter_cons, if_neg (by simp), a1, a1]
  rw [e1]
  refine sub_eqP (h := h) ?_ (.refl _) nm fun x => ?_
  · clear e1 ne
    induction h with
    | nil => exact .slnil
    | cons a h ih =>
      rw [List.pairwise_cons] at nm
      rw [List.filter_cons, List.filter_cons]
      by_cases ha : a.name.cps.toList < p.name.cps.toList
      · rw [if_pos (by simpa using ha), if_neg (by simpa using ha)]
        exact (ih nm.2).cons_cons a
      · rw [if_neg (by simpa using ha), if_pos (by simpa using ha)]
        have e0 : (h.filter fun q => decide (q.name.cps.toList < p.name.cps.toList)) = [] := by
          rw [List.filter_eq_nil_iff]
          intro q hq
          have := nm.1 q hq
          simp only [decide_eq_true_eq]
          exact fun z => ha (List.lt_trans this z)
        rw [e0, List.nil_append]
        exact List.filter_sublist.cons_cons a
  · rw [List.mem_append, List.mem_filter, List.mem_filter]
    constructor
    · rintro (z | z) <;> exact z.1
    · intro z
      by_cases c : x.name.cps.toList < p.name.cps.toList
      · exact .inl ⟨z, by simpa using c⟩
      · exact .inr ⟨z, by simpa using c⟩
theorem house_names {n : Int} {p : Part} (h : p ∈ houseOf n) : p.name ∈ names6 := by
  obtain ⟨m, nm, rfl, hn⟩ := houseOf_mem h
  exact hn
theorem house_faces {n : Int} {p : Part} (h : p ∈ houseOf n) : ∀ w ∈ p.wants, (w.face = "f" ∨ w.face = "g" ∨ w.face = "h") := fun w hw => by
  obtain ⟨m, nm, rfl, _⟩ := houseOf_mem h
  exact (wantsOf_mem (List.mem_of_mem_drop hw)).1
end DL


namespace DL
open PySem PySem.Spec PyProof.Rows L2
local macro_rules | `(tactic| walk_at "ev") => `(tactic| try simp only [bnd_some, op1_some, op2_some, op3_some, op4_some, op3s_some, slP_int, boV_some, tB_some, lsV_some, dcV_some, lcD_some, arg1_some, dec1_eq, dec2_eq, dec3_eq, dec4_eq, dec5_eq, jn_nx, jn_rt, iteT_true, iteT_false, notT_some, andT_some, orT_some, andT_false, orT_true, andT_true, orT_false, ixP0, ixP1, ixP2, ixP3, ixP4, ixW0, ixW1, ixW2, ixW3, ixK0, ixK1, ixK2, dec2F, dec2SS, ixT0, ixL0, itD_l, itD_t, itD_h, itL_eq, listN_l, listN_t, listN_h, tupD_l, lenD_l, lenD_t, lenD_h, addD_i, subD_i, negD_i, ltB_i, leB_i, gtB_i, geB_i, eqB_i, eqB_s, neB_s, neB_i, isNB_eq, isNNB_eq, lstV_nil, tupV_nil, tupV1, tupV2, tupV3, tupV4, tupV5, tupV6, lstV1, lstV2, lstV3, intD_b, intD_i, minD_i, keepE_some, keepE_true, keepE_false, inB_sl, inB_st, ninB_eq, List.length_map, if_true, if_false, Bool.false_eq_true])
/-! ### hooks -/
structure GoodK (h : List Part) : Prop where
  len : ∀ p ∈ h, p.hooks.length ≤ 64
  rk : ∀ p ∈ h, ∀ k ∈ p.hooks, -9 ≤ k.rank ∧ k.rank ≤ 9
def enumN {α : Type} : Nat → List α → List (Nat × α)
  | _, [] => []
  | n, a :: l => (n, a) :: enumN (n + 1) l
theorem enumN_len {α : Type} : ∀ (l : List α) (n : Nat), (enumN n l).length = l.length
  | [], _ => rfl
  | _ :: l, n => congrArg (· + 1) (enumN_len l (n + 1))
theorem enumD_map {α : Type} (f : α → D) : ∀ (l : List α) (n : Nat), enumD n (l.map f) = (enumN n l).map fun q => .tuple [.int (q.1 : Nat), f q.2]
  | [], _ => rfl
  | a :: l, n => by rw [List.map_cons, enumD, enumN, List.map_cons, enumD_map f l]
theorem enumN_mem {α : Type} : ∀ {l : List α} {n : Nat} {q : Nat × α}, q ∈ enumN n l → q.2 ∈ l ∧ n ≤ q.1
  | a :: l, n, q, h => by
    rcases List.mem_cons.mp h with rfl | h
    · exact ⟨by simp, Nat.le_refl _⟩
    · obtain ⟨h1, h2⟩ := enumN_mem (l := l) h
      exact ⟨by simp [h1], by omega⟩
theorem enumN_pw {α : Type} : ∀ (l : List α) (n : Nat), (enumN n l).Pairwise fun a b => a.1 < b.1
  | [], _ => .nil
  | a :: l, n => List.pairwise_cons.mpr ⟨fun q hq => (enumN_mem hq).2, enumN_pw l (n + 1)⟩
theorem enumN_snd {α : Type} : ∀ (l : List α) (n : Nat), (enumN n l).map (·.2) = l
  | [], _ => rfl
  | a :: l, n => by rw [enumN, List.map_cons, enumN_snd l]
structure Raw where
  rank : Int
  place : Nat
  at_ : Nat
  name : Str
  hk : Hook
def encR (r : Raw) : D := .tuple [.int r.rank, .int (r.place : Nat), .int (r.at_ : Nat), .str r.name, encDeed r.hk]
def encC (q : Str × Hook) : D := .tuple [.str q.1, .int q.2.rank, encDeed q.2]
def hooksAt (h : List Part) (n : Str) : List Hook := ((h.find? fun p => decide (p.name = n)).map (·.hooks)).getD []
theorem find_name {h : List Part} (G : GoodH h) {p : Part} (hp : p ∈ h) : h.find? (fun q => decide (q.name = p.name)) = some p := by
  rw [← List.head?_filter]; exact head_name G hp
theorem hooksAt_of {h : List Part} (G : GoodH h) {p : Part} (hp : p ∈ h) : hooksAt h p.name = p.hooks := by unfold hooksAt; rw [find_name G hp]; rfl
def rawAt (x : Str) (pl : Nat) (n : Str) (ks : List Hook) : List Raw := (enumN 0 ks).flatMap fun q => if q.2.hook = x then [⟨q.2.rank, pl, q.1, n, q.2⟩] else []
def rawOf (h : List Part) (x : Str) (l : List Str) : List Raw := (enumN 0 l).flatMap fun q => rawAt x q.1 q.2 (hooksAt h q.2)
def rowsOf (h : List Part) (x : Str) (l : List Str) : List (Str × Hook) := l.flatMap fun n => ((hooksAt h n).filter fun k => decide (k.hook = x)).map fun k => (n, k)
def ranks : List Int := (List.range 19).map fun i => ((i : Nat) : Int) - 9
def byRank {α : Type} (f : α → Int) (l : List α) : List α := ranks.flatMap fun r => l.filter fun a => decide (f a = r)
def chainOf (h : List Part) (x : Str) : List (Str × Hook) := byRank (fun q => q.2.rank) (rowsOf h x (ordP (bk h)))
def RLt (a b : Raw) : Prop := a.rank < b.rank ∨ (a.rank = b.rank ∧ (a.place < b.place ∨ (a.place = b.place ∧ a.at_ < b.at_)))
theorem dataLt_int' (a b : Int) : PySem.W.dataLt (.int a) (.int b) = decide (a < b) := PySem.W.dataLt_int a b
theorem dataLt_tupE (a b : D) (as bs : List D) (h : PySem.W.alike a b = true) (e : PyData.eqv a b = true) : PySem.W.dataLt (.tuple (a :: as)) (.tuple (b :: bs)) = PySem.W.dataLt (.tuple as) (.tuple bs) := PySem.W.dataLt_all_yes h e
theorem dataLt_intT (a b : Int) (as bs : List D) : PySem.W.dataLt (.tuple (.int a :: as)) (.tuple (.int b :: bs)) = if a = b then PySem.W.dataLt (.tuple as) (.tuple bs) else decide (a < b) := by
  by_cases h : a = b
  · rw [if_pos h, dataLt_tupE _ _ _ _ (by simp [PySem.W.alike]) (by rw [eqv_int]; simpa using h)]
  · rw [if_neg h, dataLt_tup _ _ _ _ (by simp [PySem.W.alike]) (by rw [eqv_int]; simpa using h), dataLt_int']
theorem encR_lt {a b : Raw} (h : RLt a b) : PySem.W.dataLt (encR b) (encR a) = false := by
  unfold encR
  rcases h with h | ⟨h1, h | ⟨h2, h3⟩⟩
  · rw [dataLt_intT, if_neg (by omega), decide_eq_false (by omega)]
  · rw [dataLt_intT, if_pos h1.symm, dataLt_intT, if_neg (by omega), decide_eq_false (by omega)]
  · rw [dataLt_intT, if_pos h1.symm, dataLt_intT, if_pos (by omega), dataLt_intT, if_neg (by omega), decide_eq_false (by omega)]
theorem encR_lt' {a b : Raw} (h : RLt a b) : PySem.W.dataLt (encR a) (encR b) = true := by
  unfold encR
  rcases h with h | ⟨h1, h | ⟨h2, h3⟩⟩
  · rw [dataLt_intT, if_neg (by omega), decide_eq_true (by omega)]
  · rw [dataLt_intT, if_pos h1, dataLt_intT, if_neg (by omega), decide_eq_true (by omega)]
  · rw [dataLt_intT, if_pos h1, dataLt_intT, if_pos (by omega), dataLt_intT, if_neg (by omega), decide_eq_true (by omega)]
theorem RLt.tri (a b : Raw) : RLt a b ∨ RLt b a ∨ (a.place = b.place ∧ a.at_ = b.at_) := by
  unfold RLt; omega
/-- rows that rise by place -/
theorem raw_pw (h : List Part) (x : Str) (l : List Str) : (rawOf h x l).Pairwise fun a b => a.place < b.place ∨ (a.place = b.place ∧ a.at_ < b.at_) := by
  unfold rawOf
  rw [List.pairwise_flatMap]
  have pl : ∀ {pl : Nat} {n : Str} {ks : List Hook} {r : Raw}, r ∈ rawAt x pl n ks → r.place = pl := by
    intro pl n ks r hr
    obtain ⟨q, _, hq⟩ := List.mem_flatMap.mp hr
    split at hq
    · simp at hq; rw [hq]
    · cases hq
  refine ⟨fun q _ => ?_, (enumN_pw l 0).imp fun {a b} z r hr s hs => .inl (by rw [pl hr, pl hs]; exact z)⟩
  unfold rawAt
  rw [List.pairwise_flatMap]
  refine ⟨fun q _ => by split <;> simp, (enumN_pw _ 0).imp fun {a b} z r hr s hs => ?_⟩
  split at hr
  · split at hs
    · simp at hr hs; rw [hr, hs]; exact .inr ⟨rfl, z⟩
    · cases hs
  · cases hr
theorem ranks_pw : ranks.Pairwise (· < ·) := by decide
theorem ranks_mem {r : Int} (h : -9 ≤ r ∧ r ≤ 9) : r ∈ ranks := by
  unfold ranks
  rw [List.mem_map]
  exact ⟨(r + 9).toNat, by rw [List.mem_range]; omega, by omega⟩
theorem ranks_nodup : ranks.Nodup := ranks_pw.imp fun {a b} z e => by omega
theorem byRank_perm {α : Type} (f : α → Int) : ∀ {l : List α}, (∀ a ∈ l, f a ∈ ranks) → (byRank f l).Perm l := by
  intro l
  unfold byRank
  have key : ∀ (rs : List Int), rs.Nodup → ∀ (l : List α), (rs.flatMap fun r => l.filter fun a => decide (f a = r)).Perm (l.filter fun a => decide (f a ∈ rs)) := by
    intro rs
    induction rs with
    | nil => intro _ l; simp
    | cons r rs ih =>
      intro nd l
      rw [List.nodup_cons] at nd
      rw [List.flatMap_cons]
      refine ((ih nd.2 l).append_left _).trans ?_
      have e : ∀ m : List α, ((m.filter fun a => decide (f a = r)) ++ m.filter fun a => decide (f a ∈ rs)).Perm (m.filter fun a => decide (f a ∈ r :: rs)) := by
        intro m
        induction m with
        | nil => simp
        | cons a m ihm =>
          rw [List.filter_cons, List.filter_cons, List.filter_cons]
          by_cases h1 : f a = r
          · have h2 : f a ∉ rs := h1 ▸ nd.1
            rw [if_pos (by simpa using h1), if_neg (by simpa using h2), if_pos (by simp [h1])]
            exact ihm.cons a
          · by_cases h2 : f a ∈ rs
            · rw [if_neg (by simpa using h1), if_pos (by simpa using h2), if_pos (by simp [h2])]
              exact List.perm_middle.trans (ihm.cons a)
            · rw [if_neg (by simpa using h1), if_neg (by simpa using h2), if_neg (by simp [h1, h2])]
              exact ihm
      exact e l
  intro h
  refine (key ranks ranks_nodup l).trans ?_
  rw [List.filter_eq_self.mpr fun a ha => by simpa using h a ha]
theorem sort_raw {l : List Raw} (hp : l.Pairwise fun a b => a.place < b.place ∨ (a.place = b.place ∧ a.at_ < b.at_)) (hr : ∀ a ∈ l, a.rank ∈ ranks) : sortD (l.map encR) = (byRank (·.rank) l).map encR := by
  have pw : (byRank (·.rank) l).Pairwise RLt := by
    unfold byRank
    rw [List.pairwise_flatMap]
    refine ⟨fun r _ => ?_, ranks_pw.imp fun {r s} z a ha b hb => ?_⟩
    · refine (hp.filter _).imp_of_mem fun {a b} ha hb z => ?_
      have h1 : a.rank = r := by simpa using (List.mem_filter.mp ha).2
      have h2 : b.rank = r := by simpa using (List.mem_filter.mp hb).2
      exact .inr ⟨by omega, z⟩
    · have h1 : a.rank = r := by simpa using (List.mem_filter.mp ha).2
      have h2 : b.rank = s := by simpa using (List.mem_filter.mp hb).2
      exact .inl (by omega)
  have pm := byRank_perm (fun a : Raw => a.rank) hr
  have uniq : ∀ a ∈ l, ∀ b ∈ l, a.place = b.place → a.at_ = b.at_ → a = b := by
    clear hr pw pm
    induction l with
    | nil => intro a ha; cases ha
    | cons c l ih =>
      rw [List.pairwise_cons] at hp
      intro a ha b hb e1 e2
      rcases List.mem_cons.mp ha with z1 | z1 <;> rcases List.mem_cons.mp hb with z2 | z2
      · rw [z1, z2]
      · have := hp.1 b z2; rw [z1] at e1 e2; omega
      · have := hp.1 a z1; rw [z2] at e1 e2; omega
      · exact ih hp.2 a z1 b z2 e1 e2
  refine perm_sortedM (fun a ha b hb h1 h2 => ?_) ((sortD_perm _).trans (pm.symm.map encR)) (sortD_pw _) (by
    rw [List.pairwise_map]; exact pw.imp fun {a b} z => encR_lt z)
  obtain ⟨x, hx, rfl⟩ := List.mem_map.mp ((sortD_perm _).mem_iff.mp ha)
  obtain ⟨y, hy, rfl⟩ := List.mem_map.mp ((sortD_perm _).mem_iff.mp hb)
  rcases RLt.tri x y with z | z | ⟨z1, z2⟩
  · rw [encR_lt' z] at h2; cases h2
  · rw [encR_lt' z] at h1; cases h1
  · rw [uniq x hx y hy z1 z2]
theorem al_deed (a b : Hook) : PySem.W.alike (encDeed a) (encDeed b) = true := by
  unfold encDeed
  cases a.worth <;> cases b.worth <;> simp [PySem.W.alike, PySem.W.alikeAll]
theorem nod_deed (a : Hook) : nod (encDeed a) = true := by unfold encDeed; cases a.worth <;> rfl
theorem dep_deed (a : Hook) : (encDeed a).depth ≤ 1 := by unfold encDeed; cases a.worth <;> simp [PyData.depth, PyData.depthAll]
theorem soB_raw (l : List Raw) : soB (l.map encR) = true := by
  unfold soB
  rw [Bool.or_eq_true]
  refine .inr ?_
  unfold soG
  simp only [Bool.and_eq_true, List.all_eq_true, List.mem_map, decide_eq_true_eq]
  refine ⟨?_, ?_, ?_⟩
  · rintro _ ⟨p, _, rfl⟩ _ ⟨q, _, rfl⟩
    simp only [encR, PySem.W.alike, PySem.W.alikeAll, al_deed, Bool.and_self]
  · rintro _ ⟨p, _, rfl⟩; rfl
  · rintro _ ⟨p, hp, rfl⟩
    refine ⟨by simp only [encR, nod, nods, nod_deed, Bool.and_self], ?_⟩
    have := dep_deed p.hk
    simp only [encR, PyData.depth, PyData.depthAll]
    omega
theorem look_parts {h : List Part} (G : GoodH h) {p : Part} (hp : p ∈ h) : lookD (mergeD [] (h.map fun p => (Sum.inr p.name, encP p))) (.inr p.name) = some (encP p) := by
  rw [lookD_merge]
  have nm := G.nm
  clear G
  have no : ∀ (l : List Part) (a : Option D), (∀ q ∈ l, q.name ≠ p.name) → (l.map fun p => ((Sum.inr p.name : Key), encP p)).foldl (fun acc kv => if (Sum.inr p.name : Key) = kv.1 then some kv.2 else acc) a = a := by
    intro l
    induction l with
    | nil => intro a _; rfl
    | cons q l ih =>
      intro a hq
      rw [List.map_cons, List.foldl_cons, if_neg (by
        intro e
        injection e with e
        exact hq q (by simp) e.symm), ih a fun r hr => hq r (by simp [hr])]
  have ne : ∀ {a b : Part}, a.name.cps.toList < b.name.cps.toList → a.name ≠ b.name := fun z e => by rw [e] at z; exact List.lt_irrefl _ z
  generalize lookD [] (Sum.inr p.name) = a0
  induction h generalizing a0 with
  | nil => cases hp
  | cons q l ih =>
    rw [List.pairwise_cons] at nm
    rw [List.map_cons, List.foldl_cons]
    rcases List.mem_cons.mp hp with e | hp
    · subst e
      rw [if_pos rfl, no l _ fun r hr => (ne (nm.1 r hr)).symm]
    · exact ih hp nm.2 _
theorem pairsK_parts : ∀ (h : List Part), pairsK (h.map fun p => .tuple [.str p.name, encP p]) = some (h.map fun p => (Sum.inr p.name, encP p))
  | [] => rfl
  | p :: h => by rw [List.map_cons, pairsK, pairsK_parts h]; rfl
theorem rawAt_len (x : Str) (pl : Nat) (n : Str) (ks : List Hook) : (rawAt x pl n ks).length ≤ ks.length := by
  unfold rawAt
  rw [← enumN_len ks 0]
  generalize enumN 0 ks = l
  induction l with
  | nil => simp
  | cons a l ih =>
    rw [List.flatMap_cons, List.length_append, List.length_cons]
    have e : (if a.2.hook = x then [(⟨a.2.rank, pl, a.1, n, a.2⟩ : Raw)] else []).length ≤ 1 := by split <;> simp
    omega
theorem raw_rows (h : List Part) (x : Str) (l : List Str) : (rawOf h x l).map (fun r => (r.name, r.hk)) = rowsOf h x l := by
  unfold rawOf rowsOf
  have e1 : ∀ (pl : Nat) (n : Str) (ks : List Hook), (rawAt x pl n ks).map (fun r => (r.name, r.hk)) = (ks.filter fun k => decide (k.hook = x)).map fun k => (n, k) := by
    intro pl n ks
    unfold rawAt
    have : ∀ (ks : List Hook) (j : Nat), ((enumN j ks).flatMap fun q => if q.2.hook = x then [(⟨q.2.rank, pl, q.1, n, q.2⟩ : Raw)] else []).map (fun r => (r.name, r.hk)) = (ks.filter fun k => decide (k.hook = x)).map fun k => (n, k) := by
      intro ks
      induction ks with
      | nil => intro j; rfl
      | cons k ks ih =>
        intro j
        rw [enumN, List.flatMap_cons, List.map_append, ih, List.filter_cons]
        by_cases c : k.hook = x
        · rw [if_pos c, if_pos (by simpa using c)]; rfl
        · rw [if_neg c, if_neg (by simpa using c)]; rfl
    exact this ks 0
  rw [List.map_flatMap]
  have : ∀ (l : List Str) (j : Nat), ((enumN j l).flatMap fun q => (rawAt x q.1 q.2 (hooksAt h q.2)).map fun r => (r.name, r.hk)) = l.flatMap fun n => ((hooksAt h n).filter fun k => decide (k.hook = x)).map fun k => (n, k) := by
    intro l
    induction l with
    | nil => intro j; rfl
    | cons a l ih => intro j; rw [enumN, List.flatMap_cons, List.flatMap_cons, ih, e1]
  exact this l 0
theorem raw_rank {h : List Part} {x : Str} {l : List Str} : ∀ r ∈ rawOf h x l, r.rank = r.hk.rank ∧ r.hk ∈ hooksAt h r.name ∧ r.name ∈ l := by
  intro r hr
  unfold rawOf at hr
  obtain ⟨q, hq, hr⟩ := List.mem_flatMap.mp hr
  unfold rawAt at hr
  obtain ⟨k, hk, hr⟩ := List.mem_flatMap.mp hr
  split at hr
  · simp at hr; rw [hr]; exact ⟨rfl, (enumN_mem hk).1, (enumN_mem hq).1⟩
  · cases hr
theorem byRank_map {α β : Type} (f : α → Int) (g : β → Int) (m : α → β) (l : List α) (h : ∀ a ∈ l, g (m a) = f a) : (byRank f l).map m = byRank g (l.map m) := by
  unfold byRank
  rw [List.map_flatMap]
  congr 1
  funext r
  rw [List.filter_map]
  congr 1
  apply List.filter_congr
  intro a ha
  simp only [Function.comp_apply, h a ha]
theorem q_chain {h : List Part} (G : GoodH h) (K : GoodK h) (x : Str) : m_chain (encH h) (.str x) = some (.tuple ((chainOf h x).map encC)) := by
  have inH : ∀ n ∈ ordP (bk h), ∃ p ∈ h, p.name = n := fun n hn => by
    obtain ⟨p, hp, e⟩ := mem_keys.mp ((ord_inv (bk h)).key n hn)
    exact ⟨p, st_sub h p hp, e⟩
  have olen : (ordP (bk h)).length ≤ 7 := by
    have := nd_len (ord_inv (bk h)).nd (ord_inv (bk h)).key
    have h7 := (bk_sm G).sm
    unfold keys at this
    rw [List.length_map] at this
    omega
  unfold m_chain
  refine bnd_to (.dict (mergeD [] (h.map fun p => (Sum.inr p.name, encP p)))) ?_ ?_
  · walk_at "ev"
    rw [lcD_all encP (fun p => .tuple [.str p.name, encP p]) h fun p _ => by walk_at "ev"]
    walk_at "ev"
    rw [dictN, pairsK_parts]
    rfl
  refine bnd_to [] rfl ?_
  refine bnd_to ((enumN 0 (ordP (bk h))).map fun q => .tuple [.int (q.1 : Nat), .str q.2]) (by walk_at "ev"; rw [q_order G]; walk_at "ev"; rw [enumI, enumD_map]) ?_
  refine for_to (fun q : Nat × Str => .tuple [.int (q.1 : Nat), .str q.2]) (fun b : List Raw => b.map encR) (fun b q => b ++ rawAt x q.1 q.2 (hooksAt h q.2)) (fun l b => b.length + 64 * l.length ≤ 448 ∧ ∀ q ∈ l, q.2 ∈ ordP (bk h)) (enumN 0 (ordP (bk h))) [] ⟨by rw [enumN_len]; simp; omega, fun q hq => (enumN_mem hq).1⟩ ?hs ?k
  case hs =>
    rintro ⟨pl, n⟩ rest b ⟨hb, hm⟩
    rw [List.length_cons] at hb
    obtain ⟨p, hp, rfl⟩ := inH n (hm (pl, n) (by simp))
    have hk := K.len p hp
    have hra := rawAt_len x pl p.name p.hooks
    refine ⟨?_, ?_, fun q hq => hm q (by simp [hq])⟩
    · refine bnd_to _ rfl ?_
      refine bnd_to ((enumN 0 p.hooks).map fun q => .tuple [.int (q.1 : Nat), encK q.2]) ?_ ?_
      · walk_at "ev"
        rw [show ixD (.dict (mergeD [] (h.map fun p => (Sum.inr p.name, encP p)))) (.str p.name) = some (encP p) from look_parts G hp]
        walk_at "ev"
        rw [enumI, enumD_map]
      · refine for_to (fun q : Nat × Hook => .tuple [.int (q.1 : Nat), encK q.2]) (fun b : List Raw => b.map encR) (fun b q => b ++ if q.2.hook = x then [⟨q.2.rank, pl, q.1, p.name, q.2⟩] else []) (fun l b => b.length + l.length ≤ 10000) (enumN 0 p.hooks) b (by rw [enumN_len]; omega) ?hs2 ?k2
        case hs2 =>
          rintro ⟨j, k⟩ rest b hb
          rw [List.length_cons] at hb
          refine ⟨?_, by rw [List.length_append]; split <;> simp <;> omega⟩
          walk_at "ev"
          rw [apL_ok (by simp; omega)]
          walk_at "ev"
          by_cases c : k.hook = x
          · rw [decide_eq_true c, if_pos c, iteT_true]
            simp [encR]
          · rw [decide_eq_false c, if_neg c, iteT_false]
            simp
        case k2 =>
          intro b' _ hb'
          rw [hb', foldl_app, hooksAt_of G hp]
          rfl
    · show (b ++ rawAt x pl p.name (hooksAt h p.name)).length + _ ≤ _
      rw [List.length_append, hooksAt_of G hp]; omega
  case k =>
    intro b _ hb
    have e : b = rawOf h x (ordP (bk h)) := by rw [hb, foldl_app]; rfl
    have hr : ∀ r ∈ rawOf h x (ordP (bk h)), r.rank ∈ ranks := fun r hr => by
      obtain ⟨e1, e2, e3⟩ := raw_rank r hr
      obtain ⟨p, hp, e4⟩ := inH r.name e3
      rw [← e4, hooksAt_of G hp] at e2
      rw [e1]
      exact ranks_mem (K.rk p hp r.hk e2)
    rw [e]
    walk_at "ev"
    rw [show sortN (.list ((rawOf h x (ordP (bk h))).map encR)) = some (sortD ((rawOf h x (ordP (bk h))).map encR)) from if_pos (soB_raw _), sort_raw (raw_pw h x _) hr]
    walk_at "ev"
    have mem : ∀ r ∈ byRank (fun r : Raw => r.rank) (rawOf h x (ordP (bk h))), r.rank = r.hk.rank := fun r hr' => (raw_rank r ((byRank_perm _ hr).mem_iff.mp hr')).1
    rw [lcD_all encR (fun r => encC (r.name, r.hk)) _ (fun r hr' => by
      show some (some (PyData.tuple [.str r.name, .int r.rank, encDeed r.hk])) = _
      rw [mem r hr']
      rfl)]
    walk_at "ev"
    unfold chainOf
    rw [← raw_rows, ← byRank_map (fun r : Raw => r.rank) (fun q : Str × Hook => q.2.rank) (fun r => (r.name, r.hk)) _ (fun r hr' => (raw_rank r hr').1.symm), List.map_map]
    rfl
end DL


namespace DL
open PySem PySem.Spec PyProof.Rows L2
local macro_rules | `(tactic| walk_at "ev") => `(tactic| try simp only [bnd_some, op1_some, op2_some, op3_some, op4_some, op3s_some, slP_int, boV_some, tB_some, lsV_some, dcV_some, lcD_some, arg1_some, dec1_eq, dec2_eq, dec3_eq, dec4_eq, dec5_eq, jn_nx, jn_rt, iteT_true, iteT_false, notT_some, andT_some, orT_some, andT_false, orT_true, andT_true, orT_false, ixP0, ixP1, ixP2, ixP3, ixP4, ixW0, ixW1, ixW2, ixW3, ixK0, ixK1, ixK2, dec2F, dec2SS, ixT0, ixL0, itD_l, itD_t, itD_h, itL_eq, listN_l, listN_t, listN_h, tupD_l, lenD_l, lenD_t, lenD_h, addD_i, subD_i, negD_i, ltB_i, leB_i, gtB_i, geB_i, eqB_i, eqB_s, neB_s, neB_i, isNB_eq, isNNB_eq, lstV_nil, tupV_nil, tupV1, tupV2, tupV3, tupV4, tupV5, tupV6, lstV1, lstV2, lstV3, intD_b, intD_i, minD_i, keepE_some, keepE_true, keepE_false, inB_sl, inB_st, ninB_eq, List.length_map, if_true, if_false, Bool.false_eq_true])
/-! ### deeds -/
inductive DeedOk (k : Hook) : Prop
  | stop : k.word = "stop" → k.worth = none → DeedOk k
  | some (v : Int) : (k.word = "plus" ∨ k.word = "times" ∨ k.word = "set" ∨ k.word = "fail") → k.worth = some v → 0 ≤ v → v ≤ 999 → DeedOk k
def GoodD (h : List Part) : Prop := ∀ p ∈ h, ∀ k ∈ p.hooks, DeedOk k
def doDeed (k : Hook) (w : Int) : Int := if k.word = "plus" then (w + k.worth.getD 0) % 1000 else if k.word = "times" then w * k.worth.getD 0 % 1000 else if k.word = "set" then k.worth.getD 0 else w
def pullL : List (Str × Hook) → Int → Int × Option Str
  | [], w => (w, none)
  | (n, k) :: r, w => if k.word = "stop" then (w, none) else if k.word = "fail" ∧ k.worth.getD 0 ≤ w then (w, some n) else pullL r (doDeed k w)
def encPl (q : Int × Option Str) : D := .tuple [.int q.1, optS q.2]
@[simp] theorem dec3C (q : Str × Hook) : dec3 (encC q) = some (.str q.1, .int q.2.rank, encDeed q.2) := rfl
theorem deed_stop {k : Hook} (h : k.worth = none) : encDeed k = .tuple [.str k.word] := by unfold encDeed; rw [h]
theorem deed_some {k : Hook} {v : Int} (h : k.worth = some v) : encDeed k = .tuple [.str k.word, .int v] := by unfold encDeed; rw [h]
@[simp] theorem ix_deed0 (k : Hook) : ixD (encDeed k) (.int 0) = some (.str k.word) := by unfold encDeed; rw [ixT0]
theorem ix_deed1 {k : Hook} {v : Int} (h : k.worth = some v) : ixD (encDeed k) (.int 1) = some (.int v) := by rw [deed_some h]; rfl
theorem chain_mem {h : List Part} (G : GoodH h) {x : Str} {q : Str × Hook} (hq : q ∈ chainOf h x) : ∃ p ∈ h, p.name = q.1 ∧ q.2 ∈ p.hooks ∧ q.2.hook = x ∧ q.1 ∈ ordP (bk h) := by
  unfold chainOf byRank at hq
  obtain ⟨r, _, hq⟩ := List.mem_flatMap.mp hq
  have hq := (List.mem_filter.mp hq).1
  unfold rowsOf at hq
  obtain ⟨n, hn, hq⟩ := List.mem_flatMap.mp hq
  obtain ⟨k, hk, rfl⟩ := List.mem_map.mp hq
  obtain ⟨h1, h2⟩ := List.mem_filter.mp hk
  obtain ⟨p, hp, e⟩ := mem_keys.mp ((ord_inv (bk h)).key n hn)
  rw [← e, hooksAt_of G (st_sub h p hp)] at h1
  exact ⟨p, st_sub h p hp, e, h1, by simpa using h2, hn⟩
theorem q_pulled {h : List Part} (G : GoodH h) (K : GoodK h) (Dk : GoodD h) (x : Str) (w : Int) : m_pulled (encH h) (.str x) (.int w) = some (encPl (pullL (chainOf h x) w)) := by
  have hd : ∀ q ∈ chainOf h x, DeedOk q.2 := fun q hq => by
    obtain ⟨p, hp, _, hk, _⟩ := chain_mem G hq
    exact Dk p hp q.2 hk
  unfold m_pulled
  refine bnd_to ((chainOf h x).map encC) (by walk_at "ev"; rw [q_chain G K]; rfl) ?_
  generalize chainOf h x = rows at hd
  induction rows generalizing w with
  | nil => rfl
  | cons q rows ih =>
    obtain ⟨n, k⟩ := q
    have ih := fun w => ih w fun q hq => hd q (by simp [hq])
    rw [List.map_cons, forD]
    simp only [dec3C, bnd_some, op1_some, op2_some, ix_deed0]
    have go : ∀ w' : Int, pullL ((n, k) :: rows) w = pullL rows w' → bnd (bnd (some (Lp.go (R := D) (PyData.int w'))) fun o => match o with
        | .go s' => forD (fun (s1 : D) x => bnd (dec3 x) fun v2 =>
    (bnd (op2 ixD (some v2.2.2) (some (.int 0))) fun x_word3 =>
    (iteT (op2 eqB (some x_word3) (some (.str "stop")))
    (bnd (tupV (arg1 (some s1) (arg1 (some .none) (some [])))) fun d => some (Lp.out d))
    (iteT (andT (op2 eqB (some x_word3) (some (.str "fail"))) (op2 geB (some s1) (op2 ixD (some v2.2.2) (some (.int 1)))))
    (bnd (tupV (arg1 (some s1) (arg1 (some v2.1) (some [])))) fun d => some (Lp.out d))
    (iteT (op2 eqB (some x_word3) (some (.str "plus")))
    (bnd (op2 modD (op2 addD (some s1) (op2 ixD (some v2.2.2) (some (.int 1)))) (some (.int 1000))) fun x_worth4 =>
      (some (Lp.go x_worth4)))
    (iteT (op2 eqB (some x_word3) (some (.str "times")))
      (bnd (op2 modD (op2 mulD (some s1) (op2 ixD (some v2.2.2) (some (.int 1)))) (some (.int 1000))) fun x_worth5 =>
        (some (Lp.go x_worth5)))
      (iteT (op2 eqB (some x_word3) (some (.str "set")))
        (bnd (op2 ixD (some v2.2.2) (some (.int 1))) fun x_worth6 =>
          (some (Lp.go x_worth6)))
        (some (Lp.go s1))))))))) (rows.map encC) s'
        | .brk s' => some (.nx s')
        | .out r => some (.rt r)) (jn fun (s1 : D) =>
  (bnd (tupV (arg1 (some s1) (arg1 (some .none) (some [])))) fun d => some d)) = some (encPl (pullL ((n, k) :: rows) w)) := fun w' e => by
      rw [e]; exact ih w'
    rcases hd (n, k) (by simp) with ⟨h1, h2⟩ | ⟨v, h1, h2, h3, h4⟩
    · simp only at h1 h2
      rw [h1, eqB_s, decide_eq_true rfl, iteT_true, pullL, if_pos h1]
      rfl
    · simp only at h1 h2
      have ns : k.word ≠ "stop" := by rcases h1 with e | e | e | e <;> rw [e] <;> decide
      rw [eqB_s, decide_eq_false ns, iteT_false, ix_deed1 h2]
      simp only [eqB_s, op2_some, geB_i]
      rw [addD_i, mulD_i (.inr ⟨by omega, by omega⟩)]
      simp only [op2_some]
      rw [modD_i (by decide), modD_i (by decide)]
      simp only [bnd_some]
      rcases h1 with e | e | e | e
      · rw [e]
        exact go ((w + v) % 1000) (by
          rw [pullL, if_neg ns, if_neg (by rw [e]; exact fun z => absurd z.1 (by decide))]
          unfold doDeed
          rw [if_pos e, h2]; rfl)
      · rw [e]
        exact go (w * v % 1000) (by
          rw [pullL, if_neg ns, if_neg (by rw [e]; exact fun z => absurd z.1 (by decide))]
          unfold doDeed
          rw [if_neg (by rw [e]; decide), if_pos e, h2]; rfl)
      · rw [e]
        exact go v (by
          rw [pullL, if_neg ns, if_neg (by rw [e]; exact fun z => absurd z.1 (by decide))]
          unfold doDeed
          rw [if_neg (by rw [e]; decide), if_neg (by rw [e]; decide), if_pos e, h2]; rfl)
      · by_cases c : v ≤ w
        · rw [e, decide_eq_true rfl, decide_eq_true c, pullL, if_neg ns, if_pos ⟨e, by rw [h2]; exact c⟩]
          rfl
        · rw [e, decide_eq_true rfl, decide_eq_false c]
          exact go w (by
            rw [pullL, if_neg ns, if_neg (by rw [h2]; exact fun z => c z.2)]
            unfold doDeed
            rw [if_neg (by rw [e]; decide), if_neg (by rw [e]; decide), if_neg (by rw [e]; decide)])
/-! ### the drawn houses' hooks -/
theorem hook_ok (n k : Int) : DeedOk (hookOf n k) ∧ (-9 ≤ (hookOf n k).rank ∧ (hookOf n k).rank ≤ 9) := by
  refine ⟨?_, ?_⟩
  · unfold hookOf
    generalize drawn n (10 + k) / 4 = r
    by_cases c : wordOf r = "stop"
    · exact .stop c (by simp only; rw [if_pos c])
    · refine .some (worthOf r) ?_ (by simp only; rw [if_neg c]) ?_ ?_
      · simp only
        unfold wordOf at c ⊢
        split
        · exact .inl rfl
        split
        · exact .inr (.inl rfl)
        split
        · exact .inr (.inr (.inl rfl))
        split
        · rename_i h1 h2 h3 h4
          rw [if_neg h1, if_neg h2, if_neg h3, if_pos h4] at c
          exact absurd rfl c
        split
        · exact .inr (.inr (.inr rfl))
        · exact .inl rfl
      · unfold worthOf; split <;> omega
      · unfold worthOf; split <;> omega
  · unfold hookOf rankOf
    simp only
    split
    · decide
    split
    · decide
    split
    · decide
    · decide
theorem houseOf_K (n : Int) : GoodK (houseOf n) where
  len p hp := by
    obtain ⟨m, nm, rfl, _⟩ := houseOf_mem hp
    exact Nat.le_trans (hooksOf_len m) (by decide)
  rk p hp k hk := by
    obtain ⟨m, nm, rfl, _⟩ := houseOf_mem hp
    obtain ⟨j, _, rfl⟩ := List.mem_map.mp hk
    exact (hook_ok m _).2
theorem houseOf_D (n : Int) : GoodD (houseOf n) := fun p hp k hk => by
  obtain ⟨m, nm, rfl, _⟩ := houseOf_mem hp
  obtain ⟨j, _, rfl⟩ := List.mem_map.mp hk
  exact (hook_ok m _).1
theorem GoodK.filter {h : List Part} {f : Part → Bool} (g : GoodK h) : GoodK (h.filter f) := ⟨fun p hp => g.len p (List.mem_filter.mp hp).1, fun p hp => g.rk p (List.mem_filter.mp hp).1⟩
theorem pl_C {q : Str × Hook} (h1 : PyData.strOk q.1 = true) (h2 : PyData.strOk q.2.word = true) : Pl 2 (encC q) := pl_tup (pla_cons (pl_str h1) (pla_cons pl_int (pla_cons (pl_encDeed h2) pla_nil)))
theorem chain_pl {h : List Part} (G : GoodH h) (x : Str) : PlAll 2 ((chainOf h x).map encC) := pla_map fun q hq => by
  obtain ⟨p, hp, e, hk, _⟩ := chain_mem G hq
  exact pl_C (e ▸ (G.wf.ok p hp).nm) ((G.wf.ok p hp).ks q.2 hk).2
end DL


namespace DL
open PySem PySem.Spec PyProof.Rows L2
local macro_rules | `(tactic| walk_at "ev") => `(tactic| try simp only [bnd_some, op1_some, op2_some, op3_some, op4_some, op3s_some, slP_int, boV_some, tB_some, lsV_some, dcV_some, lcD_some, arg1_some, dec1_eq, dec2_eq, dec3_eq, dec4_eq, dec5_eq, jn_nx, jn_rt, iteT_true, iteT_false, notT_some, andT_some, orT_some, andT_false, orT_true, andT_true, orT_false, ixP0, ixP1, ixP2, ixP3, ixP4, ixW0, ixW1, ixW2, ixW3, ixK0, ixK1, ixK2, dec2F, dec2SS, ixT0, ixL0, itD_l, itD_t, itD_h, itL_eq, listN_l, listN_t, listN_h, tupD_l, lenD_l, lenD_t, lenD_h, addD_i, subD_i, negD_i, ltB_i, leB_i, gtB_i, geB_i, eqB_i, eqB_s, neB_s, neB_i, isNB_eq, isNNB_eq, lstV_nil, tupV_nil, tupV1, tupV2, tupV3, tupV4, tupV5, tupV6, lstV1, lstV2, lstV3, intD_b, intD_i, minD_i, keepE_some, keepE_true, keepE_false, inB_sl, inB_st, ninB_eq, List.length_map, if_true, if_false, Bool.false_eq_true])
/-! ### more small facts -/
def sortSS (l : List (Str × Str)) : List (Str × Str) := l.mergeSort fun a b => !PySem.W.dataLt (encSS b) (encSS a)
theorem sortSS_map (l : List (Str × Str)) : sortD (l.map encSS) = (sortSS l).map encSS := by
  unfold sortD sortSS
  exact (PySem.W.sort_maps encSS fun a _ b _ => rfl).symm
theorem sortSS_perm (l : List (Str × Str)) : (sortSS l).Perm l := List.mergeSort_perm _ _
theorem eqv_SS (a b : Str × Str) : PyData.eqv (encSS a) (encSS b) = decide (a = b) := by
  obtain ⟨a1, a2⟩ := a
  obtain ⟨b1, b2⟩ := b
  unfold encSS
  simp only [PyData.eqv, PyData.eqvAll, Bool.and_true]
  by_cases h1 : a1 = b1 <;> by_cases h2 : a2 = b2 <;> simp [h1, h2]
theorem any_SS (l : List (Str × Str)) (q : Str × Str) : ((l.map encSS).any fun z => PyData.eqv z (encSS q)) = decide (q ∈ l) := by
  induction l with
  | nil => simp
  | cons a l ih =>
    rw [List.map_cons, List.any_cons, ih, eqv_SS]
    by_cases h : a = q
    · subst h; simp
    · have : ¬ q = a := fun z => h z.symm
      simp [h, this]
def OkSS (l : List (Str × Str)) : Prop := ∀ q ∈ l, PyData.strOk q.1 = true ∧ PyData.strOk q.2 = true
theorem inB_SSt {l : List (Str × Str)} {q : Str × Str} (ok : OkSS l) (hq : PyData.strOk q.1 = true ∧ PyData.strOk q.2 = true) : inB (encSS q) (.tuple (l.map encSS)) = some (decide (q ∈ l)) := by
  have hp : Pl 1 (encSS q) := pl_tup (pla_cons (pl_str hq.1) (pla_cons (pl_str hq.2) pla_nil))
  rw [inB_t hp (pl_SS (n := 0) ok), any_SS]
theorem q_lackingS {h : House} (w : WfH h) : m_lacking (encH h) = some (.tuple ((sortSS (lackOf h (st h))).map encSS)) := by rw [q_lacking w, sortSS_map]
theorem eqLs {l m : List Str} (hl : OkS l) (hm : OkS m) : eqB (.list (l.map .str)) (.list (m.map .str)) = some (decide (l = m)) := by
  rw [eqB_pl (pl_lst (pl_strs (n := 0) hl)) (pl_lst (pl_strs (n := 0) hm)), PyData.eqv, eqv_strs]
theorem neLs {l m : List Str} (hl : OkS l) (hm : OkS m) : neB (.list (l.map .str)) (.list (m.map .str)) = some (!decide (l = m)) := by
  rw [neB_pl (pl_lst (pl_strs (n := 0) hl)) (pl_lst (pl_strs (n := 0) hm)), PyData.eqv, eqv_strs]
theorem neB_self {n : Nat} {d : D} (h : Pl n d) (hn : n ≤ 64 := by decide) : neB d d = some false := by rw [neB_pl h h hn hn, h.self]; rfl
theorem neB_opt (x y : Option Str) : neB (optS x) (optS y) = some (!decide (x = y)) := by
  rw [← eqv_opt]; exact if_pos (by rw [sc_opt]; rfl)
theorem eqB_opt (x y : Option Str) : eqB (optS x) (optS y) = some (decide (x = y)) := by
  rw [← eqv_opt]; exact if_pos (by rw [sc_opt]; rfl)
theorem inB_opt (n : Str) (l : List (Option Str)) : inB (.str n) (.list (l.map optS)) = some (decide (some n ∈ l)) := by
  have e : ((l.map optS).any fun z => PyData.eqv z (.str n)) = decide (some n ∈ l) := by
    induction l with
    | nil => simp
    | cons a l ih =>
      rw [List.map_cons, List.any_cons, ih]
      cases a with
      | none => simp [optS, PyData.eqv]
      | some s =>
        show (PyData.eqv (.str s) (.str n) || _) = _
        rw [eqv_str]
        by_cases h : s = n
        · subst h; simp
        · have : ¬ n = s := fun z => h z.symm
          simp [h, this]
  rw [← e]
  refine if_pos ?_
  have : (l.map optS).all flD = true := by
    rw [List.all_map]
    exact List.all_eq_true.mpr fun o _ => by cases o <;> rfl
  rw [this]; rfl
theorem st_names (h : House) : ((st h).map fun p => PyData.str p.name) = (keys (bk h)).map .str := by rw [keys_bk, List.map_map]; rfl
theorem q_standingS {h : House} (hl : h.length ≤ 4000) : m_standing (encH h) = some (.tuple ((keys (bk h)).map .str)) := by rw [q_standing hl, st_names]
theorem bare_st {h : House} (G : GoodH h) : (h.filter fun p => decide (p.name ∈ keys (bk h))) = st h := by
  refine sub_eqP (h := h) List.filter_sublist (standIt_sublist _ _) G.nm fun p => ⟨fun hp => ?_, fun hp => ?_⟩
  · obtain ⟨h1, h2⟩ := List.mem_filter.mp hp
    obtain ⟨q, hq, e⟩ := mem_keys.mp (by simpa using h2)
    rw [← name_inj G (st_sub h q hq) h1 e]; exact hq
  · exact List.mem_filter.mpr ⟨st_sub h p hp, by simpa using mem_keys.mpr ⟨p, hp, rfl⟩⟩
theorem notIn_iff {ps : List Part} {h : House} (G : GoodH h) (sub : ∀ p ∈ ps, p ∈ h) {p : Part} (hp : p ∈ h) : notIn ps p = true ↔ p ∉ ps := by
  unfold notIn
  have e : ((ps.map encP).any fun z => PyData.eqv z (encP p)) = true ↔ p ∈ ps := by
    rw [List.any_eq_true]
    constructor
    · rintro ⟨z, hz, hzz⟩
      obtain ⟨q, hq, rfl⟩ := List.mem_map.mp hz
      have : q.name = p.name := by
        unfold encP at hzz
        rw [PyData.eqv, PyData.eqvAll, Bool.and_eq_true, eqv_str] at hzz
        simpa using hzz.1
      rw [← name_inj G (sub q hq) hp this]; exact hq
    · intro z
      exact ⟨encP p, List.mem_map.mpr ⟨p, z, rfl⟩, (pl_encP (n := 0) (G.wf.ok p hp)).self⟩
  cases c : ((ps.map encP).any fun z => PyData.eqv z (encP p)) with
  | true => simp [e.mp c]
  | false =>
    have : p ∉ ps := fun z => by rw [e.mpr z] at c; cases c
    simp [this]
theorem mem_lack {h : House} (G : GoodH h) {q : Str × Str} : q ∈ lackOf h (st h) ↔ ∃ p ∈ h, p ∉ st h ∧ p.name = q.1 ∧ q.2 ∈ lacksL (st h) p := by
  unfold lackOf
  rw [List.mem_flatMap]
  constructor
  · rintro ⟨p, hp, hq⟩
    split at hq
    · rename_i c
      obtain ⟨f, hf, rfl⟩ := List.mem_map.mp hq
      exact ⟨p, hp, (notIn_iff G (st_sub h) hp).mp c, rfl, hf⟩
    · cases hq
  · rintro ⟨p, hp, hn, e1, e2⟩
    refine ⟨p, hp, ?_⟩
    rw [if_pos ((notIn_iff G (st_sub h) hp).mpr hn)]
    exact List.mem_map.mpr ⟨q.2, e2, by rw [e1]⟩
theorem mem_lacksL {ps : List Part} {p : Part} {f : Str} : f ∈ lacksL ps p ↔ ∃ w ∈ p.wants, w.face = f ∧ w.must = true ∧ ∀ q ∈ ps, q.name ≠ p.name → gives q w = false := by
  unfold lacksL
  rw [List.mem_map]
  constructor
  · rintro ⟨w, hw, rfl⟩
    obtain ⟨h1, h2⟩ := List.mem_filter.mp hw
    rw [Bool.and_eq_true, List.isEmpty_iff] at h2
    refine ⟨w, h1, rfl, h2.1, fun q hq hn => ?_⟩
    cases e : gives q w with
    | false => rfl
    | true =>
      have := mem_for.mpr ⟨hq, hn, e⟩
      rw [h2.2] at this; cases this
  · rintro ⟨w, h1, rfl, h2, h3⟩
    refine ⟨w, List.mem_filter.mpr ⟨h1, ?_⟩, rfl⟩
    rw [h2, Bool.true_and, List.isEmpty_iff]
    cases e : giversFor ps p.name w with
    | nil => rfl
    | cons a l =>
      have : a ∈ giversFor ps p.name w := by rw [e]; simp
      obtain ⟨z1, z2, z3⟩ := mem_for.mp this
      rw [h3 a z1 z2] at z3; cases z3
theorem lack_okS {h : House} (G : GoodH h) : OkSS (sortSS (lackOf h (st h))) := fun q hq => lack_ok G.wf.ok q ((sortSS_perm _).mem_iff.mp hq)
theorem chain_st {h : House} (G : GoodH h) (x : Str) : chainOf (st h) x = chainOf h x := by
  unfold chainOf
  rw [bk_st G]
  congr 1
  unfold rowsOf
  have : ∀ l : List Str, (∀ n ∈ l, n ∈ keys (bk h)) → (l.flatMap fun n => ((hooksAt (st h) n).filter fun k => decide (k.hook = x)).map fun k => (n, k)) = l.flatMap fun n => ((hooksAt h n).filter fun k => decide (k.hook = x)).map fun k => (n, k) := by
    intro l
    induction l with
    | nil => intro _; rfl
    | cons n l ih =>
      intro hl
      obtain ⟨p, hp, rfl⟩ := mem_keys.mp (hl n (by simp))
      rw [List.flatMap_cons, List.flatMap_cons, ih fun m hm => hl m (by simp [hm]), hooksAt_of G.st hp, hooksAt_of G (st_sub h p hp)]
  exact this _ (ord_inv (bk h)).key
theorem GoodK.st {h : House} (g : GoodK h) : GoodK (DL.st h) := ⟨fun p hp => g.len p (st_sub h p hp), fun p hp => g.rk p (st_sub h p hp)⟩
theorem q_law_wants (p : Part) : m__law_wants (encP p) = some (.list (p.wants.map fun w => .str w.face)) := by
  unfold m__law_wants
  walk_at "ev"
  rw [lcD_all encW (fun w => .str w.face) p.wants fun w _ => by walk_at "ev"]
  rfl
end DL


namespace DL
open PySem PySem.Spec PyProof.Rows L2
local macro_rules | `(tactic| walk_at "ev") => `(tactic| try simp only [bnd_some, op1_some, op2_some, op3_some, op4_some, op3s_some, slP_int, boV_some, tB_some, lsV_some, dcV_some, lcD_some, arg1_some, dec1_eq, dec2_eq, dec3_eq, dec4_eq, dec5_eq, jn_nx, jn_rt, iteT_true, iteT_false, notT_some, andT_some, orT_some, andT_false, orT_true, andT_true, orT_false, ixP0, ixP1, ixP2, ixP3, ixP4, ixW0, ixW1, ixW2, ixW3, ixK0, ixK1, ixK2, dec2F, dec2SS, ixT0, ixL0, itD_l, itD_t, itD_h, itL_eq, listN_l, listN_t, listN_h, tupD_l, lenD_l, lenD_t, lenD_h, addD_i, subD_i, negD_i, ltB_i, leB_i, gtB_i, geB_i, eqB_i, eqB_s, neB_s, neB_i, isNB_eq, isNNB_eq, lstV_nil, tupV_nil, tupV1, tupV2, tupV3, tupV4, tupV5, tupV6, lstV1, lstV2, lstV3, intD_b, intD_i, minD_i, keepE_some, keepE_true, keepE_false, inB_sl, inB_st, ninB_eq, List.length_map, if_true, if_false, Bool.false_eq_true])
theorem rowsOf_len {h : List Part} (G : GoodH h) (K : GoodK h) (x : Str) : ∀ (l : List Str), (∀ n ∈ l, ∃ p ∈ h, p.name = n) → (rowsOf h x l).length ≤ 64 * l.length
  | [], _ => by simp [rowsOf]
  | n :: l, hl => by
    have ih := rowsOf_len G K x l fun m hm => hl m (by simp [hm])
    obtain ⟨p, hp, rfl⟩ := hl n (by simp)
    unfold rowsOf at *
    rw [List.flatMap_cons, List.length_append, List.length_map, hooksAt_of G hp, List.length_cons]
    have h1 : (p.hooks.filter fun k => decide (k.hook = x)).length ≤ 64 := Nat.le_trans (List.length_filter_le _ _) (K.len p hp)
    omega
theorem ord_inH {h : List Part} : ∀ n ∈ ordP (bk h), ∃ p ∈ h, p.name = n := fun n hn => by
  obtain ⟨p, hp, e⟩ := mem_keys.mp ((ord_inv (bk h)).key n hn)
  exact ⟨p, st_sub h p hp, e⟩
theorem ord_len {h : List Part} (G : GoodH h) : (ordP (bk h)).length ≤ 7 := by
  have := nd_len (ord_inv (bk h)).nd (ord_inv (bk h)).key
  have h7 := (bk_sm G).sm
  unfold keys at this
  rw [List.length_map] at this
  omega
theorem range19 : op2 rangeI2 (op1 negD (some (.int 9))) (some (.int 10)) = some (ranks.map .int) := by
  show some ((List.range 19).map fun i => PyData.int (-9 + ((i : Nat) : Int))) = _
  unfold ranks
  rw [List.map_map]
  congr 1
theorem rows_rank (h : List Part) (x : Str) (r : Int) : ∀ (l : List Str), (l.flatMap fun n => ((hooksAt h n).filter fun k => decide (k.hook = x) && decide (k.rank = r)).map fun k => (n, k)) = (rowsOf h x l).filter fun q => decide (q.2.rank = r)
  | [] => rfl
  | n :: l => by
    rw [List.flatMap_cons, rows_rank h x r l]
    unfold rowsOf
    rw [List.flatMap_cons, List.filter_append]
    congr 1
    rw [List.filter_map, List.filter_filter]
    congr 1
    apply List.filter_congr
    intro k _
    simp only [Function.comp_apply]
    rw [Bool.and_comm]
theorem q_law_chain {h : List Part} (G : GoodH h) (K : GoodK h) (x : Str) : m__law_chain (encH h) (.str x) = some (.list ((chainOf h x).map encC)) := by
  have hol := ord_len G
  unfold m__law_chain
  refine bnd_to (.list []) rfl ?_
  refine bnd_to (ranks.map .int) range19 ?_
  refine for_to PyData.int (fun b : List (Str × Hook) => .list (b.map encC)) (fun b r => b ++ (rowsOf h x (ordP (bk h))).filter fun q => decide (q.2.rank = r)) (fun l b => b.length + 448 * l.length ≤ 10000) ranks [] (by decide) ?hs ?k
  case hs =>
    intro r rest b hb
    rw [List.length_cons] at hb
    have hf : ((rowsOf h x (ordP (bk h))).filter fun q => decide (q.2.rank = r)).length ≤ 448 := by
      have h1 := List.length_filter_le (fun q : Str × Hook => decide (q.2.rank = r)) (rowsOf h x (ordP (bk h)))
      have h2 := rowsOf_len G K x _ (ord_inH (h := h))
      omega
    refine ⟨?_, by rw [List.length_append]; omega⟩
    refine bnd_to _ rfl ?_
    refine bnd_to ((ordP (bk h)).map .str) (by walk_at "ev"; rw [q_law_order G]; rfl) ?_
    refine for_to PyData.str (fun b : List (Str × Hook) => .list (b.map encC)) (fun b n => b ++ ((hooksAt h n).filter fun k => decide (k.hook = x) && decide (k.rank = r)).map fun k => (n, k)) (fun l b => b.length + 64 * l.length ≤ 20000 ∧ ∀ n ∈ l, n ∈ ordP (bk h)) (ordP (bk h)) b ⟨by omega, fun _ z => z⟩ ?hs2 ?k2
    case hs2 =>
      intro n rest b ⟨hb, hm⟩
      rw [List.length_cons] at hb
      obtain ⟨p, hp, rfl⟩ := ord_inH n (hm n (by simp))
      have hk : (p.hooks.filter fun k => decide (k.hook = x) && decide (k.rank = r)).length ≤ 64 := Nat.le_trans (List.length_filter_le _ _) (K.len p hp)
      rw [hooksAt_of G hp]
      refine ⟨?_, by rw [List.length_append, List.length_map]; omega, fun q hq => hm q (by simp [hq])⟩
      refine bnd_to _ rfl ?_
      refine bnd_to (encP p) ?_ ?_
      · walk_at "ev"
        rw [lcD_iv encP (fun q => decide (q.name = p.name)) encP h fun q _ => by walk_at "ev"]
        exact hd_filter (head_name G hp)
      walk_at "ev"
      rw [lcD_iv encK (fun k => decide (k.hook = x) && decide (k.rank = r)) (fun k => encC (p.name, k)) p.hooks fun k _ => by
        walk_at "ev"
        by_cases c : k.rank = r
        · rw [← c]; rfl
        · rw [decide_eq_false c]; simp]
      walk_at "ev"
      rw [addD_l (by simp; omega)]
      walk_at "ev"
      rw [List.map_append, List.map_map]
      rfl
    case k2 =>
      intro b' _ hb'
      rw [hb', foldl_app, rows_rank]
  case k =>
    intro b _ hb
    rw [hb, foldl_app]
    rfl
theorem pull_bnd : ∀ (rows : List (Str × Hook)) (w : Int), (∀ q ∈ rows, DeedOk q.2) → 0 ≤ w → w < 1000 → 0 ≤ (pullL rows w).1 ∧ (pullL rows w).1 < 1000
  | [], w, _, h1, h2 => ⟨h1, h2⟩
  | (n, k) :: r, w, hd, h1, h2 => by
    unfold pullL
    split
    · exact ⟨h1, h2⟩
    · split
      · exact ⟨h1, h2⟩
      · have : 0 ≤ doDeed k w ∧ doDeed k w < 1000 := by
          unfold doDeed
          split
          · omega
          · split
            · omega
            · split
              · rcases hd (n, k) (by simp) with ⟨_, e⟩ | ⟨v, _, e, h3, h4⟩
                · simp only at e; rw [e]; simp
                · simp only at e; rw [e]; simp; omega
              · exact ⟨h1, h2⟩
        exact pull_bnd r _ (fun q hq => hd q (by simp [hq])) this.1 this.2
theorem dsp_eq (A B C E : D) : dcV (dspV (dp1 (some (.str "plus")) (some A) (dp1 (some (.str "times")) (some B) (dp1 (some (.str "set")) (some C) (dp1 (some (.str "fail")) (some E) (some [])))))) = some (.dict (mergeD [] [(.inr "plus", A), (.inr "times", B), (.inr "set", C), (.inr "fail", E)])) := rfl
theorem dsp_look (A B C E : D) (z : Str) : ixD (.dict (mergeD [] [(.inr "plus", A), (.inr "times", B), (.inr "set", C), (.inr "fail", E)])) (.str z) = if z = "fail" then some E else if z = "set" then some C else if z = "times" then some B else if z = "plus" then some A else none := by
  show lookD _ (.inr z) = _
  rw [lookD_merge]
  simp only [List.foldl_cons, List.foldl_nil, Sum.inr.injEq]
  rfl
theorem dsp_plus (A B C E : D) : ixD (.dict (mergeD [] [(.inr "plus", A), (.inr "times", B), (.inr "set", C), (.inr "fail", E)])) (.str "plus") = some A := by
  rw [dsp_look, if_neg (by decide), if_neg (by decide), if_neg (by decide), if_pos rfl]
theorem dsp_times (A B C E : D) : ixD (.dict (mergeD [] [(.inr "plus", A), (.inr "times", B), (.inr "set", C), (.inr "fail", E)])) (.str "times") = some B := by
  rw [dsp_look, if_neg (by decide), if_neg (by decide), if_pos rfl]
theorem dsp_set (A B C E : D) : ixD (.dict (mergeD [] [(.inr "plus", A), (.inr "times", B), (.inr "set", C), (.inr "fail", E)])) (.str "set") = some C := by
  rw [dsp_look, if_neg (by decide), if_pos rfl]
theorem dsp_fail (A B C E : D) : ixD (.dict (mergeD [] [(.inr "plus", A), (.inr "times", B), (.inr "set", C), (.inr "fail", E)])) (.str "fail") = some E := by
  rw [dsp_look, if_pos rfl]
theorem bnd2 {α β γ : Type} {A A' : Option α} {f : α → Option β} {g : β → Option γ} {r : Option γ} (h : A = A') (k : bnd (bnd A' f) g = r) : bnd (bnd A f) g = r := by rw [h]; exact k
theorem law_step {n : Str} {k : Hook} (w : Int) (w0 : 0 ≤ w) (w1 : w < 1000) (hdk : DeedOk k) : (bnd (dec3 (encC (n, k))) fun v2 =>
    (iteT (op2 eqB (op2 ixD (some v2.2.2) (some (.int 0))) (some (.str "stop")))
    (some (Lp.brk (PyData.int w)))
    (iteT (andT (op2 eqB (op2 ixD (some v2.2.2) (some (.int 0))) (some (.str "fail"))) (op2 geB (some (.int w)) (op2 ixD (some v2.2.2) (some (.int 1)))))
    (bnd (tupV (arg1 (some (.int w)) (arg1 (some v2.1) (some [])))) fun d => some (Lp.out d))
    (bnd (dcV (dspV (dp1 (some (.str "plus")) (op2 addD (some (.int w)) (op2 ixD (some v2.2.2) (some (.int 1)))) (dp1 (some (.str "times")) (op2 mulD (some (.int w)) (op2 ixD (some v2.2.2) (some (.int 1)))) (dp1 (some (.str "set")) (op2 ixD (some v2.2.2) (some (.int 1))) (dp1 (some (.str "fail")) (some (.int w)) (some []))))))) fun x_some3 =>
    (bnd (op2 modD (op2 ixD (some x_some3) (op2 ixD (some v2.2.2) (some (.int 0)))) (some (.int 1000))) fun x_worth4 =>
    (some (Lp.go x_worth4)))))) ) = (if k.word = "stop" then some (Lp.brk (.int w)) else if k.word = "fail" ∧ k.worth.getD 0 ≤ w then some (Lp.out (encPl (w, some n))) else some (Lp.go (.int (doDeed k w)))) := by
  simp only [dec3C, bnd_some, op1_some, op2_some, ix_deed0]
  rcases hdk with ⟨h1, h2⟩ | ⟨v, h1, h2, h3, h4⟩
  · rw [h1, eqB_s, decide_eq_true rfl, iteT_true, if_pos rfl]
  · have ns : k.word ≠ "stop" := by rcases h1 with e | e | e | e <;> rw [e] <;> decide
    rw [eqB_s, decide_eq_false ns, iteT_false, if_neg ns, ix_deed1 h2, h2]
    simp only [eqB_s, op2_some, geB_i, addD_i, Option.getD_some]
    rw [mulD_i (.inr ⟨by omega, by omega⟩)]
    rw [dsp_eq, bnd_some]
    have nf : ∀ z : Str, z ≠ "fail" → andT (some (decide (z = "fail"))) (some (decide (v ≤ w))) = some false := fun z hz => by rw [decide_eq_false hz]; rfl
    have dm : ∀ y : Int, op2 modD (some (.int y)) (some (.int 1000)) = some (.int (y % 1000)) := fun y => (op2_some modD _ _).trans (modD_i (by decide))
    rcases h1 with e | e | e | e
    · rw [if_neg (fun z => absurd (e.symm.trans z.1) (by decide)), nf _ (by rw [e]; decide), iteT_false, e, dsp_plus, dm, bnd_some]
      unfold doDeed
      rw [if_pos e, h2]; rfl
    · rw [if_neg (fun z => absurd (e.symm.trans z.1) (by decide)), nf _ (by rw [e]; decide), iteT_false, e, dsp_times, dm, bnd_some]
      unfold doDeed
      rw [if_neg (by rw [e]; decide), if_pos e, h2]; rfl
    · rw [if_neg (fun z => absurd (e.symm.trans z.1) (by decide)), nf _ (by rw [e]; decide), iteT_false, e, dsp_set, dm, bnd_some]
      unfold doDeed
      rw [if_neg (by rw [e]; decide), if_neg (by rw [e]; decide), if_pos e, h2, Option.getD_some, Int.emod_eq_of_lt h3 (by omega)]
    · by_cases c : v ≤ w
      · rw [decide_eq_true e, decide_eq_true c, if_pos ⟨e, c⟩, andT_true, iteT_true]
        rfl
      · rw [decide_eq_true e, decide_eq_false c, if_neg (fun z => c z.2), andT_true, iteT_false, e, dsp_fail, dm, bnd_some]
        unfold doDeed
        rw [if_neg (by rw [e]; decide), if_neg (by rw [e]; decide), if_neg (by rw [e]; decide), Int.emod_eq_of_lt w0 w1]
theorem q_law_pulled {h : List Part} (G : GoodH h) (K : GoodK h) (Dk : GoodD h) (x : Str) (w : Int) (w0 : 0 ≤ w) (w1 : w < 1000) : m__law_pulled (encH h) (.str x) (.int w) = some (encPl (pullL (chainOf h x) w)) := by
  have hd : ∀ q ∈ chainOf h x, DeedOk q.2 := fun q hq => by
    obtain ⟨p, hp, _, hk, _⟩ := chain_mem G hq
    exact Dk p hp q.2 hk
  unfold m__law_pulled
  refine bnd_to ((chainOf h x).map encC) (by rw [op2_some, q_law_chain G K]; rfl) ?_
  generalize chainOf h x = rows at hd
  induction rows generalizing w with
  | nil => rfl
  | cons q rows ih =>
    obtain ⟨n, k⟩ := q
    have ih := fun w w0 w1 => ih w w0 w1 fun q hq => hd q (by simp [hq])
    rw [List.map_cons, forD]
    refine bnd2 (law_step w w0 w1 (hd (n, k) (by simp))) ?_
    rw [pullL]
    by_cases c1 : k.word = "stop"
    · rw [if_pos c1, if_pos c1]; rfl
    · rw [if_neg c1, if_neg c1]
      by_cases c2 : k.word = "fail" ∧ k.worth.getD 0 ≤ w
      · rw [if_pos c2, if_pos c2]; rfl
      · rw [if_neg c2, if_neg c2]
        have hb : 0 ≤ doDeed k w ∧ doDeed k w < 1000 := by
          unfold doDeed
          split
          · omega
          · split
            · omega
            · split
              · rcases hd (n, k) (by simp) with ⟨_, e⟩ | ⟨v, _, e, h3, h4⟩
                · simp only at e; rw [e]; simp
                · simp only at e; rw [e]; simp; omega
              · exact ⟨w0, w1⟩
        exact ih _ hb.1 hb.2
theorem pl_Pl {q : Int × Option Str} (h : ∀ n, q.2 = some n → PyData.strOk n = true) : Pl 1 (encPl q) := by
  unfold encPl
  refine pl_tup (pla_cons pl_int (pla_cons ?_ pla_nil))
  cases e : q.2 with
  | none => exact pl_none
  | some n => exact pl_str (h n e)
theorem pull_name : ∀ (rows : List (Str × Hook)) (w : Int) (n : Str), (pullL rows w).2 = some n → ∃ q ∈ rows, q.1 = n
  | [], w, n, h => by cases h
  | (m, k) :: r, w, n, h => by
    unfold pullL at h
    split at h
    · cases h
    · split at h
      · cases h; exact ⟨(m, k), by simp, rfl⟩
      · obtain ⟨q, hq, e⟩ := pull_name r _ n h
        exact ⟨q, by simp [hq], e⟩
theorem pull_pl {h : List Part} (G : GoodH h) (x : Str) (w : Int) : Pl 1 (encPl (pullL (chainOf h x) w)) := pl_Pl fun n hn => by
  obtain ⟨q, hq, e⟩ := pull_name _ _ n hn
  obtain ⟨p, hp, e2, _⟩ := chain_mem G hq
  rw [← e, ← e2]
  exact (G.wf.ok p hp).nm
end DL


namespace DL
open PySem PySem.Spec PyProof.Rows L2

def m_law_K33 (a_script : D) : Option D :=
  (bnd (op1 m__law_house (op2 m__law_mixed (some a_script) (some (.int 0)))) fun x_house1 =>
  (bnd (op2 m__law_mixed (some a_script) (some (.int 1))) fun x_number2 =>
  (bnd (op2 ixD (tupV (arg1 (some (.str "go")) (arg1 (some (.str "end")) (arg1 (some (.str "none")) (some []))))) (op2 modD (some x_number2) (some (.int 3)))) fun x_hook3 =>
  (bnd (op2 m_chain (some x_house1) (some x_hook3)) fun x_row4 =>
  (iteT (op2 neB (lsV (lcD (op2 rangeI2 (some (.int 1)) (op1 lenD (some x_row4))) fun x => bnd (dec1 x) fun v5 => keepE (op2 ltB (op2 ixD (op2 ixD (some x_row4) (some v5)) (some (.int 1))) (op2 ixD (op2 ixD (some x_row4) (op2 subD (some v5) (some (.int 1)))) (some (.int 1)))) (some v5))) (lsV (lstV (some []))))
  (bnd (some (.bool false)) fun d => some d)
  (bnd (some (.int 0)) fun x_many6 =>
  (bnd (op1 itD (some x_house1)) fun l => bnd (forD (fun (s7 : D) x => bnd (dec1 x) fun v8 =>
    (bnd (lsV (lcD (op1 itD (op2 ixD (some v8) (some (.int 4)))) fun x => bnd (dec1 x) fun v10 => keepE (andT (op2 eqB (op2 ixD (some v10) (some (.int 0))) (some x_hook3)) (op2 inB (op2 ixD (some v8) (some (.int 0))) (op1 m_order (some x_house1)))) (some v10))) fun x_mine9 =>
    (bnd (lsV (lstV (some []))) fun x_due11 =>
    (bnd (op2 rangeI2 (op1 negD (some (.int 9))) (some (.int 10))) fun l => bnd (forD (fun (s12 : D) x => bnd (dec1 x) fun v13 =>
      (bnd (op2 addD (some s12) (lsV (lcD (op1 itD (some x_mine9)) fun x => bnd (dec1 x) fun v15 => keepE (op2 eqB (op2 ixD (some v15) (some (.int 1))) (some v13)) (tupV (arg1 (op2 ixD (some v8) (some (.int 0))) (arg1 (some v13) (arg1 (op2 ixD (some v15) (some (.int 2))) (some [])))))))) fun x_due14 =>
      (some (Lp.go x_due14)))) l x_due11) (jn fun (s12 : D) =>
    (iteT (op2 neB (lsV (lcD (op1 itD (some x_row4)) fun x => bnd (dec1 x) fun v16 => keepE (op2 eqB (op2 ixD (some v16) (some (.int 0))) (op2 ixD (some v8) (some (.int 0)))) (some v16))) (some s12))
    (bnd (some (.bool false)) fun d => some (Lp.out d))
    (bnd (op2 addD (some s7) (op1 lenD (some s12))) fun x_many17 =>
    (some (Lp.go x_many17))))))))) l x_many6) (jn fun (s7 : D) =>
  (iteT (op2 neB (op1 lenD (some x_row4)) (some s7))
  (bnd (some (.bool false)) fun d => some d)
  (iteT (orT (op2 eqB (op1 lenD (some x_house1)) (some (.int 6))) (op2 neB (lsV (lcD (op1 itD (some x_row4)) fun x => bnd (dec1 x) fun v19 => keepE (op2 inB (op2 ixD (some v19) (some (.int 1))) (tupV (arg1 (op1 negD (some (.int 9))) (arg1 (some (.int 9)) (some []))))) (some v19))) (lsV (lstV (some [])))))
  (bnd (some (.bool true)) fun d => some d)
  (bnd (op1 itD (tupV (arg1 (tupV (arg1 (some (.int 9)) (arg1 (some (.int 7)) (some [])))) (arg1 (tupV (arg1 (op1 negD (some (.int 9))) (arg1 (some (.int 7)) (some [])))) (some []))))) fun l => bnd (forD (fun (s20 : Unit) x => bnd (dec2 x) fun v21 =>
    (bnd (op2 addD (some x_house1) (tupV (arg1 (tupV (arg1 (some (.str "zzz")) (arg1 (some (.int 1)) (arg1 (tupV (some [])) (arg1 (tupV (some [])) (arg1 (tupV (arg1 (tupV (arg1 (some x_hook3) (arg1 (some v21.1) (arg1 (tupV (arg1 (some (.str "set")) (arg1 (some v21.2) (some [])))) (some []))))) (some []))) (some []))))))) (some [])))) fun x_new22 =>
    (bnd (tupV (arg1 (some (.str "zzz")) (arg1 (some v21.1) (arg1 (tupV (arg1 (some (.str "set")) (arg1 (some v21.2) (some [])))) (some []))))) fun x_more23 =>
    (iteT (op2 neB (op2 m_chain (some x_new22) (some x_hook3)) (op2 ixD (tupV (arg1 (op2 addD (tupV (arg1 (some x_more23) (some []))) (some x_row4)) (arg1 (op2 addD (some x_row4) (tupV (arg1 (some x_more23) (some [])))) (some [])))) (op1 intD (boV (op2 eqB (some v21.1) (some (.int 9)))))))
    (bnd (some (.bool false)) fun d => some (Lp.out d))
    (bnd (op2 modD (op2 divD (some x_number2) (some (.int 4))) (some (.int 1000))) fun x_begun24 =>
    (iteT (andT (op2 eqB (some v21.1) (op1 negD (some (.int 9)))) (op2 neB (op3 m_pulled (some x_new22) (some x_hook3) (some x_begun24)) (op3 m_pulled (some x_house1) (some x_hook3) (some v21.2))))
    (bnd (some (.bool false)) fun d => some (Lp.out d))
    (some (Lp.go ())))))))) l ()) (jn fun (s20 : Unit) =>
  (bnd (some (.bool true)) fun d => some d)))))))))))))
end DL


namespace DL
open PySem PySem.Spec PyProof.Rows L2
local macro_rules | `(tactic| walk_at "ev") => `(tactic| try simp only [bnd_some, op1_some, op2_some, op3_some, op4_some, op3s_some, slP_int, boV_some, tB_some, lsV_some, dcV_some, lcD_some, arg1_some, dec1_eq, dec2_eq, dec3_eq, dec4_eq, dec5_eq, jn_nx, jn_rt, iteT_true, iteT_false, notT_some, andT_some, orT_some, andT_false, orT_true, andT_true, orT_false, ixP0, ixP1, ixP2, ixP3, ixP4, ixW0, ixW1, ixW2, ixW3, ixK0, ixK1, ixK2, dec2F, dec2SS, ixT0, ixL0, itD_l, itD_t, itD_h, itL_eq, listN_l, listN_t, listN_h, tupD_l, lenD_l, lenD_t, lenD_h, addD_i, subD_i, negD_i, ltB_i, leB_i, gtB_i, geB_i, eqB_i, eqB_s, neB_s, neB_i, isNB_eq, isNNB_eq, lstV_nil, tupV_nil, tupV1, tupV2, tupV3, tupV4, tupV5, tupV6, lstV1, lstV2, lstV3, intD_b, intD_i, minD_i, keepE_some, keepE_true, keepE_false, inB_sl, inB_st, ninB_eq, List.length_map, if_true, if_false, Bool.false_eq_true])
theorem byRank_pw {α : Type} (f : α → Int) (l : List α) : (byRank f l).Pairwise fun a b => f a ≤ f b := by
  unfold byRank
  rw [List.pairwise_flatMap]
  refine ⟨fun r _ => ?_, ranks_pw.imp fun {r s} z a ha b hb => ?_⟩
  · rw [List.pairwise_iff_forall_sublist]
    intro a b hs
    have ha := hs.subset (show a ∈ [a, b] by simp)
    have hb := hs.subset (show b ∈ [a, b] by simp)
    have h1 : f a = r := by simpa using (List.mem_filter.mp ha).2
    have h2 : f b = r := by simpa using (List.mem_filter.mp hb).2
    omega
  · have h1 : f a = r := by simpa using (List.mem_filter.mp ha).2
    have h2 : f b = s := by simpa using (List.mem_filter.mp hb).2
    omega
theorem byRank_filter {α : Type} (f : α → Int) (P : α → Bool) (l : List α) : (byRank f l).filter P = byRank f (l.filter P) := by
  unfold byRank
  rw [List.filter_flatMap]
  congr 1
  funext r
  rw [List.filter_filter, List.filter_filter]
  apply List.filter_congr
  intro a _
  rw [Bool.and_comm]
theorem rows_name {h : List Part} {x n : Str} : ∀ {l : List Str}, l.Nodup → (rowsOf h x l).filter (fun q => decide (q.1 = n)) = if n ∈ l then ((hooksAt h n).filter fun k => decide (k.hook = x)).map fun k => (n, k) else []
  | [], _ => rfl
  | m :: l, nd => by
    rw [List.nodup_cons] at nd
    have ih := rows_name (h := h) (x := x) (n := n) nd.2
    unfold rowsOf at *
    rw [List.flatMap_cons, List.filter_append, ih]
    by_cases e : m = n
    · subst e
      rw [if_neg nd.1, if_pos (by simp), List.append_nil, List.filter_map]
      congr 1
      rw [List.filter_eq_self.mpr]
      intro a _; simp
    · have e' : ¬ n = m := fun z => e z.symm
      have : ((((hooksAt h m).filter fun k => decide (k.hook = x)).map fun k => (m, k)).filter fun q => decide (q.1 = n)) = [] := by
        rw [List.filter_eq_nil_iff]
        intro q hq
        obtain ⟨k, _, rfl⟩ := List.mem_map.mp hq
        simpa using e
      rw [this, List.nil_append]
      by_cases c : n ∈ l
      · rw [if_pos c, if_pos (by simp [c])]
      · rw [if_neg c, if_neg (by simp [c, e'])]
theorem byRank_hi {α : Type} (f : α → Int) {pre post : List α} {z : α} (hz : f z = 9) (hn : ∀ a ∈ pre ++ post, f a ≠ 9) : byRank f (pre ++ z :: post) = byRank f (pre ++ post) ++ [z] := by
  have e : ranks = (List.range 18).map (fun i => ((i : Nat) : Int) - 9) ++ [9] := by decide
  unfold byRank
  rw [e, List.flatMap_append, List.flatMap_append]
  have h1 : ∀ r ∈ (List.range 18).map (fun i => ((i : Nat) : Int) - 9), r ≠ 9 := by decide
  have e1 : (((List.range 18).map fun i => ((i : Nat) : Int) - 9).flatMap fun r => (pre ++ z :: post).filter fun a => decide (f a = r)) = ((List.range 18).map fun i => ((i : Nat) : Int) - 9).flatMap fun r => (pre ++ post).filter fun a => decide (f a = r) := by
    generalize (List.range 18).map (fun i => ((i : Nat) : Int) - 9) = rs at h1
    induction rs with
    | nil => rfl
    | cons r rs ih =>
      rw [List.flatMap_cons, List.flatMap_cons, ih fun s hs => h1 s (by simp [hs])]
      congr 1
      rw [List.filter_append, List.filter_append, List.filter_cons, if_neg (by
        have := h1 r (by simp)
        simp only [decide_eq_true_eq]
        omega)]
  have e2 : (([9] : List Int).flatMap fun r => (pre ++ post).filter fun a => decide (f a = r)) = [] := by
    simp only [List.flatMap_cons, List.flatMap_nil, List.append_nil]
    rw [List.filter_eq_nil_iff]
    intro a ha
    simpa using hn a ha
  have e3 : (([9] : List Int).flatMap fun r => (pre ++ z :: post).filter fun a => decide (f a = r)) = [z] := by
    simp only [List.flatMap_cons, List.flatMap_nil, List.append_nil]
    have hp : pre.filter (fun a => decide (f a = 9)) = [] := by
      rw [List.filter_eq_nil_iff]; intro a ha; simpa using hn a (by simp [ha])
    have hq : post.filter (fun a => decide (f a = 9)) = [] := by
      rw [List.filter_eq_nil_iff]; intro a ha; simpa using hn a (by simp [ha])
    rw [List.filter_append, List.filter_cons, if_pos (by simpa using hz), hp, hq]
    rfl
  rw [e1, e2, e3, List.append_nil]
theorem byRank_lo {α : Type} (f : α → Int) {pre post : List α} {z : α} (hz : f z = -9) (hn : ∀ a ∈ pre ++ post, f a ≠ -9) : byRank f (pre ++ z :: post) = z :: byRank f (pre ++ post) := by
  have e : ranks = [-9] ++ (List.range 18).map (fun i => ((i : Nat) : Int) - 8) := by decide
  unfold byRank
  rw [e, List.flatMap_append, List.flatMap_append]
  have h1 : ∀ r ∈ (List.range 18).map (fun i => ((i : Nat) : Int) - 8), r ≠ -9 := by decide
  have e1 : (((List.range 18).map fun i => ((i : Nat) : Int) - 8).flatMap fun r => (pre ++ z :: post).filter fun a => decide (f a = r)) = ((List.range 18).map fun i => ((i : Nat) : Int) - 8).flatMap fun r => (pre ++ post).filter fun a => decide (f a = r) := by
    generalize (List.range 18).map (fun i => ((i : Nat) : Int) - 8) = rs at h1
    induction rs with
    | nil => rfl
    | cons r rs ih =>
      rw [List.flatMap_cons, List.flatMap_cons, ih fun s hs => h1 s (by simp [hs])]
      congr 1
      rw [List.filter_append, List.filter_append, List.filter_cons, if_neg (by
        have := h1 r (by simp)
        simp only [decide_eq_true_eq]
        omega)]
  have e2 : (([-9] : List Int).flatMap fun r => (pre ++ post).filter fun a => decide (f a = r)) = [] := by
    simp only [List.flatMap_cons, List.flatMap_nil, List.append_nil]
    rw [List.filter_eq_nil_iff]
    intro a ha
    simpa using hn a ha
  have e3 : (([-9] : List Int).flatMap fun r => (pre ++ z :: post).filter fun a => decide (f a = r)) = [z] := by
    simp only [List.flatMap_cons, List.flatMap_nil, List.append_nil]
    have hp : pre.filter (fun a => decide (f a = -9)) = [] := by
      rw [List.filter_eq_nil_iff]; intro a ha; simpa using hn a (by simp [ha])
    have hq : post.filter (fun a => decide (f a = -9)) = [] := by
      rw [List.filter_eq_nil_iff]; intro a ha; simpa using hn a (by simp [ha])
    rw [List.filter_append, List.filter_cons, if_pos (by simpa using hz), hp, hq]
    rfl
  rw [e1, e2, e3]
  rfl
theorem count_parts {h : List Part} (G : GoodH h) : ∀ (row : List (Str × Hook)), (∀ q ∈ row, ∃ p ∈ h, p.name = q.1) → (h.map fun p => (row.filter fun q => decide (q.1 = p.name)).length).sum = row.length
  | [], _ => by
    simp only [List.filter_nil, List.length_nil]
    clear G
    induction h with
    | nil => rfl
    | cons a h ih => simpa using ih
  | q :: row, hr => by
    have ih := count_parts G row fun r hr' => hr r (by simp [hr'])
    obtain ⟨p0, hp0, e0⟩ := hr q (by simp)
    have one : (h.map fun p => if q.1 = p.name then 1 else 0).sum = 1 := by
      have : ∀ l : List Part, l.Pairwise (fun p q => p.name.cps.toList < q.name.cps.toList) → p0 ∈ l → (l.map fun p => if q.1 = p.name then 1 else 0).sum = 1 := by
        intro l
        induction l with
        | nil => intro _ z; cases z
        | cons a l ihl =>
          intro pw hm
          rw [List.pairwise_cons] at pw
          rw [List.map_cons, List.sum_cons]
          rcases List.mem_cons.mp hm with e | hm
          · rw [if_pos (by rw [← e0, e])]
            have : (l.map fun p => if q.1 = p.name then 1 else 0).sum = 0 := by
              have hz : ∀ p ∈ l, q.1 ≠ p.name := fun p hp z => by
                have := pw.1 p hp
                rw [← z, ← e0, e] at this
                exact List.lt_irrefl _ this
              clear ihl pw hm
              induction l with
              | nil => rfl
              | cons b l ihb => rw [List.map_cons, List.sum_cons, if_neg (hz b (by simp)), ihb fun p hp => hz p (by simp [hp])]
            omega
          · rw [if_neg (fun z => by
              have := pw.1 p0 hm
              rw [← z, ← e0] at this
              exact List.lt_irrefl _ this), ihl pw.2 hm]
      exact this h G.nm hp0
    have split : ∀ l : List Part, (l.map fun p => ((q :: row).filter fun q => decide (q.1 = p.name)).length).sum = (l.map fun p => if q.1 = p.name then 1 else 0).sum + (l.map fun p => (row.filter fun q => decide (q.1 = p.name)).length).sum := by
      intro l
      induction l with
      | nil => rfl
      | cons a l ihl =>
        rw [List.map_cons, List.sum_cons, ihl, List.map_cons, List.sum_cons, List.map_cons, List.sum_cons, List.filter_cons]
        by_cases c : q.1 = a.name
        · rw [if_pos (by simpa using c), if_pos c, List.length_cons]; omega
        · rw [if_neg (by simpa using c), if_neg c]; omega
    rw [split, one, ih, List.length_cons]
    omega
theorem zzz_lt : ∀ n ∈ names6, n.cps.toList < ("zzz" : Str).cps.toList := by decide
def zP (x : Str) (r w : Int) : Part := ⟨"zzz", 1, [], [], [⟨x, r, "set", some w⟩]⟩
theorem zP_good {h : List Part} (G : GoodH h) (hn : ∀ p ∈ h, p.name ∈ names6) (hl : h.length < 6) (x : Str) (ox : PyData.strOk x = true) (r w : Int) : GoodH (h ++ [zP x r w]) := by
  have mem : ∀ q ∈ h ++ [zP x r w], q ∈ h ∨ q = zP x r w := fun q hq => by simpa using hq
  refine ⟨⟨fun q hq => ?_, by simp; omega, fun q hq => ?_⟩, fun q hq => ?_, ?_, by simp; omega⟩
  · rcases mem q hq with z | rfl
    · exact G.wf.ok q z
    · exact ⟨by show PyData.strOk "zzz" = true; decide +kernel, (fun f hf => nomatch hf), (fun f hf => nomatch hf), fun k hk => by
        simp [zP] at hk; rw [hk]; exact ⟨ox, by show PyData.strOk "set" = true; decide +kernel⟩⟩
  · rcases mem q hq with z | rfl
    · exact G.wf.wl q z
    · simp [zP]
  · rcases mem q hq with z | rfl
    · exact G.gp q z
    · exact ⟨by simp [zP], by simp [zP], fun w hw => nomatch hw⟩
  · rw [List.pairwise_append]
    exact ⟨G.nm, List.pairwise_singleton _ _, fun a ha b hb => by simp at hb; rw [hb]; exact zzz_lt _ (hn a ha)⟩
/-- one more that wants nothing and gives nothing -/
theorem z_rows {h : List Part} (G : GoodH h) (hn : ∀ p ∈ h, p.name ∈ names6) {x : Str} {r w : Int} (Gz : GoodH (h ++ [zP x r w])) : ∃ pre post, rowsOf (h ++ [zP x r w]) x (ordP (bk (h ++ [zP x r w]))) = pre ++ ((("zzz" : Str), (⟨x, r, "set", some w⟩ : Hook)) :: post) ∧ pre ++ post = rowsOf h x (ordP (bk h)) := by
  have ne : ∀ q ∈ h, q.name ≠ "zzz" := fun q hq e => by
    have := hn q hq
    rw [e] at this
    exact absurd this (by decide)
  have memz : zP x r w ∈ h ++ [zP x r w] := by simp
  have eo : (h ++ [zP x r w]).filter (fun q => !decide (q.name = ("zzz" : Str))) = h := by
    rw [List.filter_append, filter_self' fun q hq => by simpa using ne q hq]
    show h ++ [] = h
    simp
  have nog : ∀ y ∈ keys (bk (h ++ [zP x r w])), ∀ z ∈ bget (bk (h ++ [zP x r w])) y, z ≠ "zzz" := by
    intro y hy z hz e
    obtain ⟨q, hq, rfl⟩ := mem_keys.mp hy
    rw [bget_bk Gz hq] at hz
    obtain ⟨v, hv, ev⟩ := List.mem_filterMap.mp hz
    obtain ⟨g, hg, eg⟩ := (giver_some Gz.st).mp ev
    have gz : g = zP x r w := name_inj Gz (st_sub _ g hg.mem) memz (by rw [eg, e]; rfl)
    have hgv := hg.gv
    rw [gz] at hgv
    have hqi := st_sub _ q hq
    have hlo := (Gz.gp q hqi).lo v hv
    unfold gives at hgv
    rw [show makeOf (zP x r w) v.face = 0 from rfl, Bool.and_eq_true, decide_eq_true_eq] at hgv
    omega
  have S := sub_book Gz (P := fun y => !decide (y = ("zzz" : Str))) (fun y hy _ z hz => by simpa using nog y hy z hz)
  rw [eo] at S
  have stz : zP x r w ∈ st (h ++ [zP x r w]) := st_max (S := [zP x r w]) (fun q hq v hv => by simp at hq; rw [hq] at hv; cases hv) (fun q hq => by simp at hq; rw [hq]; exact memz) _ (by simp)
  have kz : ("zzz" : Str) ∈ keys (bk (h ++ [zP x r w])) := mem_keys.mpr ⟨_, stz, rfl⟩
  have bz : bget (bk (h ++ [zP x r w])) "zzz" = [] := by rw [show ("zzz" : Str) = (zP x r w).name from rfl, bget_bk Gz stz]; rfl
  have oz : ("zzz" : Str) ∈ ordP (bk (h ++ [zP x r w])) := mem_ord.mpr (.mk kz fun y hy => by rw [bz] at hy; cases hy)
  obtain ⟨l1, l2, el⟩ := List.append_of_mem oz
  have nd := (ord_inv (bk (h ++ [zP x r w]))).nd
  rw [el, List.nodup_append, List.nodup_cons] at nd
  have z1 : ("zzz" : Str) ∉ l1 := fun hz => nd.2.2 _ hz _ (by simp) rfl
  have z2 : ("zzz" : Str) ∉ l2 := nd.2.1.1
  have eor : ordP (bk h) = l1 ++ l2 := by
    rw [S.or, el, List.filter_append, List.filter_cons, if_neg (by simp), filter_self' (fun y hy => by
      have : y ≠ "zzz" := fun e => z1 (e ▸ hy)
      simpa using this), filter_self' (fun y hy => by
      have : y ≠ "zzz" := fun e => z2 (e ▸ hy)
      simpa using this)]
  have hk : ∀ l : List Str, (∀ y ∈ l, y ∈ ordP (bk h)) → rowsOf (h ++ [zP x r w]) x l = rowsOf h x l := by
    intro l
    induction l with
    | nil => intro _; rfl
    | cons y l ih =>
      intro hy
      obtain ⟨p, hp, rfl⟩ := ord_inH y (hy y (by simp))
      have ih := ih fun z hz => hy z (by simp [hz])
      unfold rowsOf at *
      rw [List.flatMap_cons, List.flatMap_cons, ih, hooksAt_of G hp, hooksAt_of Gz (by simp [hp])]
  refine ⟨rowsOf h x l1, rowsOf h x l2, ?_, ?_⟩
  · rw [el]
    have e1 := hk l1 fun y hy => by rw [eor]; simp [hy]
    have e2 := hk l2 fun y hy => by rw [eor]; simp [hy]
    rw [← e1, ← e2]
    unfold rowsOf
    rw [List.flatMap_append, List.flatMap_cons, show hooksAt (h ++ [zP x r w]) "zzz" = [⟨x, r, "set", some w⟩] from hooksAt_of Gz memz]
    congr 1
    rw [List.filter_cons, if_pos (by simp)]
    rfl
  · rw [eor]
    unfold rowsOf
    rw [List.flatMap_append]
end DL


namespace DL
open PySem PySem.Spec PyProof.Rows L2
local macro_rules | `(tactic| walk_at "ev") => `(tactic| try simp only [bnd_some, op1_some, op2_some, op3_some, op4_some, op3s_some, slP_int, boV_some, tB_some, lsV_some, dcV_some, lcD_some, arg1_some, dec1_eq, dec2_eq, dec3_eq, dec4_eq, dec5_eq, jn_nx, jn_rt, iteT_true, iteT_false, notT_some, andT_some, orT_some, andT_false, orT_true, andT_true, orT_false, ixP0, ixP1, ixP2, ixP3, ixP4, ixW0, ixW1, ixW2, ixW3, ixK0, ixK1, ixK2, dec2F, dec2SS, ixT0, ixL0, itD_l, itD_t, itD_h, itL_eq, listN_l, listN_t, listN_h, tupD_l, lenD_l, lenD_t, lenD_h, addD_i, subD_i, negD_i, ltB_i, leB_i, gtB_i, geB_i, eqB_i, eqB_s, neB_s, neB_i, isNB_eq, isNNB_eq, lstV_nil, tupV_nil, tupV1, tupV2, tupV3, tupV4, tupV5, tupV6, lstV1, lstV2, lstV3, intD_b, intD_i, minD_i, keepE_some, keepE_true, keepE_false, inB_sl, inB_st, ninB_eq, List.length_map, if_true, if_false, Bool.false_eq_true])
/-! ### houses told otherwise -/
structure Ren (h : List Part) (φ : Part → Part) (ω : Want → Want) (ν : Str → Str) : Prop where
  nm : ∀ p ∈ h, (φ p).name = ν p.name
  lt : ∀ p ∈ h, ∀ q ∈ h, (ν p.name).cps.toList < (ν q.name).cps.toList ↔ p.name.cps.toList < q.name.cps.toList
  ws : ∀ p ∈ h, (φ p).wants = p.wants.map ω
  mu : ∀ p ∈ h, ∀ w ∈ p.wants, (ω w).must = w.must
  gv : ∀ p ∈ h, ∀ q ∈ h, ∀ w ∈ q.wants, gives (φ p) (ω w) = gives p w
  cmp : ∀ p ∈ h, ∀ q ∈ h, ∀ r ∈ h, ∀ w ∈ r.wants, gives p w = true → gives q w = true → (makeOf (φ p) (ω w).face < makeOf (φ q) (ω w).face ↔ makeOf p w.face < makeOf q w.face)
section
variable {h : List Part} {φ : Part → Part} {ω : Want → Want} {ν : Str → Str}
theorem name_eq_of {a b : Str} (h1 : ¬ a.cps.toList < b.cps.toList) (h2 : ¬ b.cps.toList < a.cps.toList) : a = b := by
  rw [List.not_lt] at h1 h2
  exact PySem.W.str_of_cps (List.le_antisymm h2 h1)
theorem Ren.inj (R : Ren h φ ω ν) {p q : Part} (hp : p ∈ h) (hq : q ∈ h) : ν p.name = ν q.name ↔ p.name = q.name := by
  constructor
  · intro e
    refine name_eq_of (fun z => ?_) (fun z => ?_)
    · have := (R.lt p hp q hq).mpr z; rw [e] at this; exact List.lt_irrefl _ this
    · have := (R.lt q hq p hp).mpr z; rw [e] at this; exact List.lt_irrefl _ this
  · intro e; rw [e]
theorem Ren.sub (R : Ren h φ ω ν) {g : List Part} (s : ∀ p ∈ g, p ∈ h) : Ren g φ ω ν :=
  ⟨fun p hp => R.nm p (s p hp), fun p hp q hq => R.lt p (s p hp) q (s q hq), fun p hp => R.ws p (s p hp), fun p hp => R.mu p (s p hp), fun p hp q hq => R.gv p (s p hp) q (s q hq), fun p hp q hq r hr => R.cmp p (s p hp) q (s q hq) r (s r hr)⟩
theorem Ren.lacks (R : Ren h φ ω ν) {ps : List Part} (s : ∀ p ∈ ps, p ∈ h) {p : Part} (hp : p ∈ h) : (lacksL (ps.map φ) (φ p)).isEmpty = (lacksL ps p).isEmpty := by
  rw [Bool.eq_iff_iff, lacks_nil, lacks_nil, R.ws p hp]
  constructor
  · intro H w hw hm
    obtain ⟨q, hq, h1, h2⟩ := H (ω w) (List.mem_map.mpr ⟨w, hw, rfl⟩) (by rw [R.mu p hp w hw]; exact hm)
    obtain ⟨r, hr, rfl⟩ := List.mem_map.mp hq
    rw [R.nm r (s r hr), R.nm p hp] at h1
    refine ⟨r, hr, fun e => h1 (by rw [e]), ?_⟩
    rw [R.gv r (s r hr) p hp w hw] at h2; exact h2
  · intro H w' hw' hm
    obtain ⟨w, hw, rfl⟩ := List.mem_map.mp hw'
    rw [R.mu p hp w hw] at hm
    obtain ⟨q, hq, h1, h2⟩ := H w hw hm
    refine ⟨φ q, List.mem_map.mpr ⟨q, hq, rfl⟩, ?_, by rw [R.gv q (s q hq) p hp w hw]; exact h2⟩
    rw [R.nm q (s q hq), R.nm p hp]
    exact fun e => h1 ((R.inj (s q hq) hp).mp e)
theorem Ren.stands (R : Ren h φ ω ν) {ps : List Part} (s : ∀ p ∈ ps, p ∈ h) : DL.stands (ps.map φ) = (DL.stands ps).map φ := by
  unfold DL.stands
  rw [List.filter_map]
  congr 1
  apply List.filter_congr
  intro p hp
  exact R.lacks s (s p hp)
theorem Ren.standIt (R : Ren h φ ω ν) : ∀ (n : Nat) {ps : List Part}, (∀ p ∈ ps, p ∈ h) → DL.standIt n (ps.map φ) = (DL.standIt n ps).map φ
  | 0, _, _ => rfl
  | n + 1, ps, s => by
    rw [DL.standIt, DL.standIt, R.stands s, List.length_map, List.length_map]
    split
    · exact R.standIt n fun p hp => s p (List.mem_filter.mp hp).1
    · rfl
theorem Ren.st (R : Ren h φ ω ν) : DL.st (h.map φ) = (DL.st h).map φ := by
  unfold DL.st
  rw [List.length_map]
  exact R.standIt _ fun _ z => z
theorem Ren.beats (R : Ren h φ ω ν) {p q r : Part} (hp : p ∈ h) (hq : q ∈ h) (hr : r ∈ h) {w : Want} (hw : w ∈ r.wants) (g1 : gives p w = true) (g2 : gives q w = true) : Beats (ω w).face (φ p) (φ q) ↔ Beats w.face p q := by
  have m1 := R.cmp p hp q hq r hr w hw g1 g2
  have m2 := R.cmp q hq p hp r hr w hw g2 g1
  unfold Beats
  rw [R.nm p hp, R.nm q hq, R.lt q hq p hp]
  constructor
  · rintro (z | ⟨z1, z2⟩)
    · exact .inl (m1.mp z)
    · refine .inr ⟨?_, z2⟩
      have a1 : ¬ makeOf p w.face < makeOf q w.face := fun z => by have := m1.mpr z; omega
      have a2 : ¬ makeOf q w.face < makeOf p w.face := fun z => by have := m2.mpr z; omega
      omega
  · rintro (z | ⟨z1, z2⟩)
    · exact .inl (m1.mpr z)
    · refine .inr ⟨?_, z2⟩
      have a1 : ¬ makeOf (φ p) (ω w).face < makeOf (φ q) (ω w).face := fun z => by have := m1.mp z; omega
      have a2 : ¬ makeOf (φ q) (ω w).face < makeOf (φ p) (ω w).face := fun z => by have := m2.mp z; omega
      omega
theorem Ren.giver (R : Ren h φ ω ν) {ps : List Part} (s : ∀ p ∈ ps, p ∈ h) (G : GoodH ps) (G' : GoodH (ps.map φ)) {p : Part} (hp : p ∈ h) {w : Want} (hw : w ∈ p.wants) : giverAmong (ps.map φ) (ν p.name) (ω w) = (giverAmong ps p.name w).map ν := by
  cases e : giverAmong ps p.name w with
  | none =>
    refine giver_no.mpr fun q' hq' hn => ?_
    obtain ⟨q, hq, rfl⟩ := List.mem_map.mp hq'
    rw [R.gv q (s q hq) p hp w hw]
    refine giver_no.mp e q hq fun z => hn ?_
    rw [R.nm q (s q hq), z]
  | some m =>
    obtain ⟨q, hq, rfl⟩ := (giver_some G).mp e
    have hqh := s q hq.mem
    refine (giver_some G').mpr ⟨φ q, ⟨List.mem_map.mpr ⟨q, hq.mem, rfl⟩, ?_, ?_, ?_⟩, R.nm q hqh⟩
    · rw [R.nm q hqh]
      exact fun z => hq.ne ((R.inj hqh hp).mp z)
    · rw [R.gv q hqh p hp w hw]; exact hq.gv
    · intro r' hr' hn hg
      obtain ⟨r, hr, rfl⟩ := List.mem_map.mp hr'
      have hrh := s r hr
      rw [R.gv r hrh p hp w hw] at hg
      rcases hq.best r hr (fun z => hn (by rw [R.nm r hrh, z])) hg with z | z
      · exact .inl (by rw [z])
      · exact .inr ((R.beats hrh hqh hp hw hg hq.gv).mpr z)
theorem Ren.gvs (R : Ren h φ ω ν) {ps : List Part} (s : ∀ p ∈ ps, p ∈ h) (G : GoodH ps) (G' : GoodH (ps.map φ)) {p : Part} (hp : p ∈ h) : DL.gvs (ps.map φ) (φ p) = (DL.gvs ps p).map ν := by
  unfold DL.gvs
  rw [R.ws p hp, R.nm p hp, List.filterMap_map, List.map_filterMap]
  exact fm_congr fun w hw => R.giver s G G' hp hw
def mapB (ν : Str → Str) (b : Book) : Book := b.map fun q => (ν q.1, q.2.map ν)
theorem Ren.bk (R : Ren h φ ω ν) (G : GoodH h) (G' : GoodH (h.map φ)) : DL.bk (h.map φ) = mapB ν (DL.bk h) := by
  rw [bk_eq G', bk_eq G, R.st]
  unfold mapB
  rw [List.map_map, List.map_map]
  apply List.map_congr_left
  intro p hp
  have G'' : GoodH ((DL.st h).map φ) := by rw [← R.st]; exact G'.st
  simp only [Function.comp_apply]
  rw [R.nm p (st_sub h p hp), R.gvs (st_sub h) G.st G'' (st_sub h p hp)]
/-! ### books told otherwise -/
structure RenB (b : Book) (ν : Str → Str) : Prop where
  ok : OkB b
  inj : ∀ x ∈ keys b, ∀ y ∈ keys b, ν x = ν y → x = y
theorem keys_map (ν : Str → Str) (b : Book) : keys (mapB ν b) = (keys b).map ν := by unfold keys mapB; rw [List.map_map, List.map_map]; rfl
theorem RenB.get {b : Book} (R : RenB b ν) {n : Str} (hn : n ∈ keys b) : bget (mapB ν b) (ν n) = (bget b n).map ν := by
  obtain ⟨q, hq, rfl⟩ := List.mem_map.mp hn
  have nd' : (keys (mapB ν b)).Nodup := by
    rw [keys_map, List.Nodup, List.pairwise_map]
    exact R.ok.nd.imp_of_mem fun {x y} hx hy z e => z (R.inj x hx y hy e)
  rw [bget_of R.ok.nd hq]
  exact bget_of (q := (ν q.1, q.2.map ν)) nd' (List.mem_map.mpr ⟨q, hq, rfl⟩)
theorem RenB.mem {b : Book} (R : RenB b ν) {l : List Str} (hl : ∀ x ∈ l, x ∈ keys b) {x : Str} (hx : x ∈ keys b) : ν x ∈ l.map ν ↔ x ∈ l := by
  rw [List.mem_map]
  constructor
  · rintro ⟨y, hy, e⟩
    rw [← R.inj y (hl y hy) x hx e]; exact hy
  · exact fun z => ⟨x, z, rfl⟩
theorem RenB.ready {b : Book} (R : RenB b ν) {f : List Str} (hf : ∀ x ∈ f, x ∈ keys b) : readyP (mapB ν b) (f.map ν) = (readyP b f).map ν := by
  unfold readyP
  rw [keys_map, List.filter_map]
  congr 1
  apply List.filter_congr
  intro x hx
  simp only [Function.comp_apply]
  rw [R.get hx, List.all_map]
  have e1 : decide (ν x ∈ f.map ν) = decide (x ∈ f) := by rw [decide_eq_decide]; exact R.mem hf hx
  rw [e1]
  congr 1
  rw [Bool.eq_iff_iff, List.all_eq_true, List.all_eq_true]
  constructor
  · intro h y hy
    have := h y hy
    simp only [Function.comp_apply, decide_eq_true_eq] at this ⊢
    exact (R.mem hf (R.ok.subs hy)).mp this
  · intro h y hy
    have := h y hy
    simp only [Function.comp_apply, decide_eq_true_eq] at this ⊢
    exact (R.mem hf (R.ok.subs hy)).mpr this
theorem RenB.ordIt {b : Book} (R : RenB b ν) : ∀ (m : Nat) {f : List Str}, (∀ x ∈ f, x ∈ keys b) → DL.ordIt (mapB ν b) m (f.map ν) = (DL.ordIt b m f).map ν
  | 0, _, _ => rfl
  | m + 1, f, hf => by
    have hs : ∀ x ∈ DL.ordStep b f, x ∈ keys b := by
      rcases ordStep_cases b f with ⟨_, e⟩ | ⟨n, ⟨l, e1⟩, e⟩
      · rw [e]; exact hf
      · rw [e]
        intro x hx
        rcases List.mem_append.mp hx with z | z
        · exact hf x z
        · simp at z; subst z; exact (ready_mem.mp (by rw [e1]; simp : x ∈ readyP b f)).1
    have es : DL.ordStep (mapB ν b) (f.map ν) = (DL.ordStep b f).map ν := by
      unfold DL.ordStep
      rw [R.ready hf]
      cases readyP b f with
      | nil => rfl
      | cons n l => simp
    rw [DL.ordIt, DL.ordIt, es]
    exact R.ordIt m hs
theorem RenB.ord {b : Book} (R : RenB b ν) : ordP (mapB ν b) = (ordP b).map ν := by
  unfold ordP
  rw [keys_map, List.length_map]
  exact R.ordIt _ (f := []) fun _ z => nomatch z
theorem RenB.reach {b : Book} (R : RenB b ν) {n : Str} (hn : n ∈ keys b) {y : Str} : Reach (mapB ν b) (ν n) y ↔ ∃ x, Reach b n x ∧ ν x = y := by
  constructor
  · intro h
    induction h with
    | one hx =>
      rw [R.get hn] at hx
      obtain ⟨z, hz, e⟩ := List.mem_map.mp hx
      exact ⟨z, .one hz, e⟩
    | more _ hx ih =>
      obtain ⟨z, hz, rfl⟩ := ih
      rw [R.get (hz.key R.ok)] at hx
      obtain ⟨u, hu, e⟩ := List.mem_map.mp hx
      exact ⟨u, .more hz hu, e⟩
  · rintro ⟨x, hx, rfl⟩
    induction hx with
    | one hx => exact .one (by rw [R.get hn]; exact List.mem_map.mpr ⟨_, hx, rfl⟩)
    | more hr hx ih => exact .more ih (by rw [R.get (hr.key R.ok)]; exact List.mem_map.mpr ⟨_, hx, rfl⟩)
open Classical in
theorem leans_rising {b : Book} (hk : (keys b).Pairwise fun a b => a.cps.toList < b.cps.toList) (n : Str) : leansOf b n = (keys b).filter fun x => decide (Reach b n x) := by
  unfold leansOf
  exact sortS_rising (hk.filter _)
theorem RenB.leans {b : Book} (R : RenB b ν) (hk : (keys b).Pairwise fun a b => a.cps.toList < b.cps.toList) (hk' : (keys (mapB ν b)).Pairwise fun a b => a.cps.toList < b.cps.toList) {n : Str} (hn : n ∈ keys b) : leansOf (mapB ν b) (ν n) = (leansOf b n).map ν := by
  classical
  rw [leans_rising hk', leans_rising hk, keys_map, List.filter_map]
  congr 1
  apply List.filter_congr
  intro x hx
  simp only [Function.comp_apply]
  rw [decide_eq_decide, R.reach hn]
  constructor
  · rintro ⟨z, hz, e⟩
    rw [← R.inj z (hz.key R.ok) x hx e]; exact hz
  · exact fun z => ⟨x, z, rfl⟩
theorem Ren.B (R : Ren h φ ω ν) (G : GoodH h) : RenB (DL.bk h) ν := ⟨bk_ok G, fun x hx y hy e => by
  obtain ⟨p, hp, rfl⟩ := mem_keys.mp hx
  obtain ⟨q, hq, rfl⟩ := mem_keys.mp hy
  exact (R.inj (st_sub h p hp) (st_sub h q hq)).mp e⟩
theorem mapB_id (b : Book) : mapB id b = b := by
  unfold mapB
  conv => rhs; rw [← List.map_id b]
  apply List.map_congr_left
  intro q _
  simp
end
end DL


namespace DL
open PySem PySem.Spec PyProof.Rows L2
local macro_rules | `(tactic| walk_at "ev") => `(tactic| try simp only [bnd_some, op1_some, op2_some, op3_some, op4_some, op3s_some, slP_int, boV_some, tB_some, lsV_some, dcV_some, lcD_some, arg1_some, dec1_eq, dec2_eq, dec3_eq, dec4_eq, dec5_eq, jn_nx, jn_rt, iteT_true, iteT_false, notT_some, andT_some, orT_some, andT_false, orT_true, andT_true, orT_false, ixP0, ixP1, ixP2, ixP3, ixP4, ixW0, ixW1, ixW2, ixW3, ixK0, ixK1, ixK2, dec2F, dec2SS, ixT0, ixL0, itD_l, itD_t, itD_h, itL_eq, listN_l, listN_t, listN_h, tupD_l, lenD_l, lenD_t, lenD_h, addD_i, subD_i, negD_i, ltB_i, leB_i, gtB_i, geB_i, eqB_i, eqB_s, neB_s, neB_i, isNB_eq, isNNB_eq, lstV_nil, tupV_nil, tupV1, tupV2, tupV3, tupV4, tupV5, tupV6, lstV1, lstV2, lstV3, intD_b, intD_i, minD_i, keepE_some, keepE_true, keepE_false, inB_sl, inB_st, ninB_eq, List.length_map, if_true, if_false, Bool.false_eq_true])
theorem atI_get {α : Type} {l : List α} {f : α → D} {i : Nat} {a : α} (h : l[i]? = some a) : ixD (.tuple (l.map f)) (.int (i : Nat)) = some (f a) := by
  show atI _ _ = _
  have hi : i < l.length := (List.getElem?_eq_some_iff.mp h).1
  rw [atI_g (by omega) (by simp; omega)]
  simp [List.getD_eq_getElem?_getD, h]
@[simp] theorem ixC0 (q : Str × Hook) : ixD (encC q) (.int 0) = some (.str q.1) := rfl
@[simp] theorem ixC1 (q : Str × Hook) : ixD (encC q) (.int 1) = some (.int q.2.rank) := rfl
@[simp] theorem ixC2 (q : Str × Hook) : ixD (encC q) (.int 2) = some (encDeed q.2) := rfl
/-- hooks told otherwise -/
theorem ren_hooks (h : List Part) (g : Part → List Hook) : Ren h (fun p => { p with hooks := g p }) id id where
  nm _ _ := rfl
  lt _ _ _ _ := .rfl
  ws p _ := (List.map_id p.wants).symm
  mu _ _ _ _ := rfl
  gv _ _ _ _ _ _ := rfl
  cmp _ _ _ _ _ _ _ _ _ _ := .rfl
theorem good_hooks {h : List Part} (G : GoodH h) (g : Part → List Hook) (ok : ∀ p ∈ h, ∀ k ∈ g p, PyData.strOk k.hook = true ∧ PyData.strOk k.word = true) : GoodH (h.map fun p => { p with hooks := g p }) := by
  refine ⟨⟨fun q hq => ?_, by rw [List.length_map]; exact G.wf.len, fun q hq => ?_⟩, fun q hq => ?_, ?_, by rw [List.length_map]; exact G.len⟩
  · obtain ⟨p, hp, rfl⟩ := List.mem_map.mp hq
    have := G.wf.ok p hp
    exact ⟨this.nm, this.fs, this.ws, ok p hp⟩
  · obtain ⟨p, hp, rfl⟩ := List.mem_map.mp hq
    exact G.wf.wl p hp
  · obtain ⟨p, hp, rfl⟩ := List.mem_map.mp hq
    have := G.gp p hp
    exact ⟨this.fs, this.ws, this.lo⟩
  · rw [List.pairwise_map]; exact G.nm
theorem bk_hooks {h : List Part} (G : GoodH h) (g : Part → List Hook) (ok : ∀ p ∈ h, ∀ k ∈ g p, PyData.strOk k.hook = true ∧ PyData.strOk k.word = true) : bk (h.map fun p => { p with hooks := g p }) = bk h := by
  rw [(ren_hooks h g).bk G (good_hooks G g ok), mapB_id]
theorem idx_pw : ∀ {l : List Str}, l.Nodup → l.Pairwise fun a b => l.idxOf a ≤ l.idxOf b := by
  intro l nd
  rw [List.pairwise_iff_getElem]
  intro i j hi hj hij
  have e : ∀ (k : Nat) (hk : k < l.length), l.idxOf l[k] = k := by
    intro k hk
    have h1 : l.idxOf l[k] ≤ k := by
      apply Nat.le_of_not_lt
      intro hlt
      have := List.not_of_lt_findIdx (p := (· == l[k])) (xs := l) (i := k) hlt
      simp at this
    have h2 : l.idxOf l[k] < l.length := by omega
    have h3 : l[l.idxOf l[k]] = l[k] := by simp
    rcases Nat.lt_or_ge (l.idxOf l[k]) k with z | z
    · exact absurd h3 ((List.pairwise_iff_getElem.mp nd) _ k h2 hk z)
    · omega
  rw [e i hi, e j hj]
  omega
theorem rows_idx (h : List Part) (x : Str) {l m : List Str} (pw : l.Pairwise fun a b => m.idxOf a ≤ m.idxOf b) : (rowsOf h x l).Pairwise fun a b => m.idxOf a.1 ≤ m.idxOf b.1 := by
  unfold rowsOf
  rw [List.pairwise_flatMap]
  refine ⟨fun n _ => ?_, pw.imp fun {a b} z q hq r hr => ?_⟩
  · rw [List.pairwise_map, List.pairwise_iff_forall_sublist]
    intro a b _
    exact Nat.le_refl _
  · obtain ⟨k, _, rfl⟩ := List.mem_map.mp hq
    obtain ⟨j, _, rfl⟩ := List.mem_map.mp hr
    exact z
theorem chain_pw (h : List Part) (x : Str) : (chainOf h x).Pairwise fun a b => a.2.rank < b.2.rank ∨ (a.2.rank = b.2.rank ∧ (ordP (bk h)).idxOf a.1 ≤ (ordP (bk h)).idxOf b.1) := by
  have pr := rows_idx h x (idx_pw (ord_inv (bk h)).nd)
  unfold chainOf byRank
  rw [List.pairwise_flatMap]
  refine ⟨fun r _ => ?_, ranks_pw.imp fun {r s} z a ha b hb => ?_⟩
  · refine (pr.filter _).imp_of_mem fun {a b} ha hb z => ?_
    have h1 : a.2.rank = r := by simpa using (List.mem_filter.mp ha).2
    have h2 : b.2.rank = r := by simpa using (List.mem_filter.mp hb).2
    exact .inr ⟨by omega, z⟩
  · have h1 : a.2.rank = r := by simpa using (List.mem_filter.mp ha).2
    have h2 : b.2.rank = s := by simpa using (List.mem_filter.mp hb).2
    exact .inl (by omega)
theorem idxD_in {l : List Str} {x : Str} (h : x ∈ l) : idxD (.tuple (l.map .str)) (.str x) = some (.int (l.idxOf x : Nat)) := by
  rw [idxD, allStr_map, bnd_some, idxL, if_pos h]
  rfl
theorem gtB_ii (a b c d : Int) : gtB (.tuple [.int a, .int b]) (.tuple [.int c, .int d]) = some (decide (c < a) || (decide (c = a) && decide (d < b))) := by
  have ok : cmpOk (.tuple [.int a, .int b]) (.tuple [.int c, .int d]) = true := by
    unfold cmpOk
    simp [PySem.W.alike, PySem.W.alikeAll, isNon, nod, nods, PyData.depth, PyData.depthAll]
  show (if cmpOk (.tuple [.int a, .int b]) (.tuple [.int c, .int d]) = true then some (PySem.W.dataLt (.tuple [.int c, .int d]) (.tuple [.int a, .int b])) else none) = _
  rw [if_pos ok, dataLt_intT]
  congr 1
  by_cases e : c = a
  · rw [if_pos e, dataLt_intT]
    by_cases e2 : d = b
    · rw [if_pos e2]
      simp [e, e2]
      rfl
    · rw [if_neg e2]; simp [e]
  · rw [if_neg e]; simp [e]
end DL


namespace DL
open PySem PySem.Spec PyProof.Rows L2
local macro_rules | `(tactic| walk_at "ev") => `(tactic| try simp only [bnd_some, op1_some, op2_some, op3_some, op4_some, op3s_some, slP_int, boV_some, tB_some, lsV_some, dcV_some, lcD_some, arg1_some, dec1_eq, dec2_eq, dec3_eq, dec4_eq, dec5_eq, jn_nx, jn_rt, iteT_true, iteT_false, notT_some, andT_some, orT_some, andT_false, orT_true, andT_true, orT_false, ixP0, ixP1, ixP2, ixP3, ixP4, ixW0, ixW1, ixW2, ixW3, ixK0, ixK1, ixK2, dec2F, dec2SS, ixT0, ixL0, itD_l, itD_t, itD_h, itL_eq, listN_l, listN_t, listN_h, tupD_l, lenD_l, lenD_t, lenD_h, addD_i, subD_i, negD_i, ltB_i, leB_i, gtB_i, geB_i, eqB_i, eqB_s, neB_s, neB_i, isNB_eq, isNNB_eq, lstV_nil, tupV_nil, tupV1, tupV2, tupV3, tupV4, tupV5, tupV6, lstV1, lstV2, lstV3, intD_b, intD_i, minD_i, keepE_some, keepE_true, keepE_false, inB_sl, inB_st, ninB_eq, List.length_map, if_true, if_false, Bool.false_eq_true])
/-! ### lacking, of houses told otherwise -/
section
variable {h : List Part} {φ : Part → Part} {ω : Want → Want} {ν : Str → Str}
theorem Ren.lacksL (R : Ren h φ ω ν) {g : Str → Str} (hg : ∀ p ∈ h, ∀ w ∈ p.wants, (ω w).face = g w.face) {ps : List Part} (s : ∀ p ∈ ps, p ∈ h) {p : Part} (hp : p ∈ h) : DL.lacksL (ps.map φ) (φ p) = (DL.lacksL ps p).map g := by
  unfold DL.lacksL
  rw [R.ws p hp, List.filter_map, List.map_map, List.map_map, R.nm p hp]
  have e : (p.wants.filter ((fun w => w.must && (giversFor (ps.map φ) (ν p.name) w).isEmpty) ∘ ω)) = p.wants.filter fun w => w.must && (giversFor ps p.name w).isEmpty := by
    apply List.filter_congr
    intro w hw
    simp only [Function.comp_apply]
    rw [R.mu p hp w hw]
    congr 1
    have : giversFor (ps.map φ) (ν p.name) (ω w) = (giversFor ps p.name w).map φ := by
      unfold giversFor
      rw [List.filter_map]
      congr 1
      apply List.filter_congr
      intro q hq
      simp only [Function.comp_apply]
      rw [R.gv q (s q hq) p hp w hw, R.nm q (s q hq)]
      congr 1
      rw [Bool.eq_iff_iff]
      simp only [Bool.not_eq_true', beq_eq_false_iff_ne, ne_eq]
      exact not_congr (R.inj (s q hq) hp)
    rw [this, isE_map]
  rw [e]
  apply List.map_congr_left
  intro w hw
  exact hg p hp w (List.mem_filter.mp hw).1
theorem Ren.lackOf (R : Ren h φ ω ν) (G : GoodH h) (G' : GoodH (h.map φ)) {g : Str → Str} (hg : ∀ p ∈ h, ∀ w ∈ p.wants, (ω w).face = g w.face) : DL.lackOf (h.map φ) (DL.st (h.map φ)) = (DL.lackOf h (DL.st h)).map fun q => (ν q.1, g q.2) := by
  rw [R.st]
  unfold DL.lackOf
  rw [List.flatMap_map, List.map_flatMap]
  have : ∀ l : List Part, (∀ p ∈ l, p ∈ h) → (l.flatMap fun p => if notIn ((DL.st h).map φ) (φ p) then (DL.lacksL ((DL.st h).map φ) (φ p)).map fun f => ((φ p).name, f) else []) = l.flatMap fun p => (if notIn (DL.st h) p then (DL.lacksL (DL.st h) p).map fun f => (p.name, f) else []).map fun q => (ν q.1, g q.2) := by
    intro l
    induction l with
    | nil => intro _; rfl
    | cons p l ih =>
      intro hl
      have hp := hl p (by simp)
      rw [List.flatMap_cons, List.flatMap_cons, ih fun q hq => hl q (by simp [hq])]
      congr 1
      have en : notIn ((DL.st h).map φ) (φ p) = notIn (DL.st h) p := by
        rw [Bool.eq_iff_iff, notIn_iff G (st_sub h) hp, notIn_iff G' (fun q hq => by
          obtain ⟨r, hr, rfl⟩ := List.mem_map.mp hq
          exact List.mem_map.mpr ⟨r, st_sub h r hr, rfl⟩) (List.mem_map.mpr ⟨p, hp, rfl⟩)]
        refine not_congr ⟨fun z => ?_, fun z => List.mem_map.mpr ⟨p, z, rfl⟩⟩
        obtain ⟨r, hr, e⟩ := List.mem_map.mp z
        have : r.name = p.name := (R.inj (st_sub h r hr) hp).mp (by rw [← R.nm r (st_sub h r hr), ← R.nm p hp, e])
        rw [← name_inj G (st_sub h r hr) hp this]; exact hr
      rw [en, R.lacksL hg (st_sub h) hp, R.nm p hp]
      split
      · rw [List.map_map, List.map_map]; rfl
      · rfl
  exact this h fun _ z => z
end
theorem sortSS_mapP {l : List (Str × Str)} (m : Str × Str → Str × Str) (hm : ∀ a ∈ l, ∀ b ∈ l, PySem.W.dataLt (encSS (m a)) (encSS (m b)) = PySem.W.dataLt (encSS a) (encSS b)) : sortSS (l.map m) = (sortSS l).map m := by
  unfold sortSS
  exact (PySem.W.sort_maps m fun a ha b hb => by rw [hm b hb a ha]).symm
theorem dataLt_SS (a b : Str × Str) : PySem.W.dataLt (encSS a) (encSS b) = (decide (a.1.cps.toList < b.1.cps.toList) || (decide (a.1 = b.1) && decide (a.2.cps.toList < b.2.cps.toList))) := by
  unfold encSS
  by_cases e : a.1 = b.1
  · rw [dataLt_tupE _ _ _ _ (by simp [PySem.W.alike]) (by rw [eqv_str]; simpa using e)]
    by_cases e2 : a.2 = b.2
    · rw [dataLt_tupE _ _ _ _ (by simp [PySem.W.alike]) (by rw [eqv_str]; simpa using e2), e, e2]
      simp [List.lt_irrefl]
      rfl
    · rw [dataLt_tup _ _ _ _ (by simp [PySem.W.alike]) (by rw [eqv_str]; simpa using e2), PySem.W.dataLt_str, e]
      simp [List.lt_irrefl]
  · rw [dataLt_tup _ _ _ _ (by simp [PySem.W.alike]) (by rw [eqv_str]; simpa using e), PySem.W.dataLt_str]
    simp [e]
/-! ### chains told otherwise -/
theorem pull_hooks (κ : Hook → Hook) (hw : ∀ k, (κ k).word = k.word ∧ (κ k).worth = k.worth) : ∀ (rows : List (Str × Hook)) (w : Int), pullL (rows.map fun q => (q.1, κ q.2)) w = pullL rows w
  | [], _ => rfl
  | (n, k) :: r, w => by
    rw [List.map_cons, pullL, pullL]
    simp only
    rw [(hw k).1, (hw k).2, pull_hooks κ hw r, show doDeed (κ k) w = doDeed k w from by unfold doDeed; rw [(hw k).1, (hw k).2]]
theorem rows_told {h : List Part} {φ : Part → Part} (κ : Hook → Hook) {x y : Str} (hn : ∀ p ∈ h, (φ p).name = p.name) (hk : ∀ p ∈ h, (φ p).hooks = p.hooks.map κ) (hx : ∀ p ∈ h, ∀ k ∈ p.hooks, (κ k).hook = y ↔ k.hook = x) (G : GoodH h) (G' : GoodH (h.map φ)) : ∀ (l : List Str), (∀ n ∈ l, ∃ p ∈ h, p.name = n) → rowsOf (h.map φ) y l = (rowsOf h x l).map fun q => (q.1, κ q.2)
  | [], _ => rfl
  | n :: l, hl => by
    have ih := rows_told κ hn hk hx G G' l fun m hm => hl m (by simp [hm])
    obtain ⟨p, hp, rfl⟩ := hl n (by simp)
    unfold rowsOf at *
    rw [List.flatMap_cons, List.flatMap_cons, List.map_append, ih]
    congr 1
    have e1 : hooksAt (h.map φ) p.name = p.hooks.map κ := by rw [← hk p hp, ← hn p hp]; exact hooksAt_of G' (List.mem_map.mpr ⟨p, hp, rfl⟩)
    rw [e1, hooksAt_of G hp, List.filter_map, List.map_map, List.map_map]
    have e2 : p.hooks.filter ((fun k => decide (k.hook = y)) ∘ κ) = p.hooks.filter fun k => decide (k.hook = x) := by
      apply List.filter_congr
      intro k hk'
      simp only [Function.comp_apply]
      rw [decide_eq_decide]
      exact hx p hp k hk'
    rw [e2]
    rfl
theorem chain_told {h : List Part} {φ : Part → Part} (κ : Hook → Hook) {x y : Str} (hn : ∀ p ∈ h, (φ p).name = p.name) (hk : ∀ p ∈ h, (φ p).hooks = p.hooks.map κ) (hx : ∀ p ∈ h, ∀ k ∈ p.hooks, (κ k).hook = y ↔ k.hook = x) (hr : ∀ k, (κ k).rank = k.rank) (G : GoodH h) (G' : GoodH (h.map φ)) (eb : bk (h.map φ) = bk h) : chainOf (h.map φ) y = (chainOf h x).map fun q => (q.1, κ q.2) := by
  unfold chainOf
  rw [eb, rows_told κ hn hk hx G G' _ (ord_inH (h := h))]
  exact (byRank_map (fun q : Str × Hook => q.2.rank) (fun q => q.2.rank) (fun q => (q.1, κ q.2)) _ fun q _ => hr q.2).symm
theorem house_fs {n : Int} {p : Part} (h : p ∈ houseOf n) : ∀ f ∈ p.faces, (f.1 = "f" ∨ f.1 = "g" ∨ f.1 = "h") := fun f hf => by
  obtain ⟨m, nm, rfl, _⟩ := houseOf_mem h
  exact facesOf_mem hf
theorem house_hk {n : Int} {p : Part} (h : p ∈ houseOf n) : ∀ k ∈ p.hooks, (k.hook = "go" ∨ k.hook = "end") := fun k hk => by
  obtain ⟨m, nm, rfl, _⟩ := houseOf_mem h
  obtain ⟨j, _, rfl⟩ := List.mem_map.mp hk
  unfold hookOf hookNm
  simp only
  split
  · exact .inl rfl
  · exact .inr rfl
end DL


/-! Objects of one's own: their fields read and written. -/
namespace DL
open PySem PySem.Spec PyProof.Rows L2
def fldD : Fld → D
  | .val d => d
  | .own ds => .list ds
  | .dic es => .dict es
def setF (f : Str) (x : Fld) : List (Str × Fld) → List (Str × Fld)
  | [] => [(f, x)]
  | (g, y) :: r => if g = f then (g, x) :: r else (g, y) :: setF f x r
section
variable {K : PySem.W.Frag} {H H' : Hp}
theorem FdOk.q {v : V} {f : Fld} {L : List Addr} (h : FdOk K H v f L) : Rq K H v (fldD f) := by
  cases h with
  | val r => exact .of r
  | own e r => exact .own e r
  | dic e r => exact .dct e r
theorem FdsOk.get {vs : List (Str × V)} {fs : List (Str × Fld)} {L : List Addr} {f : Str} {x : Fld} (h : FdsOk K H vs fs L) : fs.lookup f = some x → ∃ v M, vs.lookup f = some v ∧ FdOk K H v x M ∧ ∀ p ∈ M, p ∈ L := by
  induction h with
  | nil => intro e; cases e
  | @cons g v y vs fs L M h _ ih =>
    intro e
    rw [List.lookup_cons] at e ⊢
    cases hb : f == g with
    | true =>
      rw [hb] at e
      simp only at e ⊢
      cases e
      exact ⟨v, L, rfl, h, fun p hp => List.mem_append_left _ hp⟩
    | false =>
      rw [hb] at e
      simp only at e ⊢
      obtain ⟨w, N, h1, h2, h3⟩ := ih e
      exact ⟨w, N, h1, h2, fun p hp => List.mem_append_right _ (h3 p hp)⟩
theorem SOk.ins {ρ : Rho} {σ : L2.St} (h : SOk K ρ σ H) {i : Nat} {C a : Addr} {fs : List (Str × Fld)} (e : ρ[i]? = some (.obj (some C) a fs)) : ∃ dx vs L, σ[i]? = some (some (.ref a)) ∧ H a = some (.ins C dx vs) ∧ FdsOk K H vs fs L ∧ (a :: L).Nodup := by
  obtain ⟨v, L, e1, o⟩ := h.has i _ e rfl
  cases o with
  | ins e2 r n => exact ⟨_, _, _, e1, e2, r, n⟩
theorem nd_split {L M : List Addr} (h : (L ++ M).Nodup) : L.Nodup ∧ M.Nodup ∧ ∀ x ∈ L, x ∉ M := by
  rw [List.nodup_append] at h
  exact ⟨h.1, h.2.1, fun x hx hy => h.2.2 x hx x hy rfl⟩
/-- a field's thing at p is changed in its place -/
theorem FdsOk.write {vs : List (Str × V)} {fs : List (Str × Fld)} {L : List Addr} {f : Str} {x y : Fld} {p : Addr} {u o : HO} (h : FdsOk K H vs fs L) (nd : L.Nodup) (e : fs.lookup f = some x) (l : vs.lookup f = some (.ref p)) (hp : H p = some u) (mu : MutS (some u)) (hx : FdOk K H (.ref p) x [p]) (hy : FdOk K (upd H p o) (.ref p) y [p]) : FdsOk K (upd H p o) vs (setF f y fs) L := by
  have st : Stb H (upd H p o) := stb_upd hp mu
  induction h with
  | nil => cases e
  | @cons g v z vs fs L M h hr ih =>
    obtain ⟨n1, n2, n3⟩ := nd_split nd
    rw [List.lookup_cons] at e l
    cases hb : f == g with
    | true =>
      rw [hb] at e l
      simp only at e l
      cases e
      cases l
      have eg : g = f := (beq_iff_eq.mp hb).symm
      rw [setF, if_pos eg]
      have eL : L = [p] := h.det hx
      subst eL
      exact .cons hy (hr.mono st fun q hq r hr' => by
        rw [upd_ne (fun z => n3 p (by simp) (by rw [← z]; exact hq))]; exact hr')
    | false =>
      rw [hb] at e l
      simp only at e l
      have ng : ¬ g = f := fun z => by rw [z] at hb; simp at hb
      rw [setF, if_neg ng]
      obtain ⟨w, N, h1, h2, h3⟩ := hr.get e
      rw [l] at h1
      cases h1
      have eN : N = [p] := h2.det hx
      have pM : p ∈ M := h3 p (by rw [eN]; simp)
      exact .cons (h.mono st fun q hq r hr' => by
        rw [upd_ne (fun z => n3 q hq (by rw [z]; exact pM))]; exact hr') (ih n2 e l)
/-- a datum of a field is stored anew -/
theorem FdsOk.put {vs : List (Str × V)} {fs : List (Str × Fld)} {L : List Addr} {f : Str} {d d' : D} {v : V} (h : FdsOk K H vs fs L) (e : fs.lookup f = some (.val d)) (r : Rp K H v d') : FdsOk K H (putF f v vs) (setF f (.val d') fs) L := by
  induction h with
  | nil => cases e
  | @cons g w z vs fs L M h hr ih =>
    rw [List.lookup_cons] at e
    cases hb : f == g with
    | true =>
      rw [hb] at e
      simp only at e
      cases e
      have eg : g = f := (beq_iff_eq.mp hb).symm
      rw [setF, if_pos eg, putF, if_pos eg]
      have eL : L = [] := by cases h; rfl
      subst eL
      exact .cons (.val r) hr
    | false =>
      rw [hb] at e
      simp only at e
      have ng : ¬ g = f := fun z => by rw [z] at hb; simp at hb
      rw [setF, if_neg ng, putF, if_neg ng]
      exact .cons h (ih e)
/-- a new field -/
theorem FdsOk.add {vs : List (Str × V)} {fs : List (Str × Fld)} {L M : List Addr} {f : Str} {v : V} {x : Fld} (h : FdsOk K H vs fs L) (e : fs.lookup f = none) (r : FdOk K H v x M) : FdsOk K H (putF f v vs) (setF f x fs) (L ++ M) := by
  induction h with
  | nil =>
    rw [putF, setF, List.nil_append, ← List.append_nil M]
    exact .cons r .nil
  | @cons g w z vs fs L N h hr ih =>
    rw [List.lookup_cons] at e
    cases hb : f == g with
    | true => rw [hb] at e; cases e
    | false =>
      rw [hb] at e
      simp only at e
      have ng : ¬ g = f := fun z => by rw [z] at hb; simp at hb
      rw [setF, if_neg ng, putF, if_neg ng, List.append_assoc]
      exact .cons h (ih e)
end
section
variable {X : Cx} {ρ : Rho} {e a b c : Expr} {f g h : Option D}
/-! ### o.f -/
theorem eu_fld {s : String} {i : Nat} {p pos : Pos} {C q : Addr} {fs : List (Str × Fld)} {x : Str} {y : Fld} (hs : Sl X.N s i) (cl : Cls X.K C) (na : NoAttr X.K C x) (h : ρ[i]? = some (.obj (some C) q fs) := by rfl) (hf : fs.lookup x = some y := by rfl) (hv : Vis X.env.scope (Str.ofString s) := by first | exact Or.inl rfl | exact Or.inr (Or.inl rfl) | exact Or.inr (Or.inr rfl))
    (hb : attributeBase (.Name (Str.ofString s) p) x X.env (eval (.Name (Str.ofString s) p) X.env) = eval (.Name (Str.ofString s) p) X.env := by rfl) : Eu X (.Attribute (.Name (Str.ofString s) p) x pos) ρ (some (fldD y)) := fun d z => by
  cases z
  intro σ H Q S q
  obtain ⟨dx, vs, L, e1, e2, e3, e4⟩ := S.ins h
  obtain ⟨v, M, l1, l2, _⟩ := e3.get hf
  exact ⟨_, pe_fld (pe_var hs.h hv hs.d hs.c) hb, _, e1, _, C, dx, vs, v, rfl, e2, cl, na, l1, q _ H ⟨.refl H, l2.q⟩⟩
theorem eo_fld {s : String} {i : Nat} {p pos : Pos} {C q : Addr} {fs : List (Str × Fld)} {x : Str} {y : D} (hs : Sl X.N s i) (cl : Cls X.K C) (na : NoAttr X.K C x) (h : ρ[i]? = some (.obj (some C) q fs) := by rfl) (hf : fs.lookup x = some (.val y) := by rfl) (hv : Vis X.env.scope (Str.ofString s) := by first | exact Or.inl rfl | exact Or.inr (Or.inl rfl) | exact Or.inr (Or.inr rfl))
    (hb : attributeBase (.Name (Str.ofString s) p) x X.env (eval (.Name (Str.ofString s) p) X.env) = eval (.Name (Str.ofString s) p) X.env := by rfl) : Eo X (.Attribute (.Name (Str.ofString s) p) x pos) ρ (some y) := fun d z => by
  cases z
  intro σ H Q S q
  obtain ⟨dx, vs, L, e1, e2, e3, e4⟩ := S.ins h
  obtain ⟨v, M, l1, l2, _⟩ := e3.get hf
  cases l2 with
  | val r => exact ⟨_, pe_fld (pe_var hs.h hv hs.d hs.c) hb, _, e1, _, C, dx, vs, v, rfl, e2, cl, na, l1, q _ H ⟨.refl H, r⟩⟩
/-! ### x in d -/
def inKB (x : D) : D → Option Bool
  | .dict es => bnd (kd x) fun k => some (lookD es k).isSome
  | _ => none
def ninKB (x y : D) : Option Bool := notT (inKB x y)
theorem inK_inv {x y : D} {t : Bool} (h : inKB x y = some t) : ∃ es k, y = .dict es ∧ x = keyD k ∧ t = (lookD es k).isSome := by
  unfold inKB at h
  split at h
  · obtain ⟨k, h1, h2⟩ := bnd_inv h
    cases h2
    exact ⟨_, k, rfl, kd_eq h1, rfl⟩
  · cases h
theorem eo_din {pos : Pos} (ru : Ru X) (ha : Eo X a ρ f) (hb : Eu X b ρ g) (hm : behindInMarks .In b = false := by first | exact nomark _ | rfl) : Eo X (.Compare a [.In] [b] pos) ρ (boV (op2 inKB f g)) := fun d q => by
  obtain ⟨t, q1, q2⟩ := bnd_inv q
  cases q2
  obtain ⟨x, y, h1, h2, h3⟩ := op2_inv q1
  obtain ⟨es, k, rfl, rfl, rfl⟩ := inK_inv h3
  intro σ H Q S q
  refine ⟨_, pe_cmp (pc_din (by have : _ + 65 < _ := ru; omega) pe_c pe_c) hm, ?_⟩
  refine ha _ h1 σ H _ S fun y H1 ⟨s1, r1⟩ => ?_
  refine hb _ h2 σ H1 _ (S.mono s1) fun x H2 ⟨s2, r2⟩ => ?_
  obtain ⟨p, kvs, rfl, hd, hr⟩ := r2.dctR
  have ey := (Rq.of r1).key
  subst ey
  refine ⟨p, _, rfl, .inl ⟨kvs, k, hd, rfl, rfl⟩, ?_⟩
  rcases hr.look k with ⟨e1, e2⟩ | ⟨w, d', e1, e2, r⟩
  · rw [e1]; rw [e2] at q; exact q _ H2 ⟨s1.trans s2, .bl _⟩
  · rw [e1]; rw [e2] at q; exact q _ H2 ⟨s1.trans s2, .bl _⟩
theorem eo_dnin {pos : Pos} (ru : Ru X) (ha : Eo X a ρ f) (hb : Eu X b ρ g) (hm : behindInMarks .NotIn b = false := by first | exact nomark _ | rfl) : Eo X (.Compare a [.NotIn] [b] pos) ρ (boV (op2 ninKB f g)) := fun d q => by
  obtain ⟨t, q1, q2⟩ := bnd_inv q
  cases q2
  obtain ⟨x, y, h1, h2, h3⟩ := op2_inv q1
  obtain ⟨t', h4, h5⟩ := bnd_inv h3
  cases h5
  obtain ⟨es, k, rfl, rfl, rfl⟩ := inK_inv h4
  intro σ H Q S q
  refine ⟨_, pe_cmp (pc_dnotin (by have : _ + 65 < _ := ru; omega) pe_c pe_c) hm, ?_⟩
  refine ha _ h1 σ H _ S fun y H1 ⟨s1, r1⟩ => ?_
  refine hb _ h2 σ H1 _ (S.mono s1) fun x H2 ⟨s2, r2⟩ => ?_
  obtain ⟨p, kvs, rfl, hd, hr⟩ := r2.dctR
  have ey := (Rq.of r1).key
  subst ey
  refine ⟨p, _, rfl, .inl ⟨kvs, k, hd, rfl, rfl⟩, ?_⟩
  rcases hr.look k with ⟨e1, e2⟩ | ⟨w, d', e1, e2, r⟩
  · rw [e1]; rw [e2] at q; exact q _ H2 ⟨s1.trans s2, .bl _⟩
  · rw [e1]; rw [e2] at q; exact q _ H2 ⟨s1.trans s2, .bl _⟩
theorem et_din {pos : Pos} (ru : Ru X) (ha : Eo X a ρ f) (hb : Eu X b ρ g) (hm : behindInMarks .In b = false := by first | exact nomark _ | rfl) : Et X (.Compare a [.In] [b] pos) ρ (op2 inKB f g) := fun t q1 => by
  obtain ⟨x, y, h1, h2, h3⟩ := op2_inv q1
  obtain ⟨es, k, rfl, rfl, rfl⟩ := inK_inv h3
  intro σ H Q S q
  refine ⟨_, pt_cmp (pc_din (by have : _ + 65 < _ := ru; omega) pe_c pe_c) hm, ?_⟩
  refine ha _ h1 σ H _ S fun y H1 ⟨s1, r1⟩ => ?_
  refine hb _ h2 σ H1 _ (S.mono s1) fun x H2 ⟨s2, r2⟩ => ?_
  obtain ⟨p, kvs, rfl, hd, hr⟩ := r2.dctR
  have ey := (Rq.of r1).key
  subst ey
  refine ⟨p, _, rfl, .inl ⟨kvs, k, hd, rfl, rfl⟩, _, rfl, ?_⟩
  rcases hr.look k with ⟨e1, e2⟩ | ⟨w, d', e1, e2, r⟩
  · rw [e1]; rw [e2] at q; exact q H2 (s1.trans s2)
  · rw [e1]; rw [e2] at q; exact q H2 (s1.trans s2)
theorem et_dnin {pos : Pos} (ru : Ru X) (ha : Eo X a ρ f) (hb : Eu X b ρ g) (hm : behindInMarks .NotIn b = false := by first | exact nomark _ | rfl) : Et X (.Compare a [.NotIn] [b] pos) ρ (op2 ninKB f g) := fun t q1 => by
  obtain ⟨x, y, h1, h2, h3⟩ := op2_inv q1
  obtain ⟨t', h4, h5⟩ := bnd_inv h3
  cases h5
  obtain ⟨es, k, rfl, rfl, rfl⟩ := inK_inv h4
  intro σ H Q S q
  refine ⟨_, pt_cmp (pc_dnotin (by have : _ + 65 < _ := ru; omega) pe_c pe_c) hm, ?_⟩
  refine ha _ h1 σ H _ S fun y H1 ⟨s1, r1⟩ => ?_
  refine hb _ h2 σ H1 _ (S.mono s1) fun x H2 ⟨s2, r2⟩ => ?_
  obtain ⟨p, kvs, rfl, hd, hr⟩ := r2.dctR
  have ey := (Rq.of r1).key
  subst ey
  refine ⟨p, _, rfl, .inl ⟨kvs, k, hd, rfl, rfl⟩, _, rfl, ?_⟩
  rcases hr.look k with ⟨e1, e2⟩ | ⟨w, d', e1, e2, r⟩
  · rw [e1]; rw [e2] at q; exact q H2 (s1.trans s2)
  · rw [e1]; rw [e2] at q; exact q H2 (s1.trans s2)
/-! ### f(d), d a dict of one's own: it is locked for the call -/
theorem pe_lk {t : TE} (he : PE X e t) : PE X e (fun σ H Q => ∃ p u, H p = some u ∧ Mut (some u) ∧ t σ H fun v H' => ∃ od, H' p = some (.frz od u) ∧ Q v (upd H' p u)) := by
  refine ⟨fun pins s σ H Q I ⟨p, u, hp, mu, hw⟩ => ?_⟩
  have hn := I.nofrz hp mu
  exact thn (he.run pins s σ H _ I hw) fun v s1 ⟨x, H1, I1, r, od, e1, q⟩ => ⟨x, _, I1.unlock e1 hn, r, q⟩
mutual
theorem Rp.unlock {K : PySem.W.Frag} {H : Hp} {p : Addr} {od : Obj} {kvs : List (Key × V)} {u : HO} (hp : H p = some (.frz od (.dK kvs))) : ∀ {v : V} {d : D}, nod d = true → Rp K H v d → Rp K (upd H p u) v d
  | _, _, _, .non => .non
  | _, _, _, .bl b => .bl b
  | _, _, _, .int i => .int i
  | _, _, _, .str x => .str x
  | _, _, n, .tup h a => .tup (by
      rcases h with ⟨o, h, q⟩ | h
      · exact .inl ⟨o, by rw [upd_ne (fun z => by rw [z, hp] at h; cases h)]; exact h, q⟩
      · exact .inr h) (RpAll.unlock hp (by simpa [nod] using n) a)
  | _, _, n, .lst h a => .lst (by
      rcases h with ⟨o, h⟩ | h
      · exact .inl ⟨o, by rw [upd_ne (fun z => by rw [z, hp] at h; cases h)]; exact h⟩
      · exact .inr h) (RpAll.unlock hp (by simpa [nod] using n) a)
  | _, _, n, .dct _ _ => by simp [nod] at n
theorem RpAll.unlock {K : PySem.W.Frag} {H : Hp} {p : Addr} {od : Obj} {kvs : List (Key × V)} {u : HO} (hp : H p = some (.frz od (.dK kvs))) : ∀ {vs : List V} {ds : List D}, nods ds = true → RpAll K H vs ds → RpAll K (upd H p u) vs ds
  | _, _, _, .nil => .nil
  | _, _, n, .cons h t => by
    simp only [nods, Bool.and_eq_true] at n
    exact .cons (Rp.unlock hp n.1 h) (RpAll.unlock hp n.2 t)
end
def nodD (f : Option D) : Option D := bnd f fun d => if nod d = true then some d else none
theorem eo_c1D {st : String} {kk : Nat} {p pos : Pos} {s : String} {i : Nat} {p2 pos2 : Pos} {C q : Addr} {fs : List (Str × Fld)} {x : Str} {es : List (D × D)} {m : D → Option D} (Cx : Cl X.prog X.w X.K X.mg X.base st kk (g1 m)) (hr : Room kk X.A) (hs : Sl X.N s i) (cl : Cls X.K C) (na : NoAttr X.K C x) (h : ρ[i]? = some (.obj (some C) q fs) := by rfl) (hf : fs.lookup x = some (.dic es) := by rfl) (hv : Vis X.env.scope (Str.ofString s) := by first | exact Or.inl rfl | exact Or.inr (Or.inl rfl) | exact Or.inr (Or.inr rfl))
    (hb : attributeBase (.Name (Str.ofString s) p2) x X.env (eval (.Name (Str.ofString s) p2) X.env) = eval (.Name (Str.ofString s) p2) X.env := by rfl) (hg : Gl X (Str.ofString st) := by rfl) (hdb : (Str.ofString st == ("__debug__" : Str)) = false := by decide) (s1 : starEach [.Attribute (.Name (Str.ofString s) p2) x pos2] X.env = (false, eval (.Attribute (.Name (Str.ofString s) p2) x pos2) X.env) :: starEach [] X.env := by rfl) (hpl : (backTo pos (starEach [] X.env)).any (·.1) = false := by rfl) :
    Eo X (.Call (.Name (Str.ofString st) p) [.Attribute (.Name (Str.ofString s) p2) x pos2] [] pos) ρ (nodD (m (.dict es))) := fun d z => by
  obtain ⟨d', z1, z2⟩ := bnd_inv z
  split at z2
  · rename_i nd
    cases z2
    intro σ H Q S q
    obtain ⟨f, fd, ps, F, hm, hk, hbd⟩ := Cx.h
    obtain ⟨dx, vs, L, e1, e2, e3, e4⟩ := S.ins h
    obtain ⟨v, M, l1, l2, _⟩ := e3.get hf
    cases l2 with
    | @dic pd kvs _ hd rd =>
      refine ⟨_, pe_lk (pe_call F hr hg hm hk hbd .nil pass0 (pa_cons (fz_any (pe_fld (pe_var hs.h hv hs.d hs.c) hb)) pa_nil s1) hdb s1 hpl), pd, _, hd, trivial, _, e1, _, C, dx, vs, _, rfl, e2, cl, na, l1, pd, _, rfl, hd, trivial, fun od => ?_⟩
      refine ⟨[.dict es], d, .cons (rp_lockD hd rd od) .nil, ⟨_, rfl, z1⟩, fun v H' s' r' => ⟨od, s' _ _ upd_same, q _ _ ⟨fun b o hb => ?_, r'.unlock (s' _ _ upd_same) nd⟩⟩⟩
      by_cases hbp : b = pd
      · subst hbp
        rw [upd_same]
        rw [hd] at hb
        exact hb
      · rw [upd_ne hbp]
        exact s' b o (by rw [upd_ne hbp]; exact hb)
  · cases z2
end
end DL


/-! Statements about the fields of an object of one's own. -/
namespace DL
open PySem PySem.Spec PyProof.Rows L2
def dropD (es : List (D × D)) (k : Key) : List (D × D) := es.filter fun e => !decide (kd e.1 = some k)
section
variable {K : PySem.W.Frag} {H H' : Hp}
theorem RpKV.drop {k : Key} : ∀ {vs : List (Key × V)} {es : List (D × D)}, RpKV K H vs es → RpKV K H (dropK vs k) (dropD es k)
  | _, _, .nil => .nil
  | _, _, .int (i := i) h t => by
    unfold dropK dropD
    rw [List.filter_cons, List.filter_cons]
    by_cases e : (Sum.inl i : Key) = k
    · rw [if_neg (by simp [e]), if_neg (by simp [kd, e])]; exact RpKV.drop t
    · rw [if_pos (by simp [e]), if_pos (by simp [kd, e])]; exact .int h (RpKV.drop t)
  | _, _, .str (x := i) h t => by
    unfold dropK dropD
    rw [List.filter_cons, List.filter_cons]
    by_cases e : (Sum.inr i : Key) = k
    · rw [if_neg (by simp [e]), if_neg (by simp [kd, e])]; exact RpKV.drop t
    · rw [if_pos (by simp [e]), if_pos (by simp [kd, e])]; exact .str h (RpKV.drop t)
theorem drop_no {es : List (D × D)} {k : Key} (h : lookD es k = none) : dropD es k = es := by
  unfold dropD
  rw [List.filter_eq_self]
  intro e he
  unfold lookD at h
  rw [Option.map_eq_none_iff, List.find?_eq_none] at h
  have := h e he
  simpa using this
theorem setF_self {f : Str} {x : Fld} : ∀ {fs : List (Str × Fld)}, fs.lookup f = some x → setF f x fs = fs
  | [], h => by cases h
  | (g, y) :: r, h => by
    rw [List.lookup_cons] at h
    cases hb : f == g with
    | true =>
      rw [hb] at h
      simp only at h
      cases h
      rw [setF, if_pos (beq_iff_eq.mp hb).symm]
    | false =>
      rw [hb] at h
      simp only at h
      rw [setF, if_neg (fun z => by rw [z] at hb; simp at hb), setF_self h]
theorem FdsOk.length {vs : List (Str × V)} {fs : List (Str × Fld)} {L : List Addr} (h : FdsOk K H vs fs L) : vs.length = fs.length := by
  induction h with
  | nil => rfl
  | cons _ _ ih => simp [ih]
end
section
variable {X : Cx} {ρ : Rho}
theorem SK.fwrite {K : PySem.W.Frag} {H0 : Ent} {H1 H : Hp} {σ : L2.St} {i : Nat} {C q dx p : Addr} {vs : List (Str × V)} {fs : List (Str × Fld)} {L : List Addr} {f : Str} {x y : Fld} {u o : HO} (S : SK K H0 H1 ρ σ H) (h : ρ[i]? = some (.obj (some C) q fs)) (e1 : σ[i]? = some (some (.ref q))) (e2 : H q = some (.ins C dx vs)) (e3 : FdsOk K H vs fs L) (nd : (q :: L).Nodup)
    (hf : fs.lookup f = some x) (l : vs.lookup f = some (.ref p)) (hx : FdOk K H (.ref p) x [p]) (hp : H p = some u) (mu : MutS (some u)) (hy : FdOk K (upd H p o) (.ref p) y [p]) : SK K H0 H1 (ρ.set i (.obj (some C) q (setF f y fs))) σ (upd H p o) := by
  obtain ⟨v, M, l1, l2, l3⟩ := e3.get hf
  rw [l] at l1
  cases l1
  have eM : M = [p] := l2.det hx
  have pL : p ∈ L := l3 p (by rw [eM]; simp)
  have nq : q ≠ p := fun z => by rw [List.nodup_cons] at nd; exact nd.1 (by rw [z]; exact pL)
  refine S.chg h e1 (.ins e2 e3 nd) (stb_upd hp mu) (fun z w hz n => by rw [upd_ne (fun t => n (by rw [t]; exact List.mem_cons_of_mem _ pL))]; exact hz) (.ins (by rw [upd_ne nq]; exact e2) (e3.write (List.nodup_cons.mp nd).2 hf l hp mu hx hy) nd) fun z m => .inl m
end
section
variable {R : Type} {X : Cx} {ρ : Rho} {Φ : R → DL.Fin} {e a b c : Expr} {rest : List Stmt} {pos : Pos} {f : Option D} {s : String} {i : Nat} {p p2 apos cpos tpos : Pos} {C q : Addr} {fs : List (Str × Fld)} {x : Str}
/-- o.f[b] = e -/
theorem so_fput {es : List (D × D)} {g : Option D} {G : List (D × D) → Option R} (ru : Ru X) (hs : Sl X.N s i) (cl : Cls X.K C) (na : NoAttr X.K C x) (hb : Eo X b ρ f) (he : Eo X e ρ g) (h : ∀ es', So X rest (ρ.set i (.obj (some C) q (setF x (.dic es') fs))) Φ (G es')) (hi : ρ[i]? = some (.obj (some C) q fs) := by rfl) (hf : fs.lookup x = some (.dic es) := by rfl) (hv : Vis X.env.scope (Str.ofString s) := by first | exact Or.inl rfl | exact Or.inr (Or.inl rfl) | exact Or.inr (Or.inr rfl))
    (hab : attributeBase (.Name (Str.ofString s) p2) x X.env (eval (.Name (Str.ofString s) p2) X.env) = eval (.Name (Str.ofString s) p2) X.env := by rfl) (hsw : swapsWith e (some (.Subscript (.Attribute (.Name (Str.ofString s) p2) x apos) b tpos)) pos.line X.env = pure false := by rfl) :
    So X (.Assign [.Subscript (.Attribute (.Name (Str.ofString s) p2) x apos) b tpos] e pos :: rest) ρ Φ (bnd (op2 (putN es) f g) G) := fun r z => by
  obtain ⟨es', z1, z⟩ := bnd_inv z
  obtain ⟨k, v, z2, z3, z4⟩ := op2_inv z1
  obtain ⟨kk, z5, z6⟩ := bnd_inv z4
  split at z6
  · rename_i hz
    cases z6
    have eb := hb k z2
    rw [kd_eq z5] at eb
    refine xs_cons fun H0 H1 σ H E S F => ?_
    obtain ⟨dx, vs, L, e1, e2, e3, e4⟩ := S.ok.ins hi
    obtain ⟨w, M, l1, l2, _⟩ := e3.get hf
    cases l2 with
    | @dic pd kvs _ hd rd =>
      refine ⟨_, ps_dput (by have : _ + 65 < _ := ru; omega) (pe_fld (pe_var hs.h hv hs.d hs.c) hab) pe_c pe_c hsw, he v z3 σ H _ S.ok fun u H2 ⟨s2, r2⟩ => ⟨_, e1, q, C, dx, vs, _, rfl, s2 _ _ e2, cl, na, l1, eb σ H2 _ (S.mono s2).ok fun t H3 ⟨s3, r3⟩ => ?_⟩⟩
      have et := (Rq.of r3).key
      subst et
      have s23 := s2.trans s3
      have h3 : H3 pd = some (.dK kvs) := s23 _ _ hd
      refine ⟨pd, _, rfl, .k h3 (by rw [rd.length]; exact hz), F.nx _ _ _ (((S.mono s2).mono s3).fwrite hi e1 (s23 _ _ e2) (e3.mono (.of s23) fun y _ o ho => s23 y o ho) e4 hf l1 (.dic h3 (rd.mono (.of s23))) h3 trivial ?_) (h _ r z)⟩
      have st : Stb H3 (upd H3 pd (.dK (putK kvs kk u))) := stb_upd h3 trivial
      exact .dic upd_same (((rd.mono (.of s23)).mono st).put ((r2.mono (.of s3)).mono st))
  · cases z6
/-- o.f.extend(e), e a new list -/
theorem so_fext {ds : List D} {g : Option (List D)} {G : List D → Option R} (hs : Sl X.N s i) (cl : Cls X.K C) (na : NoAttr X.K C x) (he : En X e ρ g) (h : ∀ ds', So X rest (ρ.set i (.obj (some C) q (setF x (.own ds') fs))) Φ (G ds')) (hi : ρ[i]? = some (.obj (some C) q fs) := by rfl) (hf : fs.lookup x = some (.own ds) := by rfl) (hv : Vis X.env.scope (Str.ofString s) := by first | exact Or.inl rfl | exact Or.inr (Or.inl rfl) | exact Or.inr (Or.inr rfl))
    (hab : attributeBase (.Name (Str.ofString s) p2) x X.env (eval (.Name (Str.ofString s) p2) X.env) = eval (.Name (Str.ofString s) p2) X.env := by rfl)
    (hbase : attributeBase (.Attribute (.Name (Str.ofString s) p2) x p) "extend" X.env (eval (.Attribute (.Name (Str.ofString s) p2) x p) X.env) = eval (.Attribute (.Name (Str.ofString s) p2) x p) X.env := by rfl)
    (hfew : ((backTo cpos (starEach [e] X.env)).all (fun x => !x.1) && (backToKw cpos (keywordEach [] X.env)).all (fun x => x.1.isSome)
      && decide ([e].length + ([] : List Keyword).length + (if ([] : List Keyword).isEmpty then 0 else 1) < 30)) = true := by rfl)
    (hline : (apos.endLine == cpos.line) = true := by rfl) (hst : starEach [e] X.env = (false, eval e X.env) :: starEach [] X.env := by rfl) (hplain : (backTo cpos (starEach [] X.env)).any (·.1) = false := by rfl)
    (hsw : swapsWith (.Call (.Attribute (.Attribute (.Name (Str.ofString s) p2) x p) "extend" apos) [e] [] cpos) none pos.line X.env = pure false := by rfl) :
    So X (.Expr (.Call (.Attribute (.Attribute (.Name (Str.ofString s) p2) x p) "extend" apos) [e] [] cpos) pos :: rest) ρ Φ (bnd (bnd g (exL ds)) G) := fun r z => by
  obtain ⟨ds', z1, z⟩ := bnd_inv z
  obtain ⟨es, z2, z3⟩ := bnd_inv z1
  obtain ⟨z4, z5⟩ := lim_inv z3
  cases z5
  refine xs_cons fun H0 H1 σ H E S F => ?_
  obtain ⟨dx, vs, L, e1, e2, e3, e4⟩ := S.ok.ins hi
  obtain ⟨w, M, l1, l2, _⟩ := e3.get hf
  cases l2 with
  | @own pd xs _ hd rd =>
    refine ⟨_, ps_expr (pe_bm PySem.F.plainAttrs_list PySem.F.slot_list_extend PySem.F.type_list_extend mt_extend (pe_fld (pe_var hs.h hv hs.d hs.c) hab) (pa_cons pe_c pa_nil hst) hbase hfew hline hst hplain) hsw, _, e1, q, C, dx, vs, _, rfl, e2, cl, na, l1, .inl ⟨rfl, xs, .of hd⟩, he es z2 σ H _ S.ok fun u H2 ⟨s2, pn, zs, en, nn, hn, rn⟩ => ?_⟩
    subst en
    have h3 : H2 pd = some (.lst xs) := s2 _ _ hd
    refine ⟨pd, pn, xs, zs, rfl, rfl, h3, hn, by rw [rd.length, rn.length]; exact z4, F.nx _ _ _ ((S.mono s2).fwrite hi e1 (s2 _ _ e2) (e3.mono (.of s2) fun y _ o ho => s2 y o ho) e4 hf l1 (.own h3 (rd.mono (.of s2))) h3 trivial ?_) (h _ r z)⟩
    have st : Stb H2 (upd H2 pd (.lst (xs ++ zs))) := stb_upd h3 trivial
    exact .own upd_same (((rd.mono (.of s2)).mono st).append (rn.mono st))
/-- o.f.pop(b, c) -/
def popN2 (es : List (D × D)) (k : D) : Option (List (D × D)) := bnd (kd k) fun kk => some (dropD es kk)
def popN1 (es : List (D × D)) (k : D) : Option (List (D × D)) := bnd (kd k) fun kk => if (lookD es kk).isSome = true then some (dropD es kk) else none
theorem so_fpop2 {es : List (D × D)} {g : Option D} {G : List (D × D) → Option R} (hs : Sl X.N s i) (cl : Cls X.K C) (na : NoAttr X.K C x) (hb : Eo X b ρ f) (hc : Eo X c ρ g) (hg : ∃ d, g = some d) (h : ∀ es', So X rest (ρ.set i (.obj (some C) q (setF x (.dic es') fs))) Φ (G es')) (hi : ρ[i]? = some (.obj (some C) q fs) := by rfl) (hf : fs.lookup x = some (.dic es) := by rfl) (hv : Vis X.env.scope (Str.ofString s) := by first | exact Or.inl rfl | exact Or.inr (Or.inl rfl) | exact Or.inr (Or.inr rfl))
    (hab : attributeBase (.Name (Str.ofString s) p2) x X.env (eval (.Name (Str.ofString s) p2) X.env) = eval (.Name (Str.ofString s) p2) X.env := by rfl)
    (m : M2 X (.Attribute (.Name (Str.ofString s) p2) x p) "pop" apos b c cpos := by exact ⟨rfl, rfl, rfl, rfl⟩) (hsw : swapsWith (.Call (.Attribute (.Attribute (.Name (Str.ofString s) p2) x p) "pop" apos) [b, c] [] cpos) none pos.line X.env = pure false := by rfl) :
    So X (.Expr (.Call (.Attribute (.Attribute (.Name (Str.ofString s) p2) x p) "pop" apos) [b, c] [] cpos) pos :: rest) ρ Φ (bnd (op1 (popN2 es) f) G) := fun r z => by
  obtain ⟨es', z1, z⟩ := bnd_inv z
  obtain ⟨k, z2, z3⟩ := bnd_inv z1
  obtain ⟨kk, z5, z6⟩ := bnd_inv z3
  cases z6
  obtain ⟨gd, hgd⟩ := hg
  have eb := hb k z2
  rw [kd_eq z5] at eb
  refine xs_cons fun H0 H1 σ H E S F => ?_
  obtain ⟨dx, vs, L, e1, e2, e3, e4⟩ := S.ok.ins hi
  obtain ⟨w, M, l1, l2, _⟩ := e3.get hf
  cases l2 with
  | @dic pd kvs _ hd rd =>
    refine ⟨_, ps_expr (pe_dpop2 (pe_fld (pe_var hs.h hv hs.d hs.c) hab) pe_c pe_c m) hsw, _, e1, q, C, dx, vs, _, rfl, e2, cl, na, l1, pd, rfl, .inl ⟨kvs, .inl hd⟩, eb σ H _ S.ok fun t H2 ⟨s2, r2⟩ => hc gd hgd σ H2 _ (S.mono s2).ok fun u H3 ⟨s3, r3⟩ => ?_⟩
    have et := (Rq.of r2).key
    subst et
    have s23 := s2.trans s3
    have h3 : H3 pd = some (.dK kvs) := s23 _ _ hd
    refine ⟨kvs, kk, h3, rfl, fun v hv' => ?_, fun hn => ?_⟩
    · refine F.nx _ _ _ (((S.mono s2).mono s3).fwrite hi e1 (s23 _ _ e2) (e3.mono (.of s23) fun y _ o ho => s23 y o ho) e4 hf l1 (.dic h3 (rd.mono (.of s23))) h3 trivial ?_) (h _ r z)
      have st : Stb H3 (upd H3 pd (.dK (dropK kvs kk))) := stb_upd h3 trivial
      exact .dic upd_same (((rd.mono (.of s23)).mono st).drop)
    · have eno : lookD es kk = none := by
        rcases rd.look kk with ⟨_, e⟩ | ⟨_, _, e, _, _⟩
        · exact e
        · rw [e] at hn; cases hn
      have hz := h (dropD es kk) r z
      rw [drop_no eno, setF_self hf] at hz
      have eρ : ρ.set i (.obj (some C) q fs) = ρ := by
        apply List.ext_getElem?
        intro j
        by_cases hj : i = j
        · subst hj
          rw [List.getElem?_set_self (List.getElem?_eq_some_iff.mp hi).1, hi]
        · rw [List.getElem?_set_ne hj]
      rw [eρ] at hz
      exact F.nx _ _ _ ((S.mono s2).mono s3) hz
theorem so_fpop1 {es : List (D × D)} {G : List (D × D) → Option R} (hs : Sl X.N s i) (cl : Cls X.K C) (na : NoAttr X.K C x) (hb : Eo X b ρ f) (h : ∀ es', So X rest (ρ.set i (.obj (some C) q (setF x (.dic es') fs))) Φ (G es')) (hi : ρ[i]? = some (.obj (some C) q fs) := by rfl) (hf : fs.lookup x = some (.dic es) := by rfl) (hv : Vis X.env.scope (Str.ofString s) := by first | exact Or.inl rfl | exact Or.inr (Or.inl rfl) | exact Or.inr (Or.inr rfl))
    (hab : attributeBase (.Name (Str.ofString s) p2) x X.env (eval (.Name (Str.ofString s) p2) X.env) = eval (.Name (Str.ofString s) p2) X.env := by rfl)
    (m : M1 X (.Attribute (.Name (Str.ofString s) p2) x p) "pop" apos b cpos := by exact ⟨rfl, rfl, rfl, rfl⟩) (hsw : swapsWith (.Call (.Attribute (.Attribute (.Name (Str.ofString s) p2) x p) "pop" apos) [b] [] cpos) none pos.line X.env = pure false := by rfl) :
    So X (.Expr (.Call (.Attribute (.Attribute (.Name (Str.ofString s) p2) x p) "pop" apos) [b] [] cpos) pos :: rest) ρ Φ (bnd (op1 (popN1 es) f) G) := fun r z => by
  obtain ⟨es', z1, z⟩ := bnd_inv z
  obtain ⟨k, z2, z3⟩ := bnd_inv z1
  obtain ⟨kk, z5, z6⟩ := bnd_inv z3
  split at z6
  · rename_i hsome
    cases z6
    have eb := hb k z2
    rw [kd_eq z5] at eb
    refine xs_cons fun H0 H1 σ H E S F => ?_
    obtain ⟨dx, vs, L, e1, e2, e3, e4⟩ := S.ok.ins hi
    obtain ⟨w, M, l1, l2, _⟩ := e3.get hf
    cases l2 with
    | @dic pd kvs _ hd rd =>
      refine ⟨_, ps_expr (pe_dpop1 (pe_fld (pe_var hs.h hv hs.d hs.c) hab) pe_c m) hsw, _, e1, q, C, dx, vs, _, rfl, e2, cl, na, l1, pd, rfl, .inl ⟨kvs, .inl hd⟩, eb σ H _ S.ok fun t H2 ⟨s2, r2⟩ => ?_⟩
      have et := (Rq.of r2).key
      subst et
      have h3 : H2 pd = some (.dK kvs) := s2 _ _ hd
      rcases rd.look kk with ⟨_, e⟩ | ⟨w', d', ew, _, _⟩
      · rw [e] at hsome; cases hsome
      refine ⟨kvs, kk, w', h3, rfl, ew, ?_⟩
      refine F.nx _ _ _ ((S.mono s2).fwrite hi e1 (s2 _ _ e2) (e3.mono (.of s2) fun y _ o ho => s2 y o ho) e4 hf l1 (.dic h3 (rd.mono (.of s2))) h3 trivial ?_) (h _ r z)
      have st : Stb H2 (upd H2 pd (.dK (dropK kvs kk))) := stb_upd h3 trivial
      exact .dic upd_same (((rd.mono (.of s2)).mono st).drop)
  · cases z6
/-- o.f = e, a datum in the place of one -/
theorem so_fset {d0 : D} {G : D → Option R} (hs : Sl X.N s i) (cl : Cls X.K C) (na : NoAttr X.K C x) (he : Eo X e ρ f) (h : ∀ d, So X rest (ρ.set i (.obj (some C) q (setF x (.val d) fs))) Φ (G d)) (hi : ρ[i]? = some (.obj (some C) q fs) := by rfl) (hf : fs.lookup x = some (.val d0) := by rfl) (hl : decide (fs.length < 1000) = true := by rfl) (hv : Vis X.env.scope (Str.ofString s) := by first | exact Or.inl rfl | exact Or.inr (Or.inl rfl) | exact Or.inr (Or.inr rfl))
    (hsw : swapsWith e (some (.Attribute (.Name (Str.ofString s) p2) x apos)) pos.line X.env = pure false := by rfl) :
    So X (.Assign [.Attribute (.Name (Str.ofString s) p2) x apos] e pos :: rest) ρ Φ (bnd f G) := fun r z => by
  obtain ⟨d, z1, z⟩ := bnd_inv z
  refine xs_cons fun H0 H1 σ H E S F => ?_
  obtain ⟨dx, vs, L, e1, e2, e3, e4⟩ := S.ok.ins hi
  refine ⟨_, ps_fld (pe_var hs.h hv hs.d hs.c) pe_c hsw, he d z1 σ H _ S.ok fun v H2 ⟨s2, r2⟩ => ⟨_, e1, q, C, dx, vs, rfl, s2 _ _ e2, cl, na, by rw [e3.length]; exact of_decide_eq_true hl, F.nx _ _ _ ?_ (h d r z)⟩⟩
  have e2' := s2 _ _ e2
  have e3' := e3.mono (.of s2) fun y _ o ho => s2 y o ho
  have st : Stb H2 (upd H2 q (.ins C dx (putF x v vs))) := stb_upd e2' trivial
  refine (S.mono s2).chg hi e1 (.ins e2' e3' e4) st (fun z w hz n => by rw [upd_ne (fun t => n (by rw [t]; exact List.mem_cons_self))]; exact hz) (.ins upd_same ((e3'.put hf r2).mono st fun y hy o ho => ?_) e4) fun z m => .inl m
  rw [upd_ne (fun t => by rw [List.nodup_cons] at e4; exact e4.1 (by rw [← t]; exact hy))]
  exact ho
/-- o.f = e, a new field -/
theorem fnew {H0 : Ent} {H1 H H2 : Hp} {σ : L2.St} {dx : Addr} {vs : List (Str × V)} {L M : List Addr} {v : V} {y : Fld} (S : SK X.K H0 H1 ρ σ H) (hi : ρ[i]? = some (.obj (some C) q fs)) (e1 : σ[i]? = some (some (.ref q))) (e2 : H q = some (.ins C dx vs)) (e3 : FdsOk X.K H vs fs L) (e4 : (q :: L).Nodup) (hf : fs.lookup x = none) (s2 : Same H H2) (r2 : FdOk X.K H2 v y M) (fr : ∀ z ∈ M, H z = none) (nM : M.Nodup) : SK X.K H0 H1 (ρ.set i (.obj (some C) q (setF x y fs))) σ (upd H2 q (.ins C dx (putF x v vs))) := by
  have e2' := s2 _ _ e2
  have e3' := e3.mono (.of s2) fun y _ o ho => s2 y o ho
  have st : Stb H2 (upd H2 q (.ins C dx (putF x v vs))) := stb_upd e2' trivial
  have qM : q ∉ M := fun z => by rw [fr q z] at e2; cases e2
  have LM : ∀ z ∈ L, z ∉ M := fun z hz hm => by
    obtain ⟨o, ho, _⟩ := e3.stands z hz
    rw [fr z hm] at ho; cases ho
  have nd : (q :: (L ++ M)).Nodup := by
    rw [List.nodup_cons] at e4 ⊢
    refine ⟨fun z => ?_, ?_⟩
    · rcases List.mem_append.mp z with z | z
      · exact e4.1 z
      · exact qM z
    · rw [List.nodup_append]
      exact ⟨e4.2, nM, fun a ha b hb e => LM a ha (by rw [e]; exact hb)⟩
  refine S.chg hi e1 (.ins e2 e3 e4) ((Stb.of s2).trans st) (fun z w hz n => by rw [upd_ne (fun t => n (by rw [t]; exact List.mem_cons_self))]; exact s2 _ _ hz) (.ins upd_same ((e3'.add hf r2).mono st fun y hy o ho => ?_) nd) fun z m => ?_
  · rw [upd_ne (fun t => by rw [List.nodup_cons] at nd; exact nd.1 (by rw [← t]; exact hy))]
    exact ho
  · rcases List.mem_cons.mp m with rfl | m
    · exact .inl List.mem_cons_self
    · rcases List.mem_append.mp m with m | m
      · exact .inl (List.mem_cons_of_mem _ m)
      · exact .inr (fr z m)
theorem so_fadd {G : D → Option R} (hs : Sl X.N s i) (cl : Cls X.K C) (na : NoAttr X.K C x) (he : Eo X e ρ f) (h : ∀ d, So X rest (ρ.set i (.obj (some C) q (setF x (.val d) fs))) Φ (G d)) (hi : ρ[i]? = some (.obj (some C) q fs) := by rfl) (hf : fs.lookup x = none := by rfl) (hl : decide (fs.length < 1000) = true := by rfl) (hv : Vis X.env.scope (Str.ofString s) := by first | exact Or.inl rfl | exact Or.inr (Or.inl rfl) | exact Or.inr (Or.inr rfl))
    (hsw : swapsWith e (some (.Attribute (.Name (Str.ofString s) p2) x apos)) pos.line X.env = pure false := by rfl) :
    So X (.Assign [.Attribute (.Name (Str.ofString s) p2) x apos] e pos :: rest) ρ Φ (bnd f G) := fun r z => by
  obtain ⟨d, z1, z⟩ := bnd_inv z
  refine xs_cons fun H0 H1 σ H E S F => ?_
  obtain ⟨dx, vs, L, e1, e2, e3, e4⟩ := S.ok.ins hi
  exact ⟨_, ps_fld (pe_var hs.h hv hs.d hs.c) pe_c hsw, he d z1 σ H _ S.ok fun v H2 ⟨s2, r2⟩ => ⟨_, e1, q, C, dx, vs, rfl, s2 _ _ e2, cl, na, by rw [e3.length]; exact of_decide_eq_true hl, F.nx _ _ _ (fnew S hi e1 e2 e3 e4 hf s2 (.val r2) (fun _ z => nomatch z) .nil) (h d r z)⟩⟩
theorem so_faddD {g : Option (List (D × D))} {G : List (D × D) → Option R} (hs : Sl X.N s i) (cl : Cls X.K C) (na : NoAttr X.K C x) (he : Ed X e ρ g) (h : ∀ d, So X rest (ρ.set i (.obj (some C) q (setF x (.dic d) fs))) Φ (G d)) (hi : ρ[i]? = some (.obj (some C) q fs) := by rfl) (hf : fs.lookup x = none := by rfl) (hl : decide (fs.length < 1000) = true := by rfl) (hv : Vis X.env.scope (Str.ofString s) := by first | exact Or.inl rfl | exact Or.inr (Or.inl rfl) | exact Or.inr (Or.inr rfl))
    (hsw : swapsWith e (some (.Attribute (.Name (Str.ofString s) p2) x apos)) pos.line X.env = pure false := by rfl) :
    So X (.Assign [.Attribute (.Name (Str.ofString s) p2) x apos] e pos :: rest) ρ Φ (bnd g G) := fun r z => by
  obtain ⟨d, z1, z⟩ := bnd_inv z
  refine xs_cons fun H0 H1 σ H E S F => ?_
  obtain ⟨dx, vs, L, e1, e2, e3, e4⟩ := S.ok.ins hi
  refine ⟨_, ps_fld (pe_var hs.h hv hs.d hs.c) pe_c hsw, he d z1 σ H _ S.ok fun v H2 ⟨s2, pn, kvs, en, nn, hn, rn⟩ => ?_⟩
  subst en
  exact ⟨_, e1, q, C, dx, vs, rfl, s2 _ _ e2, cl, na, by rw [e3.length]; exact of_decide_eq_true hl, F.nx _ _ _ (fnew S hi e1 e2 e3 e4 hf s2 (.dic hn rn) (fun z m => by simp at m; rw [m]; exact nn) (by simp)) (h d r z)⟩
theorem so_faddL {g : Option (List D)} {G : List D → Option R} (hs : Sl X.N s i) (cl : Cls X.K C) (na : NoAttr X.K C x) (he : En X e ρ g) (h : ∀ d, So X rest (ρ.set i (.obj (some C) q (setF x (.own d) fs))) Φ (G d)) (hi : ρ[i]? = some (.obj (some C) q fs) := by rfl) (hf : fs.lookup x = none := by rfl) (hl : decide (fs.length < 1000) = true := by rfl) (hv : Vis X.env.scope (Str.ofString s) := by first | exact Or.inl rfl | exact Or.inr (Or.inl rfl) | exact Or.inr (Or.inr rfl))
    (hsw : swapsWith e (some (.Attribute (.Name (Str.ofString s) p2) x apos)) pos.line X.env = pure false := by rfl) :
    So X (.Assign [.Attribute (.Name (Str.ofString s) p2) x apos] e pos :: rest) ρ Φ (bnd g G) := fun r z => by
  obtain ⟨d, z1, z⟩ := bnd_inv z
  refine xs_cons fun H0 H1 σ H E S F => ?_
  obtain ⟨dx, vs, L, e1, e2, e3, e4⟩ := S.ok.ins hi
  refine ⟨_, ps_fld (pe_var hs.h hv hs.d hs.c) pe_c hsw, he d z1 σ H _ S.ok fun v H2 ⟨s2, pn, xs, en, nn, hn, rn⟩ => ?_⟩
  subst en
  exact ⟨_, e1, q, C, dx, vs, rfl, s2 _ _ e2, cl, na, by rw [e3.length]; exact of_decide_eq_true hl, F.nx _ _ _ (fnew S hi e1 e2 e3 e4 hf s2 (.own hn rn) (fun z m => by simp at m; rw [m]; exact nn) (by simp)) (h d r z)⟩
end
end DL


/-! Methods, expressions that change objects. -/
namespace DL
open PySem PySem.Spec PyProof.Rows L2
abbrev FL := List (Str × Fld)
/-! ### promises -/
/-- a method that changes its object -/
def SpM (K : PySem.W.Frag) (C : Addr) {S T : Type} (e0 : S → FL) (e1 : T → FL) (m : S → List D → Option (D × T)) : Sp := fun vs H Q _ => ∃ (q : Addr) (ws : List V) (s : S) (ds : List D) (d : D) (t : T) (L0 : List Addr), vs = .ref q :: ws ∧ Own K H (.ref q) (.obj (some C) q (e0 s)) L0 ∧ RpAll K H ws ds ∧ m s ds = some (d, t) ∧
  ∀ v H' L1, Stb H H' → (∀ x o, H x = some o → x ∉ L0 → H' x = some o) → Own K H' (.ref q) (.obj (some C) q (e1 t)) L1 → (∀ x ∈ L1, x ∈ L0 ∨ H x = none) → Rp K H' v d → Q v H'
/-- one that only reads it -/
def SpR (K : PySem.W.Frag) (C : Addr) {S : Type} (e0 : S → FL) (m : S → List D → Option D) : Sp := fun vs H Q _ => ∃ (q : Addr) (ws : List V) (s : S) (ds : List D) (d : D) (L0 : List Addr), vs = .ref q :: ws ∧ Own K H (.ref q) (.obj (some C) q (e0 s)) L0 ∧ RpAll K H ws ds ∧ m s ds = some d ∧
  ∀ v H', Same H H' → Rp K H' v d → Q v H'
section
variable {S T R : Type}
def a0 (m : S → Option R) : S → List D → Option R
  | s, [] => m s
  | _, _ => none
def a1 (m : S → D → Option R) : S → List D → Option R
  | s, [x] => m s x
  | _, _ => none
def a2 (m : S → D → D → Option R) : S → List D → Option R
  | s, [x, y] => m s x y
  | _, _ => none
theorem a0_inv {m : S → Option R} {s : S} {ds : List D} {r : R} (h : a0 m s ds = some r) : ds = [] ∧ m s = some r := by
  unfold a0 at h; split at h
  · exact ⟨rfl, h⟩
  · cases h
theorem a1_inv {m : S → D → Option R} {s : S} {ds : List D} {r : R} (h : a1 m s ds = some r) : ∃ x, ds = [x] ∧ m s x = some r := by
  unfold a1 at h; split at h
  · exact ⟨_, rfl, h⟩
  · cases h
theorem a2_inv {m : S → D → D → Option R} {s : S} {ds : List D} {r : R} (h : a2 m s ds = some r) : ∃ x y, ds = [x, y] ∧ m s x y = some r := by
  unfold a2 at h; split at h
  · exact ⟨_, _, rfl, h⟩
  · cases h
end
/-! ### bodies -/
def startM (b : B) (n : Nat) (ds : List D) : Rho := b :: startB (n - 1) ds
theorem SOk.cons {K : PySem.W.Frag} {ρ : Rho} {σ : L2.St} {H : Hp} {v : V} {b : B} {L : List Addr} (h : SOk K ρ σ H) (n : ∀ (i : Nat) b, ρ[i]? = some b → isOwn b = false) (o : Own K H v b L) : SOk K (b :: ρ) (some v :: σ) H := by
  refine ⟨by simp [h.len], fun i d e => ?_, fun i c e oc => ?_, fun i j c c' w w' M M' x e1 e2 s1 s2 o1 o2 m1 m2 => ?_⟩
  · cases i with
    | zero => simp at e; subst e; cases o
    | succ i => simpa using h.val i d (by simpa using e)
  · cases i with
    | zero => simp at e; subst e; exact ⟨v, L, by simp, o⟩
    | succ i => rw [n i c (by simpa using e)] at oc; cases oc
  · cases i with
    | zero =>
      cases j with
      | zero => rfl
      | succ j => have := n j c' (by simpa using e2); rw [o2.is] at this; cases this
    | succ i => have := n i c (by simpa using e1); rw [o1.is] at this; cases this
theorem startB_no (n : Nat) (ds : List D) : ∀ (i : Nat) b, (startB n ds)[i]? = some b → isOwn b = false := fun i b e => by
  unfold startB at e
  by_cases hi : i < ds.length
  · rw [List.getElem?_append_left (by simpa using hi), List.getElem?_map] at e
    cases q : ds[i]? with
    | none => rw [q] at e; cases e
    | some d => rw [q] at e; cases e; rfl
  · rw [List.getElem?_append_right (by simpa using hi), List.getElem?_replicate] at e
    split at e <;> cases e
    rfl
theorem sok_startM {K : PySem.W.Frag} {H : Hp} {N : List Str} {v : V} {vs : List V} {ds : List D} {b : B} {L : List Addr} (r : RpAll K H vs ds) (o : Own K H v b L) (hN : N ≠ []) : SOk K (startM b N.length ds) (L2.start N (v :: vs)) H := by
  cases N with
  | nil => exact absurd rfl hN
  | cons x N =>
    have e : L2.start (x :: N) (v :: vs) = some v :: L2.start N vs := by
      unfold L2.start
      simp
    rw [e]
    exact (sok_start r).cons (startB_no _ _) o
def objB (C q : Addr) {S : Type} (e : S → FL) (s : S) : B := .obj (some C) q (e s)
def FnMΦ {T : Type} (Bt : T → B) : D × T → DL.Fin := fun r => { nx := fun ρ => r.1 = .none ∧ ρ[0]? = some (Bt r.2), rt := fun d ρ => d = r.1 ∧ ρ[0]? = some (Bt r.2) }
section
variable {P : Program} {w : World} {K : PySem.W.Frag} {mg : Str → Option Value} {base : Heap} {x qual : Str} {params : Arguments} {body : List Stmt} {scope : Scope} {kws : List (Str × V)} {f : Addr} {fd : FuncData} {N ps : List Str} {k : Nat} {S T : Type} {C : Addr} {e0 : S → FL} {e1 : T → FL}
theorem fn_M {m : S → List D → Option (D × T)} (F : FunD K x qual params body scope [] kws f fd) (Sc : FnScope N ps scope) (len : ∀ s ds r, m s ds = some r → ds.length + 1 = ps.length) (hN : N ≠ [])
    (h : ∀ (q : Addr) (s : S) (ds : List D) (cdv : Value) (A : Around) (outer : List Env) (sh : Shared) (H : Hp) (E : XK), Room k (A.deeper (envOfC qual scope sh.heap.objs.size f cdv)) → (m s ds).isSome = true → So (cxOf CX0 P w K mg base N qual scope f cdv A outer sh H E).nox body (startM (objB C q e0 s) N.length ds) (FnMΦ (objB C q e1)) (m s ds)) :
    FnOk P w K mg base CX0 (k + 1) f fd ps (SpM K C e0 e1 m) := by
  refine F.ok Sc (fun vs H Q E ⟨q, ws, s, ds, d, t, L0, e, o, r, hm, _⟩ => by rw [e, List.length_cons, r.length, ← len s ds _ hm]) (fun cdv A outer s H vs Q E hr ⟨q, ws, st, ds, d, t, L0, e, o, r, hm, hq⟩ => ?_)
  subst e
  have fin : ∀ ρ σ H' v, (∃ H1, SK K ⟨H, fun y => y ∈ L0⟩ H1 ρ σ H') → Rp K H' v d → ρ[0]? = some (objB C q e1 t) → Q v H' := by
    rintro ρ σ H' v ⟨H1, S'⟩ rp e
    obtain ⟨u, L1, z1, z2⟩ := S'.ok.has 0 _ e rfl
    have zu : u = .ref q := by cases z2; rfl
    subst zu
    refine hq v H' L1 ⟨fun b xs hb => S'.same b _ hb fun z => ?_, fun b ob y hb => S'.same b _ hb fun z => ?_, fun b φ ic hb => S'.same b _ hb fun z => ?_⟩ (fun y oy hy n => S'.same y oy hy n) z2 (fun y hy => ?_) rp
    · obtain ⟨o1, h1, h2⟩ := o.stands b z
      rw [hb] at h1; cases h1; exact h2
    · obtain ⟨o1, h1, h2⟩ := o.stands b z
      rw [hb] at h1; cases h1; exact h2
    · obtain ⟨o1, h1, h2⟩ := o.stands b z
      rw [hb] at h1; cases h1; exact h2 _ ic
    · rcases S'.fr 0 _ _ L1 y e z1 z2 hy with z | z
      · exact .inr z
      · exact .inl z
  refine ⟨_, PSs.nox pss_c, h q st ds cdv A outer s H E hr (by rw [hm]; rfl) _ hm ⟨H, fun y => y ∈ L0⟩ H (L2.start N (.ref q :: ws)) H _ ⟨fun _ _ e _ => e, .refl _, sok_startM r o hN, fun i b v L y e1' es o1 hy => ?_, fun i T e1' => ?_⟩ ⟨fun ρ σ H' S' z => ?_, fun d' v ρ σ H' S' rp z => ?_, fun _ _ _ _ z => z.elim, fun _ _ _ _ z => z.elim, fun _ _ _ _ _ _ z => z.elim⟩⟩
  · cases i with
    | zero =>
      simp [startM, objB] at e1'
      subst e1'
      have eL : L = L0 := by
        have : v = .ref q := by cases o1; rfl
        subst this
        exact o1.det o
      exact .inr (by rw [← eL]; exact hy)
    | succ i =>
      have := startB_no _ _ i b (by simpa [startM] using e1')
      rw [o1.is] at this; cases this
  · cases i with
    | zero => simp [startM, objB] at e1'
    | succ i => exact absurd (startB_no _ _ i _ (by simpa [startM] using e1')) (by simp [isOwn])
  · exact fin ρ σ H' _ ⟨_, S'⟩ (by have := z.1; simp only at this; rw [this]; exact .non) z.2
  · exact fin ρ σ H' v S' (by have := z.1; simp only at this; rw [← this]; exact rp) z.2
/-- a body that is one return -/
theorem fn_R {m : S → List D → Option D} {e : Expr} {pos : Pos} (F : FunD K x qual params [.Return (some e) pos] scope [] kws f fd) (Sc : FnScope N ps scope) (len : ∀ s ds r, m s ds = some r → ds.length + 1 = ps.length) (hN : N ≠ [])
    (h : ∀ (q : Addr) (s : S) (ds : List D) (cdv : Value) (A : Around) (outer : List Env) (sh : Shared) (H : Hp) (E : XK), Room k (A.deeper (envOfC qual scope sh.heap.objs.size f cdv)) → (m s ds).isSome = true → Eo (cxOf CX0 P w K mg base N qual scope f cdv A outer sh H E).nox e (startM (objB C q e0 s) N.length ds) (m s ds)) :
    FnOk P w K mg base CX0 (k + 1) f fd ps (SpR K C e0 m) := by
  refine F.ok Sc (fun vs H Q E ⟨q, ws, s, ds, d, L0, e, o, r, hm, _⟩ => by rw [e, List.length_cons, r.length, ← len s ds _ hm]) (fun cdv A outer s H vs Q E hr ⟨q, ws, st, ds, d, L0, e, o, r, hm, hq⟩ => ?_)
  subst e
  exact ⟨_, PSs.nox (pss_one (ps_ret pe_c)), h q st ds cdv A outer s H E hr (by rw [hm]; rfl) d hm _ H _ (sok_startM r o hN) fun v H' ⟨s', r'⟩ => hq v H' s' r'⟩
end
/-! ### calls -/
structure Mr (P : Program) (w : World) (K : PySem.W.Frag) (mg : Str → Option Value) (base : Heap) (C : Addr) (x : Str) (kk : Nat) (sp : Sp) : Prop where
  h : ∃ f fd ps, FnOk P w K mg base CX0 kk f fd ps sp ∧ Meth K C x f ∧ Binds K fd ps []
/-- a def by its name, with any promise -/
structure Fr (P : Program) (w : World) (K : PySem.W.Frag) (mg : Str → Option Value) (base : Heap) (s : String) (kk : Nat) (sp : Sp) : Prop where
  h : ∃ f fd ps, FnOk P w K mg base CX0 kk f fd ps sp ∧ mg (Str.ofString s) = some (.ref f) ∧ PySem.W.keepIn K (.ref f) = true ∧ Binds K fd ps []
theorem FdsOk.no {K : PySem.W.Frag} {H : Hp} {vs : List (Str × V)} {fs : FL} {L : List Addr} {m : Str} (h : FdsOk K H vs fs L) : fs.lookup m = none → vs.lookup m = none := by
  induction h with
  | nil => exact fun _ => rfl
  | @cons g v y vs fs L M h _ ih =>
    intro e
    rw [List.lookup_cons] at e ⊢
    cases hb : m == g with
    | true => rw [hb] at e; cases e
    | false => rw [hb] at e; exact ih e
/-- an expression that may change objects -/
def EvM (X : Cx) (e : Expr) (ρ ρ' : Rho) (d : D) : Prop := ∀ H0 H1 σ H Q, SK X.K H0 H1 ρ σ H → (∀ v H', SK X.K H0 H1 ρ' σ H' → Stb H H' → Rp X.K H' v d → Q v H') → cE X e σ H Q
def EvMT (X : Cx) (e : Expr) (ρ ρ' : Rho) (t : Bool) : Prop := ∀ H0 H1 σ H Q, SK X.K H0 H1 ρ σ H → (∀ H', SK X.K H0 H1 ρ' σ H' → Q t H') → cT X e σ H Q
def EvMW (X : Cx) (e : Expr) (ρ ρ' : Rho) (t : Bool) : Prop := ∀ H0 H1 σ H Q, SK X.K H0 H1 ρ σ H → (∀ H', SK X.K H0 H1 ρ' σ H' → Q t H') → cW X e σ H Q
def Em {S : Type} (X : Cx) (e : Expr) (ρ : Rho) (enc : S → Rho) (f : Option (D × S)) : Prop := ∀ r, f = some r → EvM X e ρ (enc r.2) r.1
def EmT {S : Type} (X : Cx) (e : Expr) (ρ : Rho) (enc : S → Rho) (f : Option (Bool × S)) : Prop := ∀ r, f = some r → EvMT X e ρ (enc r.2) r.1
def EmW {S : Type} (X : Cx) (e : Expr) (ρ : Rho) (enc : S → Rho) (f : Option (Bool × S)) : Prop := ∀ r, f = some r → EvMW X e ρ (enc r.2) r.1
section
variable {X : Cx} {ρ : Rho} {e a b c : Expr} {es : List Expr} {f g : Option D} {S T U : Type} {enc : S → Rho} {enc' : T → Rho} {p pos apos : Pos} {s : String} {i : Nat} {C q : Addr} {fs : FL} {x : Str} {kk : Nat}
/-- o.m(), which only reads -/
theorem eo_meth0 {e0 : U → FL} {m : U → Option D} (st : U) (M : Mr X.prog X.w X.K X.mg X.base C x kk (SpR X.K C e0 (a0 m))) (hr : Room kk X.A) (cl : Cls X.K C) (hs : Sl X.N s i) (h : ρ[i]? = some (.obj (some C) q (e0 st)) := by rfl) (nm : (e0 st).lookup x = none := by rfl) (hv : Vis X.env.scope (Str.ofString s) := by first | exact Or.inl rfl | exact Or.inr (Or.inl rfl) | exact Or.inr (Or.inr rfl)) {pl : Sem Bool}
    (ht : eval (.Call (.Attribute (.Name (Str.ofString s) p) x apos) [] [] pos) X.env = (do
      let ov ← eval (.Name (Str.ofString s) p) X.env
      standAt apos.atName
      let (f, first) ← holding [ov] (getMethod ov x pl)
      callWith pos f first (backTo pos (starEach [] X.env)) (backToKw pos (keywordEach [] X.env))) := by rfl) : Eo X (.Call (.Attribute (.Name (Str.ofString s) p) x apos) [] [] pos) ρ (m st) := fun d z σ H Q Sk q' => by
  obtain ⟨f, fd, ps, F, hm, hb⟩ := M.h
  obtain ⟨dx, vs, L, e1, e2, e3, e4⟩ := Sk.ins h
  exact ⟨_, pe_meth0 (pe_var hs.h hv hs.d hs.c) cl hm F hr hb .nil pass0 (pl := pl) ht, _, e1, _, dx, vs, rfl, e2, e3.no nm, _, [], st, [], d, _, rfl, .ins e2 e3 e4, .nil, z, fun v H' s' r' => q' v H' ⟨s', r'⟩⟩
/-- o.m(..), which may change it -/
theorem em_meth {enc : U → Rho} {e0 : U → FL} {m : U → List D → Option (D × U)} (st : U) (M : Mr X.prog X.w X.K X.mg X.base C x kk (SpM X.K C e0 e0 m)) (hr : Room kk X.A) (cl : Cls X.K C) (hs : Sl X.N s i) {r : Option (List D)} (ha : Ao X (e :: es) ρ r) (h : ρ[i]? = some (.obj (some C) q (e0 st)) := by rfl) (henc : ∀ t, enc t = ρ.set i (.obj (some C) q (e0 t)) := by intro _; rfl) (nm : (e0 st).lookup x = none := by rfl) (hv : Vis X.env.scope (Str.ofString s) := by first | exact Or.inl rfl | exact Or.inr (Or.inl rfl) | exact Or.inr (Or.inr rfl)) {pl : Sem Bool}
    (hst : starEach (e :: es) X.env = (false, eval e X.env) :: starEach es X.env := by rfl) (hpl : (backTo pos (starEach es X.env)).any (·.1) = false := by rfl)
    (ht : eval (.Call (.Attribute (.Name (Str.ofString s) p) x apos) (e :: es) [] pos) X.env = (do
      let ov ← eval (.Name (Str.ofString s) p) X.env
      standAt apos.atName
      let (f, first) ← holding [ov] (getMethod ov x pl)
      callWith pos f first (backTo pos (starEach (e :: es) X.env)) (backToKw pos (keywordEach [] X.env))) := by rfl) : Em X (.Call (.Attribute (.Name (Str.ofString s) p) x apos) (e :: es) [] pos) ρ enc (bnd r (m st)) := fun r' z => by
  obtain ⟨ds, z1, z2⟩ := bnd_inv z
  intro H0 H1 σ H Q Sk q'
  obtain ⟨f, fd, ps, F, hm, hb⟩ := M.h
  obtain ⟨dx, vs, L, e1, e2, e3, e4⟩ := Sk.ok.ins h
  refine ⟨_, pe_meth (pe_var hs.h hv hs.d hs.c) cl hm F hr hb .nil pass0 pa_c (pl := pl) hst hpl ht, _, e1, _, dx, vs, rfl, e2, e3.no nm, ha ds z1 σ H _ Sk.ok fun us H2 s2 r2 => ?_⟩
  rw [List.append_nil]
  have o2 : Own X.K H2 (.ref q) (.obj (some C) q (e0 st)) (q :: L) := .ins (s2 _ _ e2) (e3.mono (.of s2) fun y _ o ho => s2 y o ho) e4
  exact ⟨_, us, st, ds, r'.1, r'.2, _, rfl, o2, r2, z2, fun v H' L1 st' kp o1 hL rp => q' v H' (by rw [henc]; exact (Sk.mono s2).chg h e1 o2 st' kp o1 hL) ((Stb.of s2).trans st') rp⟩
theorem em_meth0 {enc : U → Rho} {e0 : U → FL} {m : U → Option (D × U)} (st : U) (M : Mr X.prog X.w X.K X.mg X.base C x kk (SpM X.K C e0 e0 (a0 m))) (hr : Room kk X.A) (cl : Cls X.K C) (hs : Sl X.N s i) (h : ρ[i]? = some (.obj (some C) q (e0 st)) := by rfl) (henc : ∀ t, enc t = ρ.set i (.obj (some C) q (e0 t)) := by intro _; rfl) (nm : (e0 st).lookup x = none := by rfl) (hv : Vis X.env.scope (Str.ofString s) := by first | exact Or.inl rfl | exact Or.inr (Or.inl rfl) | exact Or.inr (Or.inr rfl)) {pl : Sem Bool}
    (ht : eval (.Call (.Attribute (.Name (Str.ofString s) p) x apos) [] [] pos) X.env = (do
      let ov ← eval (.Name (Str.ofString s) p) X.env
      standAt apos.atName
      let (f, first) ← holding [ov] (getMethod ov x pl)
      callWith pos f first (backTo pos (starEach [] X.env)) (backToKw pos (keywordEach [] X.env))) := by rfl) : Em X (.Call (.Attribute (.Name (Str.ofString s) p) x apos) [] [] pos) ρ enc (m st) := fun r' z => by
  intro H0 H1 σ H Q Sk q'
  obtain ⟨f, fd, ps, F, hm, hb⟩ := M.h
  obtain ⟨dx, vs, L, e1, e2, e3, e4⟩ := Sk.ok.ins h
  refine ⟨_, pe_meth0 (pe_var hs.h hv hs.d hs.c) cl hm F hr hb .nil pass0 (pl := pl) ht, _, e1, _, dx, vs, rfl, e2, e3.no nm, ?_⟩
  exact ⟨_, [], st, [], r'.1, r'.2, _, rfl, .ins e2 e3 e4, .nil, z, fun v H' L1 st' kp o1 hL rp => q' v H' (by rw [henc]; exact Sk.chg h e1 (.ins e2 e3 e4) st' kp o1 hL) st' rp⟩
/-- f(o, ..), which may change it -/
theorem em_fn {enc : U → Rho} {e0 : U → FL} {m : U → List D → Option (D × U)} {fn : String} {p2 : Pos} (st : U) (M : Fr X.prog X.w X.K X.mg X.base fn kk (SpM X.K C e0 e0 m)) (hr : Room kk X.A) (hs : Sl X.N s i) {r : Option (List D)} (ha : Ao X es ρ r) (h : ρ[i]? = some (.obj (some C) q (e0 st)) := by rfl) (henc : ∀ t, enc t = ρ.set i (.obj (some C) q (e0 t)) := by intro _; rfl) (hv : Vis X.env.scope (Str.ofString s) := by first | exact Or.inl rfl | exact Or.inr (Or.inl rfl) | exact Or.inr (Or.inr rfl))
    (hg : Gl X (Str.ofString fn) := by rfl) (hdb : (Str.ofString fn == ("__debug__" : Str)) = false := by decide) (hst : starEach (.Name (Str.ofString s) p2 :: es) X.env = (false, eval (.Name (Str.ofString s) p2) X.env) :: starEach es X.env := by rfl) (hpl : (backTo pos (starEach es X.env)).any (·.1) = false := by rfl) :
    Em X (.Call (.Name (Str.ofString fn) p) (.Name (Str.ofString s) p2 :: es) [] pos) ρ enc (bnd r (m st)) := fun r' z => by
  obtain ⟨ds, z1, z2⟩ := bnd_inv z
  intro H0 H1 σ H Q Sk q'
  obtain ⟨f, fd, ps, F, hm, hk, hb⟩ := M.h
  obtain ⟨dx, vs, L, e1, e2, e3, e4⟩ := Sk.ok.ins h
  refine ⟨_, pe_call F hr hg hm hk hb .nil pass0 (pa_cons (pe_var hs.h hv hs.d hs.c) pa_c hst) hdb hst hpl, _, e1, ha ds z1 σ H _ Sk.ok fun us H2 s2 r2 => ?_⟩
  show SpM X.K C e0 e0 m ((V.ref q :: us) ++ []) H2 Q E0
  rw [List.append_nil]
  have o2 : Own X.K H2 (.ref q) (.obj (some C) q (e0 st)) (q :: L) := .ins (s2 _ _ e2) (e3.mono (.of s2) fun y _ o ho => s2 y o ho) e4
  exact ⟨_, us, st, ds, r'.1, r'.2, _, rfl, o2, r2, z2, fun v H' L1 st' kp o1 hL rp => q' v H' (by rw [henc]; exact (Sk.mono s2).chg h e1 o2 st' kp o1 hL) ((Stb.of s2).trans st') rp⟩
/-! ### put together -/
theorem em_o (sv : S) (h : Eo X e ρ f) (l : Le ρ (enc sv)) : Em X e ρ enc (bnd f fun d => some (d, sv)) := fun r z => by
  obtain ⟨d, z1, z2⟩ := bnd_inv z
  cases z2
  intro H0 H1 σ H Q Sk q'
  exact h d z1 σ H _ Sk.ok fun v H' ⟨s', r'⟩ => q' v H' ((Sk.mono s').le l) (.of s') r'
theorem em_t {t : Option Bool} (sv : S) (h : Et X e ρ t) (l : Le ρ (enc sv)) : EmT X e ρ enc (bnd t fun d => some (d, sv)) := fun r z => by
  obtain ⟨d, z1, z2⟩ := bnd_inv z
  cases z2
  intro H0 H1 σ H Q Sk q'
  exact h d z1 σ H _ Sk.ok fun H' s' => q' H' ((Sk.mono s').le l)
theorem Em.to {F : Option (D × S)} (h : Em X e ρ enc F) (k : S → T) (l : ∀ sv, Le (enc sv) (enc' (k sv))) : Em X e ρ enc' (bnd F fun q => some (q.1, k q.2)) := fun r z => by
  obtain ⟨d, z1, z2⟩ := bnd_inv z
  cases z2
  intro H0 H1 σ H Q Sk q'
  exact h d z1 H0 H1 σ H Q Sk fun v H' S' st rp => q' v H' (S'.le (l _)) st rp
theorem em_cmp (enc : S → Rho) {op : CmpOp} {F : D → D → Option Bool} {A : Option (D × S)} {Bf : D × S → Option (D × T)} (o : CmF X (compareOp op) F) (ha : Em X a ρ enc A) (hb : ∀ q : D × S, Em X b (enc q.2) enc' (Bf q)) (hm : behindInMarks op b = false := by first | exact nomark _ | rfl) :
    Em X (.Compare a [op] [b] pos) ρ enc' (bnd A fun q => bnd (Bf q) fun r => bnd (F q.1 r.1) fun t => some (.bool t, r.2)) := fun r z => by
  obtain ⟨u, z1, z⟩ := bnd_inv z
  obtain ⟨v, z2, z⟩ := bnd_inv z
  obtain ⟨t, z3, z⟩ := bnd_inv z
  cases z
  intro H0 H1 σ H Q Sk q'
  refine ⟨_, pe_cmpR op_c pe_c pe_c hm, ?_⟩
  refine ha u z1 H0 H1 σ H _ Sk fun x Ha Sa sta ra => hb u v z2 H0 H1 σ Ha _ Sa fun y Hb Sb stb rb => o u.1 v.1 t z3 Hb x y Q (.of (ra.mono stb)) (.of rb) fun w Hc ⟨sc, rc⟩ => ?_
  exact q' w Hc (Sb.mono sc) ((sta.trans stb).trans (.of sc)) rc
theorem emT_cmp (enc : S → Rho) {op : CmpOp} {F : D → D → Option Bool} {A : Option (D × S)} {Bf : D × S → Option (D × T)} (o : CmF X (compareOp op) F) (ha : Em X a ρ enc A) (hb : ∀ q : D × S, Em X b (enc q.2) enc' (Bf q)) (hm : behindInMarks op b = false := by first | exact nomark _ | rfl) :
    EmT X (.Compare a [op] [b] pos) ρ enc' (bnd A fun q => bnd (Bf q) fun r => bnd (F q.1 r.1) fun t => some (t, r.2)) := fun r z => by
  obtain ⟨u, z1, z⟩ := bnd_inv z
  obtain ⟨v, z2, z⟩ := bnd_inv z
  obtain ⟨t, z3, z⟩ := bnd_inv z
  cases z
  intro H0 H1 σ H Q Sk q'
  refine ⟨_, pt_cmpR op_c pe_c pe_c hm, ?_⟩
  refine ha u z1 H0 H1 σ H _ Sk fun x Ha Sa sta ra => hb u v z2 H0 H1 σ Ha _ Sa fun y Hb Sb stb rb => o u.1 v.1 t z3 Hb x y _ (.of (ra.mono stb)) (.of rb) fun w Hc ⟨sc, rc⟩ => ?_
  cases rc
  exact ⟨t, rfl, q' Hc (Sb.mono sc)⟩
/-! or, and, not -/
def orM {S : Type} (A : Option (Bool × S)) (Bf : S → Option (Bool × S)) : Option (Bool × S) := bnd A fun q => match q.1 with
  | true => some (true, q.2)
  | false => Bf q.2
def andM {S : Type} (A : Option (Bool × S)) (Bf : S → Option (Bool × S)) : Option (Bool × S) := bnd A fun q => match q.1 with
  | true => Bf q.2
  | false => some (false, q.2)
theorem emT_n {A : Option (Bool × S)} (h : EmT X a ρ enc A) : EmT X (.UnaryOp .Not a pos) ρ enc (bnd A fun q => some (!q.1, q.2)) := fun r z => by
  obtain ⟨u, z1, z⟩ := bnd_inv z
  cases z
  intro H0 H1 σ H Q Sk q'
  exact ⟨_, pt_not pt_c, h u z1 H0 H1 σ H _ Sk fun H' S' => q' H' S'⟩
theorem emW_t {A : Option (Bool × S)} (h : EmW X e ρ enc A) : EmT X e ρ enc A := fun r z H0 H1 σ H Q Sk q' => ⟨_, PW.pt pw_c, h r z H0 H1 σ H Q Sk q'⟩
theorem emW_o1 {A : Option (Bool × S)} (h : EmT X a ρ enc A) : EmW X (.BoolOp .Or [a] pos) ρ enc A := fun r z H0 H1 σ H Q Sk q' => ⟨_, pw_or1 pt_c, h r z H0 H1 σ H Q Sk q'⟩
theorem emW_a1 {A : Option (Bool × S)} (h : EmT X a ρ enc A) : EmW X (.BoolOp .And [a] pos) ρ enc A := fun r z H0 H1 σ H Q Sk q' => ⟨_, pw_and1 pt_c, h r z H0 H1 σ H Q Sk q'⟩
theorem emW_o (enc : S → Rho) {rest : List Expr} {A : Option (Bool × S)} {Bf : S → Option (Bool × S)} (h : EmT X a ρ enc A) (h' : ∀ sv, EmW X (.BoolOp .Or (b :: rest) pos) (enc sv) enc (Bf sv)) : EmW X (.BoolOp .Or (a :: b :: rest) pos) ρ enc (orM A Bf) := fun r z => by
  obtain ⟨⟨t, sv⟩, z1, z⟩ := bnd_inv z
  intro H0 H1 σ H Q Sk q'
  refine ⟨_, pw_or pt_c pw_c, h _ z1 H0 H1 σ H _ Sk fun H2 S2 => ?_⟩
  cases t with
  | true => cases z; exact L2.iteT (q' H2 S2)
  | false => exact iteF (h' sv r z H0 H1 σ H2 Q S2 q')
theorem emW_a (enc : S → Rho) {rest : List Expr} {A : Option (Bool × S)} {Bf : S → Option (Bool × S)} (h : EmT X a ρ enc A) (h' : ∀ sv, EmW X (.BoolOp .And (b :: rest) pos) (enc sv) enc (Bf sv)) : EmW X (.BoolOp .And (a :: b :: rest) pos) ρ enc (andM A Bf) := fun r z => by
  obtain ⟨⟨t, sv⟩, z1, z⟩ := bnd_inv z
  intro H0 H1 σ H Q Sk q'
  refine ⟨_, pw_and pt_c pw_c, h _ z1 H0 H1 σ H _ Sk fun H2 S2 => ?_⟩
  cases t with
  | true => exact L2.iteT (h' sv r z H0 H1 σ H2 Q S2 q')
  | false => cases z; exact iteF (q' H2 S2)
/-! as values -/
def boM {S : Type} (A : Option (Bool × S)) : Option (D × S) := bnd A fun q => some (.bool q.1, q.2)
theorem boM_inv {A : Option (Bool × S)} {r : D × S} (h : boM A = some r) : ∃ t, A = some (t, r.2) ∧ r.1 = .bool t := by
  obtain ⟨q, h1, h2⟩ := bnd_inv h
  cases h2
  exact ⟨q.1, h1, rfl⟩
theorem em_1 {op : BoolOp} {A : Option (D × S)} (h : Em X a ρ enc A) : Em X (.BoolOp op [a] pos) ρ enc A := fun r z H0 H1 σ H Q Sk q' => ⟨_, pe_one pe_c, h r z H0 H1 σ H Q Sk q'⟩
theorem em_a (enc : S → Rho) {rest : List Expr} {A : Option (Bool × S)} {Bf : S → Option (Bool × S)} (h : Em X a ρ enc (boM A)) (h' : ∀ sv, Em X (.BoolOp .And (b :: rest) pos) (enc sv) enc (boM (Bf sv))) : Em X (.BoolOp .And (a :: b :: rest) pos) ρ enc (boM (andM A Bf)) := fun r z => by
  obtain ⟨t0, z0, e0⟩ := boM_inv z
  obtain ⟨⟨t, sv⟩, z1, z2⟩ := bnd_inv z0
  intro H0 H1 σ H Q Sk q'
  refine ⟨_, pe_and pe_c pe_c, h (.bool t, sv) (by rw [z1]; rfl) H0 H1 σ H _ Sk fun v H2 S2 st2 r2 => ⟨t, (Rq.of r2).bl, ?_⟩⟩
  cases t with
  | true => exact L2.iteT (h' sv r (by rw [show Bf sv = some (t0, r.2) from z2]; show some (PyData.bool t0, r.2) = some r; rw [← e0]) H0 H1 σ H2 Q S2 fun v' H3 S3 st3 r3 => q' v' H3 S3 (st2.trans st3) r3)
  | false =>
    have z2 : (false, sv) = (t0, r.2) := Option.some.inj z2
    have e1 : t0 = false := (congrArg Prod.fst z2).symm
    have e2 : r.2 = sv := (congrArg Prod.snd z2).symm
    refine iteF (q' _ H2 (by rw [e2]; exact S2) st2 ?_)
    rw [e0, e1]; exact .bl false
theorem em_bo {t : Option Bool} (sv : S) (h : Eo X e ρ (boV t)) (l : Le ρ (enc sv)) : Em X e ρ enc (boM (bnd t fun b => some (b, sv))) := fun r z => by
  obtain ⟨t0, z0, e0⟩ := boM_inv z
  obtain ⟨b, z1, z2⟩ := bnd_inv z0
  obtain ⟨d, sv'⟩ := r
  simp only at e0
  subst e0
  cases z2
  intro H0 H1 σ H Q Sk q'
  exact h (.bool t0) (by rw [z1]; rfl) σ H _ Sk.ok fun v H' ⟨s', r'⟩ => q' v H' ((Sk.mono s').le l) (.of s') r'
theorem em_cmpB (enc : S → Rho) {op : CmpOp} {F : D → D → Option Bool} {A : Option (D × S)} {Bf : D × S → Option (D × T)} (o : CmF X (compareOp op) F) (ha : Em X a ρ enc A) (hb : ∀ q : D × S, Em X b (enc q.2) enc' (Bf q)) (hm : behindInMarks op b = false := by first | exact nomark _ | rfl) :
    Em X (.Compare a [op] [b] pos) ρ enc' (boM (bnd A fun q => bnd (Bf q) fun r => bnd (F q.1 r.1) fun t => some (t, r.2))) := fun r z => by
  refine em_cmp enc o ha hb hm r ?_
  obtain ⟨t0, z0, e0⟩ := boM_inv z
  obtain ⟨u, z1, z⟩ := bnd_inv z0
  obtain ⟨v, z2, z⟩ := bnd_inv z
  obtain ⟨t, z3, z⟩ := bnd_inv z
  obtain ⟨d, sv'⟩ := r
  simp only at e0
  subst e0
  cases z
  rw [z1, bnd_some, z2, bnd_some, z3]; rfl
end
/-! ### statements -/
section
variable {R S J : Type} {X : Cx} {ρ : Rho} {Φ : R → DL.Fin} {e a b c : Expr} {rest as bs : List Stmt} {pos pos' : Pos} {enc : S → Rho}
theorem so_exprM (enc : S → Rho) {f : Option (D × S)} {G : D × S → Option R} (he : Em X e ρ enc f) (h : ∀ q : D × S, So X rest (enc q.2) Φ (G q)) (hsw : swapsWith e none pos.line X.env = pure false := by rfl) : So X (.Expr e pos :: rest) ρ Φ (bnd f G) := fun r z => by
  obtain ⟨u, z1, z⟩ := bnd_inv z
  exact xs_cons fun H0 H1 σ H E Sk F => ⟨_, ps_expr pe_c hsw, he u z1 H0 H1 σ H _ Sk fun v H' S' _ _ => F.nx _ _ _ S' (h u r z)⟩
theorem so_setM (enc : S → Rho) (i : Nat) {x : Str} {f : Option (D × S)} {G : D × S → Option R} (hN : X.N.Nodup) (he : Em X e ρ enc f) (h : ∀ q : D × S, So X rest ((enc q.2).set i (.val q.1)) Φ (G q)) (hi : X.N[i]? = some x := by rfl) (hx : Loc X.env.scope x := by first | exact Or.inl rfl | exact Or.inr rfl) (hs : swapsWith e (some (.Name x pos')) pos.line X.env = pure false := by rfl) (hf : X.fn x = true ∨ X.env.scope.names.lookup x = some .local := by first | exact .inl rfl | exact .inr rfl | assumption) :
    So X (.Assign [.Name x pos'] e pos :: rest) ρ Φ (bnd f G) := fun r z => by
  obtain ⟨u, z1, z⟩ := bnd_inv z
  exact xs_cons fun H0 H1 σ H E Sk F => ⟨_, ps_set hN hi hx pe_c hs hf, he u z1 H0 H1 σ H _ Sk fun v H' S' _ rp => F.nx _ _ _ (S'.set (.refl _) rp) (h u r z)⟩
theorem so_retM (enc : S → Rho) {f : Option (D × S)} (w : D → S → R) (he : Em X e ρ enc f) (hw : ∀ d sv, (Φ (w d sv)).rt d (enc sv) := by intro _ _; first | rfl | exact And.intro rfl rfl) : So X [.Return (some e) pos] ρ Φ (bnd f fun q => some (w q.1 q.2)) := fun r z => by
  obtain ⟨u, z1, z⟩ := bnd_inv z
  cases z
  exact xs_one fun H0 H1 σ H E Sk F => ⟨_, ps_ret pe_c, he u z1 H0 H1 σ H _ Sk fun v H' S' _ rp => F.rt _ _ _ _ _ ⟨_, S'⟩ rp (hw u.1 u.2)⟩
theorem so_retP {f : Option D} (w : D → R) (he : Eo X e ρ f) (hw : ∀ d, (Φ (w d)).rt d ρ := by intro _; first | rfl | exact And.intro rfl rfl) : So X [.Return (some e) pos] ρ Φ (bnd f fun d => some (w d)) := fun r z => by
  obtain ⟨u, z1, z⟩ := bnd_inv z
  cases z
  exact xs_one (sx_ret (he u z1) (hw u))
theorem so_never {sts : List Stmt} : So X sts ρ Φ none := fun r z => nomatch z
theorem sx_ifM {t : Bool} {Ψ : DL.Fin} {ρ' : Rho} (hc : EvMT X c ρ ρ' t) (ha : t = true → Sxs X as ρ' Ψ) (hb : t = false → Sxs X bs ρ' Ψ) : Sx X (.If c as bs pos) ρ Ψ := fun H0 H1 σ H E Sk F =>
  ⟨_, ps_if pt_c pss_c pss_c, hc H0 H1 σ H _ Sk fun H2 S2 => by
    cases t with
    | true => exact L2.iteT (ha rfl H0 H1 σ H2 E S2 F)
    | false => exact iteF (hb rfl H0 H1 σ H2 E S2 F)⟩
theorem so_ifTM (enc : S → Rho) {f : Option (Bool × S)} {A Bf : Bool × S → Option R} (hc : EmT X c ρ enc f) (ha : ∀ q : Bool × S, So X as (enc q.2) (NoΦ Φ) (A q)) (hb : ∀ q : Bool × S, So X rest (enc q.2) Φ (Bf q)) : So X (.If c as [] pos :: rest) ρ Φ (bnd f fun q => iteT (some q.1) (A q) (Bf q)) := fun r z => by
  obtain ⟨⟨t, sv⟩, z1, z⟩ := bnd_inv z
  refine xs_cons (sx_ifM (hc _ z1) (fun e => ?_) (fun e => ?_))
  · simp only at e
    subst e
    exact (ha (true, sv) r z).imp (fun _ z => z.elim) (fun _ _ z => z) (fun _ z => z) (fun _ z => z)
  · simp only at e
    subst e
    exact xs_nil (hb (false, sv) r z)
theorem so_ifTTM (enc : S → Rho) {f : Option (Bool × S)} {A Bf : Bool × S → Option R} (hc : EmT X c ρ enc f) (ha : ∀ q : Bool × S, So X as (enc q.2) (NoΦ Φ) (A q)) (hb : ∀ q : Bool × S, So X bs (enc q.2) (NoΦ Φ) (Bf q)) : So X (.If c as bs pos :: rest) ρ Φ (bnd f fun q => iteT (some q.1) (A q) (Bf q)) := fun r z => by
  obtain ⟨⟨t, sv⟩, z1, z⟩ := bnd_inv z
  refine xs_cons (sx_ifM (hc _ z1) (fun e => ?_) (fun e => ?_))
  · simp only at e
    subst e
    exact (ha (true, sv) r z).imp (fun _ z => z.elim) (fun _ _ z => z) (fun _ z => z) (fun _ z => z)
  · simp only at e
    subst e
    exact (hb (false, sv) r z).imp (fun _ z => z.elim) (fun _ _ z => z) (fun _ z => z) (fun _ z => z)
theorem so_ifEM (enc : S → Rho) {f : Option (Bool × S)} {A Bf : Bool × S → Option R} (hc : EmT X c ρ enc f) (ha : ∀ q : Bool × S, So X as (enc q.2) Φ (A q)) (hb : ∀ q : Bool × S, So X bs (enc q.2) Φ (Bf q)) : So X [.If c as bs pos] ρ Φ (bnd f fun q => iteT (some q.1) (A q) (Bf q)) := fun r z => by
  obtain ⟨⟨t, sv⟩, z1, z⟩ := bnd_inv z
  refine xs_one (sx_ifM (hc _ z1) (fun e => ?_) (fun e => ?_))
  · simp only at e
    subst e
    exact ha (true, sv) r z
  · simp only at e
    subst e
    exact hb (false, sv) r z
theorem so_joinM (ej : J → Rho) (enc : S → Rho) {f : Option (Bool × S)} {A Bf : Bool × S → Option (Nx J R)} {G : J → Option R} (hc : EmT X c ρ enc f) (ha : ∀ q : Bool × S, So X as (enc q.2) (JΦ Φ ej) (A q)) (hb : ∀ q : Bool × S, So X bs (enc q.2) (JΦ Φ ej) (Bf q)) (hr : ∀ j, So X rest (ej j) Φ (G j)) : So X (.If c as bs pos :: rest) ρ Φ (bnd (bnd f fun q => iteT (some q.1) (A q) (Bf q)) (jn G)) := fun r z => by
  obtain ⟨n, z0, z'⟩ := bnd_inv z
  obtain ⟨⟨t, sv⟩, z1, z⟩ := bnd_inv z0
  cases n with
  | nx j =>
    refine xs_cons (sx_weak (ej j) (sx_ifM (hc _ z1) (fun e => ?_) (fun e => ?_)) (hr j r z'))
    · simp only at e
      subst e
      exact (ha (true, sv) _ z).imp (fun _ z => z) (fun _ _ z => z.elim) (fun _ z => z.elim) (fun _ z => z.elim)
    · simp only at e
      subst e
      exact (hb (false, sv) _ z).imp (fun _ z => z) (fun _ _ z => z.elim) (fun _ z => z.elim) (fun _ z => z.elim)
  | rt r' =>
    cases z'
    refine xs_cons (sx_ifM (hc _ z1) (fun e => ?_) (fun e => ?_))
    · simp only at e
      subst e
      exact (ha (true, sv) _ z).imp (fun _ z => z.elim) (fun _ _ z => z) (fun _ z => z) (fun _ z => z)
    · simp only at e
      subst e
      exact (hb (false, sv) _ z).imp (fun _ z => z.elim) (fun _ _ z => z) (fun _ z => z) (fun _ z => z)
/-- x = C() -/
theorem so_make (i : Nat) {x : Str} {cn : String} {p : Pos} {C fi : Addr} {kk : Nat} {fd : FuncData} {ps : List Str} {T : Type} {e1 : T → FL} {m : Unit → Option (D × T)} {G : D × T → Option R} (hN : X.N.Nodup) (M : Mk X.K C fi) (F : FnOk X.prog X.w X.K X.mg X.base CX0 kk fi fd ps (SpM X.K C (fun _ : Unit => []) e1 (a0 m))) (hbd : Binds X.K fd ps []) (hr : Room (kk + 1) X.A) (hm : X.mg (Str.ofString cn) = some (.ref C)) (hnon : ∀ r, m () = some r → r.1 = .none)
    (h : ∀ (q : Addr) (t : D × T), So X rest (ρ.set i (.obj (some C) q (e1 t.2))) Φ (G t)) (hi : X.N[i]? = some x := by rfl) (hx : Loc X.env.scope x := by first | exact Or.inl rfl | exact Or.inr rfl) (hf : X.fn x = true ∨ X.env.scope.names.lookup x = some .local := by first | exact .inl rfl | exact .inr rfl | assumption) (hg : Gl X (Str.ofString cn) := by rfl) (hdb : (Str.ofString cn == ("__debug__" : Str)) = false := by decide) {spos : Pos} (hs' : swapsWith (.Call (.Name (Str.ofString cn) p) [] [] pos) (some (.Name x pos')) spos.line X.env = pure false := by rfl) :
    So X (.Assign [.Name x pos'] (.Call (.Name (Str.ofString cn) p) [] [] pos) spos :: rest) ρ Φ (bnd (m ()) G) := fun r z => by
  obtain ⟨u, z1, z⟩ := bnd_inv z
  refine xs_cons fun H0 H1 σ H E Sk Fn => ⟨_, ps_set hN hi hx (pe_make0 M F hr hg hm hbd .nil pass0 hdb) hs' hf, fun y dx hy hdx ne => ?_⟩
  have hu := hnon u z1
  have own0 : Own X.K (upd (upd H dx (.own y)) y (.ins C dx [])) (.ref y) (.obj (some C) y []) [y] := .ins upd_same .nil (by simp)
  refine ⟨y, [], (), [], u.1, u.2, [y], rfl, own0, .nil, z1, fun v H' L1 st kp o1 hL rp => ⟨?_, Fn.nx _ _ _ (Sk.setNew (fun b o hb => ?_) (fun b hb => ?_) o1) (h y u r z)⟩⟩
  · rw [hu] at rp; exact (Rq.of rp).non
  · have b1 : b ≠ y := fun t => by rw [t, hy] at hb; cases hb
    have b2 : b ≠ dx := fun t => by rw [t, hdx] at hb; cases hb
    exact kp b o (by rw [upd_ne b1, upd_ne b2]; exact hb) (by simpa using b1)
  · rcases hL b hb with t | t
    · simp at t; rw [t]; exact hy
    · by_cases b1 : b = y
      · rw [b1]; exact hy
      · rw [upd_ne b1] at t
        by_cases b2 : b = dx
        · rw [b2]; exact hdx
        · rw [upd_ne b2] at t; exact t
end
end DL


/-! The program's hosts: parts, faulty, running, rows. -/
namespace DL
open PySem PySem.Spec PyProof.Rows L2
/-- x, y = a, b, both plain local names: stored from the right -/
theorem so_par {R : Type} {X : Cx} {ρ : Rho} {Φ : R → DL.Fin} {a b : Expr} {rest : List Stmt} {pos px py pt pt2 : Pos} {kt k2 : Nat} {x y : Str} {r : Option (List D)} {G : D × D → Option R} (i j : Nat) (hN : X.N.Nodup) (ha : Ao X [a, b] ρ r) (h : ∀ v : D × D, So X rest ((ρ.set i (.val v.1)).set j (.val v.2)) Φ (G v))
    (hij : i ≠ j := by decide) (hi : X.N[i]? = some x := by rfl) (hj : X.N[j]? = some y := by rfl) (hx : X.env.scope.names.lookup x = some .local := by rfl) (hy : X.env.scope.names.lookup y = some .local := by rfl) (hc : X.calm = true := by rfl)
    (hw : swappedStores [.Tuple [.Name x px, .Name y py] kt pt] (.Tuple [a, b] k2 pt2) X.env = pure (some [x, y]) := by rfl) (hs : swapsWithSole [.Tuple [.Name x px, .Name y py] kt pt] (.Tuple [a, b] k2 pt2) pos.line X.env = pure false := by rfl) :
    So X (.Assign [.Tuple [.Name x px, .Name y py] kt pt] (.Tuple [a, b] k2 pt2) pos :: rest) ρ Φ (bnd (tupV r) fun z => bnd (dec2 z) G) := fun r' z => by
  obtain ⟨d, z1, z⟩ := bnd_inv z
  obtain ⟨v, z2, z⟩ := bnd_inv z
  obtain ⟨ds, z3, z4⟩ := bnd_inv z1
  split at z4
  · cases z4
    have e := dec2_inv z2
    injection e with e
    subst e
    refine xs_cons fun H0 H1 σ H E S F => ⟨_, ps_par hc hN hi hj hij hx hy pa_c hw hs, ha _ z3 σ H _ S.ok fun vs H2 s2 r2 => ?_⟩
    cases r2 with
    | cons r1 t =>
      cases t with
      | cons r2 t =>
        cases t
        exact ⟨_, _, rfl, F.nx _ _ _ ((S.set s2 r1).set (.refl _) r2) (h v r' z)⟩
  · cases z4
abbrev HostS := List (D × D) × List (D × D) × D × List D
def F_Host (s : HostS) : FL := [("parts", .dic s.1), ("faulty", .dic s.2.1), ("running", .val s.2.2.1), ("rows", .own s.2.2.2)]
def m_Host_init (_ : Unit) : Option (D × HostS) := bnd (some []) fun x1 => bnd (some []) fun x2 => bnd (tupV (some [])) fun x3 => bnd (lstV (some [])) fun x4 => some (.none, x1, x2, x3, x4)
theorem m_Host_init_eq : m_Host_init () = some (.none, [], [], .tuple [], []) := rfl
theorem m_Host_init_non : ∀ r, m_Host_init () = some r → r.1 = .none := fun r z => by
  rw [m_Host_init_eq] at z
  cases z; rfl
end DL


/-! list(range(n)); defs that hand back a new object. -/
namespace DL
open PySem PySem.Spec PyProof.Rows L2
section
variable {X : Cx} {ρ : Rho} {e a b c : Expr} {f : Option D} {p pos p2 pos2 : Pos}
theorem cr_range1 : CallR X (.type "range") (fun vs H Q => ∃ j, vs = [V.int j] ∧ ∀ p, H p = none → Q (.ref p) (upd H p (.rng 0 j))) := by
  intro pins s σ H vs us Q I r h
  obtain ⟨j, rfl, q⟩ := h
  obtain ⟨u, rfl, ru⟩ := vals1 r
  obtain ⟨t, rfl⟩ := ru
  refine call_range_1 ⟨.ref s.heap.objs.size, upd H s.heap.objs.size (.rng 0 j), I.laid (t' := s.toks + 1 + 1) (fun b o e => Heap.get?_push_of_some _ e) (Nat.le_refl _) ?_, rfl, q _ (I.hok.fresh (Nat.le_refl _))⟩
  exact ⟨s.toks, t, s.toks + 1, Heap.get?_push_size _ rfl⟩
theorem items_vals {n : Nat} {acc : Array Value} (h : ItemsOf (fun i v => ∃ t, v = Value.int ((0 : Int) + i * 1) t) acc n) : Vals ((List.range n).map fun k => V.int ((k : Nat) : Int)) acc.toList := by
  obtain ⟨h1, h2⟩ := h
  have key : ∀ (l : List Value) (k : Nat), (∀ j v, l[j]? = some v → ∃ t, v = Value.int (((k + j : Nat) : Nat) : Int) t) → Vals ((List.range' k l.length).map fun k => V.int ((k : Nat) : Int)) l := by
    intro l
    induction l with
    | nil => intro k _; exact .nil
    | cons v l ih =>
      intro k h
      rw [List.length_cons, List.range'_succ, List.map_cons]
      refine .cons ?_ (ih (k + 1) fun j w hj => ?_)
      · obtain ⟨t, e⟩ := h 0 v rfl
        exact ⟨t, by simpa using e⟩
      · obtain ⟨t, e⟩ := h (j + 1) w (by simpa using hj)
        exact ⟨t, by rw [e]; congr 2; omega⟩
  have := key acc.toList 0 fun j v hj => by
    obtain ⟨t, e⟩ := h2 j v (by simpa using hj)
    exact ⟨t, by rw [e]; congr 1; omega⟩
  rw [Array.length_toList, h1] at this
  rw [List.range_eq_range']
  exact this
theorem call_list_rng (hc : X.calm = true) : CallR X (.type "list") (fun xs H Q => ∃ p j, xs = [V.ref p] ∧ H p = some (.rng 0 j) ∧ -100000 ≤ j ∧ j ≤ 100000 ∧ ∀ l, H l = none → Q (.ref l) (upd H l (.lst ((List.range j.toNat).map fun k => V.int ((k : Nat) : Int))))) := by
  intro pins s σ H vs us Q I r h
  obtain ⟨p, j, rfl, hp, h1, h2, q⟩ := h
  obtain ⟨u, rfl, ru⟩ := vals1 r
  cases ru
  obtain ⟨t, u, v, e⟩ := I.hok p _ hp
  have hn : Builtin.Range.rangeSize 0 j 1 = (j.toNat : Nat) := by
    unfold Builtin.Range.rangeSize
    rw [if_pos (by decide)]
    split <;> omega
  refine PySem.call_list_range (I.ok.hd hc) e (PySem.small_one (by omega) (by omega) (by omega) (by omega)) hn (by omega) fun h' tk acc c' kp e2 items => ?_
  have hv := items_vals items
  refine ⟨.ref s.heap.objs.size, _, I.laid (t' := tk) kp (Nat.le_refl _) (show ObjOk X.prog X.w _ h' _ (.lst ((List.range j.toNat).map fun k => V.int ((k : Nat) : Int))) from ⟨?_, acc.toList, c', hv, by simpa using e2⟩), rfl, q _ (I.hok.fresh (Nat.le_refl _))⟩
  rw [List.length_map, List.length_range, sizeLine_eq]
  omega
theorem rp_natI {K : PySem.W.Frag} {H : Hp} : ∀ (l : List Nat), RpAll K H (l.map fun k => V.int ((k : Nat) : Int)) (l.map fun k => PyData.int ((k : Nat) : Int))
  | [] => .nil
  | k :: l => .cons (.int _) (rp_natI l)
/-- list(range(a)) -/
theorem en_listrange (hs : Nb X.mg "list" (.type "list")) (ht : Nb X.mg "range" (.type "range")) (h1 : Eo X a ρ f) (hc : X.calm = true := by rfl) (gs : Gl X (Str.ofString "list") := by rfl) (gt : Gl X (Str.ofString "range") := by rfl) (s1 : starEach [a] X.env = (false, eval a X.env) :: starEach [] X.env := by rfl) (hpl : (backTo pos (starEach [] X.env)).any (·.1) = false := by rfl)
    (s2 : starEach [.Call (.Name (Str.ofString "range") p) [a] [] pos] X.env = (false, eval (.Call (.Name (Str.ofString "range") p) [a] [] pos) X.env) :: starEach [] X.env := by rfl) (hp2 : (backTo pos2 (starEach [] X.env)).any (·.1) = false := by rfl) :
    En X (.Call (.Name (Str.ofString "list") p2) [.Call (.Name (Str.ofString "range") p) [a] [] pos] [] pos2) ρ (op1 rangeI f) := fun d q => by
  obtain ⟨x, q1, q2⟩ := bnd_inv q
  unfold rangeI at q2
  split at q2
  · rename_i n
    split at q2
    · rename_i hb
      cases q2
      intro σ H Q S q
      refine ⟨_, pe_callTy (call_list_rng hc) gs hs.h hs.v (pa_cons (pe_callTy cr_range1 gt ht.h ht.v (pa_cons pe_c pa_nil s1) ht.n ht.d s1 hpl) pa_nil s2) hs.n hs.d s2 hp2, ?_⟩
      refine h1 _ q1 σ H _ S fun v H1 ⟨sm, r⟩ => ?_
      have ev := (Rq.of r).int
      subst ev
      refine ⟨n, rfl, fun b hb' => ⟨b, n, rfl, upd_same, by omega, by omega, fun l hl => q _ _ ⟨sm.trans ((same_new hb').trans (same_new hl)), l, _, rfl, ?_, upd_same, rp_natI _⟩⟩⟩
      cases e : H l with
      | none => rfl
      | some o =>
        have := (sm.trans (same_new (o := .rng 0 n) hb')) l o e
        rw [hl] at this; cases this
    · cases q2
  · cases q2
end
/-! ### [..] * n -/
def repN (ds : List D) : D → Option (List D)
  | .int k => if 0 ≤ k ∧ k ≤ 1000 ∧ ds.length ≤ 1000 then some (List.replicate k.toNat ds).flatten else none
  | _ => none
theorem RpAll.rep {K : PySem.W.Frag} {H : Hp} {xs : List V} {ds : List D} (r : RpAll K H xs ds) : ∀ k : Nat, RpAll K H (List.replicate k xs).flatten (List.replicate k ds).flatten
  | 0 => .nil
  | k + 1 => by
    rw [List.replicate_succ, List.replicate_succ, List.flatten_cons, List.flatten_cons]
    exact r.append (RpAll.rep r k)
theorem en_rep {X : Cx} {ρ : Rho} {a b : Expr} {pos : Pos} {f : Option (List D)} {g : Option D} (ha : En X a ρ f) (hb : Eo X b ρ g) : En X (.BinOp a .Mult b pos) ρ (bnd f fun ds => op1 (repN ds) g) := fun d q => by
  obtain ⟨ds, q1, q2⟩ := bnd_inv q
  obtain ⟨x, q3, q4⟩ := bnd_inv q2
  unfold repN at q4
  split at q4
  · rename_i k
    split at q4
    · rename_i hk
      cases q4
      intro σ H Q S q
      refine ⟨_, pe_op op_rep pe_c pe_c, ha ds q1 σ H _ S fun v H1 ⟨s1, p, xs, ev, np, hp, rp⟩ => hb _ q3 σ H1 _ (S.mono s1) fun y H2 ⟨s2, r2⟩ => ?_⟩
      subst ev
      have ey := (Rq.of r2).int
      subst ey
      refine ⟨p, k, xs, rfl, rfl, s2 _ _ hp, by omega, by omega, ?_, fun l hl => q _ _ ⟨(s1.trans s2).trans (same_new hl), l, _, rfl, (s1.trans s2).free hl, upd_same, ((rp.mono (.of s2)).rep _).mono (stb_new hl)⟩⟩
      rw [rp.length, sizeLine_eq]
      have : ds.length * k.toNat ≤ 1000 * 1000 := Nat.mul_le_mul hk.2.2 (by omega)
      omega
    · cases q4
  · cases q4
/-! ### a def that hands back a new object -/
def SpF (K : PySem.W.Frag) (C : Addr) {T : Type} (e1 : T → FL) (m : List D → Option T) : Sp := fun vs H Q _ => ∃ (ds : List D) (t : T), RpAll K H vs ds ∧ m ds = some t ∧ ∀ q H' L, Same H H' → Own K H' (.ref q) (.obj (some C) q (e1 t)) L → (∀ x ∈ L, H x = none) → Q (.ref q) H'
def FnFΦ (C : Addr) {T : Type} (e1 : T → FL) : T → DL.Fin := fun t => { nx := fun _ => False, rt := fun _ _ => False, ro := fun q ρ => ∃ i : Nat, ρ[i]? = some (.obj (some C) q (e1 t)) }
def f3 {T : Type} (m : D → D → D → Option T) : List D → Option T
  | [x, y, z] => m x y z
  | _ => none
theorem f3_inv {T : Type} {m : D → D → D → Option T} {ds : List D} {r : T} (h : f3 m ds = some r) : ∃ x y z, ds = [x, y, z] ∧ m x y z = some r := by
  unfold f3 at h; split at h
  · exact ⟨_, _, _, rfl, h⟩
  · cases h
section
variable {P : Program} {w : World} {K : PySem.W.Frag} {mg : Str → Option Value} {base : Heap} {x qual : Str} {params : Arguments} {body : List Stmt} {scope : Scope} {kws : List (Str × V)} {f : Addr} {fd : FuncData} {N ps : List Str} {k : Nat} {T : Type} {C : Addr} {e1 : T → FL}
theorem fn_F {m : List D → Option T} (F : FunD K x qual params body scope [] kws f fd) (Sc : FnScope N ps scope) (len : ∀ ds r, m ds = some r → ds.length = ps.length)
    (h : ∀ (ds : List D) (cdv : Value) (A : Around) (outer : List Env) (sh : Shared) (H : Hp) (E : XK), Room k (A.deeper (envOfC qual scope sh.heap.objs.size f cdv)) → (m ds).isSome = true → So (cxOf CX0 P w K mg base N qual scope f cdv A outer sh H E).nox body (startB N.length ds) (FnFΦ C e1) (m ds)) :
    FnOk P w K mg base CX0 (k + 1) f fd ps (SpF K C e1 m) := by
  refine F.ok Sc (fun vs H Q E ⟨ds, t, r, hm, _⟩ => by rw [r.length, len ds _ hm]) (fun cdv A outer s H vs Q E hr ⟨ds, t, r, hm, hq⟩ => ?_)
  refine ⟨_, PSs.nox pss_c, h ds cdv A outer s H E hr (by rw [hm]; rfl) _ hm (Ent.of H) H (L2.start N vs) H _ ⟨fun _ _ e _ => e, .refl _, sok_start r, fun i b v L y e1' _ o1 => ?_, fun i T e1' => absurd (startB_no _ _ i _ e1') (by simp [isOwn])⟩ ⟨fun _ _ _ _ z => z.elim, fun _ _ _ _ _ _ _ z => z.elim, fun _ _ _ _ z => z.elim, fun _ _ _ _ z => z.elim, fun q ρ σ H' S' _ z => ?_⟩⟩
  · have := startB_no _ _ i b e1'
    rw [o1.is] at this; cases this
  · obtain ⟨H1, S'⟩ := S'
    obtain ⟨i, e⟩ := z
    obtain ⟨u, L, z1, z2⟩ := S'.ok.has i _ e rfl
    have zu : u = .ref q := by cases z2; rfl
    subst zu
    refine hq q H' L S'.same.same z2 fun y hy => ?_
    rcases S'.fr i _ _ L y e z1 z2 hy with z | z
    · exact z
    · exact z.elim
end
section
variable {R : Type} {X : Cx} {ρ : Rho} {Φ : R → DL.Fin} {e : Expr} {es : List Expr} {rest : List Stmt} {pos pos' spos p : Pos} {C q : Addr} {fs : FL}
theorem so_retObj (i : Nat) {s : String} (w : R) (hs : Sl X.N s i) (h : ρ[i]? = some (.obj (some C) q fs) := by rfl) (hw : (Φ w).ro q ρ := by exact ⟨_, rfl⟩) (hv : Vis X.env.scope (Str.ofString s) := by first | exact Or.inl rfl | exact Or.inr (Or.inl rfl) | exact Or.inr (Or.inr rfl)) : So X [.Return (some (.Name (Str.ofString s) p)) pos] ρ Φ (some w) := fun r z => by
  cases z
  refine xs_one fun H0 H1 σ H E S F => ?_
  obtain ⟨dx, vs, L, e1, e2, e3, e4⟩ := S.ok.ins h
  exact ⟨_, ps_ret (pe_var hs.h hv hs.d hs.c), _, e1, F.ro q ρ σ H ⟨_, S⟩ ⟨i, C, fs, h, e1⟩ hw⟩
theorem so_callF (i : Nat) {x : Str} {fn : String} {kk : Nat} {T : Type} {e1 : T → FL} {m : List D → Option T} {r : Option (List D)} {G : T → Option R} (hN : X.N.Nodup) (M : Fr X.prog X.w X.K X.mg X.base fn kk (SpF X.K C e1 m)) (hr : Room kk X.A) (ha : Ao X (e :: es) ρ r) (h : ∀ (q : Addr) (t : T), So X rest (ρ.set i (.obj (some C) q (e1 t))) Φ (G t))
    (hi : X.N[i]? = some x := by rfl) (hx : Loc X.env.scope x := by first | exact Or.inl rfl | exact Or.inr rfl) (hf : X.fn x = true ∨ X.env.scope.names.lookup x = some .local := by first | exact .inl rfl | exact .inr rfl | assumption) (hg : Gl X (Str.ofString fn) := by rfl) (hdb : (Str.ofString fn == ("__debug__" : Str)) = false := by decide)
    (hst : starEach (e :: es) X.env = (false, eval e X.env) :: starEach es X.env := by rfl) (hpl : (backTo pos (starEach es X.env)).any (·.1) = false := by rfl) (hs' : swapsWith (.Call (.Name (Str.ofString fn) p) (e :: es) [] pos) (some (.Name x pos')) spos.line X.env = pure false := by rfl) :
    So X (.Assign [.Name x pos'] (.Call (.Name (Str.ofString fn) p) (e :: es) [] pos) spos :: rest) ρ Φ (bnd (bnd r m) G) := fun r' z => by
  obtain ⟨t, z1, z⟩ := bnd_inv z
  obtain ⟨ds, z2, z3⟩ := bnd_inv z1
  obtain ⟨f, fd, ps, F, hm, hk, hb⟩ := M.h
  refine xs_cons fun H0 H1 σ H E Sk Fn => ⟨_, ps_set hN hi hx (pe_call F hr hg hm hk hb .nil pass0 pa_c hdb hst hpl) hs' hf, ha ds z2 σ H _ Sk.ok fun us H2 s2 r2 => ?_⟩
  show SpF X.K C e1 m (us ++ []) H2 _ _
  rw [List.append_nil]
  exact ⟨ds, t, r2, z3, fun q H' L sm o fr => Fn.nx _ _ _ ((Sk.mono s2).setNew sm fr o) (h q t r' z)⟩
end
end DL


namespace DL
open PySem PySem.Spec PyProof.Rows L2
local macro_rules | `(tactic| walk_at "ev") => `(tactic| try simp only [bnd_some, op1_some, op2_some, op3_some, op4_some, op3s_some, slP_int, boV_some, tB_some, lsV_some, dcV_some, lcD_some, arg1_some, dec1_eq, dec2_eq, dec3_eq, dec4_eq, dec5_eq, jn_nx, jn_rt, iteT_true, iteT_false, notT_some, andT_some, orT_some, andT_false, orT_true, andT_true, orT_false, ixP0, ixP1, ixP2, ixP3, ixP4, ixW0, ixW1, ixW2, ixW3, ixK0, ixK1, ixK2, dec2F, dec2SS, ixT0, ixL0, itD_l, itD_t, itD_h, itL_eq, listN_l, listN_t, listN_h, tupD_l, lenD_l, lenD_t, lenD_h, addD_i, subD_i, negD_i, ltB_i, leB_i, gtB_i, geB_i, eqB_i, eqB_s, neB_s, neB_i, isNB_eq, isNNB_eq, lstV_nil, tupV_nil, tupV1, tupV2, tupV3, tupV4, tupV5, tupV6, lstV1, lstV2, lstV3, intD_b, intD_i, minD_i, keepE_some, keepE_true, keepE_false, inB_sl, inB_st, ninB_eq, List.length_map, if_true, if_false, Bool.false_eq_true])
/-! ### ghost slots -/
theorem inv_ghost {X : Cx} {pins : List (Addr × Obj)} {σ : L2.St} {H : Hp} {s : Shared} {i : Nat} {y : Str} {o : Option V} (hn : X.N[i]? = some y) (nv : ¬ Vis X.env.scope y) (I : Inv X pins σ H s) : Inv X pins (σ.set i o) H s := by
  refine { I with loc := ?_, len := by rw [List.length_set]; exact I.len }
  obtain ⟨m, h1, h2⟩ := I.loc
  refine ⟨m, h1, fun j x v e1 e2 hv => h2 j x v e1 ?_ hv⟩
  by_cases e : j = i
  · subst e
    rw [hn] at e1
    cases e1
    exact absurd hv nv
  · rwa [List.getElem?_set_ne (Ne.symm e)] at e2
theorem pss_ghost {X : Cx} {sts : List Stmt} {t : TS} {i : Nat} {y : Str} (o : Option V) (hn : X.N[i]? = some y) (nv : ¬ Vis X.env.scope y) (h : PSs X sts t) : PSs X sts (fun D σ H => t D (σ.set i o) H) := ⟨fun pins s σ H D I q => h.run pins s _ H D (inv_ghost hn nv I) q⟩
/-- a thing of one's own that stands is taken into a slot that nobody sees -/
theorem SOk.take {K : PySem.W.Frag} {ρ : Rho} {σ : L2.St} {H : Hp} {i : Nat} {v : V} {b : B} {L : List Addr} (h : SOk K ρ σ H) (hi : i < ρ.length) (o : Own K H v b L) (dj : ∀ (j : Nat) c w M x, j ≠ i → ρ[j]? = some c → σ[j]? = some (some w) → Own K H w c M → x ∈ M → x ∉ L) : SOk K (ρ.set i b) (σ.set i (some v)) H := by
  have hl : i < σ.length := by rw [← h.len]; exact hi
  have ne : ∀ (j : Nat) c, j ≠ i → (ρ.set i b)[j]? = some c → ρ[j]? = some c := fun j c n e => by rwa [List.getElem?_set_ne (Ne.symm n)] at e
  have nes : ∀ (j : Nat) (w : V), j ≠ i → (σ.set i (some v))[j]? = some (some w) → σ[j]? = some (some w) := fun j c n e => by rwa [List.getElem?_set_ne (Ne.symm n)] at e
  have at_ : ∀ c, (ρ.set i b)[i]? = some c → c = b := fun c e => by rw [List.getElem?_set_self hi] at e; exact (Option.some.inj e).symm
  have ats : ∀ w : V, (σ.set i (some v))[i]? = some (some w) → w = v := fun c e => by rw [List.getElem?_set_self hl] at e; exact (Option.some.inj (Option.some.inj e)).symm
  refine ⟨by rw [List.length_set, List.length_set, h.len], fun j d e => ?_, fun j c e oc => ?_, fun j k c c' w w' M M' x e1 e2 s1 s2 o1 o2 m1 m2 => ?_⟩
  · by_cases n : j = i
    · subst n
      rw [← at_ _ e] at o
      cases o
    · obtain ⟨u, h1, h2⟩ := h.val j d (ne j _ n e)
      exact ⟨u, by rw [List.getElem?_set_ne (Ne.symm n)]; exact h1, h2⟩
  · by_cases n : j = i
    · subst n
      rw [at_ _ e]
      exact ⟨v, L, by rw [List.getElem?_set_self hl], o⟩
    · obtain ⟨u, M, h1, h2⟩ := h.has j c (ne j _ n e) oc
      exact ⟨u, M, by rw [List.getElem?_set_ne (Ne.symm n)]; exact h1, h2⟩
  · by_cases n : j = i
    · by_cases n' : k = i
      · rw [n, n']
      · subst n
        rw [at_ _ e1, ats _ s1] at o1
        rw [o1.det o] at m1
        exact absurd m1 (dj k c' w' M' x n' (ne k _ n' e2) (nes k _ n' s2) o2 m2)
    · by_cases n' : k = i
      · subst n'
        rw [at_ _ e2, ats _ s2] at o2
        rw [o2.det o] at m2
        exact absurd m2 (dj j c w M x n (ne j _ n e1) (nes j _ n s1) o1 m1)
      · exact h.apart j k c c' w w' M M' x (ne j _ n e1) (ne k _ n' e2) (nes j _ n s1) (nes k _ n' s2) o1 o2 m1 m2
/-- tables changed, all else kept -/
theorem SK.chgT {K : PySem.W.Frag} {ρ : Rho} {H0 : Ent} {H1 H H' : Hp} {σ : L2.St} {j : Nat} {T : List (Addr × Str)} (S : SK K H0 H1 ρ σ H) (hj : ρ[j]? = some (.tab T)) (one : ∀ (i : Nat) T', ρ[i]? = some (.tab T') → i = j) (ex : LamX.ExtN H H') (ht : LamX.Tabs T H') : SK K H0 H1 ρ σ H' := by
  have st : Stb H H' := ⟨fun b xs e => ex b _ e (fun _ z => by cases z), fun b o u e => ex b _ e (fun _ z => by cases z), fun b φ _ e => ex b _ e (fun _ z => by cases z)⟩
  obtain ⟨v0, L0, e1, o0⟩ := S.ok.has j _ hj rfl
  have hv : v0 = .non := by cases o0; rfl
  subst hv
  have eL : L0 = T.map (·.1) := by cases o0; rfl
  subst eL
  have notT : ∀ (i : Nat) b v L, ρ[i]? = some b → i ≠ j → Own K H v b L → ∀ x ∈ L, ∀ q, H x = some q → H' x = some q := fun i b v L e n ow x m q hq => by
    refine ex x q hq fun ps z => ?_
    subst z
    have key : ∀ {vs : List (Str × V)} {fs : List (Str × Fld)} {M : List Addr}, FdsOk K H vs fs M → x ∈ M → False := fun {vs fs M} h hm => by
      induction h with
      | nil => cases hm
      | cons h _ ih =>
        rcases List.mem_append.mp hm with z | z
        · cases h with
          | val => cases z
          | own e _ => simp at z; rw [← z, hq] at e; cases e
          | dic e _ => simp at z; rw [← z, hq] at e; cases e
        · exact ih z
    cases ow with
    | own e' _ => simp at m; rw [← m, hq] at e'; cases e'
    | dic e' _ => simp at m; rw [← m, hq] at e'; cases e'
    | ins e' r _ =>
      rcases List.mem_cons.mp m with z | z
      · rw [← z, hq] at e'; cases e'
      · exact key r z
    | dct e' r _ =>
      rcases List.mem_cons.mp m with z | z
      · rw [← z, hq] at e'; cases e'
      · exact key r z
    | tab _ => exact n (one i _ e)
    | gen e' g =>
      obtain ⟨o', h1, _, h3⟩ := g.stands _ e' x m
      rw [hq] at h1
      cases h1
      exact h3 _ rfl
  have back : ∀ (i : Nat) b v L, ρ[i]? = some b → σ[i]? = some (some v) → Own K H' v b L → Own K H v b L := fun i b v L e es ow => by
    by_cases n : i = j
    · subst n
      rw [hj] at e
      cases e
      rw [e1] at es
      cases es
      cases ow
      exact o0
    · exact S.ok.back st (fun L o => notT i b v L e n o) e es ow
  refine ⟨fun b q e w => ?_, S.stb.trans st, ⟨S.ok.len, fun i d e => ?_, fun i b e ob => ?_, fun i k b c v w L M x q1 q2 s1 s2 w1 w2 m1 m2 => ?_⟩, fun i b v L x q1 q3 ow m => ?_, S.tb⟩
  · refine ex b q (S.same b q e w) fun ps z => ?_
    subst z
    exact w (S.tb j T hj b ps e)
  · obtain ⟨v, h1, h2⟩ := S.ok.val i d e
    exact ⟨v, h1, h2.mono st⟩
  · by_cases n : i = j
    · subst n
      rw [hj] at e
      cases e
      exact ⟨.non, _, e1, .tab ht⟩
    · obtain ⟨v, L, h1, h2⟩ := S.ok.has i b e ob
      exact ⟨v, L, h1, h2.mono st (notT i b v L e n h2)⟩
  · exact S.ok.apart i k b c v w L M x q1 q2 s1 s2 (back i b v L q1 s1 w1) (back k c w M q2 s2 w2) m1 m2
  · exact S.fr i b v L x q1 q3 (back i b v L q1 q3 ow) m
end DL


namespace DL
open PySem PySem.Spec PyProof.Rows L2
local macro_rules | `(tactic| walk_at "ev") => `(tactic| try simp only [bnd_some, op1_some, op2_some, op3_some, op4_some, op3s_some, slP_int, boV_some, tB_some, lsV_some, dcV_some, lcD_some, arg1_some, dec1_eq, dec2_eq, dec3_eq, dec4_eq, dec5_eq, jn_nx, jn_rt, iteT_true, iteT_false, notT_some, andT_some, orT_some, andT_false, orT_true, andT_true, orT_false, ixP0, ixP1, ixP2, ixP3, ixP4, ixW0, ixW1, ixW2, ixW3, ixK0, ixK1, ixK2, dec2F, dec2SS, ixT0, ixL0, itD_l, itD_t, itD_h, itL_eq, listN_l, listN_t, listN_h, tupD_l, lenD_l, lenD_t, lenD_h, addD_i, subD_i, negD_i, ltB_i, leB_i, gtB_i, geB_i, eqB_i, eqB_s, neB_s, neB_i, isNB_eq, isNNB_eq, lstV_nil, tupV_nil, tupV1, tupV2, tupV3, tupV4, tupV5, tupV6, lstV1, lstV2, lstV3, intD_b, intD_i, minD_i, keepE_some, keepE_true, keepE_false, inB_sl, inB_st, ninB_eq, List.length_map, if_true, if_false, Bool.false_eq_true])
/-! ### methods that may raise -/
/-- c: it raises; else m -/
def xM {S : Type} (c : S → List D → Option Bool) (m : S → List D → Option (D × S)) : S → List D → Option (Option D × S) := fun s ds => bnd (c s ds) fun b => match b with
  | true => some (none, s)
  | false => bnd (m s ds) fun r => some (some r.1, r.2)
def SpX (K : PySem.W.Frag) (C : Addr) (cls : Value) {S : Type} (e0 : S → FL) (m : S → List D → Option (Option D × S)) : Sp := fun vs H Q E => ∃ (q : Addr) (ws : List V) (s : S) (ds : List D) (o : Option D) (t : S) (L0 : List Addr), vs = .ref q :: ws ∧ Own K H (.ref q) (.obj (some C) q (e0 s)) L0 ∧ RpAll K H ws ds ∧ m s ds = some (o, t) ∧
  (∀ d, o = some d → ∀ v H' L1, Stb H H' → (∀ x o, H x = some o → x ∉ L0 → H' x = some o) → Own K H' (.ref q) (.obj (some C) q (e0 t)) L1 → (∀ x ∈ L1, x ∈ L0 ∨ H x = none) → Rp K H' v d → Q v H') ∧
  (o = none → ∀ H', Same H H' → E cls none H')
section
variable {P : Program} {w : World} {K : PySem.W.Frag} {mg : Str → Option Value} {base : Heap} {x qual : Str} {params : Arguments} {scope : Scope} {kws : List (Str × V)} {f : Addr} {fd : FuncData} {N ps : List Str} {k : Nat} {S : Type} {C NP : Addr} {e0 : S → FL} {c : Expr} {rest : List Stmt} {xn msg : Str} {jj : Nat} {p1 p2 p3 p4 p5 : Pos}
theorem fn_X {cf : S → List D → Option Bool} {m : S → List D → Option (D × S)} (F : FunD K x qual params (.If c [.Raise (some (.Call (.Name xn p1) [.Constant (.str msg) jj p2] [] p3)) none p4] [] p5 :: rest) scope [] kws f fd) (Sc : FnScope N ps scope) (len : ∀ s ds r, cf s ds = some r → ds.length + 1 = ps.length) (hN : N ≠ [])
    (hg : scope.names.lookup xn = some .globalImplicit) (hm : mg xn = some (.ref NP)) (hdb : (xn == ("__debug__" : Str)) = false) (ex : PySem.W.excIn K NP He.veBase "ValueError.__new__" = true) (kp : PySem.W.keepIn K (.ref NP) = true) (s1 : PySem.W.subIn K (.ref NP) (.type "BaseException") = some true) (s2 : PySem.W.typeIn K (.ref NP) = some (.type "type"))
    (hc : ∀ (q : Addr) (s : S) (ds : List D) (cdv : Value) (A : Around) (outer : List Env) (sh : Shared) (H : Hp) (E : XK), Room k (A.deeper (envOfC qual scope sh.heap.objs.size f cdv)) → (cf s ds).isSome = true → Et (cxOf (L2.CX P w) P w K mg base N qual scope f cdv A outer sh H E).nox c (startM (objB C q e0 s) N.length ds) (cf s ds))
    (h : ∀ (q : Addr) (s : S) (ds : List D) (cdv : Value) (A : Around) (outer : List Env) (sh : Shared) (H : Hp) (E : XK), Room k (A.deeper (envOfC qual scope sh.heap.objs.size f cdv)) → (m s ds).isSome = true → So (cxOf (L2.CX P w) P w K mg base N qual scope f cdv A outer sh H E).nox (.If c [.Raise (some (.Call (.Name xn p1) [.Constant (.str msg) jj p2] [] p3)) none p4] [] p5 :: rest) (startM (objB C q e0 s) N.length ds) (FnMΦ (objB C q e0)) (m s ds)) :
    FnOk P w K mg base (L2.CX P w) (k + 1) f fd ps (SpX K C (.ref NP) e0 (xM cf m)) := by
  refine F.ok Sc (fun vs H Q E ⟨q, ws, s, ds, d, t, L0, e, o, r, hm, _⟩ => ?_) (fun cdv A outer s H vs Q E hr ⟨q, ws, st, ds, od, t, L0, e, o, r, hmm, hq, hx⟩ => ?_)
  · obtain ⟨b, z, _⟩ := bnd_inv hm
    rw [e, List.length_cons, r.length, ← len s ds _ z]
  subst e
  obtain ⟨b, z1, z2⟩ := bnd_inv hmm
  cases b with
  | true =>
    cases z2
    have tk : Takes (cxOf (L2.CX P w) P w K mg base N qual scope f cdv A outer s H E) (fun cls d _ H' => E cls d H') := takes_of (E := E) rfl rfl rfl rfl
    refine ⟨_, pss_cons (ps_if (PT.nox pt_c) (pss_one (ps_raise rfl tk (SkE.pmk_own1 (e := .Constant (.str msg) jj p2) PySem.F.excBase_ValueError ex hm kp (raises_own s1 s2) hg pe_str rfl hdb))) pss_nil) (⟨fun _ _ _ _ _ _ z => z.elim⟩ : PSs _ rest (fun _ _ _ => False)), ?_⟩
    exact hc q st ds cdv A outer s H E hr (by rw [z1]; rfl) true z1 _ H _ (sok_startM r o hN) fun H' s' => L2.iteT (hx rfl H' s')
  | false =>
    obtain ⟨⟨d, t'⟩, z3, z4⟩ := bnd_inv z2
    cases z4
    have fin : ∀ ρ σ H' v, (∃ H1, SK K ⟨H, fun y => y ∈ L0⟩ H1 ρ σ H') → Rp K H' v d → ρ[0]? = some (objB C q e0 t') → Q v H' := by
      rintro ρ σ H' v ⟨H1, S'⟩ rp e
      obtain ⟨u, L1, y1, y2⟩ := S'.ok.has 0 _ e rfl
      have zu : u = .ref q := by cases y2; rfl
      subst zu
      refine hq d rfl v H' L1 ⟨fun b xs hb => S'.same b _ hb fun z => ?_, fun b ob y hb => S'.same b _ hb fun z => ?_, fun b φ ic hb => S'.same b _ hb fun z => ?_⟩ (fun y oy hy n => S'.same y oy hy n) y2 (fun y hy => ?_) rp
      · obtain ⟨o1, h1, h2⟩ := o.stands b z
        rw [hb] at h1; cases h1; exact h2
      · obtain ⟨o1, h1, h2⟩ := o.stands b z
        rw [hb] at h1; cases h1; exact h2
      · obtain ⟨o1, h1, h2⟩ := o.stands b z
        rw [hb] at h1; cases h1; exact h2 _ ic
      · rcases S'.fr 0 _ _ L1 y e y1 y2 hy with z | z
        · exact .inr z
        · exact .inl z
    refine ⟨_, PSs.nox pss_c, h q st ds cdv A outer s H E hr (by rw [z3]; rfl) _ z3 ⟨H, fun y => y ∈ L0⟩ H (L2.start N (.ref q :: ws)) H _ ⟨fun _ _ e _ => e, .refl _, sok_startM r o hN, fun i b v L y e1' es o1 hy => ?_, fun i T e1' => ?_⟩ ⟨fun ρ σ H' S' z => ?_, fun d' v ρ σ H' S' rp z => ?_, fun _ _ _ _ z => z.elim, fun _ _ _ _ z => z.elim, fun _ _ _ _ _ _ z => z.elim⟩⟩
    · cases i with
      | zero =>
        simp [startM, objB] at e1'
        subst e1'
        have eL : L = L0 := by
          have : v = .ref q := by cases o1; rfl
          subst this
          exact o1.det o
        exact .inr (by rw [← eL]; exact hy)
      | succ i =>
        have := startB_no _ _ i b (by simpa [startM] using e1')
        rw [o1.is] at this; cases this
    · cases i with
      | zero => simp [startM, objB] at e1'
      | succ i => exact absurd (startB_no _ _ i _ (by simpa [startM] using e1')) (by simp [isOwn])
    · exact fin ρ σ H' _ ⟨_, S'⟩ (by have := z.1; simp only at this; rw [this]; exact .non) z.2
    · exact fin ρ σ H' v S' (by have := z.1; simp only at this; rw [← this]; exact rp) z.2
end
end DL


/-! Lambdas without parameters, handed to a def that tries them. -/
namespace DL
open PySem PySem.Spec PyProof.Rows L2
/-! ### the defs that call what they get -/
abbrev TTT := (XK → Hp → VK → Prop) → Hp → VK → Prop
/-- ("told", d) or ("refused", None) -/
def TTw (K : PySem.W.Frag) (CS : Addr) : TTT := fun tl H Q =>
  tl (fun cls _ H' => PySem.W.exmOne K cls (.ref CS) = some true ∧ ∀ p o, H' p = none → o.dict = none → Q (.ref p) (upd H' p (.frz o (.tup [.str "refused", .non])))) H
    (fun v H' => ∀ p o, H' p = none → o.dict = none → Q (.ref p) (upd H' p (.frz o (.tup [.str "told", v]))))
/-- True or False -/
def TTb (K : PySem.W.Frag) (CS : Addr) : TTT := fun tl H Q =>
  tl (fun cls _ H' => PySem.W.exmOne K cls (.ref CS) = some true ∧ Q (.bl false) H') H (fun _ H' => Q (.bl true) H')
section
variable {X : Cx}
theorem takes_len {W : WX} {n : Nat} (tk : Takes X W) (hn : X.N.length = n) : Takes X (fun c d σ H => σ.length = n → W c d σ H) := fun u s' ⟨a, B, sI, pins, σ, H, cls, d, e, I, nb, up, sky, na, os, ag, w⟩ =>
  tk u s' ⟨a, B, sI, pins, σ, H, cls, d, e, I, nb, up, sky, na, os, ag, w (by rw [← hn]; exact I.len)⟩
theorem PE.up {e : Expr} {t : TE} (h : PE X e t) : PE X e (fun σ H Q => ∃ Q', t σ H Q' ∧ ∀ v H', Q' v H' → Q v H') := ⟨fun pins s σ H Q I ⟨Q', h', m⟩ => thn (h.run pins s σ H Q' I h') fun u s1 ⟨v, H1, I1, r, q⟩ => ⟨v, H1, I1, r, m _ _ q⟩⟩
theorem twice_gives {x e q : Str} {sg : Scope} {g CS : Addr} {cdg : Value} {j1 j2 j3 k1 k2 : Nat} {p1 p2 p3 p4 p5 p6 p7 p8 p9 pa pb pc pd pe pf pg : Pos} (hge : sg.names.lookup e = some .globalImplicit) (hme : X.mg e = some (.ref CS)) (hde : (e == ("__debug__" : Str)) = false) (hlf : sg.names.lookup ("found" : Str) = some .local) :
    LamX.GivesTo X ["deed", "found"] x sg g cdg [.Try [.Assign [.Name "found" p1] (.Tuple [.Constant (.str "told") j1 p2, .Call (.Name "deed" p3) [] [] p4] k1 p5) p6] [.ExceptHandler (some (.Name e p7)) none [.Assign [.Name "found" p8] (.Tuple [.Constant (.str "refused") j2 p9, .Constant .none j3 pa] k2 pb) pc] pd] [] [] pe, .Return (some (.Name "found" pf)) pg] "deed" q (TTw X.K CS) := by
  intro f c' s H Q tl act hc h
  have hnd : (["deed", "found"] : List Str).Nodup := by decide
  have hgl : Gl (cxOf C8.CX0 X.prog X.w X.K X.mg X.base ["deed", "found"] x sg g cdg X.A X.stack s H C8.E0).nox e := hge
  refine ⟨_, pss_cons (ps_try_only (X := (cxOf C8.CX0 X.prog X.w X.K X.mg X.base ["deed", "found"] x sg g cdg X.A X.stack s H C8.E0).nox) (c := .ref CS)
      (tb := fun W D σ H => ∃ Ech : XK, (∀ cls d σ' H', Ech cls d H' → σ'.length = 2 → W cls d σ' H') ∧ σ[0]? = some (some (.ref f)) ∧ H c' = some (LamX.CodeO c' q) ∧ ∃ Q0 : VK, tl Ech H Q0 ∧ ∀ v H', Q0 v H' → ∀ p o, H' p = none → o.dict = none → D.nx (σ.set 1 (some (.ref p))) (upd H' p (.frz o (.tup [.str "told", v]))))
      rfl rfl ⟨hgl, hde, .inl hme⟩ LamX.takes0 (fun W pn xe tk _ => ?_) (fun a oe cls d pn _ _ => pss_one (ps_set (i := 1) hnd rfl (.inl hlf) (pe_tupF (pa_cons pe_str (pa_cons pe_non pa_nil))) rfl (.inr hlf)))) (pss_one (ps_ret (pe_var (i := 1) rfl (.inl hlf) (by decide) (by decide)))), ?_⟩
  · refine ⟨fun pins s' σ H' D I h' => ?_⟩
    obtain ⟨Ech, hW, h1, h2, Q0, h3, h4⟩ := h'
    have hp := act _ pn xe Ech p3 p4 (takes_len tk rfl) hW
    refine (pss_one (ps_set (i := 1) (pos' := p1) (pos := p6) hnd rfl (.inl hlf) (pe_tupF (n := k1) (pos := p5) (pa_cons (pe_str (j := j1) (pos := p2)) (pa_cons (PE.up hp) pa_nil))) rfl (.inr hlf))).run pins s' σ H' D I ?_
    exact ⟨_, ⟨h1, h2, h3⟩, fun v H1 q => ⟨by show 2 ≤ sizeLine; rw [sizeLine_eq]; omega, fun p o hp ho => h4 v H1 q p o hp ho⟩⟩
  · refine ⟨fun cls _ H' => PySem.W.exmOne X.K cls (.ref CS) = some true ∧ ∀ p o, H' p = none → o.dict = none → Q (.ref p) (upd H' p (.frz o (.tup [.str "refused", .non]))), fun cls d σ' H' ⟨e1, e2⟩ hl => ⟨true, e1, fun _ a _ => ?_, fun hb => by cases hb⟩, rfl, hc, _, h, fun v H' q p o hp ho => ⟨.ref p, rfl, q p o hp ho⟩⟩
    exact ⟨by show 2 ≤ sizeLine; rw [sizeLine_eq]; omega, fun p o hp ho => ⟨.ref p, List.getElem?_set_self (by omega), e2 p o hp ho⟩⟩
theorem try_gives {x e q : Str} {sg : Scope} {g CS : Addr} {cdg : Value} {j1 j2 : Nat} {p1 p2 p3 p4 p5 p6 p7 p8 p9 pa pd pe pf pg : Pos} (hge : sg.names.lookup e = some .globalImplicit) (hme : X.mg e = some (.ref CS)) (hde : (e == ("__debug__" : Str)) = false) (hlf : sg.names.lookup ("found" : Str) = some .local) :
    LamX.GivesTo X ["deed", "found"] x sg g cdg [.Try [.Expr (.Call (.Name "deed" p1) [] [] p2) p3, .Assign [.Name "found" p4] (.Constant (.bool true) j1 p5) p6] [.ExceptHandler (some (.Name e p7)) none [.Assign [.Name "found" p8] (.Constant (.bool false) j2 p9) pa] pd] [] [] pe, .Return (some (.Name "found" pf)) pg] "deed" q (TTb X.K CS) := by
  intro f c' s H Q tl act hc h
  have hnd : (["deed", "found"] : List Str).Nodup := by decide
  have hgl : Gl (cxOf C8.CX0 X.prog X.w X.K X.mg X.base ["deed", "found"] x sg g cdg X.A X.stack s H C8.E0).nox e := hge
  refine ⟨_, pss_cons (ps_try_only (X := (cxOf C8.CX0 X.prog X.w X.K X.mg X.base ["deed", "found"] x sg g cdg X.A X.stack s H C8.E0).nox) (c := .ref CS)
      (tb := fun W D σ H => ∃ Ech : XK, (∀ cls d σ' H', Ech cls d H' → σ'.length = 2 → W cls d σ' H') ∧ σ[0]? = some (some (.ref f)) ∧ H c' = some (LamX.CodeO c' q) ∧ ∃ Q0 : VK, tl Ech H Q0 ∧ ∀ v H', Q0 v H' → D.nx (σ.set 1 (some (.bl true))) H')
      rfl rfl ⟨hgl, hde, .inl hme⟩ LamX.takes0 (fun W pn xe tk _ => ?_) (fun a oe cls d pn _ _ => pss_one (ps_set (i := 1) hnd rfl (.inl hlf) pe_bl rfl (.inr hlf)))) (pss_one (ps_ret (pe_var (i := 1) rfl (.inl hlf) (by decide) (by decide)))), ?_⟩
  · refine ⟨fun pins s' σ H' D I h' => ?_⟩
    obtain ⟨Ech, hW, h1, h2, Q0, h3, h4⟩ := h'
    have hp := act _ pn xe Ech p1 p2 (takes_len tk rfl) hW
    refine (pss_cons (ps_expr (pos := p3) (PE.up hp) rfl) (pss_one (ps_set (i := 1) (pos' := p4) (pos := p6) hnd rfl (.inl hlf) (pe_bl (j := j1) (pos := p5)) rfl (.inr hlf)))).run pins s' σ H' D I ?_
    exact ⟨_, ⟨h1, h2, h3⟩, fun v H1 q => h4 v H1 q⟩
  · refine ⟨fun cls _ H' => PySem.W.exmOne X.K cls (.ref CS) = some true ∧ Q (.bl false) H', fun cls d σ' H' ⟨e1, e2⟩ hl => ⟨true, e1, fun _ a _ => ?_, fun hb => by cases hb⟩, rfl, hc, _, h, fun v H' q => ⟨.bl true, rfl, q⟩⟩
    exact ⟨.bl false, List.getElem?_set_self (by omega), e2⟩
end

/-! ### a def by its name that calls what it gets -/
structure Lr (K : PySem.W.Frag) (mg : Str → Option Value) (s : String) (TT : TTT) : Prop where
  h : ∃ (g : Addr) (pg : Arguments) (bg : List Stmt) (sg : Scope) (dV kV doc pm cdv ct oc : Value) (an od : Option Addr) (osl : Array (Option Value)) (a : Str) (Ng : List Str),
    mg (Str.ofString s) = some (.ref g) ∧ PySem.W.keepIn K (.ref g) = true ∧ K.lookup g = some ⟨oc, od, .func (PySem.W.fnOf (Str.ofString s) (Str.ofString s) pg bg sg dV kV doc pm an cdv ct), osl⟩ ∧ PySem.W.codeIn K cdv (Str.ofString s) = true ∧
    L2.Binds K (PySem.W.fnOf (Str.ofString s) (Str.ofString s) pg bg sg dV kV doc pm an cdv ct) [a] [] ∧ FnScope Ng [a] sg ∧ Ng[0]? = some a ∧ Vis sg a ∧ (a == ("__debug__" : Str)) = false ∧ (a == ("__classdict__" : Str)) = false ∧ (Str.ofString s == ("__debug__" : Str)) = false ∧
    ∀ X : Cx, X.K = K → X.mg = mg → ∀ q, LamX.GivesTo X Ng (Str.ofString s) sg g cdv bg a q TT
/-- what it makes of it -/
structure LamOk (K : PySem.W.Frag) (TT : TTT) (cls : Value) (comb : Option D → D) : Prop where
  h : ∀ (tl : XK → Hp → VK → Prop) (H : Hp) (Q : VK) (o : Option D) (G : Hp → Prop), (∀ (E : XK) (Q' : VK), (∀ d, o = some d → ∀ v H', G H' → Rp K H' v d → Q' v H') → (o = none → ∀ H', G H' → E cls none H') → tl E H Q') → (∀ v H' H'', G H' → Same H' H'' → Rp K H'' v (comb o) → Q v H'') → TT tl H Q
def cTw : Option D → D
  | some d => .tuple [.str "told", d]
  | none => .tuple [.str "refused", .none]
def cTb : Option D → D
  | some _ => .bool true
  | none => .bool false
theorem lamOk_w {K : PySem.W.Frag} {CS : Addr} {cls : Value} (h : PySem.W.exmOne K cls (.ref CS) = some true) : LamOk K (TTw K CS) cls cTw := ⟨fun tl H Q o G h1 h2 => by
  refine h1 _ _ (fun d e v H' g r p ob hp ho => ?_) (fun e H' g => ⟨h, fun p ob hp ho => ?_⟩)
  · subst e
    exact h2 _ H' _ g (same_new hp) (rp_tupNew hp ho (.cons (.str _) (.cons r .nil)))
  · subst e
    exact h2 _ H' _ g (same_new hp) (rp_tupNew hp ho (.cons (.str _) (.cons .non .nil)))⟩
theorem lamOk_b {K : PySem.W.Frag} {CS : Addr} {cls : Value} (h : PySem.W.exmOne K cls (.ref CS) = some true) : LamOk K (TTb K CS) cls cTb := ⟨fun tl H Q o G h1 h2 => by
  refine h1 _ _ (fun d e v H' g r => ?_) (fun e H' g => ⟨h, ?_⟩)
  · subst e
    exact h2 _ H' _ g (fun _ _ h => h) (.bl true)
  · subst e
    exact h2 _ H' _ g (fun _ _ h => h) (.bl false)⟩
/-! ### expressions that may raise -/
def EvX (X : Cx) (E : XK) (cls : Value) (e : Expr) (ρ ρ' : Rho) (o : Option D) : Prop := ∀ H0 H1 σ H Q, SK X.K H0 H1 ρ σ H →
  (∀ d, o = some d → ∀ v H', SK X.K H0 H1 ρ' σ H' → Stb H H' → Rp X.K H' v d → Q v H') → (o = none → ∀ H', SK X.K H0 H1 ρ' σ H' → Stb H H' → E cls none H') → cE X e σ H Q
def EmX {S : Type} (X : Cx) (E : XK) (cls : Value) (e : Expr) (ρ : Rho) (enc : S → Rho) (f : Option (Option D × S)) : Prop := ∀ r, f = some r → EvX X E cls e ρ (enc r.2) r.1
def upX {S : Type} (f : Option (D × S)) : Option (Option D × S) := bnd f fun q => some (some q.1, q.2)
structure MrX (P : Program) (w : World) (K : PySem.W.Frag) (mg : Str → Option Value) (base : Heap) (C : Addr) (x : Str) (kk : Nat) (sp : Sp) : Prop where
  h : ∃ f fd ps, FnOk P w K mg base (L2.CX P w) kk f fd ps sp ∧ Meth K C x f ∧ Binds K fd ps []
section
variable {X : Cx} {ρ : Rho} {e a b c : Expr} {es : List Expr} {f g : Option D} {S T U : Type} {enc : S → Rho} {enc' : T → Rho} {p pos apos : Pos} {s : String} {i : Nat} {C q : Addr} {fs : FL} {x : Str} {kk : Nat} {E : XK} {cls : Value}
theorem Em.up {f : Option (D × S)} (h : Em X e ρ enc f) : EmX X E cls e ρ enc (upX f) := fun r z => by
  obtain ⟨u, z1, z2⟩ := bnd_inv z
  cases z2
  intro H0 H1 σ H Q Sk q1 q2
  exact h u z1 H0 H1 σ H Q Sk fun v H' S' st rp => q1 _ rfl v H' S' st rp
theorem em_methX {enc : U → Rho} {e0 : U → FL} {m : U → List D → Option (Option D × U)} (st : U) (tk : Takes X (fun cls d _ H => E cls d H)) (M : MrX X.prog X.w X.K X.mg X.base C x kk (SpX X.K C cls e0 m)) (hr : Room kk X.A) (cl : Cls X.K C) (hs : Sl X.N s i) {r : Option (List D)} (ha : Ao X (e :: es) ρ r) (h : ρ[i]? = some (.obj (some C) q (e0 st)) := by rfl) (henc : ∀ t, enc t = ρ.set i (.obj (some C) q (e0 t)) := by intro _; rfl) (hid : ∀ ds t, m st ds = some (none, t) → Le ρ (enc t)) (nm : (e0 st).lookup x = none := by rfl) (hv : Vis X.env.scope (Str.ofString s) := by first | exact Or.inl rfl | exact Or.inr (Or.inl rfl) | exact Or.inr (Or.inr rfl)) {pl : Sem Bool}
    (hst : starEach (e :: es) X.env = (false, eval e X.env) :: starEach es X.env := by rfl) (hpl : (backTo pos (starEach es X.env)).any (·.1) = false := by rfl)
    (ht : eval (.Call (.Attribute (.Name (Str.ofString s) p) x apos) (e :: es) [] pos) X.env = (do
      let ov ← eval (.Name (Str.ofString s) p) X.env
      standAt apos.atName
      let (f, first) ← holding [ov] (getMethod ov x pl)
      callWith pos f first (backTo pos (starEach (e :: es) X.env)) (backToKw pos (keywordEach [] X.env))) := by rfl) : EmX X E cls (.Call (.Attribute (.Name (Str.ofString s) p) x apos) (e :: es) [] pos) ρ enc (bnd r (m st)) := fun r' z => by
  obtain ⟨ds, z1, z2⟩ := bnd_inv z
  intro H0 H1 σ H Q Sk q1 q2
  obtain ⟨f, fd, ps, F, hm, hb⟩ := M.h
  obtain ⟨dx, vs, L, e1, e2, e3, e4⟩ := Sk.ok.ins h
  refine ⟨_, pe_meth (pe_var hs.h hv hs.d hs.c) cl hm F hr hb .nil (passes_call tk (fun _ _ _ _ h => h)) pa_c (pl := pl) hst hpl ht, _, e1, _, dx, vs, rfl, e2, e3.no nm, ha ds z1 σ H _ Sk.ok fun us H2 s2 r2 => ?_⟩
  rw [List.append_nil]
  have o2 : Own X.K H2 (.ref q) (.obj (some C) q (e0 st)) (q :: L) := .ins (s2 _ _ e2) (e3.mono (.of s2) fun y _ o ho => s2 y o ho) e4
  refine ⟨_, us, st, ds, r'.1, r'.2, _, rfl, o2, r2, z2, fun d ed v H' L1 st' kp o1 hL rp => q1 d ed v H' (by rw [henc]; exact (Sk.mono s2).chg h e1 o2 st' kp o1 hL) ((Stb.of s2).trans st') rp, fun en H' sm => q2 en H' (((Sk.mono s2).mono sm).le (hid ds r'.2 (by rw [z2, ← en]))) ((Stb.of s2).trans (.of sm))⟩
/-- F(lambda: body) -/
theorem em_lam {enc : U → Rho} {TT : TTT} {comb : Option D → D} {params : Arguments} {body : Expr} {scope : Scope} {lpos : Pos} (j : Nat) {TL : List (Addr × Str)} {c P : Addr} {m : Option (Option D × U)} {k : Nat}
    (F : Lr X.K X.mg s TT) (hTT : LamOk X.K TT cls comb) (TB : LamX.TabB X.base X.mg c P) (hcode : X.env.code = .ref c) (hmT : (P, X.env.qual ++ "<lambda>") ∈ TL) (hu : ∀ p ∈ TL, p.1 = P → p.2 = X.env.qual ++ "<lambda>") (hr : Room (k + 2) X.A)
    (hbody : ∀ (A : Around) (outer : List Env) (sh : Shared) (H : Hp) (E : XK) (f c' : Addr), Room k (LamX.lamCx X A outer sh H E scope f c').A → Takes (LamX.lamCx X A outer sh H E scope f c') (fun cls d _ H => E cls d H) → EmX (LamX.lamCx X A outer sh H E scope f c') E cls body ρ enc m)
    (L : LamX.LamS X.env.scope scope) (hj : ρ[j]? = some (.tab TL) := by rfl) (one : ∀ (i : Nat) T', ρ[i]? = some (.tab T') → i = j)
    (hg : Gl X (Str.ofString s) := by rfl) (hdef : defaultsOf params X.env = ([], []) := by rfl)
    (hbind : ∀ (q : Str) (cl : List (Str × Addr)) (pm cv ctv : Value), bindArgs (PySem.W.kla_fn "<lambda>" q params body scope cl pm cv ctv) ⟨[], []⟩ = pure [] := by intros; rfl) :
    Em X (.Call (.Name (Str.ofString s) p) [.Lambda params body scope lpos] [] pos) ρ enc (bnd m fun q => some (comb q.1, q.2)) := fun r z => by
  obtain ⟨u, z1, z2⟩ := bnd_inv z
  cases z2
  intro H0 H1 σ H Q Sk q'
  obtain ⟨gA, pg, bg, sg, dV, kV, doc, pm, cdv, ct, oc, an, od, osl, a, Ng, w1, w2, w3, w4, w5, w6, w7, w8, w9, wa, wb, wc⟩ := F.h
  refine ⟨_, LamX.pe_lamcall (T := TL) (t := fun E σ H Q => ∀ (A : Around) (outer : List Env) (sh : Shared) (HH : Hp) (f c' : Addr), Room k (LamX.lamCx X A outer sh HH E scope f c').A → cE (LamX.lamCx X A outer sh HH E scope f c') body σ H Q) hg w1 w2 w3 w4 w5 w6 w7 w8 (wc X rfl rfl _) TB hcode hmT hu hr L hdef hbind (fun A outer sh HH E f c' hr' => ⟨fun pins s' σ' H' Q' I h => pe_c.run pins s' σ' H' Q' I (h A outer sh HH f c' hr')⟩) wb w9 wa, ?_⟩
  obtain ⟨v0, L0, y1, y2⟩ := Sk.ok.has j _ hj rfl
  have hT : LamX.Tabs TL H := by cases y2; assumption
  refine ⟨hT, fun H2 ex t2 => ?_⟩
  have S2 := Sk.chgT hj one ex t2
  have st2 : Stb H H2 := ⟨fun b xs e => ex b _ e (fun _ z => by cases z), fun b o u e => ex b _ e (fun _ z => by cases z), fun b φ _ e => ex b _ e (fun _ z => by cases z)⟩
  refine hTT.h _ H2 Q u.1 (fun H' => SK X.K H0 H1 (enc u.2) σ H' ∧ Stb H H') (fun E Q' h1 h2 A outer sh HH f c' hr' => ?_) (fun v H' H'' ⟨g1, g2⟩ sm rp => q' v H'' (g1.mono sm) (g2.trans (.of sm)) rp)
  exact hbody A outer sh HH E f c' hr' (takes_of (E := E) rfl rfl rfl rfl) u z1 H0 H1 σ H2 Q' S2 (fun d ed v H' s' st' rp => h1 d ed v H' ⟨s', st2.trans st'⟩ rp) (fun en H' s' st' => h2 en H' ⟨s', st2.trans st'⟩)
end
end DL


/-! Defs that make lambdas: promises with tables. -/
namespace DL
open PySem PySem.Spec PyProof.Rows L2
theorem own_notbl {K : PySem.W.Frag} {H : Hp} {v : V} {b : B} {L : List Addr} {x : Addr} {ps : Array Value} (o : Own K H v b L) (n : ∀ T, b ≠ .tab T) (m : x ∈ L) : H x ≠ some (.tbl ps) := fun hq => by
  have key : ∀ {vs : List (Str × V)} {fs : List (Str × Fld)} {M : List Addr}, FdsOk K H vs fs M → x ∈ M → False := fun {vs fs M} h hm => by
    induction h with
    | nil => cases hm
    | cons h _ ih =>
      rcases List.mem_append.mp hm with z | z
      · cases h with
        | val => cases z
        | own e _ => simp at z; rw [← z, hq] at e; cases e
        | dic e _ => simp at z; rw [← z, hq] at e; cases e
      · exact ih z
  cases o with
  | own e' _ => simp at m; rw [← m, hq] at e'; cases e'
  | dic e' _ => simp at m; rw [← m, hq] at e'; cases e'
  | ins e' r _ =>
    rcases List.mem_cons.mp m with z | z
    · rw [← z, hq] at e'; cases e'
    · exact key r z
  | dct e' r _ =>
    rcases List.mem_cons.mp m with z | z
    · rw [← z, hq] at e'; cases e'
    · exact key r z
  | tab _ => exact n _ rfl
  | gen e' g =>
    obtain ⟨o', h1, _, h3⟩ := g.stands _ e' _ m
    rw [hq] at h1
    cases h1
    exact h3 _ rfl
/-- an object and the tables changed, all else kept -/
theorem SK.chgTM {K : PySem.W.Frag} {ρ : Rho} {H0 : Ent} {H1 H H' : Hp} {σ : L2.St} {i j : Nat} {T : List (Addr × Str)} {v0 : V} {b0 b1 : B} {L0 L1 : List Addr} (S : SK K H0 H1 ρ σ H) (hi : ρ[i]? = some b0) (e1 : σ[i]? = some (some v0)) (o0 : Own K H v0 b0 L0) (hj : ρ[j]? = some (.tab T)) (one : ∀ (i : Nat) T', ρ[i]? = some (.tab T') → i = j) (nb0 : ∀ T, b0 ≠ .tab T) (st : Stb H H')
    (kp : ∀ x q, H x = some q → x ∉ L0 → (∀ ps, q ≠ .tbl ps) → H' x = some q) (ht : LamX.Tabs T H') (o1 : Own K H' v0 b1 L1) (hL : ∀ x ∈ L1, x ∈ L0 ∨ H x = none ∨ ∃ ps, H x = some (.tbl ps)) (nb : ∀ T, b1 ≠ .tab T) : SK K H0 H1 (ρ.set i b1) σ H' := by
  have li : i < ρ.length := by
    rcases Nat.lt_or_ge i ρ.length with h | h
    · exact h
    · rw [List.getElem?_eq_none h] at hi; cases hi
  have ne : ∀ (k : Nat) c, k ≠ i → (ρ.set i b1)[k]? = some c → ρ[k]? = some c := fun k c n e => by rwa [List.getElem?_set_ne (Ne.symm n)] at e
  have at_ : ∀ c, (ρ.set i b1)[i]? = some c → c = b1 := fun c e => by rw [List.getElem?_set_self li] at e; exact (Option.some.inj e).symm
  have stay : ∀ (k : Nat) c w M, ρ[k]? = some c → σ[k]? = some (some w) → k ≠ i → k ≠ j → Own K H w c M → ∀ x ∈ M, ∀ q, H x = some q → H' x = some q := fun k c w M e es n1 n2 ow x m q hq =>
    kp x q hq (fun z => n1 (S.ok.apart k i c b0 w v0 M L0 x e hi es e1 ow o0 m z)) (fun ps z => own_notbl (ps := ps) ow (fun T' z' => n2 (one k T' (z' ▸ e))) m (z ▸ hq))
  have fwd : ∀ (k : Nat) c w M, ρ[k]? = some c → σ[k]? = some (some w) → k ≠ i → Own K H w c M → Own K H' w c M := fun k c w M e es n1 ow => by
    by_cases n2 : k = j
    · subst n2
      rw [hj] at e
      cases e
      cases ow
      exact .tab ht
    · exact ow.mono st (stay k c w M e es n1 n2 ow)
  have back : ∀ (k : Nat) c w M, ρ[k]? = some c → σ[k]? = some (some w) → k ≠ i → Own K H' w c M → Own K H w c M := fun k c w M e es n1 ow => by
    obtain ⟨w', M', s', o'⟩ := S.ok.has k c e ow.is
    rw [es] at s'
    cases s'
    rw [ow.det (fwd k c w M' e es n1 o')]
    exact o'
  have noT : ∀ (k : Nat) c w M x, ρ[k]? = some c → Own K H' w c M → Own K H w c M → x ∈ M → ∀ ps, H x = some (.tbl ps) → x ∈ L1 → False := fun k c w M x e ow ow0 m ps hx hx1 => by
    by_cases hc : ∃ T', c = .tab T'
    · obtain ⟨T', rfl⟩ := hc
      cases ow with
      | tab t' =>
        obtain ⟨p, hp, rfl⟩ := List.mem_map.mp m
        obtain ⟨ps', h1, _⟩ := t' p hp
        exact own_notbl o1 nb hx1 h1
    · exact own_notbl ow0 (fun T' z => hc ⟨T', z⟩) m hx
  refine ⟨fun b q e w => kp b q (S.same b q e w) (fun z => ?_) (fun ps z => w (S.tb j T hj b ps (z ▸ e))), S.stb.trans st, ⟨by rw [List.length_set]; exact S.ok.len, fun k d e => ?_, fun k c e ob => ?_, fun k k' c c' w w' M M' x q1 q2 s1 s2 w1 w2 m1 m2 => ?_⟩, fun k c w M x q1 q3 ow m => ?_, fun k T' e => S.tb k T' (tb_set nb e)⟩
  · rcases S.fr i b0 v0 L0 b hi e1 o0 z with y | y
    · rw [e] at y; cases y
    · exact w y
  · by_cases n : k = i
    · subst n
      have := at_ _ e
      subst this
      cases o1
    · obtain ⟨v, h1, h2⟩ := S.ok.val k d (ne k _ n e)
      exact ⟨v, h1, h2.mono st⟩
  · by_cases n : k = i
    · subst n
      rw [at_ _ e]
      exact ⟨v0, L1, e1, o1⟩
    · obtain ⟨v, L, h1, h2⟩ := S.ok.has k c (ne k _ n e) ob
      exact ⟨v, L, h1, fwd k c v L (ne k _ n e) h1 n h2⟩
  · by_cases n : k = i
    · by_cases n' : k' = i
      · rw [n, n']
      · subst n
        rw [at_ _ q1] at w1
        rw [e1] at s1
        cases s1
        rw [w1.det o1] at m1
        have w2' := back k' c' w' M' (ne k' _ n' q2) s2 n' w2
        rcases hL x m1 with z | z | ⟨ps, z⟩
        · exact S.ok.apart k k' b0 c' v0 w' L0 M' x hi (ne k' _ n' q2) e1 s2 o0 w2' z m2
        · obtain ⟨u, hu, _⟩ := w2'.stands x m2
          rw [z] at hu; cases hu
        · exact (noT k' c' w' M' x (ne k' _ n' q2) w2 w2' m2 ps z m1).elim
    · by_cases n' : k' = i
      · subst n'
        rw [at_ _ q2] at w2
        rw [e1] at s2
        cases s2
        rw [w2.det o1] at m2
        have w1' := back k c w M (ne k _ n q1) s1 n w1
        rcases hL x m2 with z | z | ⟨ps, z⟩
        · exact S.ok.apart k k' c b0 w v0 M L0 x (ne k _ n q1) hi s1 e1 w1' o0 m1 z
        · obtain ⟨u, hu, _⟩ := w1'.stands x m1
          rw [z] at hu; cases hu
        · exact (noT k c w M x (ne k _ n q1) w1 w1' m1 ps z m2).elim
      · exact S.ok.apart k k' c c' w w' M M' x (ne k _ n q1) (ne k' _ n' q2) s1 s2 (back k c w M (ne k _ n q1) s1 n w1) (back k' c' w' M' (ne k' _ n' q2) s2 n' w2) m1 m2
  · by_cases n : k = i
    · subst n
      rw [at_ _ q1] at ow
      rw [e1] at q3
      cases q3
      rw [ow.det o1] at m
      rcases hL x m with z | z | ⟨ps, z⟩
      · exact S.fr k b0 v0 L0 x hi e1 o0 z
      · exact S.same.free z
      · by_cases hw : H0.W x
        · exact .inr hw
        · refine .inl ?_
          cases hh : H0.H x with
          | none => rfl
          | some o =>
            have := S.same x o hh hw
            rw [z] at this
            cases this
            exact absurd (S.tb j T hj x ps hh) hw
    · exact S.fr k c w M x (ne k _ n q1) q3 (back k c w M (ne k _ n q1) q3 n ow) m
/-! ### promises with tables -/
abbrev TabL := List (Addr × Str)
def SpMT (K : PySem.W.Frag) (C : Addr) (TL : TabL) {S : Type} (e0 : S → FL) (m : S → List D → Option (D × S)) : Sp := fun vs H Q _ => ∃ (q : Addr) (ws : List V) (s : S) (ds : List D) (d : D) (t : S) (L0 : List Addr), vs = .ref q :: ws ∧ Own K H (.ref q) (.obj (some C) q (e0 s)) L0 ∧ RpAll K H ws ds ∧ m s ds = some (d, t) ∧ LamX.Tabs TL H ∧
  ∀ v H' L1, Stb H H' → (∀ x o, H x = some o → x ∉ L0 → (∀ ps, o ≠ .tbl ps) → H' x = some o) → LamX.Tabs TL H' → Own K H' (.ref q) (.obj (some C) q (e0 t)) L1 → (∀ x ∈ L1, x ∈ L0 ∨ H x = none ∨ ∃ ps, H x = some (.tbl ps)) → Rp K H' v d → Q v H'
/-- a law -/
def SpDT (K : PySem.W.Frag) (TL : TabL) (m : D → Option D) : Sp := fun vs H Q _ => ∃ (a : Addr) (xs : List V) (ds : List D) (d : D), vs = [.ref a] ∧ SqL K H a xs ∧ (∀ H, RpAll K H xs ds) ∧ m (.list ds) = some d ∧ LamX.Tabs TL H ∧ ∀ v H', Rp K H' v d → Q v H'
def FnDTΦ : D → DL.Fin := fun r => { nx := fun ρ => r = .none, rt := fun d _ => d = r }
def FnMTΦ {T : Type} (g : Nat) (TL : TabL) (Bt : T → B) : D × T → DL.Fin := fun r => { nx := fun ρ => r.1 = .none ∧ (ρ[0]?, ρ[g]?) = (some (Bt r.2), some (.tab TL)), rt := fun d ρ => d = r.1 ∧ (ρ[0]?, ρ[g]?) = (some (Bt r.2), some (.tab TL)) }
section
variable {P : Program} {w : World} {K : PySem.W.Frag} {mg : Str → Option Value} {base : Heap} {x qual : Str} {params : Arguments} {body : List Stmt} {scope : Scope} {kws : List (Str × V)} {f c : Addr} {fd : FuncData} {N ps : List Str} {k : Nat} {S T : Type} {C : Addr} {e0 : S → FL} {TL : TabL} {y : Str}
theorem FunD.okC {CX : CXT} {sp : Sp} (F : FunD K x qual params body scope [] kws f fd) (hc : fd.code = .ref c) (S : FnScope N ps scope) (len : ∀ vs H Q E, sp vs H Q E → vs.length = ps.length)
    (hbody : ∀ (A : Around) (outer : List Env) (s : Shared) (H : Hp) (vs : List V) (Q : VK) (E : XK), Room k (A.deeper (envOfC qual scope s.heap.objs.size f (.ref c))) → sp vs H Q E →
      ∃ t, PSs (cxOf CX P w K mg base N qual scope f (.ref c) A outer s H E) body t ∧ t { nx := fun _ H' => Q .non H', rt := Q } (L2.start N vs) H) : FnOk P w K mg base CX (k + 1) f fd ps sp := by
  obtain ⟨oc, od, dV, kV, doc, pm, an, cdv, ct, osl, rfl, lk, hcd, _, _⟩ := F.ex
  have e : cdv = .ref c := hc
  subst e
  exact fn_of lk hcd S len fun A outer s H vs Q E hr hsp => hbody A outer s H vs Q E hr hsp
theorem fn_MT {m : S → List D → Option (D × S)} (g : Nat) (F : FunD K x qual params body scope [] kws f fd) (hcd : fd.code = .ref c) (Sc : FnScope N ps scope) (len : ∀ s ds r, m s ds = some r → ds.length + 1 = ps.length) (hN : N ≠ []) (hg : N[g]? = some y) (nv : ¬ Vis scope y) (g0 : g ≠ 0)
    (h : ∀ (q : Addr) (s : S) (ds : List D) (A : Around) (outer : List Env) (sh : Shared) (H : Hp) (E : XK), Room k (A.deeper (envOfC qual scope sh.heap.objs.size f (.ref c))) → (m s ds).isSome = true → So (cxOf CX0 P w K mg base N qual scope f (.ref c) A outer sh H E).nox body ((startM (objB C q e0 s) N.length ds).set g (.tab TL)) (FnMTΦ g TL (objB C q e0)) (m s ds)) :
    FnOk P w K mg base CX0 (k + 1) f fd ps (SpMT K C TL e0 m) := by
  refine FunD.okC F hcd Sc (fun vs H Q E ⟨q, ws, s, ds, d, t, L0, e, o, r, hm, _⟩ => by rw [e, List.length_cons, r.length, ← len s ds _ hm]) (fun A outer s H vs Q E hr ⟨q, ws, st, ds, d, t, L0, e, o, r, hm, hT, hq⟩ => ?_)
  subst e
  have lg : g < N.length := by
    rcases Nat.lt_or_ge g N.length with h | h
    · exact h
    · rw [List.getElem?_eq_none h] at hg; cases hg
  have s0 := sok_startM (N := N) r o hN
  have lρ : (startM (objB C q e0 st) N.length ds).length = N.length := by
    have e1 := s0.len
    have e2 : (L2.start N (V.ref q :: ws)).length = N.length := by
      have := len st ds _ hm
      have l1 : ps.length ≤ N.length := by
        have := congrArg List.length Sc.pre
        rw [List.length_take] at this
        omega
      unfold L2.start
      simp
      have := r.length
      omega
    exact e1.trans e2
  have at0 : ∀ b, ((startM (objB C q e0 st) N.length ds).set g (.tab TL))[0]? = some b → b = objB C q e0 st := fun b e => by
    rw [List.getElem?_set_ne g0] at e
    simpa [startM] using e.symm
  have atg : ((startM (objB C q e0 st) N.length ds).set g (.tab TL))[g]? = some (.tab TL) := List.getElem?_set_self (by omega)
  have oth : ∀ (i : Nat) b, ((startM (objB C q e0 st) N.length ds).set g (.tab TL))[i]? = some b → i ≠ 0 → i ≠ g → isOwn b = false := fun i b e n1 n2 => by
    rw [List.getElem?_set_ne (Ne.symm n2)] at e
    cases i with
    | zero => exact absurd rfl n1
    | succ i => exact startB_no _ _ i b (by simpa [startM] using e)
  have fin : ∀ ρ σ H' v, (∃ H1, SK K ⟨H, fun y => y ∈ L0 ∨ ∃ ps, H y = some (.tbl ps)⟩ H1 ρ σ H') → Rp K H' v d → (ρ[0]?, ρ[g]?) = (some (objB C q e0 t), some (B.tab TL)) → Q v H' := by
    rintro ρ σ H' v ⟨H1, S'⟩ rp e
    have ea := congrArg Prod.fst e
    have eb := congrArg Prod.snd e
    simp only at ea eb
    obtain ⟨u, L1, z1, z2⟩ := S'.ok.has 0 _ ea rfl
    have zu : u = .ref q := by cases z2; rfl
    subst zu
    obtain ⟨u', L', z3, z4⟩ := S'.ok.has g _ eb rfl
    have hT' : LamX.Tabs TL H' := by cases z4; assumption
    refine hq v H' L1 ⟨fun b xs hb => S'.same b _ hb fun z => ?_, fun b ob y hb => S'.same b _ hb fun z => ?_, fun b φ ic hb => S'.same b _ hb fun z => ?_⟩ (fun y oy hy n nt => S'.same y oy hy fun z => ?_) hT' z2 (fun y hy => ?_) rp
    · rcases z with z | ⟨ps, z⟩
      · obtain ⟨o1, h1, h2⟩ := o.stands b z
        rw [hb] at h1; cases h1; exact h2
      · rw [hb] at z; cases z
    · rcases z with z | ⟨ps, z⟩
      · obtain ⟨o1, h1, h2⟩ := o.stands b z
        rw [hb] at h1; cases h1; exact h2
      · rw [hb] at z; cases z
    · rcases z with z | ⟨ps, z⟩
      · obtain ⟨o1, h1, h2⟩ := o.stands b z
        rw [hb] at h1; cases h1; exact h2 _ ic
      · rw [hb] at z; cases z
    · rcases z with z | ⟨ps, z⟩
      · exact n z
      · rw [hy] at z; cases z; exact nt _ rfl
    · rcases S'.fr 0 _ _ L1 y ea z1 z2 hy with z | z | ⟨ps, z⟩
      · exact .inr (.inl z)
      · exact .inl z
      · exact .inr (.inr ⟨ps, z⟩)
  refine ⟨_, pss_ghost (some .non) hg nv (PSs.nox pss_c), h q st ds A outer s H E hr (by rw [hm]; rfl) _ hm ⟨H, fun y => y ∈ L0 ∨ ∃ ps, H y = some (.tbl ps)⟩ H _ H _ ⟨fun _ _ e _ => e, .refl _, s0.take (show g < (startM (objB C q e0 st) N.length ds).length by omega) (.tab hT) (fun j c w M x n e es ow m z => ?_), fun i b v L y e1' es o1 hy => ?_, fun i T e1' b ps e => .inr ⟨ps, e⟩⟩ ⟨fun ρ σ H' S' z => ?_, fun d' v ρ σ H' S' rp z => ?_, fun _ _ _ _ z => z.elim, fun _ _ _ _ z => z.elim, fun _ _ _ _ _ _ z => z.elim⟩⟩
  · cases j with
    | zero =>
      have ec : c = .obj (some C) q (e0 st) := by simpa [startM] using e.symm
      obtain ⟨p, hp, rfl⟩ := List.mem_map.mp z
      obtain ⟨ps', h1, _⟩ := hT p hp
      exact own_notbl ow (fun T' z' => by rw [ec] at z'; cases z') m h1
    | succ j =>
      have := startB_no _ _ j c (by simpa [startM] using e)
      rw [ow.is] at this; cases this
  · by_cases ng : i = g
    · subst ng
      rw [show ((startM (objB C q e0 st) N.length ds).set i (B.tab TL))[i]? = some (.tab TL) from atg] at e1'
      cases e1'
      cases o1 with
      | tab t' =>
        obtain ⟨p, hp, rfl⟩ := List.mem_map.mp hy
        obtain ⟨ps', h1, _⟩ := hT p hp
        exact .inr (.inr ⟨ps', h1⟩)
    · by_cases n0 : i = 0
      · subst n0
        have := at0 b e1'
        subst this
        have eL : L = L0 := by
          have : v = .ref q := by cases o1; rfl
          subst this
          exact o1.det o
        exact .inr (.inl (by rw [← eL]; exact hy))
      · have := oth i b e1' n0 ng
        rw [o1.is] at this; cases this
  · exact fin ρ σ H' _ ⟨_, S'⟩ (by have := z.1; simp only at this; rw [this]; exact .non) z.2
  · exact fin ρ σ H' v S' (by have := z.1; simp only at this; rw [← this]; exact rp) z.2
theorem pss_lock {X : Cx} {sts : List Stmt} {t : TS} (h : PSs X sts t) : PSs X sts (fun D σ H => t D σ H ∨ ∃ a u, H a = some u ∧ Mut (some u) ∧ ∀ od, t D σ (upd H a (.frz od u))) := ⟨fun pins s σ H D I q => by
  rcases q with q | ⟨a, u, hu, mu, q⟩
  · exact h.run pins s σ H D I q
  · obtain ⟨od, I2⟩ := I.lock hu mu
    exact h.run pins s σ _ D I2 (q od)⟩
theorem fn_DT {m : D → Option D} (g : Nat) (F : FunD K x qual params body scope [] kws f fd) (hcd : fd.code = .ref c) (Sc : FnScope N [y] scope) {z : Str} (hg : N[g]? = some z) (nv : ¬ Vis scope z)
    (h : ∀ (a : D) (A : Around) (outer : List Env) (sh : Shared) (H : Hp) (E : XK), Room k (A.deeper (envOfC qual scope sh.heap.objs.size f (.ref c))) → So (cxOf CX0 P w K mg base N qual scope f (.ref c) A outer sh H E).nox body ((startB N.length [a]).set g (.tab TL)) FnDTΦ (m a)) :
    FnOk P w K mg base CX0 (k + 1) f fd [y] (SpDT K TL m) := by
  refine FunD.okC F hcd Sc (fun vs H Q E ⟨a, xs, ds, d, e, _⟩ => by rw [e]; rfl) (fun A outer s H vs Q E hr ⟨a, xs, ds, d, e, hs, rx, hm, hT, hq⟩ => ?_)
  subst e
  have lg : g < N.length := by
    rcases Nat.lt_or_ge g N.length with h | h
    · exact h
    · rw [List.getElem?_eq_none h] at hg; cases hg
  have lρ : (startB N.length [PyData.list ds]).length = N.length := by unfold startB; simp; omega
  have atg : ((startB N.length [PyData.list ds]).set g (.tab TL))[g]? = some (.tab TL) := List.getElem?_set_self (by omega)
  have oth : ∀ (i : Nat) b, ((startB N.length [PyData.list ds]).set g (.tab TL))[i]? = some b → i ≠ g → isOwn b = false := fun i b e n2 => by
    rw [List.getElem?_set_ne (Ne.symm n2)] at e
    exact startB_no _ _ i b e
  refine ⟨_, pss_lock (pss_ghost (some .non) hg nv (PSs.nox pss_c)), ?_⟩
  have core : ∀ H2 : Hp, FzL K H2 a xs → LamX.Tabs TL H2 → cSs (cxOf CX0 P w K mg base N qual scope f (.ref c) A outer s H E).nox body { nx := fun _ H' => Q .non H', rt := Q } ((L2.start N [.ref a]).set g (some .non)) H2 := fun H2 hz hT2 => by
    refine h (.list ds) A outer s H E hr _ hm ⟨H2, fun y => ∃ ps, H2 y = some (.tbl ps)⟩ H2 _ H2 _ ⟨fun _ _ e _ => e, .refl _, (sok_start (.cons (.lst hz (rx H2)) .nil)).take (by omega) (.tab hT2) (fun j c w M x n e es ow m z => ?_), fun i b v L y e1' es o1 hy => ?_, fun i T e1' b ps e => ⟨ps, e⟩⟩ ⟨fun ρ σ H' S' z => hq _ H' (by rw [show d = .none from z]; exact .non), fun d' v ρ σ H' S' rp z => hq v H' (by rw [← show d' = d from z]; exact rp), fun _ _ _ _ z => z.elim, fun _ _ _ _ z => z.elim, fun _ _ _ _ _ _ z => z.elim⟩
    · have := startB_no _ _ j c e
      rw [ow.is] at this; cases this
    · by_cases ng : i = g
      · subst ng
        rw [atg] at e1'
        cases e1'
        cases o1 with
        | tab t' =>
          obtain ⟨p, hp, rfl⟩ := List.mem_map.mp hy
          obtain ⟨ps', h1, _⟩ := hT2 p hp
          exact .inr ⟨ps', h1⟩
      · have := oth i b e1' ng
        rw [o1.is] at this; cases this
  rcases hs with (hl | ⟨o, hf⟩) | hk
  · refine .inr ⟨a, _, hl, trivial, fun od => core _ (.inl ⟨od, upd_same⟩) ?_⟩
    intro p hp
    obtain ⟨ps, h1, h2, h3⟩ := hT p hp
    refine ⟨ps, by rw [upd_ne (fun z => by rw [z, hl] at h1; cases h1)]; exact h1, h2, fun pos cv hc => ?_⟩
    obtain ⟨c0, e1, e2⟩ := h3 pos cv hc
    exact ⟨c0, e1, by rw [upd_ne (fun z => by rw [z, hl] at e2; cases e2)]; exact e2⟩
  · exact .inl (core H (.inl ⟨o, hf⟩) hT)
  · exact .inl (core H (.inr hk) hT)
end
/-! ### a call of such a def -/
section
variable {X : Cx} {ρ : Rho} {es : List Expr} {U : Type} {p pos : Pos} {s : String} {i : Nat} {C q : Addr} {kk : Nat} {TL : TabL}
theorem em_fnT {enc : U → Rho} {e0 : U → FL} {m : U → List D → Option (D × U)} {fn : String} {p2 : Pos} (j : Nat) (st : U) (M : Fr X.prog X.w X.K X.mg X.base fn kk (SpMT X.K C TL e0 m)) (hr : Room kk X.A) (hs : Sl X.N s i) {r : Option (List D)} (ha : Ao X es ρ r) (one : ∀ (i : Nat) T', ρ[i]? = some (.tab T') → i = j) (hj : ρ[j]? = some (.tab TL) := by rfl) (h : ρ[i]? = some (.obj (some C) q (e0 st)) := by rfl) (henc : ∀ t, enc t = ρ.set i (.obj (some C) q (e0 t)) := by intro _; rfl) (hv : Vis X.env.scope (Str.ofString s) := by first | exact Or.inl rfl | exact Or.inr (Or.inl rfl) | exact Or.inr (Or.inr rfl))
    (hg : Gl X (Str.ofString fn) := by rfl) (hdb : (Str.ofString fn == ("__debug__" : Str)) = false := by decide) (hst : starEach (.Name (Str.ofString s) p2 :: es) X.env = (false, eval (.Name (Str.ofString s) p2) X.env) :: starEach es X.env := by rfl) (hpl : (backTo pos (starEach es X.env)).any (·.1) = false := by rfl) :
    Em X (.Call (.Name (Str.ofString fn) p) (.Name (Str.ofString s) p2 :: es) [] pos) ρ enc (bnd r (m st)) := fun r' z => by
  obtain ⟨ds, z1, z2⟩ := bnd_inv z
  intro H0 H1 σ H Q Sk q'
  obtain ⟨f, fd, ps, F, hm, hk, hb⟩ := M.h
  obtain ⟨dx, vs, L, e1, e2, e3, e4⟩ := Sk.ok.ins h
  refine ⟨_, pe_call F hr hg hm hk hb .nil pass0 (pa_cons (pe_var hs.h hv hs.d hs.c) pa_c hst) hdb hst hpl, _, e1, ha ds z1 σ H _ Sk.ok fun us H2 s2 r2 => ?_⟩
  show SpMT X.K C TL e0 m ((V.ref q :: us) ++ []) H2 Q E0
  rw [List.append_nil]
  have o2 : Own X.K H2 (.ref q) (.obj (some C) q (e0 st)) (q :: L) := .ins (s2 _ _ e2) (e3.mono (.of s2) fun y _ o ho => s2 y o ho) e4
  obtain ⟨v0, L0, y1, y2⟩ := (Sk.mono s2).ok.has j _ hj rfl
  have hT : LamX.Tabs TL H2 := by cases y2; assumption
  exact ⟨_, us, st, ds, r'.1, r'.2, _, rfl, o2, r2, z2, hT, fun v H' L1 st' kp t' o1 hL rp => q' v H' (by rw [henc]; exact (Sk.mono s2).chgTM h e1 o2 hj one (fun _ z => by cases z) st' kp t' o1 hL (fun _ z => by cases z)) ((Stb.of s2).trans st') rp⟩
end
/-! ### the defs that call what they get, from their facts -/
section
variable {K : PySem.W.Frag} {mg : Str → Option Value} {f CS : Addr} {fd : FuncData} {params : Arguments} {sg : Scope} {s : String} {e : Str}
theorem lr_of {body : List Stmt} {TT : TTT} {a : Str} {Ng : List Str} (F : FunD K (Str.ofString s) (Str.ofString s) params body sg [] [] f fd) (hm : mg (Str.ofString s) = some (.ref f)) (b : Binds K fd [a] []) (Sc : FnScope Ng [a] sg) (hN : Ng[0]? = some a) (hv : Vis sg a) (h1 : (a == ("__debug__" : Str)) = false) (h2 : (a == ("__classdict__" : Str)) = false) (h3 : (Str.ofString s == ("__debug__" : Str)) = false) (G : ∀ (X : Cx) (g : Addr) (cdv : Value) (q : Str), X.K = K → X.mg = mg → LamX.GivesTo X Ng (Str.ofString s) sg g cdv body a q TT) : Lr K mg s TT := by
  obtain ⟨oc, od, dV, kV, doc, pm, an, cdv, ct, osl, rfl, lk, hcd, _, _⟩ := F.ex
  exact ⟨f, params, body, sg, dV, kV, doc, pm, cdv, ct, oc, an, od, osl, a, Ng, hm, F.kp, lk, hcd, b, Sc, hN, hv, h1, h2, h3, fun X e1 e2 q => G X f cdv q e1 e2⟩
theorem lr_twice {j1 j2 j3 k1 k2 : Nat} {p1 p2 p3 p4 p5 p6 p7 p8 p9 pa pb pc pd pe pf pg : Pos} (F : FunD K (Str.ofString s) (Str.ofString s) params [.Try [.Assign [.Name "found" p1] (.Tuple [.Constant (.str "told") j1 p2, .Call (.Name "deed" p3) [] [] p4] k1 p5) p6] [.ExceptHandler (some (.Name e p7)) none [.Assign [.Name "found" p8] (.Tuple [.Constant (.str "refused") j2 p9, .Constant .none j3 pa] k2 pb) pc] pd] [] [] pe, .Return (some (.Name "found" pf)) pg] sg [] [] f fd)
    (hm : mg (Str.ofString s) = some (.ref f)) (b : Binds K fd ["deed"] []) (Sc : FnScope ["deed", "found"] ["deed"] sg) (hme : mg e = some (.ref CS)) (hge : sg.names.lookup e = some .globalImplicit) (hde : (e == ("__debug__" : Str)) = false) (hlf : sg.names.lookup ("found" : Str) = some .local) (hv : Vis sg "deed") (h3 : (Str.ofString s == ("__debug__" : Str)) = false) : Lr K mg s (TTw K CS) :=
  lr_of F hm b Sc rfl hv (by decide) (by decide) h3 fun X g cdv q e1 e2 => by subst e1; subst e2; exact twice_gives hge hme hde hlf
theorem lr_try {j1 j2 : Nat} {p1 p2 p3 p4 p5 p6 p7 p8 p9 pa pd pe pf pg : Pos} (F : FunD K (Str.ofString s) (Str.ofString s) params [.Try [.Expr (.Call (.Name "deed" p1) [] [] p2) p3, .Assign [.Name "found" p4] (.Constant (.bool true) j1 p5) p6] [.ExceptHandler (some (.Name e p7)) none [.Assign [.Name "found" p8] (.Constant (.bool false) j2 p9) pa] pd] [] [] pe, .Return (some (.Name "found" pf)) pg] sg [] [] f fd)
    (hm : mg (Str.ofString s) = some (.ref f)) (b : Binds K fd ["deed"] []) (Sc : FnScope ["deed", "found"] ["deed"] sg) (hme : mg e = some (.ref CS)) (hge : sg.names.lookup e = some .globalImplicit) (hde : (e == ("__debug__" : Str)) = false) (hlf : sg.names.lookup ("found" : Str) = some .local) (hv : Vis sg "deed") (h3 : (Str.ofString s == ("__debug__" : Str)) = false) : Lr K mg s (TTb K CS) :=
  lr_of F hm b Sc rfl hv (by decide) (by decide) h3 fun X g cdv q e1 e2 => by subst e1; subst e2; exact try_gives hge hme hde hlf
end
end DL


namespace DL
open PySem PySem.Spec PyProof.Rows L2
/-! ### is, of truths and None -/
def isV : D → D → Option Bool
  | .bool a, .bool b => some (decide (a = b))
  | x, .none => some (match x with | .none => true | _ => false)
  | _, _ => none
def isnV : D → D → Option Bool
  | .bool a, .bool b => some (!decide (a = b))
  | x, .none => some (match x with | .none => false | _ => true)
  | _, _ => none
theorem cm_is {X : Cx} : CmF X (compareOp .Is) isV := fun x y b h => by
  unfold isV at h
  split at h
  · rename_i a c
    cases h
    intro H v w Q rv rw q
    have e1 := rv.bl
    have e2 := rw.bl
    subst e1 e2
    exact ⟨_, op_is_bl, a, c, rfl, rfl, q _ _ ⟨.refl _, .bl _⟩⟩
  · cases h
    intro H v w Q rv rw q
    have e2 := rw.non
    subst e2
    refine ⟨_, op_isN, rfl, q _ _ ⟨.refl _, ?_⟩⟩
    have := rv.is_non
    cases x <;> simp at this <;> simp [this] <;> exact .bl _
  · cases h
theorem cm_isn {X : Cx} : CmF X (compareOp .IsNot) isnV := fun x y b h => by
  unfold isnV at h
  split at h
  · rename_i a c
    cases h
    intro H v w Q rv rw q
    have e1 := rv.bl
    have e2 := rw.bl
    subst e1 e2
    exact ⟨_, op_isnot_bl, a, c, rfl, rfl, q _ _ ⟨.refl _, .bl _⟩⟩
  · cases h
    intro H v w Q rv rw q
    have e2 := rw.non
    subst e2
    refine ⟨_, op_notN, rfl, q _ _ ⟨.refl _, ?_⟩⟩
    have := rv.is_non
    cases x <;> simp at this <;> simp [this] <;> exact .bl _
  · cases h
theorem xM_none {S : Type} {c : S → List D → Option Bool} {m : S → List D → Option (D × S)} {s t : S} {ds : List D} (h : xM c m s ds = some (none, t)) : t = s := by
  obtain ⟨b, _, z⟩ := bnd_inv h
  cases b with
  | true => cases z; rfl
  | false =>
    obtain ⟨r, _, z⟩ := bnd_inv z
    cases z
/-- no other tables -/
theorem one_tab {ρ : Rho} {j : Nat} (h : ∀ (i : Nat), i ≠ j → ∀ T, ρ[i]? ≠ some (.tab T)) : ∀ (i : Nat) T', ρ[i]? = some (.tab T') → i = j := fun i T' e => by
  by_cases n : i = j
  · exact n
  · exact absurd e (h i n T')
def isTab : B → Bool
  | .tab _ => true
  | _ => false
theorem one_by {ρ : Rho} {j : Nat} (h : ∀ (i : Nat) b, ρ[i]? = some b → isTab b = true → i = j) : ∀ (i : Nat) T', ρ[i]? = some (.tab T') → i = j := fun i T' e => h i _ e rfl
def noTabs : Rho → Bool
  | [] => true
  | b :: r => !isTab b && noTabs r
theorem noTabs_no : ∀ {ρ : Rho}, noTabs ρ = true → ∀ (i : Nat) T, ρ[i]? ≠ some (.tab T)
  | [], _, i, T, e => by simp at e
  | b :: r, h, 0, T, e => by
    simp at e; subst e; simp [noTabs, isTab] at h
  | b :: r, h, i + 1, T, e => by
    simp only [noTabs, Bool.and_eq_true] at h
    exact noTabs_no h.2 i T (by simpa using e)
/-- the tables' slot is the last one -/
theorem one_last {ρ : Rho} {TL : TabL} (h : noTabs ρ = true) : ∀ (i : Nat) T', (ρ ++ [.tab TL])[i]? = some (.tab T') → i = ρ.length := fun i T' e => by
  by_cases hl : i < ρ.length
  · rw [List.getElem?_append_left hl] at e
    exact absurd e (noTabs_no h i T')
  · by_cases h2 : i = ρ.length
    · exact h2
    · rw [List.getElem?_eq_none (by simp; omega)] at e; cases e
/-- x, y = C(), C() -/
theorem mk_runs {X : Cx} {C : Addr} {T : Type} {e1 : T → FL} {m : Unit → Option (D × T)} {u : D × T} (z1 : m () = some u) (hu : u.1 = .none) {σ : L2.St} {H : Hp} {Q : VK} (q : ∀ y H' L1, Same H H' → (∀ x ∈ L1, H x = none) → Own X.K H' (.ref y) (.obj (some C) y (e1 u.2)) L1 → Q (.ref y) H') {E : XK} : tMake C (SpM X.K C (fun _ : Unit => []) e1 (a0 m)) [] E tNil σ H Q := fun y dx hy hdx ne => by
  have own0 : Own X.K (upd (upd H dx (.own y)) y (.ins C dx [])) (.ref y) (.obj (some C) y []) [y] := .ins upd_same .nil (by simp)
  refine ⟨y, [], (), [], u.1, u.2, [y], rfl, own0, .nil, z1, fun v H' L1 st kp o1 hL rp => ⟨?_, q y H' L1 (fun b o hb => ?_) (fun b hb => ?_) o1⟩⟩
  · rw [hu] at rp; exact (Rq.of rp).non
  · have b1 : b ≠ y := fun t => by rw [t, hy] at hb; cases hb
    have b2 : b ≠ dx := fun t => by rw [t, hdx] at hb; cases hb
    exact kp b o (by rw [upd_ne b1, upd_ne b2]; exact hb) (by simpa using b1)
  · rcases hL b hb with t | t
    · simp at t; rw [t]; exact hy
    · by_cases b1 : b = y
      · rw [b1]; exact hy
      · rw [upd_ne b1] at t
        by_cases b2 : b = dx
        · rw [b2]; exact hdx
        · rw [upd_ne b2] at t; exact t
theorem so_make2 {R : Type} {X : Cx} {ρ : Rho} {Φ : R → DL.Fin} {rest : List Stmt} {pos px py pt pt2 p1 p2 p3 p4 : Pos} {kt k2 : Nat} {x y : Str} (i j : Nat) {cn : String} {C fi : Addr} {kk : Nat} {fd : FuncData} {ps : List Str} {T : Type} {e1 : T → FL} {m : Unit → Option (D × T)} {G : D × T → D × T → Option R} (hN : X.N.Nodup) (M : Mk X.K C fi) (F : FnOk X.prog X.w X.K X.mg X.base CX0 kk fi fd ps (SpM X.K C (fun _ : Unit => []) e1 (a0 m))) (hbd : Binds X.K fd ps []) (hr : Room (kk + 1) X.A) (hm : X.mg (Str.ofString cn) = some (.ref C)) (hnon : ∀ r, m () = some r → r.1 = .none)
    (h : ∀ (q q' : Addr) (t t' : D × T), So X rest ((ρ.set i (.obj (some C) q (e1 t.2))).set j (.obj (some C) q' (e1 t'.2))) Φ (G t t')) (hij : i ≠ j := by decide) (hi : X.N[i]? = some x := by rfl) (hj : X.N[j]? = some y := by rfl) (hx : X.env.scope.names.lookup x = some .local := by rfl) (hy : X.env.scope.names.lookup y = some .local := by rfl) (hc : X.calm = true := by rfl)
    (hg : Gl X (Str.ofString cn) := by rfl) (hdb : (Str.ofString cn == ("__debug__" : Str)) = false := by decide)
    (hw : swappedStores [.Tuple [.Name x px, .Name y py] kt pt] (.Tuple [.Call (.Name (Str.ofString cn) p1) [] [] p2, .Call (.Name (Str.ofString cn) p3) [] [] p4] k2 pt2) X.env = pure (some [x, y]) := by rfl) (hs : swapsWithSole [.Tuple [.Name x px, .Name y py] kt pt] (.Tuple [.Call (.Name (Str.ofString cn) p1) [] [] p2, .Call (.Name (Str.ofString cn) p3) [] [] p4] k2 pt2) pos.line X.env = pure false := by rfl) :
    So X (.Assign [.Tuple [.Name x px, .Name y py] kt pt] (.Tuple [.Call (.Name (Str.ofString cn) p1) [] [] p2, .Call (.Name (Str.ofString cn) p3) [] [] p4] k2 pt2) pos :: rest) ρ Φ (bnd (m ()) fun a => bnd (m ()) fun b => G a b) := fun r z => by
  obtain ⟨u, z1, z⟩ := bnd_inv z
  obtain ⟨u', z2, z⟩ := bnd_inv z
  refine xs_cons fun H0 H1 σ H E Sk Fn => ⟨_, ps_par hc hN hi hj hij hx hy (pa_cons (pe_make0 M F hr hg hm hbd .nil pass0 hdb) (pa_cons (pe_make0 M F hr hg hm hbd .nil pass0 hdb) pa_nil)) hw hs, ?_⟩
  unfold tPar tCons
  refine mk_runs (X := X) (σ := σ) (C := C) (e1 := e1) (H := H) z1 (hnon u z1) fun q Ha La sa fa oa => ?_
  refine mk_runs (X := X) (σ := σ) (C := C) (e1 := e1) (H := Ha) z2 (hnon u' z2) fun q' Hb Lb sb fb ob => ?_
  exact ⟨_, _, rfl, Fn.nx _ _ _ ((Sk.setNew sa fa oa).setNew sb fb ob) (h q q' u u' r z)⟩
/-! ### the head -/
abbrev lamN (n : Str) : Str := n ++ ".<locals>." ++ "<lambda>"
theorem notVis {sc : Scope} {x : Str} (h : sc.names.lookup x = none) : ¬ Vis sc x := fun v => by
  rcases v with v | v | v <;> (rw [h] at v; cases v)
theorem code_of {K : PySem.W.Frag} {x q : Str} {ps : Arguments} {b : List Stmt} {sc : Scope} {dvs : List V} {kws : List (Str × V)} {p : Str × Option Str} {fd : FuncData} (F : FunD K x q ps b sc dvs kws (He.fAd K p) fd) : fd.code = .ref (He.codeOf K p) := by
  obtain ⟨oc, od, dV, kV, doc, pm, an, cdv, ct, osl, e, lk, hcd, _, _⟩ := F.ex
  obtain ⟨c, hc⟩ := He.codeIn_ref hcd
  have e2 : fd.code = .ref c := by rw [e, ← hc]
  rw [e2, He.codeOf_eq lk e2]
def tlOf (K : PySem.W.Frag) (tf : List He.Defn) : TabL := tf.map fun p => ((He.cT K p).2, lamN p.1)
theorem tabs_tl {K : PySem.W.Frag} {tf : List He.Defn} {H : Hp} (h : ∀ p ∈ tf.map (He.cT K), H p.2 = some (.tbl #[])) : LamX.Tabs (tlOf K tf) H := fun p hp => by
  obtain ⟨d, hd, rfl⟩ := List.mem_map.mp hp
  exact LamX.TabS.nil (h _ (List.mem_map_of_mem hd))
theorem law_inT {K : PySem.W.Frag} {TL : TabL} {H : Hp} {a : Addr} {ns : List Int} {m : D → Option D} {E : XK} (hT : LamX.Tabs TL H) (hS : SqL K H a (ns.map V.int)) (hm : m (.list (ns.map .int)) = some (.bool true)) : SpDT K TL m [.ref a] H (fun v _ => v = .bl true) E :=
  ⟨a, _, _, _, rfl, hS, fun H => by
    clear hS hm
    induction ns with
    | nil => exact .nil
    | cons n ns ih => exact .cons (.int n) ih, hm, hT, fun v H' r => (Rq.of r).bl⟩
end DL


namespace DL
open PySem PySem.Spec PyProof.Rows L2
/-! ### list.remove of a text -/
def eqs (k : Str) (v : Value) : Bool := match v with
  | .str n _ => n == k
  | _ => false
theorem eqs_gives {k : Str} {t : Tok} : ∀ {ns : List Str} {us : List Value}, Vals (ns.map V.str) us → ∀ y ∈ us, MeetsSeq.EqGives y (.str k t) (eqs k y)
  | [], _, h => fun y hy => by cases h; cases hy
  | n :: ns, _, h => fun y hy => by
    cases h with
    | cons r h =>
      obtain ⟨tk, rfl⟩ := r
      rcases List.mem_cons.mp hy with e | e
      · rw [e]
        exact fun prog w A E s Q hq => SeqAt.EqAt.str_str n tk k t prog w E Q hq
      · exact eqs_gives h y e
theorem eqs_at (k : Str) : ∀ {ns : List Str} {us : List Value}, Vals (ns.map V.str) us → ∀ (i : Nat) (h : i < us.length), eqs k us[i] = true ↔ ns[i]? = some k
  | [], _, h, i, hi => by cases h; simp at hi
  | n :: ns, _, h, i, hi => by
    cases h with
    | cons r h =>
      obtain ⟨tk, rfl⟩ := r
      cases i with
      | zero =>
        show (n == k) = true ↔ some n = some k
        rw [beq_iff_eq, Option.some_inj]
      | succ i =>
        have := eqs_at k h i (Nat.lt_of_succ_lt_succ hi)
        simpa using this
theorem first_str : ∀ {ns : List Str} {k : Str}, k ∈ ns → ∃ j, j < ns.length ∧ ns[j]? = some k ∧ (∀ i, i < j → ns[i]? ≠ some k) ∧ ns.eraseIdx j = ns.erase k
  | [], k, h => absurd h (by simp)
  | a :: r, k, h => by
    by_cases e : a = k
    · exact ⟨0, Nat.succ_pos _, by rw [e]; rfl, fun i hi => absurd hi (Nat.not_lt_zero _), by rw [e, List.erase_cons_head]; rfl⟩
    · have hr : k ∈ r := by
        rcases List.mem_cons.mp h with z | z
        · exact absurd z.symm e
        · exact z
      obtain ⟨j, h1, h2, h3, h4⟩ := first_str hr
      refine ⟨j + 1, Nat.succ_lt_succ h1, h2, fun i hi => ?_, ?_⟩
      · cases i with
        | zero =>
          intro z
          exact e (Option.some.inj z)
        | succ i => exact h3 i (Nat.lt_of_succ_lt_succ hi)
      · rw [List.erase_cons_tail (by rw [beq_iff_eq]; exact e), ← h4]; rfl
theorem erase_mapS : ∀ (l : List Str) (j : Nat), (l.map V.str).eraseIdx j = (l.eraseIdx j).map V.str
  | [], j => by simp
  | a :: r, 0 => by simp
  | a :: r, j + 1 => by
    have ih := erase_mapS r j
    simp [ih]
def rRemS : V → List V → Hp → VK → Prop := fun x xs H Q => ∃ (l : Addr) (ns : List Str) (k : Str), x = .ref l ∧ xs = [.str k] ∧ H l = some (.lst (ns.map V.str)) ∧ k ∈ ns ∧ Q .non (upd H l (.lst ((ns.erase k).map V.str)))
theorem mt_removeS {X : Cx} : MtM X "list.remove" rRemS := by
  intro pins s σ H x xs v us Q I rx rxs h
  obtain ⟨l, ns, k, rfl, rfl, hH, hk, q⟩ := h
  cases rx
  obtain ⟨u, rfl, ru⟩ := rxs.one
  obtain ⟨t, rfl⟩ := ru
  obtain ⟨z, its, n, r, hl, e⟩ := I.lstM hH
  have z' : ns.length ≤ sizeLine := by simpa using z
  have hl' : ns.length = its.length := by simpa using hl
  obtain ⟨j, j1, j2, j3, j4⟩ := first_str hk
  have hj : j < its.length := by omega
  refine call_meets PySem.F.slot_list_remove ⟨_, e, rfl⟩ PySem.F.entry_list_remove (PySem.F.args_list_remove_2 _ _)
    (MeetsSeq.list_remove l its.toArray n (.str k t) (eqs k) (fun y hy => eqs_gives r y (by simpa using hy)) j (by rw [List.size_toArray]; exact hj) ?hit (fun i hi2 hlt => ?hno) (by rw [List.size_toArray]; omega)) ⟨e, ?_⟩
  case hit =>
    show eqs k its[j] = true
    exact (eqs_at k r j hj).mpr j2
  case hno =>
    have hi3 : i < its.length := by rw [List.size_toArray] at hi2; exact hi2
    show eqs k its[i] = false
    rw [Bool.eq_false_iff]
    intro w
    exact j3 i hlt ((eqs_at k r i hi3).mp w)
  · have rr := r.eraseIdx j
    rw [erase_mapS, j4] at rr
    refine ⟨.non, _, I.lset (its' := its.eraseIdx j) (t' := s.toks) hH e ?_ rr ?_, rfl, q⟩
    · show its.toArray.eraseIdxIfInBounds j = (its.eraseIdx j).toArray
      rw [List.eraseIdxIfInBounds_toArray]
    · have := List.length_erase_le (a := k) (l := ns)
      rw [List.length_map]
      omega
def rmL (ds : List D) : D → Option (List D)
  | .str x => bnd (allStr ds) fun l => if x ∈ l then some ((l.erase x).map .str) else none
  | _ => none
section
variable {R : Type} {X : Cx} {ρ : Rho} {Φ : R → DL.Fin} {e : Expr} {rest : List Stmt} {pos : Pos} {f : Option D}
theorem so_remove (j : Nat) {y : String} {p2 apos cpos : Pos} {ds : List D} {G : List D → Option R} (hsl : Sl X.N y j) (hj : ρ[j]? = some (.own ds)) (hv : Vis X.env.scope (Str.ofString y)) (he : Eo X e ρ f) (h : ∀ d, So X rest (ρ.set j (.own d)) Φ (G d)) (hbase : attributeBase (.Name (Str.ofString y) p2) "remove" X.env (eval (.Name (Str.ofString y) p2) X.env) = eval (.Name (Str.ofString y) p2) X.env := by rfl)
    (hfew : ((backTo cpos (starEach [e] X.env)).all (fun x => !x.1) && (backToKw cpos (keywordEach [] X.env)).all (fun x => x.1.isSome)
      && decide ([e].length + ([] : List Keyword).length + (if ([] : List Keyword).isEmpty then 0 else 1) < 30)) = true := by rfl)
    (hline : (apos.endLine == cpos.line) = true := by rfl) (hs : starEach [e] X.env = (false, eval e X.env) :: starEach [] X.env := by rfl) (hplain : (backTo cpos (starEach [] X.env)).any (·.1) = false := by rfl)
    (hsw : swapsWith (.Call (.Attribute (.Name (Str.ofString y) p2) "remove" apos) [e] [] cpos) none pos.line X.env = pure false := by rfl) :
    So X (.Expr (.Call (.Attribute (.Name (Str.ofString y) p2) "remove" apos) [e] [] cpos) pos :: rest) ρ Φ (bnd (op1 (rmL ds) f) G) := fun r q => by
  obtain ⟨l, q1, qG⟩ := bnd_inv q
  clear q
  obtain ⟨d, q1', q2⟩ := bnd_inv q1
  clear q1
  unfold rmL at q2
  split at q2
  · rename_i z
    obtain ⟨ns, q3, q4⟩ := bnd_inv q2
    split at q4
    · rename_i hm
      cases q4
      have el := allStr_inv q3
      subst el
      refine xs_cons fun H0 H1 σ H E S F => ?_
      obtain ⟨a, xs, e1, e2, r'⟩ := S.ok.own j _ hj
      have ex := rp_strs' r'
      subst ex
      refine ⟨_, ps_expr (pe_bm PySem.F.plainAttrs_list PySem.F.slot_list_remove PySem.F.type_list_remove mt_removeS (pe_var hsl.h hv hsl.d hsl.c) (pa_cons pe_c pa_nil hs) hbase hfew hline hs hplain) hsw, _, e1, .inl ⟨rfl, _, .of e2⟩, he _ q1' σ H _ S.ok fun v H2 ⟨s2, r2⟩ => ?_⟩
      have ev := (Rq.of r2).str
      subst ev
      refine ⟨a, ns, z, rfl, rfl, s2 _ _ e2, hm, F.nx _ _ _ ((S.mono s2).write hj e1 (.own (s2 _ _ e2) (r'.mono (.of s2))) (s2 _ _ e2) trivial ?_) (h _ r qG)⟩
      exact .own upd_same (rp_strs _)
    · cases q4
  · cases q2
end
/-! ### f(o), which only reads it -/
section
variable {X : Cx} {ρ : Rho} {U : Type} {p pos : Pos} {s : String} {i : Nat} {C q : Addr} {kk : Nat}
theorem eo_fnR {e0 : U → FL} {m : U → Option D} {fn : String} {p2 : Pos} (st : U) (M : Fr X.prog X.w X.K X.mg X.base fn kk (SpR X.K C e0 (a0 m))) (hr : Room kk X.A) (hs : Sl X.N s i) (h : ρ[i]? = some (.obj (some C) q (e0 st)) := by rfl) (hv : Vis X.env.scope (Str.ofString s) := by first | exact Or.inl rfl | exact Or.inr (Or.inl rfl) | exact Or.inr (Or.inr rfl))
    (hg : Gl X (Str.ofString fn) := by rfl) (hdb : (Str.ofString fn == ("__debug__" : Str)) = false := by decide) (hst : starEach [.Name (Str.ofString s) p2] X.env = (false, eval (.Name (Str.ofString s) p2) X.env) :: starEach [] X.env := by rfl) (hpl : (backTo pos (starEach [] X.env)).any (·.1) = false := by rfl) :
    Eo X (.Call (.Name (Str.ofString fn) p) [.Name (Str.ofString s) p2] [] pos) ρ (m st) := fun d z σ H Q Sk q' => by
  obtain ⟨f, fd, ps, F, hm, hk, hb⟩ := M.h
  obtain ⟨dx, vs, L, e1, e2, e3, e4⟩ := Sk.ins h
  refine ⟨_, pe_call F hr hg hm hk hb .nil pass0 (pa_cons (pe_var hs.h hv hs.d hs.c) pa_nil hst) hdb hst hpl, _, e1, ?_⟩
  exact ⟨_, [], st, [], d, _, rfl, .ins e2 e3 e4, .nil, z, fun v H' s' r' => q' v H' ⟨s', r'⟩⟩
end
end DL


/-! A dict of one's own that has None among its keys. -/
namespace DL
open PySem PySem.Spec PyProof.Rows L2
/-- the pairs at its other keys; what stands at None -/
abbrev NBk := List (D × D) × D
def lookN (b : NBk) : D → Option D
  | .none => some b.2
  | k => bnd (kd k) (lookD b.1)
abbrev NDict (P : Program) (w : World) (a : Addr) (VS : List (Option Key × Value)) (h : Heap) : Prop := h.DictOf (noneKind P w) a VS
def optKV : Option Key → V
  | none => .non
  | some k => kV k
theorem optKV_is {P : Program} {w : World} {k : Option Key} {u : Value} (r : RelV (optKV k) u) : (noneKind P w).is k u = true := by
  cases k with
  | none => cases (show u = Value.none from r); rfl
  | some k => exact kV_is (P := P) (w := w) r
theorem dictOf_none {P : Program} {w : World} {h : Heap} {a : Addr} {vs : List (Key × Value)} (d : h.DictOf (mixKind P w) a vs) : h.DictOf (noneKind P w) a (vs.map fun p => (some p.1, p.2)) := by
  obtain ⟨o, es, ep, ho, hx, hdt, hk, hp, hn⟩ := d
  refine ⟨o, es, ep, ho, hx, hdt, fun e he => ?_, ?_, ?_⟩
  · obtain ⟨k, h1, h2⟩ := hk e he
    exact ⟨some k, h1, h2⟩
  · clear hk hn hdt
    generalize es.toList = l at hp
    induction hp with
    | nil => exact .nil
    | cons h1 h2 _ ih => exact .cons h1 h2 ih
  · rw [List.map_map]
    have e : (vs.map ((fun x : Option Key × Value => x.1) ∘ fun p : Key × Value => (some p.1, p.2))) = (vs.map (·.1)).map some := by rw [List.map_map]; rfl
    rw [e, List.Nodup, List.pairwise_map]
    exact hn.imp fun {a b} z e => z (Option.some.inj e)
theorem valueAt_some (vs : List (Key × Value)) (u : Value) (k : Key) : valueAt ((vs.map fun p => ((some p.1 : Option Key), p.2)) ++ [(none, u)]) (some k) = valueAt vs k := by
  unfold valueAt
  have hn : (([(none, u)] : List (Option Key × Value)).find? fun kv => decide (kv.1 = some k)) = none := by simp
  rw [List.find?_append, hn, Option.or_none]
  induction vs with
  | nil => rfl
  | cons p vs ih =>
    by_cases c : p.1 = k
    · simp [List.find?_cons, c]
    · have c' : ¬ (some p.1 = some k) := fun z => c (Option.some.inj z)
      rw [List.map_cons, List.find?_cons, List.find?_cons, decide_eq_false c, decide_eq_false c']
      exact ih
theorem valueAt_none (vs : List (Key × Value)) (u : Value) : valueAt ((vs.map fun p => ((some p.1 : Option Key), p.2)) ++ [(none, u)]) none = some u := by
  unfold valueAt
  rw [List.find?_append]
  have : (vs.map fun p => ((some p.1 : Option Key), p.2)).find? (fun kv => decide (kv.1 = none)) = none := by
    rw [List.find?_eq_none]
    intro x hx
    obtain ⟨p, _, rfl⟩ := List.mem_map.mp hx
    simp
  rw [this]
  rfl
theorem stored_none (vs : List (Key × Value)) (u : Value) : stored (vs.map fun p => ((some p.1 : Option Key), p.2)) none u = (vs.map fun p => ((some p.1 : Option Key), p.2)) ++ [(none, u)] := by
  unfold stored
  rw [if_neg]
  intro h
  obtain ⟨x, hx, e⟩ := List.any_eq_true.mp h
  obtain ⟨p, _, rfl⟩ := List.mem_map.mp hx
  simp at e
/-! ### the slot -/
def GN (P : Program) (w : World) (a : Addr) (b : NBk) : PySem.W.Frag → Hp → V → Prop := fun K H v => v = .ref a ∧ ∃ (kvs : List (Key × V)) (vn : V) (vs : List (Key × Value)) (un : Value), H a = some (.ext (NDict P w a ((vs.map fun p => ((some p.1 : Option Key), p.2)) ++ [(none, un)]))) ∧
  KV kvs vs ∧ RelV vn un ∧ RpKV K H kvs b.1 ∧ Rp K H vn b.2 ∧ ∃ h : Heap, NDict P w a ((vs.map fun p => ((some p.1 : Option Key), p.2)) ++ [(none, un)]) h
theorem ndict_mut {P : Program} {w : World} {a : Addr} {VS : List (Option Key × Value)} (h : ∃ h : Heap, NDict P w a VS h) (b : Addr) : ¬ IsCode b (NDict P w a VS) := by
  rintro ⟨q, e⟩
  unfold LamX.CodeO at e
  injection e with e
  obtain ⟨h, hh⟩ := h
  -- a heap whose thing at a is the same, and where nothing else stands
  have hh0 := hh
  rw [e] at hh0
  obtain ⟨oc, vs, t, h1, h2, h3⟩ := hh0
  obtain ⟨o, es, ep, ho, hx, hdt, r⟩ := hh
  by_cases c : a = b
  · subst c
    rw [h1] at ho
    cases ho
    rw [h2] at hdt
    cases hdt
  · -- the code object hidden, the dict still stands
    obtain ⟨G, g1, g2⟩ := L2.restrict h (fun x => decide (x = a))
    have : NDict P w a VS G := ⟨o, es, ep, by rw [g1 a (by simp)]; exact ho, hx, hdt, r⟩
    rw [e] at this
    obtain ⟨oc', _, _, h1', _⟩ := this
    rw [g2 b (by simp; exact fun z => c z.symm)] at h1'
    cases h1'
section
variable {P : Program} {w : World} {K : PySem.W.Frag} {H H' : Hp}
theorem gN_ok {a : Addr} {b : NBk} {v : V} : GenOk K (GN P w a b) [a] v := ⟨fun H H' s k ⟨e, kvs, vn, vs, un, h, r1, r2, r3, r4, r5⟩ => ⟨e, kvs, vn, vs, un, k a (by simp) _ h, r1, r2, r3.mono s, r4.mono s, r5⟩, fun H ⟨e, kvs, vn, vs, un, h, r1, r2, r3, r4, r5⟩ x hx => by
  simp at hx
  rw [hx]
  exact ⟨_, h, ndict_mut r5, fun ps z => by cases z⟩⟩
theorem SOk.gN {ρ : Rho} {σ : L2.St} (S : SOk K ρ σ H) {i : Nat} {a : Addr} {b : NBk} (e : ρ[i]? = some (.gen (GN P w a b) [a])) : σ[i]? = some (some (.ref a)) ∧ GN P w a b K H (.ref a) := by
  obtain ⟨v, L, e1, o⟩ := S.has i _ e rfl
  cases o with
  | gen g _ =>
    obtain ⟨rfl, g'⟩ := g
    exact ⟨e1, rfl, g'⟩
end
/-! ### y[x] -/
section
variable {X : Cx} {ρ : Rho} {e a b : Expr} {pos : Pos} {f g : Option D}
def tNGet (P : Program) (w : World) (td ty : TE) : TE := fun σ H Q => td σ H fun x H1 => ty σ H1 fun y H2 => ∃ (a : Addr) (VS : List (Option Key × Value)) (k : Option Key) (v : V), x = .ref a ∧ H2 a = some (.ext (NDict P w a VS)) ∧ y = optKV k ∧ RelO (some v) (valueAt VS k) ∧ Q v H2
theorem pe_nget {td ty : TE} {o i : Expr} (ho : PE X o td) (hi : PE X i ty) (hs : NoSl i) : PE X (.Subscript o i pos) (tNGet X.prog X.w td ty) := by
  refine ⟨fun pins s σ H Q I h => ?_⟩
  refine subD_of PySem.F.slot_dict_getitem.lookup hs (thn (ho.run pins s σ H _ I h) fun u s1 ⟨x, H1, I1, rx, q1⟩ => thn (hi.run pins s1 σ H1 _ I1 q1) fun iv s2 ⟨y, H2, I2, ry, a, VS, k, v, ex, hx, ey, rv, q2⟩ => ?_)
  subst ex ey
  obtain rfl : u = Value.ref a := rx
  have dd : s2.heap.DictOf (noneKind X.prog X.w) a VS := (I2.hok a _ hx).1
  obtain ⟨w', hw, rw'⟩ := RelO.some_of rv
  exact ⟨dd.typeIs, wpAny_getItem_of (optKV_is ry) dd.mapOf hw ⟨v, H2, I2.tok _, rw', q2⟩⟩
theorem eo_nix {y : String} {j : Nat} {q : Addr} {bk : NBk} {p : Pos} (hsl : Sl X.N y j) (hb : Eo X b ρ f) (hj : ρ[j]? = some (.gen (GN X.prog X.w q bk) [q]) := by rfl) (hv : Vis X.env.scope (Str.ofString y) := by first | exact Or.inl rfl | exact Or.inr (Or.inl rfl) | exact Or.inr (Or.inr rfl)) (hn : NoSl b := by exact fun _ _ => rfl) : Eo X (.Subscript (.Name (Str.ofString y) p) b pos) ρ (op1 (lookN bk) f) := fun d z => by
  obtain ⟨x, z1, z2⟩ := bnd_inv z
  intro σ H Q S qk
  obtain ⟨e1, _, kvs, vn, vs, un, h1, r1, r2, r3, r4, _⟩ := S.gN hj
  refine ⟨_, pe_nget (pe_var hsl.h hv hsl.d hsl.c) pe_c hn, _, e1, hb x z1 σ H _ S fun v H2 ⟨s2, rx⟩ => ?_⟩
  have hx := s2 _ _ h1
  unfold lookN at z2
  split at z2
  · cases z2
    have := (Rq.of rx).non
    subst this
    refine ⟨q, _, none, vn, rfl, hx, rfl, ?_, qk vn H2 ⟨s2, r4.mono (.of s2)⟩⟩
    rw [valueAt_none]
    exact r2
  · obtain ⟨k, z3, z4⟩ := bnd_inv z2
    rw [kd_eq z3] at rx
    have := (Rq.of rx).key
    subst this
    rcases r3.look k with ⟨l1, l2⟩ | ⟨v', d', l1, l2, l3⟩
    · rw [z4] at l2; cases l2
    · rw [z4] at l2
      cases l2
      refine ⟨q, _, some k, v', rfl, hx, rfl, ?_, qk v' H2 ⟨s2, l3.mono (.of s2)⟩⟩
      rw [valueAt_some]
      have := r1.val k
      rw [l1] at this
      exact this
/-! ### y[None] = e -/
def sNPut (X : Cx) (td tv : TE) : TS := fun D σ H => tv σ H fun v H1 => td σ H1 fun x H2 => ∃ (a : Addr) (kvs : List (Key × V)), x = .ref a ∧ H2 a = some (.dK kvs) ∧ ∀ (vs : List (Key × Value)) (un : Value), KV kvs vs → RelV v un → (∃ h : Heap, NDict X.prog X.w a ((vs.map fun p => ((some p.1 : Option Key), p.2)) ++ [(none, un)]) h) → D.nx σ (upd H2 a (.ext (NDict X.prog X.w a ((vs.map fun p => ((some p.1 : Option Key), p.2)) ++ [(none, un)]))))
theorem ps_nput {td tv : TE} {o value : Expr} {pos' cp : Pos} {kc : Nat} (ho : PE X o td) (hv : PE X value tv) (hs : swapsWith value (some (.Subscript o (.Constant .none kc cp) pos')) pos.line X.env = pure false) :
    PS X (.Assign [.Subscript o (.Constant .none kc cp) pos'] value pos) (sNPut X td tv) := by
  refine ⟨fun pins s σ H D I h => ?_⟩
  refine wpAny_Assign_Subscript (thn (hv.run pins s σ H _ I h) fun r s1 ⟨v, H1, I1, rv, q1⟩ => thn (ho.run pins s1 σ H1 _ I1 q1) fun u s2 ⟨x, H2, I2, rx, q2⟩ => thn ((pe_non (j := kc) (pos := cp)).run pins s2 σ H2 (fun y H3 => y = .non ∧ H3 = H2) I2 ⟨rfl, rfl⟩) fun iv s3 ⟨y, H3, I3, ry, ey, eH⟩ => ?_) hs
  subst ey eH
  obtain ⟨a, kvs, ex, ha, q3⟩ := q2
  subst ex
  obtain rfl : u = Value.ref a := rx
  obtain rfl : iv = Value.none := ry
  obtain ⟨z, hd, vs, rel, dd⟩ := dk_of I3.hok ha
  have hz : (vs.map fun p => ((some p.1 : Option Key), p.2)).length ≤ sizeLine := by rw [List.length_map, ← rel.length]; exact z
  refine wpAny_setItem_pairs (knd := noneKind X.prog X.w) (k := none) (hsz := hz) rfl (dictOf_none dd) fun h' dd' hsb => ?_
  rw [stored_none] at dd'
  have he : ∃ q, h'.get? a = some q := let ⟨q, _, _, hq, _⟩ := dd'; ⟨q, hq⟩
  refine ⟨σ, _, d_write (ob := .ext (NDict X.prog X.w a ((vs.map fun p => ((some p.1 : Option Key), p.2)) ++ [(none, r)]))) I3 (by rw [ha]; exact True.intro) hsb he ⟨dd', he, fun h1 h2 d k => d.at' k⟩, q3 vs r rel rv ⟨h', dd'⟩⟩
theorem so_nput {R : Type} {Φ : R → DL.Fin} {rest : List Stmt} (j : Nat) {y : String} {p2 tpos cp : Pos} {kc : Nat} {es : List (D × D)} {G : D → Option R} (hsl : Sl X.N y j) (hj : ρ[j]? = some (.dic es)) (he : Eo X e ρ g) (h : ∀ (q : Addr) (d : D), So X rest (ρ.set j (.gen (GN X.prog X.w q (es, d)) [q])) Φ (G d)) (hv : Vis X.env.scope (Str.ofString y) := by first | exact Or.inl rfl | exact Or.inr (Or.inl rfl) | exact Or.inr (Or.inr rfl))
    (hs : swapsWith e (some (.Subscript (.Name (Str.ofString y) p2) (.Constant .none kc cp) tpos)) pos.line X.env = pure false := by rfl) :
    So X (.Assign [.Subscript (.Name (Str.ofString y) p2) (.Constant .none kc cp) tpos] e pos :: rest) ρ Φ (bnd g G) := fun r z => by
  obtain ⟨d, z1, z2⟩ := bnd_inv z
  refine xs_cons fun H0 H1 σ H E S Fn => ?_
  obtain ⟨p, kvs, e1, e2, rk⟩ := S.ok.dic j es hj
  refine ⟨_, ps_nput (pe_var hsl.h hv hsl.d hsl.c) pe_c hs, he d z1 σ H _ S.ok fun v H2 ⟨s2, r2⟩ => ⟨_, e1, p, kvs, rfl, s2 _ _ e2, fun vs un k1 k2 k3 => ?_⟩⟩
  have e3 := s2 _ _ e2
  refine Fn.nx _ _ _ ((S.mono s2).write hj e1 (.dic e3 (rk.mono (.of s2))) e3 trivial ?_) (h p d r z2)
  have st : Stb H2 (upd H2 p (.ext (NDict X.prog X.w p ((vs.map fun p => ((some p.1 : Option Key), p.2)) ++ [(none, un)])))) := stb_upd e3 trivial
  exact .gen ⟨rfl, kvs, v, vs, un, upd_same, k1, k2, (rk.mono (.of s2)).mono st, r2.mono st, k3⟩ gN_ok
end
end DL


namespace DL
open PySem PySem.Spec PyProof.Rows L2

def m_law_K14 (a_script : D) : Option D :=
  (bnd (op1 m__law_house (op2 m__law_mixed (some a_script) (some (.int 0)))) fun x_house1 =>
  (bnd (tupV (arg1 (some (.str "aa")) (arg1 (some (.str "ab")) (arg1 (some (.str "b")) (arg1 (some (.str "ba")) (arg1 (some (.str "y")) (arg1 (some (.str "zzzzz")) (some [])))))))) fun x_fresh2 =>
  (bnd (op1 dictN (lsV (lcD (op1 enumI (some x_house1)) fun x => bnd (dec2 x) fun v4 => keepE (some true) (tupV (arg1 (op2 ixD (some v4.2) (some (.int 0))) (arg1 (op2 ixD (some x_fresh2) (some v4.1)) (some []))))))) fun x_names3 =>
  (bnd (some .none) fun x_names5 =>
  (bnd (op1 tupD (lsV (lcD (op1 itD (some x_house1)) fun x => bnd (dec1 x) fun v7 => keepE (some true) (op2 addD (tupV (arg1 (op1 (lookN (x_names3, x_names5)) (op2 ixD (some v7) (some (.int 0)))) (some []))) (op3s cutF (some v7) (slP (some (.int 1))) (some none)))))) fun x_new6 =>
  (bnd (op1 itD (tupV (arg1 (tupV (arg1 (op1 m_standing (some x_house1)) (arg1 (op1 m_standing (some x_new6)) (some [])))) (arg1 (tupV (arg1 (op1 m_order (some x_house1)) (arg1 (op1 m_order (some x_new6)) (some [])))) (arg1 (tupV (arg1 (op1 m_stuck (some x_house1)) (arg1 (op1 m_stuck (some x_new6)) (some [])))) (some [])))))) fun l => bnd (forD (fun (s8 : Unit) x => bnd (dec2 x) fun v9 =>
    (iteT (op2 neB (some v9.2) (op1 tupD (lsV (lcD (op1 itD (some v9.1)) fun x => bnd (dec1 x) fun v10 => keepE (some true) (op1 (lookN (x_names3, x_names5)) (some v10))))))
    (bnd (some (.bool false)) fun d => some (Lp.out d))
    (some (Lp.go ())))) l ()) (jn fun (s8 : Unit) =>
  (iteT (op2 neB (op1 m_lacking (some x_new6)) (op1 tupD (lsV (lcD (op1 itD (op1 m_lacking (some x_house1))) fun x => bnd (dec2 x) fun v11 => keepE (some true) (tupV (arg1 (op1 (lookN (x_names3, x_names5)) (some v11.1)) (arg1 (some v11.2) (some []))))))))
  (bnd (some (.bool false)) fun d => some d)
  (bnd (op2 modD (op2 m__law_mixed (some a_script) (some (.int 1))) (some (.int 1000))) fun x_worth12 =>
  (bnd (op1 itD (tupV (arg1 (some (.str "go")) (arg1 (some (.str "end")) (some []))))) fun l => bnd (forD (fun (s13 : Unit) x => bnd (dec1 x) fun v14 =>
    (iteT (op2 neB (op2 m_chain (some x_new6) (some v14)) (op1 tupD (lsV (lcD (op1 itD (op2 m_chain (some x_house1) (some v14))) fun x => bnd (dec1 x) fun v15 => keepE (some true) (op2 addD (tupV (arg1 (op1 (lookN (x_names3, x_names5)) (op2 ixD (some v15) (some (.int 0)))) (some []))) (op3s cutF (some v15) (slP (some (.int 1))) (some none)))))))
    (bnd (some (.bool false)) fun d => some (Lp.out d))
    (bnd (op3 m_pulled (some x_house1) (some v14) (some x_worth12)) fun x_end16 =>
    (iteT (op2 neB (op3 m_pulled (some x_new6) (some v14) (some x_worth12)) (tupV (arg1 (op2 ixD (some x_end16) (some (.int 0))) (arg1 (op1 (lookN (x_names3, x_names5)) (op2 ixD (some x_end16) (some (.int 1)))) (some [])))))
    (bnd (some (.bool false)) fun d => some (Lp.out d))
    (some (Lp.go ())))))) l ()) (jn fun (s13 : Unit) =>
  (bnd (op1 itD (some x_house1)) fun l => bnd (forD (fun (s17 : Unit) x => bnd (dec1 x) fun v18 =>
    (bnd (op1 (lookN (x_names3, x_names5)) (op2 ixD (some v18) (some (.int 0)))) fun x_mine19 =>
    (bnd (op1 itD (op2 ixD (some v18) (some (.int 3)))) fun l => bnd (forD (fun (s20 : Unit) x => bnd (dec1 x) fun v21 =>
      (iteT (op2 neB (op3 m_giver (some x_new6) (some x_mine19) (op2 ixD (some v21) (some (.int 0)))) (op1 (lookN (x_names3, x_names5)) (op3 m_giver (some x_house1) (op2 ixD (some v18) (some (.int 0))) (op2 ixD (some v21) (some (.int 0))))))
      (bnd (some (.bool false)) fun d => some (Lp.out (Lp.out d)))
      (some (Lp.go ())))) l ()) (jn fun (s20 : Unit) =>
    (bnd (iteT (op2 inB (op2 ixD (some v18) (some (.int 0))) (op1 m_standing (some x_house1)))
    (bnd (op1 tupD (lsV (lcD (op1 itD (op2 m_leans (some x_house1) (op2 ixD (some v18) (some (.int 0))))) fun x => bnd (dec1 x) fun v24 => keepE (some true) (op1 (lookN (x_names3, x_names5)) (some v24))))) fun x_due23 =>
      (iteT (op2 neB (op2 m_leans (some x_new6) (some x_mine19)) (some x_due23))
      (bnd (some (.bool false)) fun d => some (Nx.rt (Lp.out d)))
      (some (Nx.nx ()))))
    (some (Nx.nx ()))) (jn fun (j22 : Unit) =>
    (iteT (op2 neB (op2 m_lost (some x_new6) (some x_mine19)) (op1 tupD (lsV (lcD (op1 itD (op2 m_lost (some x_house1) (op2 ixD (some v18) (some (.int 0))))) fun x => bnd (dec1 x) fun v25 => keepE (some true) (op1 (lookN (x_names3, x_names5)) (some v25))))))
    (bnd (some (.bool false)) fun d => some (Lp.out d))
    (some (Lp.go ()))))))))) l ()) (jn fun (s17 : Unit) =>
  (bnd (some (.bool true)) fun d => some d))))))))))))))
end DL


namespace DL
open PySem PySem.Spec PyProof.Rows L2
local macro_rules | `(tactic| walk_at "ev") => `(tactic| try simp only [bnd_some, op1_some, op2_some, op3_some, op4_some, op3s_some, slP_int, boV_some, tB_some, lsV_some, dcV_some, lcD_some, arg1_some, dec1_eq, dec2_eq, dec3_eq, dec4_eq, dec5_eq, jn_nx, jn_rt, iteT_true, iteT_false, notT_some, andT_some, orT_some, andT_false, orT_true, andT_true, orT_false, ixP0, ixP1, ixP2, ixP3, ixP4, ixW0, ixW1, ixW2, ixW3, ixK0, ixK1, ixK2, dec2F, dec2SS, ixT0, ixL0, itD_l, itD_t, itD_h, itL_eq, listN_l, listN_t, listN_h, tupD_l, lenD_l, lenD_t, lenD_h, addD_i, subD_i, negD_i, ltB_i, leB_i, gtB_i, geB_i, eqB_i, eqB_s, neB_s, neB_i, isNB_eq, isNNB_eq, lstV_nil, tupV_nil, tupV1, tupV2, tupV3, tupV4, tupV5, tupV6, lstV1, lstV2, lstV3, intD_b, intD_i, minD_i, keepE_some, keepE_true, keepE_false, inB_sl, inB_st, ninB_eq, List.length_map, if_true, if_false, Bool.false_eq_true])
def fresh14 : List Str := ["aa", "ab", "b", "ba", "y", "zzzzz"]
def nu14 (h : List Part) (x : Str) : Str := fresh14.getD ((h.map (·.name)).idxOf x) ""
def ph14 (h : List Part) (p : Part) : Part := { p with name := nu14 h p.name }
theorem fresh_lt : ∀ i < 6, ∀ j < 6, ((fresh14.getD i "").cps.toList < (fresh14.getD j "").cps.toList ↔ i < j) := by decide +kernel
theorem fresh_ok : ∀ i < 6, PyData.strOk (fresh14.getD i "") = true := by decide +kernel
theorem idx_ne {a b : Str} {l : List Str} (h : a ≠ b) : (a :: l).idxOf b = l.idxOf b + 1 := by
  rw [List.idxOf_cons, beq_false_of_ne h]; rfl
theorem idx_lt {h : List Part} (nm : h.Pairwise fun p q => p.name.cps.toList < q.name.cps.toList) : ∀ p ∈ h, ∀ q ∈ h, ((h.map (·.name)).idxOf p.name < (h.map (·.name)).idxOf q.name ↔ p.name.cps.toList < q.name.cps.toList) := by
  induction h with
  | nil => exact fun p hp => nomatch hp
  | cons a h ih =>
    obtain ⟨h1, h2⟩ := List.pairwise_cons.mp nm
    intro p hp q hq
    have ne : ∀ r ∈ h, a.name ≠ r.name := fun r hr e => by have := h1 r hr; rw [e] at this; exact List.lt_irrefl _ this
    rw [List.map_cons]
    rcases List.mem_cons.mp hp with rfl | hp'
    · rw [List.idxOf_cons_self]
      rcases List.mem_cons.mp hq with rfl | hq
      · rw [List.idxOf_cons_self]
        exact ⟨fun z => absurd z (Nat.lt_irrefl _), fun z => absurd z (List.lt_irrefl _)⟩
      · rw [idx_ne (ne q hq)]
        exact ⟨fun _ => h1 q hq, fun _ => Nat.succ_pos _⟩
    · rw [idx_ne (ne p hp')]
      rcases List.mem_cons.mp hq with e | hq'
      · subst e
        rw [List.idxOf_cons_self]
        exact ⟨fun z => absurd z (Nat.not_lt_zero _), fun z => absurd (List.lt_trans (h1 p hp') z) (List.lt_irrefl _)⟩
      · rw [idx_ne (ne q hq')]
        rw [← ih h2 p hp' q hq']
        omega
theorem idx_bd {h : List Part} {p : Part} (hp : p ∈ h) : (h.map (·.name)).idxOf p.name < h.length := by
  have := List.idxOf_lt_length_of_mem (List.mem_map_of_mem (f := fun p : Part => p.name) hp)
  rwa [List.length_map] at this
theorem nu_lt {h : List Part} (nm : h.Pairwise fun p q => p.name.cps.toList < q.name.cps.toList) (hl : h.length ≤ 6) : ∀ p ∈ h, ∀ q ∈ h, (nu14 h p.name).cps.toList < (nu14 h q.name).cps.toList ↔ p.name.cps.toList < q.name.cps.toList := fun p hp q hq => by
  unfold nu14
  have b1 := idx_bd hp
  have b2 := idx_bd hq
  rw [fresh_lt _ (by omega) _ (by omega)]
  exact idx_lt nm p hp q hq
theorem nu_ok {h : List Part} (hl : h.length ≤ 6) {p : Part} (hp : p ∈ h) : PyData.strOk (nu14 h p.name) = true := fresh_ok _ (by have := idx_bd hp; omega)
theorem ren14 {h : List Part} (nm : h.Pairwise fun p q => p.name.cps.toList < q.name.cps.toList) (hl : h.length ≤ 6) : Ren h (ph14 h) id (nu14 h) where
  nm _ _ := rfl
  lt := nu_lt nm hl
  ws p _ := (List.map_id p.wants).symm
  mu _ _ _ _ := rfl
  gv _ _ _ _ _ _ := rfl
  cmp _ _ _ _ _ _ _ _ _ _ := .rfl
theorem good14 {h : List Part} (G : GoodH h) (hl : h.length ≤ 6) : GoodH (h.map (ph14 h)) := by
  refine ⟨⟨fun q hq => ?_, by rw [List.length_map]; exact G.wf.len, fun q hq => ?_⟩, fun q hq => ?_, ?_, by rw [List.length_map]; exact G.len⟩
  · obtain ⟨p, hp, rfl⟩ := List.mem_map.mp hq
    have g := G.wf.ok p hp
    exact ⟨nu_ok hl hp, g.fs, g.ws, g.ks⟩
  · obtain ⟨p, hp, rfl⟩ := List.mem_map.mp hq
    exact G.wf.wl p hp
  · obtain ⟨p, hp, rfl⟩ := List.mem_map.mp hq
    have g := G.gp p hp
    exact ⟨g.fs, g.ws, g.lo⟩
  · rw [List.pairwise_map]
    exact G.nm.imp_of_mem fun {p q} hp hq z => (nu_lt G.nm hl p hp q hq).mpr z
theorem K14_K {h : List Part} (K : GoodK h) (f : Part → Str) : GoodK (h.map fun p => { p with name := f p }) := ⟨fun q hq => by
  obtain ⟨p, hp, rfl⟩ := List.mem_map.mp hq
  exact K.len p hp, fun q hq k hk => by
  obtain ⟨p, hp, rfl⟩ := List.mem_map.mp hq
  exact K.rk p hp k hk⟩
theorem K14_D {h : List Part} (Dk : GoodD h) (f : Part → Str) : GoodD (h.map fun p => { p with name := f p }) := fun q hq k hk => by
  obtain ⟨p, hp, rfl⟩ := List.mem_map.mp hq
  exact Dk p hp k hk
/-! ### the dict -/
def rows14 (n : Nat) (h : List Part) : List (Key × D) := (enumN n h).map fun q => (.inr q.2.name, .str (fresh14.getD q.1 ""))
theorem pairsK_rows : ∀ (l : List (Nat × Part)), pairsK (l.map fun q => .tuple [.str q.2.name, .str (fresh14.getD q.1 "")]) = some (l.map fun q => (.inr q.2.name, .str (fresh14.getD q.1 "")))
  | [] => rfl
  | q :: l => by rw [List.map_cons, pairsK, pairsK_rows l]; rfl
theorem fold_no {j : Key} : ∀ (md : List (Key × D)) (a : Option D), (∀ q ∈ md, q.1 ≠ j) → md.foldl (fun acc kv => if j = kv.1 then some kv.2 else acc) a = a
  | [], _, _ => rfl
  | q :: md, a, h => by
    rw [List.foldl_cons, if_neg (fun z => h q (by simp) z.symm)]
    exact fold_no md a fun r hr => h r (by simp [hr])
theorem fold14 : ∀ (h : List Part) (n : Nat) (a : Option D), (h.Pairwise fun p q => p.name.cps.toList < q.name.cps.toList) → ∀ p ∈ h, (rows14 n h).foldl (fun acc kv => if (Sum.inr p.name : Key) = kv.1 then some kv.2 else acc) a = some (.str (fresh14.getD (n + (h.map (·.name)).idxOf p.name) ""))
  | [], _, _, _, p, hp => nomatch hp
  | b :: h, n, a, nm, p, hp => by
    obtain ⟨h1, h2⟩ := List.pairwise_cons.mp nm
    have ne : ∀ r ∈ h, b.name ≠ r.name := fun r hr e => by have := h1 r hr; rw [e] at this; exact List.lt_irrefl _ this
    have e : rows14 n (b :: h) = (.inr b.name, .str (fresh14.getD n "")) :: rows14 (n + 1) h := rfl
    rw [e, List.foldl_cons, List.map_cons]
    rcases List.mem_cons.mp hp with rfl | hp
    · rw [if_pos rfl, List.idxOf_cons_self, fold_no]
      · rfl
      · intro q hq
        obtain ⟨r, hr, rfl⟩ := List.mem_map.mp hq
        exact fun z => ne r.2 (enumN_mem hr).1 (Sum.inr.inj z).symm
    · rw [if_neg (fun z => ne p hp (Sum.inr.inj z).symm), fold14 h (n + 1) a h2 p hp, idx_ne (ne p hp)]
      congr 3
      omega
theorem look14 {h : List Part} (nm : h.Pairwise fun p q => p.name.cps.toList < q.name.cps.toList) {p : Part} (hp : p ∈ h) : lookN (mergeD [] (rows14 0 h), .none) (.str p.name) = some (.str (nu14 h p.name)) := by
  show lookD _ (.inr p.name) = _
  rw [lookD_merge, fold14 h 0 _ nm p hp]
  unfold nu14
  rw [Nat.zero_add]
theorem dict14 (h : List Part) (hl : h.length ≤ 6) : op1 dictN (lsV (lcD (op1 enumI (some (encH h))) fun x => bnd (dec2 x) fun v4 => keepE (some true) (tupV (arg1 (op2 ixD (some v4.2) (some (.int 0))) (arg1 (op2 ixD (some (.tuple [.str "aa", .str "ab", .str "b", .str "ba", .str "y", .str "zzzzz"])) (some v4.1)) (some [])))))) = some (mergeD [] (rows14 0 h)) := by
  have e : enumI (encH h) = some ((enumN 0 h).map fun q => .tuple [.int (q.1 : Nat), encP q.2]) := by
    unfold encH
    show some (enumD 0 (h.map encP)) = _
    rw [enumD_map]
  rw [op1_some, e, lcD_some, lcD_all (fun q : Nat × Part => .tuple [.int (q.1 : Nat), encP q.2]) (fun q => .tuple [.str q.2.name, .str (fresh14.getD q.1 "")]) (enumN 0 h) fun q hq => by
    rw [dec2_eq, bnd_some]
    have hq' : q.1 < 6 := by
      have : ∀ (l : List Part) (n : Nat), ∀ q ∈ enumN n l, q.1 < n + l.length := by
        intro l
        induction l with
        | nil => exact fun n q hq => nomatch hq
        | cons a l ih =>
          intro n q hq
          rcases List.mem_cons.mp hq with rfl | hq
          · simp
          · have := ih (n + 1) q hq
            rw [List.length_cons]; omega
      have := this h 0 q hq
      omega
    have ei : ixD (.tuple [.str "aa", .str "ab", .str "b", .str "ba", .str "y", .str "zzzzz"]) (.int (q.1 : Nat)) = some (.str (fresh14.getD q.1 "")) := by
      have : ∀ i < 6, ixD (.tuple [.str "aa", .str "ab", .str "b", .str "ba", .str "y", .str "zzzzz"]) (.int (i : Nat)) = some (.str (fresh14.getD i "")) := by
        intro i hi
        rcases (by omega : i = 0 ∨ i = 1 ∨ i = 2 ∨ i = 3 ∨ i = 4 ∨ i = 5) with rfl | rfl | rfl | rfl | rfl | rfl <;> rfl
      exact this q.1 hq'
    simp only [op2_some, ei, ixP0]
    rfl]
  rw [lsV_some, op1_some]
  show bnd (pairsK _) _ = _
  rw [pairsK_rows]
  rfl
/-! ### names told otherwise -/
theorem pull_names (ν : Str → Str) : ∀ (rows : List (Str × Hook)) (w : Int), pullL (rows.map fun q => (ν q.1, q.2)) w = ((pullL rows w).1, (pullL rows w).2.map ν)
  | [], w => rfl
  | (n, k) :: r, w => by
    rw [List.map_cons, pullL, pullL]
    simp only
    split
    · rfl
    · split
      · rfl
      · exact pull_names ν r _
theorem rows_ren {h : List Part} {φ : Part → Part} {ω : Want → Want} {ν : Str → Str} (R : Ren h φ ω ν) (hk : ∀ p ∈ h, (φ p).hooks = p.hooks) (G : GoodH h) (G' : GoodH (h.map φ)) (x : Str) : ∀ (l : List Str), (∀ n ∈ l, ∃ p ∈ h, p.name = n) → rowsOf (h.map φ) x (l.map ν) = (rowsOf h x l).map fun q => (ν q.1, q.2)
  | [], _ => rfl
  | n :: l, hl => by
    have ih := rows_ren R hk G G' x l fun m hm => hl m (by simp [hm])
    obtain ⟨p, hp, rfl⟩ := hl n (by simp)
    unfold rowsOf at *
    rw [List.map_cons, List.flatMap_cons, List.flatMap_cons, List.map_append, ih]
    congr 1
    have e1 : hooksAt (h.map φ) (ν p.name) = p.hooks := by rw [← hk p hp, ← R.nm p hp]; exact hooksAt_of G' (List.mem_map.mpr ⟨p, hp, rfl⟩)
    rw [e1, hooksAt_of G hp, List.map_map]
    rfl
theorem chain_ren {h : List Part} {φ : Part → Part} {ω : Want → Want} {ν : Str → Str} (R : Ren h φ ω ν) (hk : ∀ p ∈ h, (φ p).hooks = p.hooks) (G : GoodH h) (G' : GoodH (h.map φ)) (x : Str) : chainOf (h.map φ) x = (chainOf h x).map fun q => (ν q.1, q.2) := by
  unfold chainOf
  rw [R.bk G G', (R.B G).ord, rows_ren R hk G G' x _ (ord_inH (h := h))]
  exact (byRank_map (fun q : Str × Hook => q.2.rank) (fun q => q.2.rank) (fun q => (ν q.1, q.2)) _ fun q _ => rfl).symm
theorem sortS_mapP {l : List Str} (m : Str → Str) (hm : ∀ a ∈ l, ∀ b ∈ l, (m a).cps.toList < (m b).cps.toList ↔ a.cps.toList < b.cps.toList) : sortS (l.map m) = (sortS l).map m := by
  unfold sortS
  refine (PySem.W.sort_maps m fun a ha b hb => ?_).symm
  rw [PySem.W.dataLt_str, PySem.W.dataLt_str, decide_eq_decide.mpr (hm b hb a ha)]
theorem look_list {b : NBk} {ν : Str → Str} {it : Option (List D)} {l : List Str} (hi : it = some (l.map .str)) (h : ∀ x ∈ l, lookN b (.str x) = some (.str (ν x))) : op1 tupD (lsV (lcD it fun x => bnd (dec1 x) fun v => keepE (some true) (op1 (lookN b) (some v)))) = some (.tuple ((l.map ν).map .str)) := by
  rw [hi, lcD_some, lcD_all PyData.str (fun x => .str (ν x)) l fun x hx => by
    rw [dec1_eq, bnd_some, op1_some, h x hx]
    rfl]
  rw [lsV_some, op1_some, List.map_map]
  rfl
theorem leans_key {b : Book} {n x : Str} (h : x ∈ leansOf b n) : x ∈ keys b := by
  unfold leansOf at h
  rw [(sortS_perm _).mem_iff, List.mem_filter] at h
  exact h.1
theorem law_K14 (ns : List Int) (hl : ns.length ≤ 63) : m_law_K14 (.list (ns.map .int)) = some (.bool true) := by
  have G := houseOf_good (mixed ns 0)
  have K := houseOf_K (mixed ns 0)
  have Dk := houseOf_D (mixed ns 0)
  have h6 := houseOf_len (mixed ns 0)
  unfold m_law_K14
  refine bnd_to _ (q_start ns) ?_
  generalize houseOf (mixed ns 0) = h at G K Dk h6
  have h64 := G.wf.len
  refine bnd_to (.tuple [.str "aa", .str "ab", .str "b", .str "ba", .str "y", .str "zzzzz"]) rfl ?_
  refine bnd_to _ (dict14 h h6) ?_
  refine bnd_to .none rfl ?_
  have R := ren14 G.nm h6
  have Gn := good14 G h6
  have Kn : GoodK (h.map (ph14 h)) := K14_K K _
  have Dn : GoodD (h.map (ph14 h)) := K14_D Dk _
  have eb := R.bk G Gn
  have B := R.B G
  have O := bk_ok G
  have O' := bk_ok Gn
  have ok := OkS.ord O
  have ok' := OkS.ord O'
  have lk : ∀ p ∈ h, lookN (mergeD [] (rows14 0 h), .none) (.str p.name) = some (.str (nu14 h p.name)) := fun p hp => look14 G.nm hp
  have lkk : ∀ n ∈ keys (bk h), lookN (mergeD [] (rows14 0 h), .none) (.str n) = some (.str (nu14 h n)) := fun n hn => by
    obtain ⟨p, hp, rfl⟩ := mem_keys.mp hn
    exact lk p (st_sub h p hp)
  have lko : ∀ n ∈ ordP (bk h), lookN (mergeD [] (rows14 0 h), .none) (.str n) = some (.str (nu14 h n)) := fun n hn => lkk n ((ord_inv (bk h)).key n hn)
  refine bnd_to (encH (h.map (ph14 h))) ?_ ?_
  · walk_at "ev"
    rw [lcD_all encP (fun p => encP (ph14 h p)) h fun p hp => by
      walk_at "ev"
      rw [lk p hp]
      show keepE (some true) (op2 addD (tupV (arg1 (some (.str (nu14 h p.name))) (some []))) (some (.tuple (cutD _ (some ((1 : Nat) : Int)) none)))) = _
      rw [cut_from, arg1_some, tupV1, op2_some, addD_t (by simp)]
      rfl]
    rw [lsV_some, op1_some, tupD_l]
    unfold encH
    rw [List.map_map]
    rfl
  have n64 := Gn.wf.len
  have nuk : ∀ {n : Str}, n ∈ keys (bk h) → nu14 h n ∈ keys (bk (h.map (ph14 h))) := fun {n} hn => by
    rw [eb, keys_map]; exact List.mem_map_of_mem hn
  refine bnd_to (([(keys (bk h), keys (bk (h.map (ph14 h)))), (ordP (bk h), ordP (bk (h.map (ph14 h)))), ((keys (bk h)).filter (fun n => !decide (n ∈ ordP (bk h))), (keys (bk (h.map (ph14 h)))).filter (fun n => !decide (n ∈ ordP (bk (h.map (ph14 h))))))] : List (List Str × List Str)).map fun q => .tuple [.tuple (q.1.map .str), .tuple (q.2.map .str)]) ?_ ?_
  · walk_at "ev"
    rw [q_standingS (by omega), q_standingS (by omega), q_order Gn, q_order G, q_stuck Gn, q_stuck G]
    rfl
  have estk : (keys (bk (h.map (ph14 h)))).filter (fun n => !decide (n ∈ ordP (bk (h.map (ph14 h))))) = ((keys (bk h)).filter fun n => !decide (n ∈ ordP (bk h))).map (nu14 h) := by
    rw [eb, keys_map, B.ord, List.filter_map]
    congr 1
    apply List.filter_congr
    intro x hx
    simp only [Function.comp_apply]
    rw [decide_eq_decide.mpr (B.mem (ord_inv (bk h)).key hx)]
  refine for_toU (fun q : List Str × List Str => .tuple [.tuple (q.1.map .str), .tuple (q.2.map .str)]) _ (fun q hq => ?_) ?_
  · have hq' : q.2 = q.1.map (nu14 h) ∧ (∀ n ∈ q.1, n ∈ keys (bk h)) ∧ OkS q.2 := by
      simp only [List.mem_cons, List.not_mem_nil, or_false] at hq
      rcases hq with rfl | rfl | rfl
      · exact ⟨by rw [eb, keys_map], fun _ z => z, O'.ks⟩
      · exact ⟨by rw [eb, B.ord], (ord_inv (bk h)).key, ok'⟩
      · exact ⟨estk, fun n hn => (List.mem_filter.mp hn).1, O'.ks.filter⟩
    obtain ⟨e1, e2, e3⟩ := hq'
    rw [dec2_eq, bnd_some]
    refine ifF ?_ rfl
    dsimp only
    rw [look_list (it := op1 itD (some (PyData.tuple (List.map PyData.str q.fst)))) (l := q.1) (ν := nu14 h) rfl fun n hn => lkk n (e2 n hn), op2_some, ← e1, neTs e3 e3]
    simp
  refine ifF ?_ ?_
  · walk_at "ev"
    rw [q_lackingS Gn.wf, q_lackingS G.wf]
    walk_at "ev"
    have inh : ∀ q ∈ lackOf h (st h), ∃ p ∈ h, p.name = q.1 := fun q hq => by
      obtain ⟨p, hp, _, e1, _⟩ := (mem_lack G).mp hq
      exact ⟨p, hp, e1⟩
    rw [lcD_all encSS (fun q => encSS (nu14 h q.1, q.2)) (sortSS (lackOf h (st h))) fun q hq => by
      obtain ⟨p, hp, e⟩ := inh q ((sortSS_perm _).mem_iff.mp hq)
      walk_at "ev"
      rw [← e, lk p hp]
      rfl]
    walk_at "ev"
    have es : sortSS (lackOf (h.map (ph14 h)) (st (h.map (ph14 h)))) = (sortSS (lackOf h (st h))).map fun q => (nu14 h q.1, q.2) := by
      rw [R.lackOf G Gn (g := id) (fun _ _ _ _ => rfl)]
      refine sortSS_mapP (fun q => (nu14 h q.1, id q.2)) fun a ha c hc => ?_
      obtain ⟨p, hp, e⟩ := inh a ha
      obtain ⟨r, hr, e'⟩ := inh c hc
      rw [dataLt_SS, dataLt_SS]
      simp only [id]
      rw [← e, ← e', decide_eq_decide.mpr (R.lt p hp r hr), decide_eq_decide.mpr (R.inj hp hr)]
    have okL := lack_okS Gn
    rw [es] at okL
    rw [es, List.map_map]
    refine neB_self (n := 2) (pl_tup (pla_map fun q hq => ?_))
    have := okL (nu14 h q.1, q.2) (List.mem_map_of_mem hq)
    exact pl_tup (pla_cons (pl_str this.1) (pla_cons (pl_str this.2) pla_nil))
  obtain ⟨w, ew⟩ : ∃ w : Int, (op2 modD (op2 m__law_mixed (some (.list (ns.map .int))) (some (.int 1))) (some (.int 1000))) = some (.int w) := by
    walk_at "ev"
    rw [eq1, q_mixed ns 1 (by decide), op2_some, modD_i (by decide)]
    exact ⟨_, rfl⟩
  refine bnd_to _ ew ?_
  refine bnd_to ((["go", "end"] : List Str).map .str) rfl ?_
  refine for_toU PyData.str ["go", "end"] (fun x hx => ?_) ?_
  · have ec : chainOf (h.map (ph14 h)) x = (chainOf h x).map fun q => (nu14 h q.1, q.2) := chain_ren R (fun _ _ => rfl) G Gn x
    rw [dec1_eq, bnd_some]
    have inc : ∀ q ∈ chainOf h x, lookN (mergeD [] (rows14 0 h), .none) (.str q.1) = some (.str (nu14 h q.1)) := fun q hq => by
      obtain ⟨p, hp, e, _⟩ := chain_mem G hq
      rw [← e]; exact lk p hp
    refine ifF ?_ ?_
    · rw [op2_some, op2_some, q_chain Gn Kn, q_chain G K, op1_some, itD_t, lcD_some, lcD_all encC (fun q => encC (nu14 h q.1, q.2)) (chainOf h x) fun q hq => by
        rw [dec1_eq, bnd_some, op2_some, ixC0, op1_some, inc q hq]
        show keepE (some true) (op2 addD (tupV (arg1 (some (.str (nu14 h q.1))) (some []))) (some (.tuple (cutD _ (some ((1 : Nat) : Int)) none)))) = _
        rw [cut_from, arg1_some, tupV1, op2_some, addD_t (by simp)]
        rfl]
      rw [lsV_some, op1_some, tupD_l, op2_some, ec, List.map_map]
      have pl := chain_pl Gn x
      rw [ec, List.map_map] at pl
      exact neB_self (n := 3) (pl_tup pl)
    · refine bnd_to _ (by rw [op3_some, q_pulled G K Dk]) ?_
      refine ifF ?_ rfl
      rw [op3_some, q_pulled Gn Kn Dn]
      have en : ixD (encPl (pullL (chainOf h x) w)) (.int 1) = some (optS (pullL (chainOf h x) w).2) := rfl
      have e0 : ixD (encPl (pullL (chainOf h x) w)) (.int 0) = some (.int (pullL (chainOf h x) w).1) := rfl
      have el : lookN (mergeD [] (rows14 0 h), .none) (optS (pullL (chainOf h x) w).2) = some (optS ((pullL (chainOf h x) w).2.map (nu14 h))) := by
        cases e : (pullL (chainOf h x) w).2 with
        | none => rfl
        | some n =>
          obtain ⟨q, hq, e2⟩ := pull_name _ _ n e
          rw [← e2]
          exact inc q hq
      rw [op2_some, op2_some, en, e0, op1_some, el]
      have ep := pull_names (nu14 h) (chainOf h x) w
      rw [← ec] at ep
      have pl := pull_pl Gn x w
      rw [ep] at pl ⊢
      exact neB_self (n := 1) pl
  refine bnd_to (h.map encP) rfl ?_
  refine for_toU encP h (fun p hp => ?_) rfl
  rw [dec1_eq, bnd_some]
  refine bnd_to (.str (nu14 h p.name)) (by rw [op2_some, ixP0, op1_some, lk p hp]) ?_
  refine bnd_to (p.wants.map encW) rfl ?_
  refine for_toU encW p.wants (fun u hu => ?_) ?_
  · rw [dec1_eq, bnd_some]
    refine ifF ?_ rfl
    have G'' : GoodH ((st h).map (ph14 h)) := by rw [← R.st]; exact Gn.st
    have gn := q_giver Gn (p := ph14 h p) (List.mem_map.mpr ⟨p, hp, rfl⟩) (w := u) hu
    rw [R.st] at gn
    rw [show giverAmong ((st h).map (ph14 h)) (ph14 h p).name u = _ from R.giver (st_sub h) G.st G'' hp hu] at gn
    have el : lookN (mergeD [] (rows14 0 h), .none) (optS (giverAmong (st h) p.name u)) = some (optS ((giverAmong (st h) p.name u).map (nu14 h))) := by
      cases e : giverAmong (st h) p.name u with
      | none => rfl
      | some n =>
        obtain ⟨q, hq, e2⟩ := (giver_some G.st).mp e
        rw [← e2]
        exact lk q (st_sub h q hq.mem)
    rw [op2_some, ixW0, op2_some, ixP0, op3_some, op3_some, q_giver G hp hu, op1_some, el, show m_giver (encH (h.map (ph14 h))) (.str (nu14 h p.name)) (.str u.face) = _ from gn, op2_some, neB_opt]
    simp
  refine bnd_to (Nx.nx ()) ?_ ?_
  · by_cases c : p.name ∈ keys (bk h)
    · refine ifT (by walk_at "ev"; rw [q_standingS (by omega)]; walk_at "ev"; rw [decide_eq_true c]) ?_
      have el := B.leans (keys_rising G) (by rw [← eb]; exact keys_rising Gn) c
      rw [← eb] at el
      refine bnd_to (.tuple (((leansOf (bk h) p.name).map (nu14 h)).map .str)) ?_ ?_
      · refine look_list ?_ fun x hx => lkk x (leans_key hx)
        rw [op2_some, ixP0, op2_some, q_leans G c, op1_some, itD_t]
      · refine ifF ?_ rfl
        rw [op2_some, q_leans Gn (nuk c), el, op2_some]
        have okl := OkS.leans O' (nu14 h p.name)
        rw [el] at okl
        rw [neTs okl okl]
        simp
    · exact ifF (by walk_at "ev"; rw [q_standingS (by omega)]; walk_at "ev"; rw [decide_eq_false c]) rfl
  · refine ifF ?_ rfl
    have eo : outP (h.map (ph14 h)) (nu14 h p.name) = (outP h p.name).map (ph14 h) := by
      unfold outP
      rw [List.filter_map]
      congr 1
      apply List.filter_congr
      intro q hq
      simp only [Function.comp_apply]
      rw [decide_eq_decide.mpr (show (ph14 h q).name = nu14 h p.name ↔ q.name = p.name from R.inj hq hp)]
    have sub : ∀ q ∈ outP h p.name, q ∈ h := fun q hq => (List.mem_filter.mp hq).1
    have Go : GoodH (outP h p.name) := G.filter
    have Ro := R.sub sub
    have Gon : GoodH ((outP h p.name).map (ph14 h)) := by rw [← eo]; exact Gn.filter
    have ebo := Ro.bk Go Gon
    have Bo := Ro.B Go
    have kin : ∀ x ∈ keys (bk (outP h p.name)), x ∈ keys (bk h) ∨ ∃ q ∈ h, q.name = x := fun x hx => by
      obtain ⟨q, hq, e⟩ := mem_keys.mp hx
      exact .inr ⟨q, sub q (st_sub _ q hq), e⟩
    have einj : ∀ {x y : Str}, (∃ q ∈ h, q.name = x) → (∃ q ∈ h, q.name = y) → (nu14 h x = nu14 h y ↔ x = y) := fun {x y} ⟨q, hq, e⟩ ⟨r, hr, e'⟩ => by
      rw [← e, ← e']; exact R.inj hq hr
    have inh : ∀ x ∈ ordP (bk h), ∃ q ∈ h, q.name = x := ord_inH (h := h)
    have inho : ∀ x ∈ ordP (bk (outP h p.name)), ∃ q ∈ h, q.name = x := fun x hx => by
      obtain ⟨q, hq, e⟩ := ord_inH (h := outP h p.name) x hx
      exact ⟨q, sub q hq, e⟩
    have ef : (ordP (bk (h.map (ph14 h)))).filter (fun x => !decide (x = nu14 h p.name) && !decide (x ∈ ordP (bk (outP (h.map (ph14 h)) (nu14 h p.name))))) = ((ordP (bk h)).filter fun x => !decide (x = p.name) && !decide (x ∈ ordP (bk (outP h p.name)))).map (nu14 h) := by
      rw [eo, ebo, Bo.ord, eb, B.ord, List.filter_map]
      congr 1
      apply List.filter_congr
      intro x hx
      simp only [Function.comp_apply]
      rw [decide_eq_decide.mpr (einj (inh x hx) ⟨p, hp, rfl⟩)]
      congr 2
      rw [decide_eq_decide, List.mem_map]
      constructor
      · rintro ⟨y, hy, e⟩
        rw [← (einj (inho y hy) (inh x hx)).mp e]; exact hy
      · exact fun z => ⟨x, z, rfl⟩
    have es := sortS_mapP (l := (ordP (bk h)).filter fun x => !decide (x = p.name) && !decide (x ∈ ordP (bk (outP h p.name)))) (nu14 h) fun a ha c hc => by
      obtain ⟨q, hq, e⟩ := inh a (List.mem_filter.mp ha).1
      obtain ⟨r, hr, e'⟩ := inh c (List.mem_filter.mp hc).1
      rw [← e, ← e']; exact R.lt q hq r hr
    have okl : OkS (sortS ((ordP (bk (h.map (ph14 h)))).filter (fun x => !decide (x = nu14 h p.name) && !decide (x ∈ ordP (bk (outP (h.map (ph14 h)) (nu14 h p.name))))))) := ok'.filter.sort
    rw [look_list (l := sortS ((ordP (bk h)).filter fun x => !decide (x = p.name) && !decide (x ∈ ordP (bk (outP h p.name))))) (ν := nu14 h) (by rw [op2_some, ixP0, op2_some, q_lost G, op1_some, itD_t]) fun x hx => lko x (List.mem_filter.mp ((sortS_perm _).mem_iff.mp hx)).1]
    rw [op2_some, q_lost Gn, op2_some]
    rw [ef, es] at okl ⊢
    rw [neTs okl okl]
    simp
end DL


namespace DL.K14
open PySem PySem.Spec PyProof.Rows L2 DL
def top (i : Nat) : Stmt := PySem.Challenge.pw_parthost_k14_whole_other_names_of_parts.main.body.getD i (.Pass ⟨0, 0, 0, 0⟩)
def cst (i j : Nat) : Stmt := match top i with
  | .ClassDef _ _ _ body _ _ _ _ _ _ _ => body.getD j (.Pass ⟨0, 0, 0, 0⟩)
  | _ => .Pass ⟨0, 0, 0, 0⟩
abbrev FnP (K : PySem.W.Frag) (x q : Str) (st : Stmt) (f : Addr) (fd : FuncData) : Prop := FunD K x q (defArgs st) (defBody st) (defScope st) [] [] f fd
/-- what the top has left -/
structure Facts (K : PySem.W.Frag) (mg : Str → Option Value) where
  f__law_drawn : Addr
  fd__law_drawn : FuncData
  F__law_drawn : FnP K "_law_drawn" "_law_drawn" (top 24) f__law_drawn fd__law_drawn
  b__law_drawn : Binds K fd__law_drawn ["number", "k"] []
  m__law_drawn : mg "_law_drawn" = some (.ref f__law_drawn)
  f__law_part : Addr
  fd__law_part : FuncData
  F__law_part : FnP K "_law_part" "_law_part" (top 25) f__law_part fd__law_part
  b__law_part : Binds K fd__law_part ["number", "name"] []
  m__law_part : mg "_law_part" = some (.ref f__law_part)
  f__law_house : Addr
  fd__law_house : FuncData
  F__law_house : FnP K "_law_house" "_law_house" (top 26) f__law_house fd__law_house
  b__law_house : Binds K fd__law_house ["number"] []
  m__law_house : mg "_law_house" = some (.ref f__law_house)
  f__law_cell_at : Addr
  fd__law_cell_at : FuncData
  F__law_cell_at : FnP K "_law_cell_at" "_law_cell_at" (top 22) f__law_cell_at fd__law_cell_at
  b__law_cell_at : Binds K fd__law_cell_at ["script", "k"] []
  m__law_cell_at : mg "_law_cell_at" = some (.ref f__law_cell_at)
  f__law_mixed : Addr
  fd__law_mixed : FuncData
  F__law_mixed : FnP K "_law_mixed" "_law_mixed" (top 23) f__law_mixed fd__law_mixed
  b__law_mixed : Binds K fd__law_mixed ["script", "k"] []
  m__law_mixed : mg "_law_mixed" = some (.ref f__law_mixed)
  f_make_of : Addr
  fd_make_of : FuncData
  F_make_of : FnP K "make_of" "make_of" (top 1) f_make_of fd_make_of
  b_make_of : Binds K fd_make_of ["part", "face"] []
  m_make_of : mg "make_of" = some (.ref f_make_of)
  f_gives : Addr
  fd_gives : FuncData
  F_gives : FnP K "gives" "gives" (top 2) f_gives fd_gives
  b_gives : Binds K fd_gives ["part", "want"] []
  m_gives : mg "gives" = some (.ref f_gives)
  f_givers_for : Addr
  fd_givers_for : FuncData
  F_givers_for : FnP K "givers_for" "givers_for" (top 3) f_givers_for fd_givers_for
  b_givers_for : Binds K fd_givers_for ["parts", "name", "want"] []
  m_givers_for : mg "givers_for" = some (.ref f_givers_for)
  f_lacks : Addr
  fd_lacks : FuncData
  F_lacks : FnP K "lacks" "lacks" (top 4) f_lacks fd_lacks
  b_lacks : Binds K fd_lacks ["parts", "part"] []
  m_lacks : mg "lacks" = some (.ref f_lacks)
  f_standing_parts : Addr
  fd_standing_parts : FuncData
  F_standing_parts : FnP K "standing_parts" "standing_parts" (top 5) f_standing_parts fd_standing_parts
  b_standing_parts : Binds K fd_standing_parts ["house"] []
  m_standing_parts : mg "standing_parts" = some (.ref f_standing_parts)
  f_lacking : Addr
  fd_lacking : FuncData
  F_lacking : FnP K "lacking" "lacking" (top 7) f_lacking fd_lacking
  b_lacking : Binds K fd_lacking ["house"] []
  m_lacking : mg "lacking" = some (.ref f_lacking)
  f_giver_among : Addr
  fd_giver_among : FuncData
  F_giver_among : FnP K "giver_among" "giver_among" (top 8) f_giver_among fd_giver_among
  b_giver_among : Binds K fd_giver_among ["parts", "name", "want"] []
  m_giver_among : mg "giver_among" = some (.ref f_giver_among)
  f_givers : Addr
  fd_givers : FuncData
  F_givers : FnP K "givers" "givers" (top 11) f_givers fd_givers
  b_givers : Binds K fd_givers ["house"] []
  m_givers : mg "givers" = some (.ref f_givers)
  f_order : Addr
  fd_order : FuncData
  F_order : FnP K "order" "order" (top 12) f_order fd_order
  b_order : Binds K fd_order ["house"] []
  m_order : mg "order" = some (.ref f_order)
  f_chain : Addr
  fd_chain : FuncData
  F_chain : FnP K "chain" "chain" (top 17) f_chain fd_chain
  b_chain : Binds K fd_chain ["house", "hook"] []
  m_chain : mg "chain" = some (.ref f_chain)
  f_pulled : Addr
  fd_pulled : FuncData
  F_pulled : FnP K "pulled" "pulled" (top 18) f_pulled fd_pulled
  b_pulled : Binds K fd_pulled ["house", "hook", "worth"] []
  m_pulled : mg "pulled" = some (.ref f_pulled)
  f_standing : Addr
  fd_standing : FuncData
  F_standing : FnP K "standing" "standing" (top 6) f_standing fd_standing
  b_standing : Binds K fd_standing ["house"] []
  m_standing : mg "standing" = some (.ref f_standing)
  f_stuck : Addr
  fd_stuck : FuncData
  F_stuck : FnP K "stuck" "stuck" (top 13) f_stuck fd_stuck
  b_stuck : Binds K fd_stuck ["house"] []
  m_stuck : mg "stuck" = some (.ref f_stuck)
  f_lost : Addr
  fd_lost : FuncData
  F_lost : FnP K "lost" "lost" (top 20) f_lost fd_lost
  b_lost : Binds K fd_lost ["house", "name"] []
  m_lost : mg "lost" = some (.ref f_lost)
  f_giver : Addr
  fd_giver : FuncData
  F_giver : FnP K "giver" "giver" (top 9) f_giver fd_giver
  b_giver : Binds K fd_giver ["house", "name", "face"] []
  m_giver : mg "giver" = some (.ref f_giver)
  f_leans : Addr
  fd_leans : FuncData
  F_leans : FnP K "leans" "leans" (top 14) f_leans fd_leans
  b_leans : Binds K fd_leans ["house", "name"] []
  m_leans : mg "leans" = some (.ref f_leans)
  f_law : Addr
  fd_law : FuncData
  F_law : FnP K "law" "law" (top 27) f_law fd_law
  b_law : Binds K fd_law ["script"] []
  m_law : mg "law" = some (.ref f_law)
  n_enumerate : mg "enumerate" = none
  n_range : mg "range" = none
  n_min : mg "min" = none
  n_int : mg "int" = none
  n_len : mg "len" = none
  n_dict : mg "dict" = none
  n_list : mg "list" = none
  n_tuple : mg "tuple" = none
  n_sorted : mg "sorted" = none
  n_all : mg "all" = none
  k_RING : ∃ t, mg "RING" = some (.int 1000 t)
section
variable {P : Program} {w : World} {K : PySem.W.Frag} {mg : Str → Option Value} {base : Heap}
theorem sc__law_drawn : FnScope ["number", "k", "drawn"] ["number", "k"] (defScope (top 24)) := ⟨rfl, rfl, rfl, by decide +kernel, rfl, by decide +kernel, by decide +kernel⟩
theorem ok__law_drawn (T : Facts K mg) : FnD P w K mg base 1 T.f__law_drawn T.fd__law_drawn ["number", "k"] (g2 m__law_drawn) := by
  refine fn_2 T.F__law_drawn sc__law_drawn rfl (fun a_number a_k cdv A outer s H E hr => ?_)
  have nd := sc__law_drawn.nd
  have ru := A65.of hr
  have s_number : Sl ["number", "k", "drawn"] "number" 0 := ⟨rfl, by decide, by decide⟩
  have s_k : Sl ["number", "k", "drawn"] "k" 1 := ⟨rfl, by decide, by decide⟩
  have s_drawn : Sl ["number", "k", "drawn"] "drawn" 2 := ⟨rfl, by decide, by decide⟩
  unfold m__law_drawn
  show So _ _ [.val a_number, .val a_k, .un] _ _
  refine so_set 2 nd (eo_bin of_mod (Eo.u (eo_bin of_mul (Eo.u (eo_bin of_add (Eo.u (eo_bin of_add (Eo.u (eo_v s_number)) (Eo.u (eo_bin of_mul (Eo.u eo_int) (Eo.u (eo_v s_k)))))) (Eo.u eo_int))) (Eo.u eo_int))) (Eo.u eo_int)) (fun x_drawn1 => ?_)
  exact so_ret (fun d => d) (eo_bin of_mod (Eo.u (eo_bin of_add (Eo.u (eo_bin of_add (Eo.u (eo_bin of_mul (Eo.u (eo_v s_drawn)) (Eo.u (eo_v s_drawn)))) (Eo.u (eo_bin of_mul (Eo.u eo_int) (Eo.u (eo_v s_drawn)))))) (Eo.u (eo_v s_k)))) (Eo.u eo_int))
theorem sc__law_part : FnScope ["number", "name", "faces", "wants", "hooks", "k", "face", "drawn", "low", "want", "words", "word", "deed", "hook"] ["number", "name"] (defScope (top 25)) := ⟨rfl, rfl, rfl, by decide +kernel, rfl, by decide +kernel, by decide +kernel⟩
theorem ok__law_part (T : Facts K mg) : FnD P w K mg base 2 T.f__law_part T.fd__law_part ["number", "name"] (g2 m__law_part) := by
  refine fn_2 T.F__law_part sc__law_part rfl (fun a_number a_name cdv A outer s H E hr => ?_)
  have nd := sc__law_part.nd
  have ru := A65.of hr
  have s_number : Sl ["number", "name", "faces", "wants", "hooks", "k", "face", "drawn", "low", "want", "words", "word", "deed", "hook"] "number" 0 := ⟨rfl, by decide, by decide⟩
  have s_name : Sl ["number", "name", "faces", "wants", "hooks", "k", "face", "drawn", "low", "want", "words", "word", "deed", "hook"] "name" 1 := ⟨rfl, by decide, by decide⟩
  have s_faces : Sl ["number", "name", "faces", "wants", "hooks", "k", "face", "drawn", "low", "want", "words", "word", "deed", "hook"] "faces" 2 := ⟨rfl, by decide, by decide⟩
  have s_wants : Sl ["number", "name", "faces", "wants", "hooks", "k", "face", "drawn", "low", "want", "words", "word", "deed", "hook"] "wants" 3 := ⟨rfl, by decide, by decide⟩
  have s_hooks : Sl ["number", "name", "faces", "wants", "hooks", "k", "face", "drawn", "low", "want", "words", "word", "deed", "hook"] "hooks" 4 := ⟨rfl, by decide, by decide⟩
  have s_k : Sl ["number", "name", "faces", "wants", "hooks", "k", "face", "drawn", "low", "want", "words", "word", "deed", "hook"] "k" 5 := ⟨rfl, by decide, by decide⟩
  have s_face : Sl ["number", "name", "faces", "wants", "hooks", "k", "face", "drawn", "low", "want", "words", "word", "deed", "hook"] "face" 6 := ⟨rfl, by decide, by decide⟩
  have s_drawn : Sl ["number", "name", "faces", "wants", "hooks", "k", "face", "drawn", "low", "want", "words", "word", "deed", "hook"] "drawn" 7 := ⟨rfl, by decide, by decide⟩
  have s_low : Sl ["number", "name", "faces", "wants", "hooks", "k", "face", "drawn", "low", "want", "words", "word", "deed", "hook"] "low" 8 := ⟨rfl, by decide, by decide⟩
  have s_want : Sl ["number", "name", "faces", "wants", "hooks", "k", "face", "drawn", "low", "want", "words", "word", "deed", "hook"] "want" 9 := ⟨rfl, by decide, by decide⟩
  have s_words : Sl ["number", "name", "faces", "wants", "hooks", "k", "face", "drawn", "low", "want", "words", "word", "deed", "hook"] "words" 10 := ⟨rfl, by decide, by decide⟩
  have s_word : Sl ["number", "name", "faces", "wants", "hooks", "k", "face", "drawn", "low", "want", "words", "word", "deed", "hook"] "word" 11 := ⟨rfl, by decide, by decide⟩
  have s_deed : Sl ["number", "name", "faces", "wants", "hooks", "k", "face", "drawn", "low", "want", "words", "word", "deed", "hook"] "deed" 12 := ⟨rfl, by decide, by decide⟩
  have s_hook : Sl ["number", "name", "faces", "wants", "hooks", "k", "face", "drawn", "low", "want", "words", "word", "deed", "hook"] "hook" 13 := ⟨rfl, by decide, by decide⟩
  have c__law_drawn : Cl P w K mg base "_law_drawn" 1 (g2 m__law_drawn) := ⟨_, _, _, ok__law_drawn T, T.m__law_drawn, T.F__law_drawn.kp, T.b__law_drawn⟩
  have n_enumerate : Nb mg "enumerate" (.type "enumerate") := ⟨T.n_enumerate, by decide +kernel, by decide, by decide⟩
  have n_range : Nb mg "range" (.type "range") := ⟨T.n_range, by decide +kernel, by decide, by decide⟩
  have n_min : Nb mg "min" (.builtin "min") := ⟨T.n_min, by decide +kernel, by decide, by decide⟩
  have n_int : Nb mg "int" (.type "int") := ⟨T.n_int, by decide +kernel, by decide, by decide⟩
  unfold m__law_part
  show So _ _ [.val a_number, .val a_name, .un, .un, .un, .un, .un, .un, .un, .un, .un, .un, .un, .un] _ _
  refine so_set 2 nd (eo_tup ao_nil) (fun x_faces1 => ?_)
  refine so_set 3 nd (eo_tup ao_nil) (fun x_wants2 => ?_)
  refine so_set 4 nd (eo_tup ao_nil) (fun x_hooks3 => ?_)
  refine so_for (fun (s4 : D × D) => [.val a_number, .val a_name, .val s4.1, .val s4.2, .val x_hooks3, .un, .un, .un, .un, .un, .un, .un, .un, .un]) (by repeat (first | exact le_nil | apply le_cons | apply le_un)) (io_enum n_enumerate (eo_tup (ao_cons eo_str (ao_cons eo_str (ao_cons eo_str ao_nil))))) (fun s4 => (tg_2 (Tn.mk' s_k nd) (Tn.mk' s_face nd))) (fun s4 v5 => ?_) (fun s4 => ?_)
  · refine so_set 7 nd (eo_bin of_div (Eo.u (eo_c2 c__law_drawn (hr.mono (by decide)) (eo_v s_number) (eo_v s_k))) (Eo.u eo_int)) (fun x_drawn6 => ?_)
    refine so_join (fun (j7 : D) => [.val a_number, .val a_name, .val j7, .val s4.2, .val x_hooks3, .val v5.1, .val v5.2, .val x_drawn6, .un, .un, .un, .un, .un, .un]) (et_cmpF (cm_eq ru) (Eo.u (eo_bin of_mod (Eo.u (eo_v s_drawn)) (Eo.u eo_int))) (Eo.u eo_int)) ?_ ?_ (fun j7 => ?_)
    · refine so_set 2 nd (eo_bin of_add (Eo.u (eo_v s_faces)) (Eo.u (eo_tup (ao_cons (eo_tup (ao_cons (eo_v s_face) (ao_cons (eo_bin of_add (Eo.u eo_int) (Eo.u (eo_bin of_mod (Eo.u (eo_bin of_div (Eo.u (eo_v s_drawn)) (Eo.u eo_int))) (Eo.u eo_int)))) ao_nil))) ao_nil)))) (fun x_faces8 => ?_)
      exact so_jn (by repeat (first | exact le_nil | apply le_cons | apply le_un))
    · exact so_jn (by repeat (first | exact le_nil | apply le_cons | apply le_un))
    refine so_ifE (et_cmpF (cm_eq ru) (Eo.u (eo_bin of_mod (Eo.u (eo_v s_drawn)) (Eo.u eo_int))) (Eo.u eo_int)) ?_ ?_
    · refine so_set 8 nd (eo_bin of_add (Eo.u eo_int) (Eo.u (eo_bin of_mod (Eo.u (eo_bin of_div (Eo.u (eo_v s_drawn)) (Eo.u eo_int))) (Eo.u eo_int)))) (fun x_low9 => ?_)
      refine so_set 9 nd (eo_tup (ao_cons (eo_v s_face) (ao_cons (eo_v s_low) (ao_cons (eo_b2 cb_min n_min (Eo.u eo_int) (Eo.u (eo_bin of_add (Eo.u (eo_v s_low)) (Eo.u (eo_bin of_mod (Eo.u (eo_bin of_div (Eo.u (eo_v s_drawn)) (Eo.u eo_int))) (Eo.u eo_int)))))) (ao_cons (eo_cmp (cm_gt ru) (Eo.u (eo_bin of_mod (Eo.u (eo_bin of_div (Eo.u (eo_v s_drawn)) (Eo.u eo_int))) (Eo.u eo_int))) (Eo.u eo_int)) ao_nil))))) (fun x_want10 => ?_)
      refine so_set 3 nd (eo_bin of_add (Eo.u (eo_v s_wants)) (Eo.u (eo_tup (ao_cons (eo_v s_want) ao_nil)))) (fun x_wants11 => ?_)
      exact so_go (by repeat (first | exact le_nil | apply le_cons | apply le_un))
    · exact so_go (by repeat (first | exact le_nil | apply le_cons | apply le_un))
  refine so_for (fun (s12 : D) => [.val a_number, .val a_name, .val s4.1, .val s4.2, .val s12, .un, .un, .un, .un, .un, .un, .un, .un, .un]) (by repeat (first | exact le_nil | apply le_cons | apply le_un)) (io_range n_range (eo_bin of_mod (Eo.u (eo_v s_number)) (Eo.u eo_int))) (fun s12 => (tg_1 (Tn.mk' s_k nd))) (fun s12 v13 => ?_) (fun s12 => ?_)
  · refine so_set 7 nd (eo_bin of_div (Eo.u (eo_c2 c__law_drawn (hr.mono (by decide)) (eo_v s_number) (eo_bin of_add (Eo.u eo_int) (Eo.u (eo_v s_k))))) (Eo.u eo_int)) (fun x_drawn14 => ?_)
    refine so_set 10 nd (eo_tup (ao_cons eo_str (ao_cons eo_str (ao_cons eo_str (ao_cons eo_str (ao_cons eo_str (ao_cons eo_str ao_nil))))))) (fun x_words15 => ?_)
    refine so_set 11 nd (eo_ix ru (Eo.u (eo_v s_words)) (eo_bin of_mod (Eo.u (eo_v s_drawn)) (Eo.u eo_int))) (fun x_word16 => ?_)
    refine so_set 12 nd (eo_bin of_add (Eo.u (eo_tup (ao_cons (eo_v s_word) ao_nil))) (Eo.u (eo_bin of_mul (Eo.u (eo_tup (ao_cons (eo_bin of_mod (Eo.u (eo_bin of_div (Eo.u (eo_v s_drawn)) (Eo.u eo_int))) (Eo.u (eo_ix ru (Eo.u (eo_tup (ao_cons eo_int (ao_cons eo_int ao_nil)))) (eo_bin of_mod (Eo.u (eo_bin of_div (Eo.u (eo_v s_drawn)) (Eo.u eo_int))) (Eo.u eo_int))))) ao_nil))) (Eo.u (eo_t1 ca_int n_int (Eo.u (eo_cmp (cm_ne ru) (Eo.u (eo_v s_word)) (Eo.u eo_str)))))))) (fun x_deed17 => ?_)
    refine so_set 13 nd (eo_ix ru (Eo.u (eo_tup (ao_cons eo_str (ao_cons eo_str ao_nil)))) (eo_bin of_mod (Eo.u (eo_bin of_div (Eo.u (eo_v s_drawn)) (Eo.u eo_int))) (Eo.u eo_int))) (fun x_hook18 => ?_)
    refine so_set 4 nd (eo_bin of_add (Eo.u (eo_v s_hooks)) (Eo.u (eo_tup (ao_cons (eo_tup (ao_cons (eo_v s_hook) (ao_cons (eo_ix ru (Eo.u (eo_tup (ao_cons eo_int (ao_cons (eo_neg eo_int) (ao_cons eo_int (ao_cons (eo_neg eo_int) ao_nil)))))) (eo_bin of_mod (Eo.u (eo_bin of_div (Eo.u (eo_v s_drawn)) (Eo.u eo_int))) (Eo.u eo_int))) (ao_cons (eo_v s_deed) ao_nil)))) ao_nil)))) (fun x_hooks19 => ?_)
    exact so_go (by repeat (first | exact le_nil | apply le_cons | apply le_un))
  exact so_ret (fun d => d) (eo_tup (ao_cons (eo_v s_name) (ao_cons (eo_bin of_add (Eo.u eo_int) (Eo.u (eo_bin of_mod (Eo.u (eo_bin of_div (Eo.u (eo_v s_number)) (Eo.u eo_int))) (Eo.u eo_int)))) (ao_cons (eo_v s_faces) (ao_cons (eo_cut (Eo.u (eo_v s_wants)) (po_s (eo_bin of_mod (Eo.u (eo_bin of_div (Eo.u (eo_v s_number)) (Eo.u eo_int))) (Eo.u eo_int))) po_n) (ao_cons (eo_v s_hooks) ao_nil))))))
theorem sc__law_house : FnScope ["number", "found", "k", "name", "drawn"] ["number"] (defScope (top 26)) := ⟨rfl, rfl, rfl, by decide +kernel, rfl, by decide +kernel, by decide +kernel⟩
theorem ok__law_house (T : Facts K mg) : FnD P w K mg base 3 T.f__law_house T.fd__law_house ["number"] (g1 m__law_house) := by
  refine fn_1 T.F__law_house sc__law_house rfl (fun a_number cdv A outer s H E hr => ?_)
  have nd := sc__law_house.nd
  have ru := A65.of hr
  have s_number : Sl ["number", "found", "k", "name", "drawn"] "number" 0 := ⟨rfl, by decide, by decide⟩
  have s_found : Sl ["number", "found", "k", "name", "drawn"] "found" 1 := ⟨rfl, by decide, by decide⟩
  have s_k : Sl ["number", "found", "k", "name", "drawn"] "k" 2 := ⟨rfl, by decide, by decide⟩
  have s_name : Sl ["number", "found", "k", "name", "drawn"] "name" 3 := ⟨rfl, by decide, by decide⟩
  have s_drawn : Sl ["number", "found", "k", "name", "drawn"] "drawn" 4 := ⟨rfl, by decide, by decide⟩
  have c__law_drawn : Cl P w K mg base "_law_drawn" 1 (g2 m__law_drawn) := ⟨_, _, _, ok__law_drawn T, T.m__law_drawn, T.F__law_drawn.kp, T.b__law_drawn⟩
  have c__law_part : Cl P w K mg base "_law_part" 2 (g2 m__law_part) := ⟨_, _, _, ok__law_part T, T.m__law_part, T.F__law_part.kp, T.b__law_part⟩
  have n_enumerate : Nb mg "enumerate" (.type "enumerate") := ⟨T.n_enumerate, by decide +kernel, by decide, by decide⟩
  unfold m__law_house
  show So _ _ [.val a_number, .un, .un, .un, .un] _ _
  refine so_set 1 nd (eo_tup ao_nil) (fun x_found1 => ?_)
  refine so_for (fun (s2 : D) => [.val a_number, .val s2, .un, .un, .un]) (by repeat (first | exact le_nil | apply le_cons | apply le_un)) (io_enum n_enumerate (eo_tup (ao_cons eo_str (ao_cons eo_str (ao_cons eo_str (ao_cons eo_str (ao_cons eo_str (ao_cons eo_str ao_nil)))))))) (fun s2 => (tg_2 (Tn.mk' s_k nd) (Tn.mk' s_name nd))) (fun s2 v3 => ?_) (fun s2 => ?_)
  · refine so_set 4 nd (eo_bin of_div (Eo.u (eo_c2 c__law_drawn (hr.mono (by decide)) (eo_v s_number) (eo_bin of_add (Eo.u eo_int) (Eo.u (eo_v s_k))))) (Eo.u eo_int)) (fun x_drawn4 => ?_)
    refine so_ifE (et_cmpF (cm_gt ru) (Eo.u (eo_bin of_mod (Eo.u (eo_v s_drawn)) (Eo.u eo_int))) (Eo.u (eo_bin of_mod (Eo.u (eo_v s_number)) (Eo.u eo_int)))) ?_ ?_
    · refine so_set 1 nd (eo_bin of_add (Eo.u (eo_v s_found)) (Eo.u (eo_tup (ao_cons (eo_c2 c__law_part (hr.mono (by decide)) (eo_bin of_div (Eo.u (eo_v s_drawn)) (Eo.u eo_int)) (eo_v s_name)) ao_nil)))) (fun x_found5 => ?_)
      exact so_go (by repeat (first | exact le_nil | apply le_cons | apply le_un))
    · exact so_go (by repeat (first | exact le_nil | apply le_cons | apply le_un))
  exact so_ret (fun d => d) (eo_v s_found)
theorem sc__law_cell_at : FnScope ["script", "k"] ["script", "k"] (defScope (top 22)) := ⟨rfl, rfl, rfl, by decide +kernel, rfl, by decide +kernel, by decide +kernel⟩
theorem ok__law_cell_at (T : Facts K mg) : FnD P w K mg base 1 T.f__law_cell_at T.fd__law_cell_at ["script", "k"] (g2 m__law_cell_at) := by
  refine fn_2 T.F__law_cell_at sc__law_cell_at rfl (fun a_script a_k cdv A outer s H E hr => ?_)
  have nd := sc__law_cell_at.nd
  have ru := A65.of hr
  have s_script : Sl ["script", "k"] "script" 0 := ⟨rfl, by decide, by decide⟩
  have s_k : Sl ["script", "k"] "k" 1 := ⟨rfl, by decide, by decide⟩
  have n_len : Nb mg "len" (.builtin "len") := ⟨T.n_len, by decide +kernel, by decide, by decide⟩
  unfold m__law_cell_at
  show So _ _ [.val a_script, .val a_k] _ _
  refine so_ifT (et_cmpF (cm_lt ru) (Eo.u (eo_v s_k)) (Eo.u (eo_b1 ca_len n_len (Eo.u (eo_v s_script))))) ?_ ?_
  · exact so_ret (fun d => d) (eo_ix ru (Eo.u (eo_v s_script)) (eo_v s_k))
  exact so_ret (fun d => d) eo_int
theorem sc__law_mixed : FnScope ["script", "k", "drawn"] ["script", "k"] (defScope (top 23)) := ⟨rfl, rfl, rfl, by decide +kernel, rfl, by decide +kernel, by decide +kernel⟩
theorem ok__law_mixed (T : Facts K mg) : FnD P w K mg base 2 T.f__law_mixed T.fd__law_mixed ["script", "k"] (g2 m__law_mixed) := by
  refine fn_2 T.F__law_mixed sc__law_mixed rfl (fun a_script a_k cdv A outer s H E hr => ?_)
  have nd := sc__law_mixed.nd
  have ru := A65.of hr
  have s_script : Sl ["script", "k", "drawn"] "script" 0 := ⟨rfl, by decide, by decide⟩
  have s_k : Sl ["script", "k", "drawn"] "k" 1 := ⟨rfl, by decide, by decide⟩
  have s_drawn : Sl ["script", "k", "drawn"] "drawn" 2 := ⟨rfl, by decide, by decide⟩
  have c__law_cell_at : Cl P w K mg base "_law_cell_at" 1 (g2 m__law_cell_at) := ⟨_, _, _, ok__law_cell_at T, T.m__law_cell_at, T.F__law_cell_at.kp, T.b__law_cell_at⟩
  unfold m__law_mixed
  show So _ _ [.val a_script, .val a_k, .un] _ _
  refine so_set 2 nd (eo_bin of_mod (Eo.u (eo_bin of_mul (Eo.u (eo_bin of_add (Eo.u (eo_bin of_add (Eo.u (eo_c2 c__law_cell_at (hr.mono (by decide)) (eo_v s_script) (eo_v s_k))) (Eo.u (eo_bin of_mul (Eo.u eo_int) (Eo.u (eo_v s_k)))))) (Eo.u eo_int))) (Eo.u eo_int))) (Eo.u eo_int)) (fun x_drawn1 => ?_)
  exact so_ret (fun d => d) (eo_bin of_mod (Eo.u (eo_bin of_add (Eo.u (eo_bin of_add (Eo.u (eo_bin of_mul (Eo.u (eo_v s_drawn)) (Eo.u (eo_v s_drawn)))) (Eo.u (eo_bin of_mul (Eo.u eo_int) (Eo.u (eo_v s_drawn)))))) (Eo.u (eo_v s_k)))) (Eo.u eo_int))
theorem sc_make_of : FnScope ["part", "face"] ["part", "face"] (defScope (top 1)) := ⟨rfl, rfl, rfl, by decide +kernel, rfl, by decide +kernel, by decide +kernel⟩
theorem ok_make_of (T : Facts K mg) : FnD P w K mg base 1 T.f_make_of T.fd_make_of ["part", "face"] (g2 m_make_of) := by
  refine fn_2 T.F_make_of sc_make_of rfl (fun a_part a_face cdv A outer s H E hr => ?_)
  have nd := sc_make_of.nd
  have ru := A65.of hr
  have s_part : Sl ["part", "face"] "part" 0 := ⟨rfl, by decide, by decide⟩
  have s_face : Sl ["part", "face"] "face" 1 := ⟨rfl, by decide, by decide⟩
  have n_dict : Nb mg "dict" (.type "dict") := ⟨T.n_dict, by decide +kernel, by decide, by decide⟩
  unfold m_make_of
  show So _ _ [.val a_part, .val a_face] _ _
  exact so_ret (fun d => d) (eo_get ru (Eo.u (Ed.o (ed_t1 cd_dict n_dict (Eo.u (eo_ix ru (Eo.u (eo_v s_part)) eo_int))))) (eo_v s_face) eo_int)
theorem sc_gives : FnScope ["part", "want"] ["part", "want"] (defScope (top 2)) := ⟨rfl, rfl, rfl, by decide +kernel, rfl, by decide +kernel, by decide +kernel⟩
theorem ok_gives (T : Facts K mg) : FnD P w K mg base 2 T.f_gives T.fd_gives ["part", "want"] (g2 m_gives) := by
  refine fn_2 T.F_gives sc_gives rfl (fun a_part a_want cdv A outer s H E hr => ?_)
  have nd := sc_gives.nd
  have ru := A65.of hr
  have s_part : Sl ["part", "want"] "part" 0 := ⟨rfl, by decide, by decide⟩
  have s_want : Sl ["part", "want"] "want" 1 := ⟨rfl, by decide, by decide⟩
  have c_make_of : Cl P w K mg base "make_of" 1 (g2 m_make_of) := ⟨_, _, _, ok_make_of T, T.m_make_of, T.F_make_of.kp, T.b_make_of⟩
  unfold m_gives
  show So _ _ [.val a_part, .val a_want] _ _
  exact so_ret (fun d => d) (eo_chain cm_le cm_le (eo_ix ru (Eo.u (eo_v s_want)) eo_int) (eo_c2 c_make_of (hr.mono (by decide)) (eo_v s_part) (eo_ix ru (Eo.u (eo_v s_want)) eo_int)) (eo_ix ru (Eo.u (eo_v s_want)) eo_int))
theorem sc_givers_for : FnScope ["parts", "name", "want", "part"] ["parts", "name", "want"] (defScope (top 3)) := ⟨rfl, rfl, rfl, by decide +kernel, rfl, by decide +kernel, by decide +kernel⟩
theorem ok_givers_for (T : Facts K mg) : FnD P w K mg base 3 T.f_givers_for T.fd_givers_for ["parts", "name", "want"] (g3 m_givers_for) := by
  refine fn_3 T.F_givers_for sc_givers_for rfl (fun a_parts a_name a_want cdv A outer s H E hr => ?_)
  have nd := sc_givers_for.nd
  have ru := A65.of hr
  have s_parts : Sl ["parts", "name", "want", "part"] "parts" 0 := ⟨rfl, by decide, by decide⟩
  have s_name : Sl ["parts", "name", "want", "part"] "name" 1 := ⟨rfl, by decide, by decide⟩
  have s_want : Sl ["parts", "name", "want", "part"] "want" 2 := ⟨rfl, by decide, by decide⟩
  have s_part : Sl ["parts", "name", "want", "part"] "part" 3 := ⟨rfl, by decide, by decide⟩
  have c_gives : Cl P w K mg base "gives" 2 (g2 m_gives) := ⟨_, _, _, ok_gives T, T.m_gives, T.F_gives.kp, T.b_gives⟩
  unfold m_givers_for
  show So _ _ [.val a_parts, .val a_name, .val a_want, .un] _ _
  exact so_ret (fun d => d) (En.o (en_lc nd (by kernel_rfl) (Io.q (io_v (eo_v s_parts))) (fun _ _ _ _ _ => (tg_1 (Tn.mk' s_part nd))) (fun v1 => fun _ _ _ _ _ => (ts_one (et_w (ew_a (et_cmpF (cm_ne ru) (Eo.u (eo_ix ru (Eo.u (eo_v s_part)) eo_int)) (Eo.u (eo_v s_name))) (ew_a1 (et_v (eo_c2 c_gives (hr.mono (by decide)) (eo_v s_part) (eo_v s_want)))))))) (fun v1 => fun _ _ _ _ _ => (eo_v s_part)) (by kernel_rfl)))
theorem sc_lacks : FnScope ["parts", "part", "want"] ["parts", "part"] (defScope (top 4)) := ⟨rfl, rfl, rfl, by decide +kernel, rfl, by decide +kernel, by decide +kernel⟩
theorem ok_lacks (T : Facts K mg) : FnD P w K mg base 4 T.f_lacks T.fd_lacks ["parts", "part"] (g2 m_lacks) := by
  refine fn_2 T.F_lacks sc_lacks rfl (fun a_parts a_part cdv A outer s H E hr => ?_)
  have nd := sc_lacks.nd
  have ru := A65.of hr
  have s_parts : Sl ["parts", "part", "want"] "parts" 0 := ⟨rfl, by decide, by decide⟩
  have s_part : Sl ["parts", "part", "want"] "part" 1 := ⟨rfl, by decide, by decide⟩
  have s_want : Sl ["parts", "part", "want"] "want" 2 := ⟨rfl, by decide, by decide⟩
  have c_givers_for : Cl P w K mg base "givers_for" 3 (g3 m_givers_for) := ⟨_, _, _, ok_givers_for T, T.m_givers_for, T.F_givers_for.kp, T.b_givers_for⟩
  have n_len : Nb mg "len" (.builtin "len") := ⟨T.n_len, by decide +kernel, by decide, by decide⟩
  unfold m_lacks
  show So _ _ [.val a_parts, .val a_part, .un] _ _
  exact so_ret (fun d => d) (En.o (en_lc nd (by kernel_rfl) (Io.q (io_v (eo_ix ru (Eo.u (eo_v s_part)) eo_int))) (fun _ _ _ _ _ => (tg_1 (Tn.mk' s_want nd))) (fun v1 => fun _ _ _ _ _ => (ts_one (et_w (ew_a (et_v (eo_ix ru (Eo.u (eo_v s_want)) eo_int)) (ew_a1 (et_cmpF (cm_eq ru) (Eo.u (eo_b1 ca_len n_len (Eo.u (eo_c3 c_givers_for (hr.mono (by decide)) (eo_v s_parts) (eo_ix ru (Eo.u (eo_v s_part)) eo_int) (eo_v s_want))))) (Eo.u eo_int))))))) (fun v1 => fun _ _ _ _ _ => (eo_ix ru (Eo.u (eo_v s_want)) eo_int)) (by kernel_rfl)))
theorem sc_standing_parts : FnScope ["house", "parts", "left", "part"] ["house"] (defScope (top 5)) := ⟨rfl, rfl, rfl, by decide +kernel, rfl, by decide +kernel, by decide +kernel⟩
theorem ok_standing_parts (T : Facts K mg) : FnD P w K mg base 5 T.f_standing_parts T.fd_standing_parts ["house"] (g1 m_standing_parts) := by
  refine fn_1 T.F_standing_parts sc_standing_parts rfl (fun a_house cdv A outer s H E hr => ?_)
  have nd := sc_standing_parts.nd
  have ru := A65.of hr
  have s_house : Sl ["house", "parts", "left", "part"] "house" 0 := ⟨rfl, by decide, by decide⟩
  have s_parts : Sl ["house", "parts", "left", "part"] "parts" 1 := ⟨rfl, by decide, by decide⟩
  have s_left : Sl ["house", "parts", "left", "part"] "left" 2 := ⟨rfl, by decide, by decide⟩
  have s_part : Sl ["house", "parts", "left", "part"] "part" 3 := ⟨rfl, by decide, by decide⟩
  have c_lacks : Cl P w K mg base "lacks" 4 (g2 m_lacks) := ⟨_, _, _, ok_lacks T, T.m_lacks, T.F_lacks.kp, T.b_lacks⟩
  have n_list : Nb mg "list" (.type "list") := ⟨T.n_list, by decide +kernel, by decide, by decide⟩
  have n_len : Nb mg "len" (.builtin "len") := ⟨T.n_len, by decide +kernel, by decide, by decide⟩
  unfold m_standing_parts
  show So _ _ [.val a_house, .un, .un, .un] _ _
  refine so_set 1 nd (En.o (en_t1 cn_list n_list (Eo.u (eo_v s_house)))) (fun x_parts1 => ?_)
  refine so_lc 2 nd (by kernel_rfl) (Io.q (io_v (eo_v s_parts))) (fun _ _ _ _ _ => (tg_1 (Tn.mk' s_part nd))) (fun v3 => fun _ _ _ _ _ => (ts_one (et_cmpF (cm_eq ru) (Eo.u (eo_b1 ca_len n_len (Eo.u (eo_c2 c_lacks (hr.mono (by decide)) (eo_v s_parts) (eo_v s_part))))) (Eo.u eo_int)))) (fun v3 => fun _ _ _ _ _ => (eo_v s_part)) (by kernel_rfl) (by rfl) (fun x_left2 => ?_)
  refine so_while (fun (s4 : D × D) => [.val a_house, .val s4.1, .val s4.2, .un]) 4096 (by repeat (first | exact le_nil | apply le_cons | apply le_un)) (fun s4 => (et_cmpF (cm_lt ru) (Eo.u (eo_b1 ca_len n_len (Eo.u (eo_v s_left)))) (Eo.u (eo_b1 ca_len n_len (Eo.u (eo_v s_parts)))))) (fun s4 => ?_) (fun s4 => ?_)
  · refine so_set 1 nd (eo_v s_left) (fun x_parts5 => ?_)
    refine so_lc 2 nd (by kernel_rfl) (Io.q (io_v (eo_v s_parts))) (fun _ _ _ _ _ => (tg_1 (Tn.mk' s_part nd))) (fun v7 => fun _ _ _ _ _ => (ts_one (et_cmpF (cm_eq ru) (Eo.u (eo_b1 ca_len n_len (Eo.u (eo_c2 c_lacks (hr.mono (by decide)) (eo_v s_parts) (eo_v s_part))))) (Eo.u eo_int)))) (fun v7 => fun _ _ _ _ _ => (eo_v s_part)) (by kernel_rfl) (by rfl) (fun x_left6 => ?_)
    exact so_go (by repeat (first | exact le_nil | apply le_cons | apply le_un))
  exact so_ret (fun d => d) (eo_v s_parts)
theorem sc_lacking : FnScope ["house", "parts", "found", "part", "face"] ["house"] (defScope (top 7)) := ⟨rfl, rfl, rfl, by decide +kernel, rfl, by decide +kernel, by decide +kernel⟩
theorem ok_lacking (T : Facts K mg) : FnD P w K mg base 6 T.f_lacking T.fd_lacking ["house"] (g1 m_lacking) := by
  refine fn_1 T.F_lacking sc_lacking rfl (fun a_house cdv A outer s H E hr => ?_)
  have nd := sc_lacking.nd
  have ru := A65.of hr
  have s_house : Sl ["house", "parts", "found", "part", "face"] "house" 0 := ⟨rfl, by decide, by decide⟩
  have s_parts : Sl ["house", "parts", "found", "part", "face"] "parts" 1 := ⟨rfl, by decide, by decide⟩
  have s_found : Sl ["house", "parts", "found", "part", "face"] "found" 2 := ⟨rfl, by decide, by decide⟩
  have s_part : Sl ["house", "parts", "found", "part", "face"] "part" 3 := ⟨rfl, by decide, by decide⟩
  have s_face : Sl ["house", "parts", "found", "part", "face"] "face" 4 := ⟨rfl, by decide, by decide⟩
  have c_standing_parts : Cl P w K mg base "standing_parts" 5 (g1 m_standing_parts) := ⟨_, _, _, ok_standing_parts T, T.m_standing_parts, T.F_standing_parts.kp, T.b_standing_parts⟩
  have c_lacks : Cl P w K mg base "lacks" 4 (g2 m_lacks) := ⟨_, _, _, ok_lacks T, T.m_lacks, T.F_lacks.kp, T.b_lacks⟩
  have n_tuple : Nb mg "tuple" (.type "tuple") := ⟨T.n_tuple, by decide +kernel, by decide, by decide⟩
  have n_sorted : Nb mg "sorted" (.builtin "sorted") := ⟨T.n_sorted, by decide +kernel, by decide, by decide⟩
  unfold m_lacking
  show So _ _ [.val a_house, .un, .un, .un, .un] _ _
  refine so_set 1 nd (eo_c1 c_standing_parts (hr.mono (by decide)) (eo_v s_house)) (fun x_parts1 => ?_)
  refine so_new 2 nd (en_lst ao_nil) (fun x_found2 => ?_)
  refine so_for (fun (s3 : List D) => [.val a_house, .val x_parts1, .own s3, .un, .un]) (by repeat (first | exact le_nil | apply le_cons | apply le_un)) (io_v (eo_v s_house)) (fun s3 => (tg_1 (Tn.mk' s_part nd))) (fun s3 v4 => ?_) (fun s3 => ?_)
  · refine so_ifE (et_cmpF (cm_nin ru) (Eo.u (eo_v s_part)) (Eo.u (eo_v s_parts))) ?_ ?_
    · refine so_extend 2 s_found rfl (by first | exact Or.inl rfl | exact Or.inr (Or.inl rfl) | exact Or.inr (Or.inr rfl)) (en_lc nd (by kernel_rfl) (Io.q (io_v (eo_c2 c_lacks (hr.mono (by decide)) (eo_v s_parts) (eo_v s_part)))) (fun _ _ _ _ _ => (tg_1 (Tn.mk' s_face nd))) (fun v6 => fun _ _ _ _ _ => ts_nil) (fun v6 => fun _ _ _ _ _ => (eo_tup (ao_cons (eo_ix ru (Eo.u (eo_v s_part)) eo_int) (ao_cons (eo_v s_face) ao_nil)))) (by kernel_rfl)) (fun x_found7 => ?_)
      exact so_go (by repeat (first | exact le_nil | apply le_cons | apply le_un))
    · exact so_go (by repeat (first | exact le_nil | apply le_cons | apply le_un))
  exact so_ret (fun d => d) (eo_t1 ca_tup n_tuple (Eo.u (En.o (en_b1 (cn_sort ru) n_sorted (eu_vo s_found)))))
theorem sc_giver_among : FnScope ["parts", "name", "want", "best", "part"] ["parts", "name", "want"] (defScope (top 8)) := ⟨rfl, rfl, rfl, by decide +kernel, rfl, by decide +kernel, by decide +kernel⟩
theorem ok_giver_among (T : Facts K mg) : FnD P w K mg base 4 T.f_giver_among T.fd_giver_among ["parts", "name", "want"] (g3 m_giver_among) := by
  refine fn_3 T.F_giver_among sc_giver_among rfl (fun a_parts a_name a_want cdv A outer s H E hr => ?_)
  have nd := sc_giver_among.nd
  have ru := A65.of hr
  have s_parts : Sl ["parts", "name", "want", "best", "part"] "parts" 0 := ⟨rfl, by decide, by decide⟩
  have s_name : Sl ["parts", "name", "want", "best", "part"] "name" 1 := ⟨rfl, by decide, by decide⟩
  have s_want : Sl ["parts", "name", "want", "best", "part"] "want" 2 := ⟨rfl, by decide, by decide⟩
  have s_best : Sl ["parts", "name", "want", "best", "part"] "best" 3 := ⟨rfl, by decide, by decide⟩
  have s_part : Sl ["parts", "name", "want", "best", "part"] "part" 4 := ⟨rfl, by decide, by decide⟩
  have c_givers_for : Cl P w K mg base "givers_for" 3 (g3 m_givers_for) := ⟨_, _, _, ok_givers_for T, T.m_givers_for, T.F_givers_for.kp, T.b_givers_for⟩
  have c_make_of : Cl P w K mg base "make_of" 1 (g2 m_make_of) := ⟨_, _, _, ok_make_of T, T.m_make_of, T.F_make_of.kp, T.b_make_of⟩
  unfold m_giver_among
  show So _ _ [.val a_parts, .val a_name, .val a_want, .un, .un] _ _
  refine so_set 3 nd eo_non (fun x_best1 => ?_)
  refine so_for (fun (s2 : D) => [.val a_parts, .val a_name, .val a_want, .val s2, .un]) (by repeat (first | exact le_nil | apply le_cons | apply le_un)) (io_v (eo_c3 c_givers_for (hr.mono (by decide)) (eo_v s_parts) (eo_v s_name) (eo_v s_want))) (fun s2 => (tg_1 (Tn.mk' s_part nd))) (fun s2 v3 => ?_) (fun s2 => ?_)
  · refine so_ifE (et_w (ew_o (et_isN (Eo.u (eo_v s_best))) (ew_o1 (et_cmpF (cm_gt ru) (Eo.u (eo_c2 c_make_of (hr.mono (by decide)) (eo_v s_part) (eo_ix ru (Eo.u (eo_v s_want)) eo_int))) (Eo.u (eo_c2 c_make_of (hr.mono (by decide)) (eo_v s_best) (eo_ix ru (Eo.u (eo_v s_want)) eo_int))))))) ?_ ?_
    · refine so_set 3 nd (eo_v s_part) (fun x_best4 => ?_)
      exact so_go (by repeat (first | exact le_nil | apply le_cons | apply le_un))
    · exact so_go (by repeat (first | exact le_nil | apply le_cons | apply le_un))
  refine so_ifT (et_isN (Eo.u (eo_v s_best))) ?_ ?_
  · exact so_ret (fun d => d) eo_non
  exact so_ret (fun d => d) (eo_ix ru (Eo.u (eo_v s_best)) eo_int)
theorem sc_givers : FnScope ["house", "parts", "found", "part", "some", "want", "one"] ["house"] (defScope (top 11)) := ⟨rfl, rfl, rfl, by decide +kernel, rfl, by decide +kernel, by decide +kernel⟩
theorem ok_givers (T : Facts K mg) : FnD P w K mg base 6 T.f_givers T.fd_givers ["house"] (g1 m_givers) := by
  refine fn_1 T.F_givers sc_givers rfl (fun a_house cdv A outer s H E hr => ?_)
  have nd := sc_givers.nd
  have ru := A65.of hr
  have s_house : Sl ["house", "parts", "found", "part", "some", "want", "one"] "house" 0 := ⟨rfl, by decide, by decide⟩
  have s_parts : Sl ["house", "parts", "found", "part", "some", "want", "one"] "parts" 1 := ⟨rfl, by decide, by decide⟩
  have s_found : Sl ["house", "parts", "found", "part", "some", "want", "one"] "found" 2 := ⟨rfl, by decide, by decide⟩
  have s_part : Sl ["house", "parts", "found", "part", "some", "want", "one"] "part" 3 := ⟨rfl, by decide, by decide⟩
  have s_some : Sl ["house", "parts", "found", "part", "some", "want", "one"] "some" 4 := ⟨rfl, by decide, by decide⟩
  have s_want : Sl ["house", "parts", "found", "part", "some", "want", "one"] "want" 5 := ⟨rfl, by decide, by decide⟩
  have s_one : Sl ["house", "parts", "found", "part", "some", "want", "one"] "one" 6 := ⟨rfl, by decide, by decide⟩
  have c_standing_parts : Cl P w K mg base "standing_parts" 5 (g1 m_standing_parts) := ⟨_, _, _, ok_standing_parts T, T.m_standing_parts, T.F_standing_parts.kp, T.b_standing_parts⟩
  have c_giver_among : Cl P w K mg base "giver_among" 4 (g3 m_giver_among) := ⟨_, _, _, ok_giver_among T, T.m_giver_among, T.F_giver_among.kp, T.b_giver_among⟩
  unfold m_givers
  show So _ _ [.val a_house, .un, .un, .un, .un, .un, .un] _ _
  refine so_set 1 nd (eo_c1 c_standing_parts (hr.mono (by decide)) (eo_v s_house)) (fun x_parts1 => ?_)
  refine so_newD 2 nd ed_new (fun x_found2 => ?_)
  refine so_for (fun (s3 : List (D × D)) => [.val a_house, .val x_parts1, .dic s3, .un, .un, .un, .un]) (by repeat (first | exact le_nil | apply le_cons | apply le_un)) (io_v (eo_v s_parts)) (fun s3 => (tg_1 (Tn.mk' s_part nd))) (fun s3 v4 => ?_) (fun s3 => ?_)
  · refine so_lc 4 nd (by kernel_rfl) (Io.q (io_v (eo_ix ru (Eo.u (eo_v s_part)) eo_int))) (fun _ _ _ _ _ => (tg_1 (Tn.mk' s_want nd))) (fun v6 => fun _ _ _ _ _ => ts_nil) (fun v6 => fun _ _ _ _ _ => (eo_c3 c_giver_among (hr.mono (by decide)) (eo_v s_parts) (eo_ix ru (Eo.u (eo_v s_part)) eo_int) (eo_v s_want))) (by kernel_rfl) (by rfl) (fun x_some5 => ?_)
    refine so_dput 2 ru s_found rfl (by first | exact Or.inl rfl | exact Or.inr (Or.inl rfl) | exact Or.inr (Or.inr rfl)) (eo_ix ru (Eo.u (eo_v s_part)) eo_int) (En.o (en_lc nd (by kernel_rfl) (Io.q (io_v (eo_v s_some))) (fun _ _ _ _ _ => (tg_1 (Tn.mk' s_one nd))) (fun v7 => fun _ _ _ _ _ => (ts_one (et_isNN (Eo.u (eo_v s_one))))) (fun v7 => fun _ _ _ _ _ => (eo_v s_one)) (by kernel_rfl))) (fun x_found8 => ?_)
    exact so_go (by repeat (first | exact le_nil | apply le_cons | apply le_un))
  exact so_retDic (fun d => d) 2 s_found
theorem sc_order : FnScope ["house", "book", "found", "turn", "ready", "name", "one"] ["house"] (defScope (top 12)) := ⟨rfl, rfl, rfl, by decide +kernel, rfl, by decide +kernel, by decide +kernel⟩
theorem ok_order (T : Facts K mg) : FnD P w K mg base 7 T.f_order T.fd_order ["house"] (g1 m_order) := by
  refine fn_1 T.F_order sc_order rfl (fun a_house cdv A outer s H E hr => ?_)
  have nd := sc_order.nd
  have ru := A65.of hr
  have s_house : Sl ["house", "book", "found", "turn", "ready", "name", "one"] "house" 0 := ⟨rfl, by decide, by decide⟩
  have s_book : Sl ["house", "book", "found", "turn", "ready", "name", "one"] "book" 1 := ⟨rfl, by decide, by decide⟩
  have s_found : Sl ["house", "book", "found", "turn", "ready", "name", "one"] "found" 2 := ⟨rfl, by decide, by decide⟩
  have s_turn : Sl ["house", "book", "found", "turn", "ready", "name", "one"] "turn" 3 := ⟨rfl, by decide, by decide⟩
  have s_ready : Sl ["house", "book", "found", "turn", "ready", "name", "one"] "ready" 4 := ⟨rfl, by decide, by decide⟩
  have s_name : Sl ["house", "book", "found", "turn", "ready", "name", "one"] "name" 5 := ⟨rfl, by decide, by decide⟩
  have s_one : Sl ["house", "book", "found", "turn", "ready", "name", "one"] "one" 6 := ⟨rfl, by decide, by decide⟩
  have c_givers : Cl P w K mg base "givers" 6 (g1 m_givers) := ⟨_, _, _, ok_givers T, T.m_givers, T.F_givers.kp, T.b_givers⟩
  have n_list : Nb mg "list" (.type "list") := ⟨T.n_list, by decide +kernel, by decide, by decide⟩
  have n_tuple : Nb mg "tuple" (.type "tuple") := ⟨T.n_tuple, by decide +kernel, by decide, by decide⟩
  have n_len : Nb mg "len" (.builtin "len") := ⟨T.n_len, by decide +kernel, by decide, by decide⟩
  have n_all : Nb mg "all" (.builtin "all") := ⟨T.n_all, by decide +kernel, by decide, by decide⟩
  unfold m_order
  show So _ _ [.val a_house, .un, .un, .un, .un, .un, .un] _ _
  refine so_set 1 nd (eo_c1 c_givers (hr.mono (by decide)) (eo_v s_house)) (fun x_book1 => ?_)
  refine so_new 2 nd (en_lst ao_nil) (fun x_found2 => ?_)
  refine so_for (fun (s3 : List D) => [.val a_house, .val x_book1, .own s3, .un, .un, .un, .un]) (by repeat (first | exact le_nil | apply le_cons | apply le_un)) (io_v (En.o (en_t1 cn_list n_list (Eo.u (eo_v s_book))))) (fun s3 => (tg_1 (Tn.mk' s_turn nd))) (fun s3 v4 => ?_) (fun s3 => ?_)
  · refine so_lc 4 nd (by kernel_rfl) (Io.q (io_v (eo_v s_book))) (fun _ _ _ _ _ => (tg_1 (Tn.mk' s_name nd))) (fun v6 => fun _ _ _ _ _ => (ts_one (et_w (ew_a (et_cmpF (cm_nin ru) (Eo.u (eo_v s_name)) (eu_vo s_found)) (ew_a1 (et_v (eo_b1 ca_all n_all (Eo.u (En.o (en_lc nd (by kernel_rfl) (Io.q (io_v (eo_ix ru (Eo.u (eo_v s_book)) (eo_v s_name)))) (fun _ _ _ _ _ => (tg_1 (Tn.mk' s_one nd))) (fun v7 => fun _ _ _ _ _ => ts_nil) (fun v7 => fun _ _ _ _ _ => (eo_cmp (cm_in ru) (Eo.u (eo_v s_one)) (eu_vo s_found))) (by kernel_rfl))))))))))) (fun v6 => fun _ _ _ _ _ => (eo_v s_name)) (by kernel_rfl) (by rfl) (fun x_ready5 => ?_)
    refine so_ifE (et_cmpF (cm_gt ru) (Eo.u (eo_b1 ca_len n_len (Eo.u (eo_v s_ready)))) (Eo.u eo_int)) ?_ ?_
    · refine so_append 2 s_found rfl (by first | exact Or.inl rfl | exact Or.inr (Or.inl rfl) | exact Or.inr (Or.inr rfl)) (eo_ix ru (Eo.u (eo_v s_ready)) eo_int) (fun x_found9 => ?_)
      exact so_go (by repeat (first | exact le_nil | apply le_cons | apply le_un))
    · exact so_go (by repeat (first | exact le_nil | apply le_cons | apply le_un))
  exact so_ret (fun d => d) (eo_t1 ca_tup n_tuple (eu_vo s_found))
theorem sc_chain : FnScope ["house", "hook", "book", "part", "found", "place", "name", "at", "row", "rank", "deed"] ["house", "hook"] (defScope (top 17)) := ⟨rfl, rfl, rfl, by decide +kernel, rfl, by decide +kernel, by decide +kernel⟩
theorem ok_chain (T : Facts K mg) : FnD P w K mg base 8 T.f_chain T.fd_chain ["house", "hook"] (g2 m_chain) := by
  refine fn_2 T.F_chain sc_chain rfl (fun a_house a_hook cdv A outer s H E hr => ?_)
  have nd := sc_chain.nd
  have ru := A65.of hr
  have s_house : Sl ["house", "hook", "book", "part", "found", "place", "name", "at", "row", "rank", "deed"] "house" 0 := ⟨rfl, by decide, by decide⟩
  have s_hook : Sl ["house", "hook", "book", "part", "found", "place", "name", "at", "row", "rank", "deed"] "hook" 1 := ⟨rfl, by decide, by decide⟩
  have s_book : Sl ["house", "hook", "book", "part", "found", "place", "name", "at", "row", "rank", "deed"] "book" 2 := ⟨rfl, by decide, by decide⟩
  have s_part : Sl ["house", "hook", "book", "part", "found", "place", "name", "at", "row", "rank", "deed"] "part" 3 := ⟨rfl, by decide, by decide⟩
  have s_found : Sl ["house", "hook", "book", "part", "found", "place", "name", "at", "row", "rank", "deed"] "found" 4 := ⟨rfl, by decide, by decide⟩
  have s_place : Sl ["house", "hook", "book", "part", "found", "place", "name", "at", "row", "rank", "deed"] "place" 5 := ⟨rfl, by decide, by decide⟩
  have s_name : Sl ["house", "hook", "book", "part", "found", "place", "name", "at", "row", "rank", "deed"] "name" 6 := ⟨rfl, by decide, by decide⟩
  have s_at : Sl ["house", "hook", "book", "part", "found", "place", "name", "at", "row", "rank", "deed"] "at" 7 := ⟨rfl, by decide, by decide⟩
  have s_row : Sl ["house", "hook", "book", "part", "found", "place", "name", "at", "row", "rank", "deed"] "row" 8 := ⟨rfl, by decide, by decide⟩
  have s_rank : Sl ["house", "hook", "book", "part", "found", "place", "name", "at", "row", "rank", "deed"] "rank" 9 := ⟨rfl, by decide, by decide⟩
  have s_deed : Sl ["house", "hook", "book", "part", "found", "place", "name", "at", "row", "rank", "deed"] "deed" 10 := ⟨rfl, by decide, by decide⟩
  have c_order : Cl P w K mg base "order" 7 (g1 m_order) := ⟨_, _, _, ok_order T, T.m_order, T.F_order.kp, T.b_order⟩
  have n_dict : Nb mg "dict" (.type "dict") := ⟨T.n_dict, by decide +kernel, by decide, by decide⟩
  have n_enumerate : Nb mg "enumerate" (.type "enumerate") := ⟨T.n_enumerate, by decide +kernel, by decide, by decide⟩
  have n_tuple : Nb mg "tuple" (.type "tuple") := ⟨T.n_tuple, by decide +kernel, by decide, by decide⟩
  have n_sorted : Nb mg "sorted" (.builtin "sorted") := ⟨T.n_sorted, by decide +kernel, by decide, by decide⟩
  unfold m_chain
  show So _ _ [.val a_house, .val a_hook, .un, .un, .un, .un, .un, .un, .un, .un, .un] _ _
  refine so_set 2 nd (Ed.o (ed_t1 cd_dict n_dict (Eo.u (En.o (en_lc nd (by kernel_rfl) (Io.q (io_v (eo_v s_house))) (fun _ _ _ _ _ => (tg_1 (Tn.mk' s_part nd))) (fun v2 => fun _ _ _ _ _ => ts_nil) (fun v2 => fun _ _ _ _ _ => (eo_tup (ao_cons (eo_ix ru (Eo.u (eo_v s_part)) eo_int) (ao_cons (eo_v s_part) ao_nil)))) (by kernel_rfl)))))) (fun x_book1 => ?_)
  refine so_new 4 nd (en_lst ao_nil) (fun x_found3 => ?_)
  refine so_for (fun (s4 : List D) => [.val a_house, .val a_hook, .val x_book1, .un, .own s4, .un, .un, .un, .un, .un, .un]) (by repeat (first | exact le_nil | apply le_cons | apply le_un)) (io_enum n_enumerate (eo_c1 c_order (hr.mono (by decide)) (eo_v s_house))) (fun s4 => (tg_2 (Tn.mk' s_place nd) (Tn.mk' s_name nd))) (fun s4 v5 => ?_) (fun s4 => ?_)
  · refine so_for (fun (s6 : List D) => [.val a_house, .val a_hook, .val x_book1, .un, .own s6, .val v5.1, .val v5.2, .un, .un, .un, .un]) (by repeat (first | exact le_nil | apply le_cons | apply le_un)) (io_enum n_enumerate (eo_ix ru (Eo.u (eo_ix ru (Eo.u (eo_v s_book)) (eo_v s_name))) eo_int)) (fun s6 => (tg_2 (Tn.mk' s_at nd) (Tn.mk' s_row nd))) (fun s6 v7 => ?_) (fun s6 => ?_)
    · refine so_ifE (et_cmpF (cm_eq ru) (Eo.u (eo_ix ru (Eo.u (eo_v s_row)) eo_int)) (Eo.u (eo_v s_hook))) ?_ ?_
      · refine so_append 4 s_found rfl (by first | exact Or.inl rfl | exact Or.inr (Or.inl rfl) | exact Or.inr (Or.inr rfl)) (eo_tup (ao_cons (eo_ix ru (Eo.u (eo_v s_row)) eo_int) (ao_cons (eo_v s_place) (ao_cons (eo_v s_at) (ao_cons (eo_v s_name) (ao_cons (eo_ix ru (Eo.u (eo_v s_row)) eo_int) ao_nil)))))) (fun x_found9 => ?_)
        exact so_go (by repeat (first | exact le_nil | apply le_cons | apply le_un))
      · exact so_go (by repeat (first | exact le_nil | apply le_cons | apply le_un))
    exact so_go (by repeat (first | exact le_nil | apply le_cons | apply le_un))
  exact so_ret (fun d => d) (eo_t1 ca_tup n_tuple (Eo.u (En.o (en_lc nd (by kernel_rfl) (Io.q (io_v (En.o (en_b1 (cn_sort ru) n_sorted (eu_vo s_found))))) (fun _ _ _ _ _ => (tg_5 (Tn.mk' s_rank nd) (Tn.mk' s_place nd) (Tn.mk' s_at nd) (Tn.mk' s_name nd) (Tn.mk' s_deed nd))) (fun v11 => fun _ _ _ _ _ => ts_nil) (fun v11 => fun _ _ _ _ _ => (eo_tup (ao_cons (eo_v s_name) (ao_cons (eo_v s_rank) (ao_cons (eo_v s_deed) ao_nil))))) (by kernel_rfl)))))
theorem sc_pulled : FnScope ["house", "hook", "worth", "name", "rank", "deed", "word"] ["house", "hook", "worth"] (defScope (top 18)) := ⟨rfl, rfl, rfl, by decide +kernel, rfl, by decide +kernel, by decide +kernel⟩
theorem ok_pulled (T : Facts K mg) : FnD P w K mg base 9 T.f_pulled T.fd_pulled ["house", "hook", "worth"] (g3 m_pulled) := by
  refine fn_3 T.F_pulled sc_pulled rfl (fun a_house a_hook a_worth cdv A outer s H E hr => ?_)
  have nd := sc_pulled.nd
  have ru := A65.of hr
  have s_house : Sl ["house", "hook", "worth", "name", "rank", "deed", "word"] "house" 0 := ⟨rfl, by decide, by decide⟩
  have s_hook : Sl ["house", "hook", "worth", "name", "rank", "deed", "word"] "hook" 1 := ⟨rfl, by decide, by decide⟩
  have s_worth : Sl ["house", "hook", "worth", "name", "rank", "deed", "word"] "worth" 2 := ⟨rfl, by decide, by decide⟩
  have s_name : Sl ["house", "hook", "worth", "name", "rank", "deed", "word"] "name" 3 := ⟨rfl, by decide, by decide⟩
  have s_rank : Sl ["house", "hook", "worth", "name", "rank", "deed", "word"] "rank" 4 := ⟨rfl, by decide, by decide⟩
  have s_deed : Sl ["house", "hook", "worth", "name", "rank", "deed", "word"] "deed" 5 := ⟨rfl, by decide, by decide⟩
  have s_word : Sl ["house", "hook", "worth", "name", "rank", "deed", "word"] "word" 6 := ⟨rfl, by decide, by decide⟩
  have c_chain : Cl P w K mg base "chain" 8 (g2 m_chain) := ⟨_, _, _, ok_chain T, T.m_chain, T.F_chain.kp, T.b_chain⟩
  have k_RING := T.k_RING
  unfold m_pulled
  show So _ _ [.val a_house, .val a_hook, .val a_worth, .un, .un, .un, .un] _ _
  refine so_for (fun (s1 : D) => [.val a_house, .val a_hook, .val s1, .un, .un, .un, .un]) (by repeat (first | exact le_nil | apply le_cons | apply le_un)) (io_v (eo_c2 c_chain (hr.mono (by decide)) (eo_v s_house) (eo_v s_hook))) (fun s1 => (tg_3 (Tn.mk' s_name nd) (Tn.mk' s_rank nd) (Tn.mk' s_deed nd))) (fun s1 v2 => ?_) (fun s1 => ?_)
  · refine so_set 6 nd (eo_ix ru (Eo.u (eo_v s_deed)) eo_int) (fun x_word3 => ?_)
    refine so_ifT (et_cmpF (cm_eq ru) (Eo.u (eo_v s_word)) (Eo.u eo_str)) ?_ ?_
    · exact so_ret (fun d => (Lp.out d)) (eo_tup (ao_cons (eo_v s_worth) (ao_cons eo_non ao_nil)))
    refine so_ifT (et_w (ew_a (et_cmpF (cm_eq ru) (Eo.u (eo_v s_word)) (Eo.u eo_str)) (ew_a1 (et_cmpF cm_ge (Eo.u (eo_v s_worth)) (Eo.u (eo_ix ru (Eo.u (eo_v s_deed)) eo_int)))))) ?_ ?_
    · exact so_ret (fun d => (Lp.out d)) (eo_tup (ao_cons (eo_v s_worth) (ao_cons (eo_v s_name) ao_nil)))
    refine so_ifE (et_cmpF (cm_eq ru) (Eo.u (eo_v s_word)) (Eo.u eo_str)) ?_ ?_
    · refine so_set 2 nd (eo_bin of_mod (Eo.u (eo_bin of_add (Eo.u (eo_v s_worth)) (Eo.u (eo_ix ru (Eo.u (eo_v s_deed)) eo_int)))) (Eo.u (eo_gint k_RING))) (fun x_worth4 => ?_)
      exact so_go (by repeat (first | exact le_nil | apply le_cons | apply le_un))
    · refine so_ifE (et_cmpF (cm_eq ru) (Eo.u (eo_v s_word)) (Eo.u eo_str)) ?_ ?_
      · refine so_set 2 nd (eo_bin of_mod (Eo.u (eo_bin of_mul (Eo.u (eo_v s_worth)) (Eo.u (eo_ix ru (Eo.u (eo_v s_deed)) eo_int)))) (Eo.u (eo_gint k_RING))) (fun x_worth5 => ?_)
        exact so_go (by repeat (first | exact le_nil | apply le_cons | apply le_un))
      · refine so_ifE (et_cmpF (cm_eq ru) (Eo.u (eo_v s_word)) (Eo.u eo_str)) ?_ ?_
        · refine so_set 2 nd (eo_ix ru (Eo.u (eo_v s_deed)) eo_int) (fun x_worth6 => ?_)
          exact so_go (by repeat (first | exact le_nil | apply le_cons | apply le_un))
        · exact so_go (by repeat (first | exact le_nil | apply le_cons | apply le_un))
  exact so_ret (fun d => d) (eo_tup (ao_cons (eo_v s_worth) (ao_cons eo_non ao_nil)))
theorem sc_standing : FnScope ["house", "part"] ["house"] (defScope (top 6)) := ⟨rfl, rfl, rfl, by decide +kernel, rfl, by decide +kernel, by decide +kernel⟩
theorem ok_standing (T : Facts K mg) : FnD P w K mg base 6 T.f_standing T.fd_standing ["house"] (g1 m_standing) := by
  refine fn_1 T.F_standing sc_standing rfl (fun a_house cdv A outer s H E hr => ?_)
  have nd := sc_standing.nd
  have ru := A65.of hr
  have s_house : Sl ["house", "part"] "house" 0 := ⟨rfl, by decide, by decide⟩
  have s_part : Sl ["house", "part"] "part" 1 := ⟨rfl, by decide, by decide⟩
  have c_standing_parts : Cl P w K mg base "standing_parts" 5 (g1 m_standing_parts) := ⟨_, _, _, ok_standing_parts T, T.m_standing_parts, T.F_standing_parts.kp, T.b_standing_parts⟩
  have n_tuple : Nb mg "tuple" (.type "tuple") := ⟨T.n_tuple, by decide +kernel, by decide, by decide⟩
  unfold m_standing
  show So _ _ [.val a_house, .un] _ _
  exact so_ret (fun d => d) (eo_t1 ca_tup n_tuple (Eo.u (En.o (en_lc nd (by kernel_rfl) (Io.q (io_v (eo_c1 c_standing_parts (hr.mono (by decide)) (eo_v s_house)))) (fun _ _ _ _ _ => (tg_1 (Tn.mk' s_part nd))) (fun v1 => fun _ _ _ _ _ => ts_nil) (fun v1 => fun _ _ _ _ _ => (eo_ix ru (Eo.u (eo_v s_part)) eo_int)) (by kernel_rfl)))))
theorem sc_stuck : FnScope ["house", "begun", "name"] ["house"] (defScope (top 13)) := ⟨rfl, rfl, rfl, by decide +kernel, rfl, by decide +kernel, by decide +kernel⟩
theorem ok_stuck (T : Facts K mg) : FnD P w K mg base 8 T.f_stuck T.fd_stuck ["house"] (g1 m_stuck) := by
  refine fn_1 T.F_stuck sc_stuck rfl (fun a_house cdv A outer s H E hr => ?_)
  have nd := sc_stuck.nd
  have ru := A65.of hr
  have s_house : Sl ["house", "begun", "name"] "house" 0 := ⟨rfl, by decide, by decide⟩
  have s_begun : Sl ["house", "begun", "name"] "begun" 1 := ⟨rfl, by decide, by decide⟩
  have s_name : Sl ["house", "begun", "name"] "name" 2 := ⟨rfl, by decide, by decide⟩
  have c_order : Cl P w K mg base "order" 7 (g1 m_order) := ⟨_, _, _, ok_order T, T.m_order, T.F_order.kp, T.b_order⟩
  have c_givers : Cl P w K mg base "givers" 6 (g1 m_givers) := ⟨_, _, _, ok_givers T, T.m_givers, T.F_givers.kp, T.b_givers⟩
  have n_tuple : Nb mg "tuple" (.type "tuple") := ⟨T.n_tuple, by decide +kernel, by decide, by decide⟩
  unfold m_stuck
  show So _ _ [.val a_house, .un, .un] _ _
  refine so_set 1 nd (eo_c1 c_order (hr.mono (by decide)) (eo_v s_house)) (fun x_begun1 => ?_)
  exact so_ret (fun d => d) (eo_t1 ca_tup n_tuple (Eo.u (En.o (en_lc nd (by kernel_rfl) (Io.q (io_v (eo_c1 c_givers (hr.mono (by decide)) (eo_v s_house)))) (fun _ _ _ _ _ => (tg_1 (Tn.mk' s_name nd))) (fun v2 => fun _ _ _ _ _ => (ts_one (et_cmpF (cm_nin ru) (Eo.u (eo_v s_name)) (Eo.u (eo_v s_begun))))) (fun v2 => fun _ _ _ _ _ => (eo_v s_name)) (by kernel_rfl)))))
theorem sc_lost : FnScope ["house", "name", "left", "part", "one"] ["house", "name"] (defScope (top 20)) := ⟨rfl, rfl, rfl, by decide +kernel, rfl, by decide +kernel, by decide +kernel⟩
theorem ok_lost (T : Facts K mg) : FnD P w K mg base 8 T.f_lost T.fd_lost ["house", "name"] (g2 m_lost) := by
  refine fn_2 T.F_lost sc_lost rfl (fun a_house a_name cdv A outer s H E hr => ?_)
  have nd := sc_lost.nd
  have ru := A65.of hr
  have s_house : Sl ["house", "name", "left", "part", "one"] "house" 0 := ⟨rfl, by decide, by decide⟩
  have s_name : Sl ["house", "name", "left", "part", "one"] "name" 1 := ⟨rfl, by decide, by decide⟩
  have s_left : Sl ["house", "name", "left", "part", "one"] "left" 2 := ⟨rfl, by decide, by decide⟩
  have s_part : Sl ["house", "name", "left", "part", "one"] "part" 3 := ⟨rfl, by decide, by decide⟩
  have s_one : Sl ["house", "name", "left", "part", "one"] "one" 4 := ⟨rfl, by decide, by decide⟩
  have c_order : Cl P w K mg base "order" 7 (g1 m_order) := ⟨_, _, _, ok_order T, T.m_order, T.F_order.kp, T.b_order⟩
  have n_tuple : Nb mg "tuple" (.type "tuple") := ⟨T.n_tuple, by decide +kernel, by decide, by decide⟩
  have n_sorted : Nb mg "sorted" (.builtin "sorted") := ⟨T.n_sorted, by decide +kernel, by decide, by decide⟩
  unfold m_lost
  show So _ _ [.val a_house, .val a_name, .un, .un, .un] _ _
  refine so_set 2 nd (eo_c1 c_order (hr.mono (by decide)) (eo_t1 ca_tup n_tuple (Eo.u (En.o (en_lc nd (by kernel_rfl) (Io.q (io_v (eo_v s_house))) (fun _ _ _ _ _ => (tg_1 (Tn.mk' s_part nd))) (fun v2 => fun _ _ _ _ _ => (ts_one (et_cmpF (cm_ne ru) (Eo.u (eo_ix ru (Eo.u (eo_v s_part)) eo_int)) (Eo.u (eo_v s_name))))) (fun v2 => fun _ _ _ _ _ => (eo_v s_part)) (by kernel_rfl)))))) (fun x_left1 => ?_)
  exact so_ret (fun d => d) (eo_t1 ca_tup n_tuple (Eo.u (En.o (en_b1 (cn_sort ru) n_sorted (Eo.u (En.o (en_lc nd (by kernel_rfl) (Io.q (io_v (eo_c1 c_order (hr.mono (by decide)) (eo_v s_house)))) (fun _ _ _ _ _ => (tg_1 (Tn.mk' s_one nd))) (fun v3 => fun _ _ _ _ _ => (ts_one (et_w (ew_a (et_cmpF (cm_ne ru) (Eo.u (eo_v s_one)) (Eo.u (eo_v s_name))) (ew_a1 (et_cmpF (cm_nin ru) (Eo.u (eo_v s_one)) (Eo.u (eo_v s_left)))))))) (fun v3 => fun _ _ _ _ _ => (eo_v s_one)) (by kernel_rfl))))))))
theorem sc_giver : FnScope ["house", "name", "face", "part", "want"] ["house", "name", "face"] (defScope (top 9)) := ⟨rfl, rfl, rfl, by decide +kernel, rfl, by decide +kernel, by decide +kernel⟩
theorem ok_giver (T : Facts K mg) : FnD P w K mg base 6 T.f_giver T.fd_giver ["house", "name", "face"] (g3 m_giver) := by
  refine fn_3 T.F_giver sc_giver rfl (fun a_house a_name a_face cdv A outer s H E hr => ?_)
  have nd := sc_giver.nd
  have ru := A65.of hr
  have s_house : Sl ["house", "name", "face", "part", "want"] "house" 0 := ⟨rfl, by decide, by decide⟩
  have s_name : Sl ["house", "name", "face", "part", "want"] "name" 1 := ⟨rfl, by decide, by decide⟩
  have s_face : Sl ["house", "name", "face", "part", "want"] "face" 2 := ⟨rfl, by decide, by decide⟩
  have s_part : Sl ["house", "name", "face", "part", "want"] "part" 3 := ⟨rfl, by decide, by decide⟩
  have s_want : Sl ["house", "name", "face", "part", "want"] "want" 4 := ⟨rfl, by decide, by decide⟩
  have c_giver_among : Cl P w K mg base "giver_among" 4 (g3 m_giver_among) := ⟨_, _, _, ok_giver_among T, T.m_giver_among, T.F_giver_among.kp, T.b_giver_among⟩
  have c_standing_parts : Cl P w K mg base "standing_parts" 5 (g1 m_standing_parts) := ⟨_, _, _, ok_standing_parts T, T.m_standing_parts, T.F_standing_parts.kp, T.b_standing_parts⟩
  unfold m_giver
  show So _ _ [.val a_house, .val a_name, .val a_face, .un, .un] _ _
  refine so_set 3 nd (eo_ix ru (Eo.u (En.o (en_lc nd (by kernel_rfl) (Io.q (io_v (eo_v s_house))) (fun _ _ _ _ _ => (tg_1 (Tn.mk' s_part nd))) (fun v2 => fun _ _ _ _ _ => (ts_one (et_cmpF (cm_eq ru) (Eo.u (eo_ix ru (Eo.u (eo_v s_part)) eo_int)) (Eo.u (eo_v s_name))))) (fun v2 => fun _ _ _ _ _ => (eo_v s_part)) (by kernel_rfl)))) eo_int) (fun x_part1 => ?_)
  refine so_set 4 nd (eo_ix ru (Eo.u (En.o (en_lc nd (by kernel_rfl) (Io.q (io_v (eo_ix ru (Eo.u (eo_v s_part)) eo_int))) (fun _ _ _ _ _ => (tg_1 (Tn.mk' s_want nd))) (fun v4 => fun _ _ _ _ _ => (ts_one (et_cmpF (cm_eq ru) (Eo.u (eo_ix ru (Eo.u (eo_v s_want)) eo_int)) (Eo.u (eo_v s_face))))) (fun v4 => fun _ _ _ _ _ => (eo_v s_want)) (by kernel_rfl)))) eo_int) (fun x_want3 => ?_)
  exact so_ret (fun d => d) (eo_c3 c_giver_among (hr.mono (by decide)) (eo_c1 c_standing_parts (hr.mono (by decide)) (eo_v s_house)) (eo_v s_name) (eo_v s_want))
theorem sc_leans : FnScope ["house", "name", "book", "found", "todo", "one"] ["house", "name"] (defScope (top 14)) := ⟨rfl, rfl, rfl, by decide +kernel, rfl, by decide +kernel, by decide +kernel⟩
theorem ok_leans (T : Facts K mg) : FnD P w K mg base 7 T.f_leans T.fd_leans ["house", "name"] (g2 m_leans) := by
  refine fn_2 T.F_leans sc_leans rfl (fun a_house a_name cdv A outer s H E hr => ?_)
  have nd := sc_leans.nd
  have ru := A65.of hr
  have s_house : Sl ["house", "name", "book", "found", "todo", "one"] "house" 0 := ⟨rfl, by decide, by decide⟩
  have s_name : Sl ["house", "name", "book", "found", "todo", "one"] "name" 1 := ⟨rfl, by decide, by decide⟩
  have s_book : Sl ["house", "name", "book", "found", "todo", "one"] "book" 2 := ⟨rfl, by decide, by decide⟩
  have s_found : Sl ["house", "name", "book", "found", "todo", "one"] "found" 3 := ⟨rfl, by decide, by decide⟩
  have s_todo : Sl ["house", "name", "book", "found", "todo", "one"] "todo" 4 := ⟨rfl, by decide, by decide⟩
  have s_one : Sl ["house", "name", "book", "found", "todo", "one"] "one" 5 := ⟨rfl, by decide, by decide⟩
  have c_givers : Cl P w K mg base "givers" 6 (g1 m_givers) := ⟨_, _, _, ok_givers T, T.m_givers, T.F_givers.kp, T.b_givers⟩
  have n_list : Nb mg "list" (.type "list") := ⟨T.n_list, by decide +kernel, by decide, by decide⟩
  have n_tuple : Nb mg "tuple" (.type "tuple") := ⟨T.n_tuple, by decide +kernel, by decide, by decide⟩
  have n_len : Nb mg "len" (.builtin "len") := ⟨T.n_len, by decide +kernel, by decide, by decide⟩
  have n_sorted : Nb mg "sorted" (.builtin "sorted") := ⟨T.n_sorted, by decide +kernel, by decide, by decide⟩
  unfold m_leans
  show So _ _ [.val a_house, .val a_name, .un, .un, .un, .un] _ _
  refine so_set 2 nd (eo_c1 c_givers (hr.mono (by decide)) (eo_v s_house)) (fun x_book1 => ?_)
  refine so_new 3 nd (en_lst ao_nil) (fun x_found2 => ?_)
  refine so_new 4 nd (en_t1 cn_list n_list (Eo.u (eo_ix ru (Eo.u (eo_v s_book)) (eo_v s_name)))) (fun x_todo3 => ?_)
  refine so_while (fun (s4 : List D × List D) => [.val a_house, .val a_name, .val x_book1, .own s4.1, .own s4.2, .un]) 4096 (by repeat (first | exact le_nil | apply le_cons | apply le_un)) (fun s4 => (et_cmpF (cm_gt ru) (Eo.u (eo_b1 ca_len n_len (eu_vo s_todo))) (Eo.u eo_int))) (fun s4 => ?_) (fun s4 => ?_)
  · refine so_pop 5 4 nd s_todo rfl (by first | exact Or.inl rfl | exact Or.inr (Or.inl rfl) | exact Or.inr (Or.inr rfl)) (fun x_one5 => ?_)
    refine so_ifE (et_cmpF (cm_nin ru) (Eo.u (eo_v s_one)) (eu_vo s_found)) ?_ ?_
    · refine so_append 3 s_found rfl (by first | exact Or.inl rfl | exact Or.inr (Or.inl rfl) | exact Or.inr (Or.inr rfl)) (eo_v s_one) (fun x_found7 => ?_)
      refine so_extendV 4 s_todo rfl (by first | exact Or.inl rfl | exact Or.inr (Or.inl rfl) | exact Or.inr (Or.inr rfl)) (eo_ix ru (Eo.u (eo_v s_book)) (eo_v s_one)) (fun x_todo9 => ?_)
      exact so_go (by repeat (first | exact le_nil | apply le_cons | apply le_un))
    · exact so_go (by repeat (first | exact le_nil | apply le_cons | apply le_un))
  exact so_ret (fun d => d) (eo_t1 ca_tup n_tuple (Eo.u (En.o (en_b1 (cn_sort ru) n_sorted (eu_vo s_found)))))
theorem sc_law : FnScope ["script", "house", "fresh", "names", "k", "part", "new", "here", "there", "name", "face", "worth", "hook", "row", "end", "mine", "want", "due"] ["script"] (defScope (top 27)) := ⟨rfl, rfl, rfl, by decide +kernel, rfl, by decide +kernel, by decide +kernel⟩
theorem ok_law (T : Facts K mg) : FnD P w K mg base 10 T.f_law T.fd_law ["script"] (g1 m_law_K14) := by
  refine fn_1 T.F_law sc_law rfl (fun a_script cdv A outer s H E hr => ?_)
  have nd := sc_law.nd
  have ru := A65.of hr
  have s_script : Sl ["script", "house", "fresh", "names", "k", "part", "new", "here", "there", "name", "face", "worth", "hook", "row", "end", "mine", "want", "due"] "script" 0 := ⟨rfl, by decide, by decide⟩
  have s_house : Sl ["script", "house", "fresh", "names", "k", "part", "new", "here", "there", "name", "face", "worth", "hook", "row", "end", "mine", "want", "due"] "house" 1 := ⟨rfl, by decide, by decide⟩
  have s_fresh : Sl ["script", "house", "fresh", "names", "k", "part", "new", "here", "there", "name", "face", "worth", "hook", "row", "end", "mine", "want", "due"] "fresh" 2 := ⟨rfl, by decide, by decide⟩
  have s_names : Sl ["script", "house", "fresh", "names", "k", "part", "new", "here", "there", "name", "face", "worth", "hook", "row", "end", "mine", "want", "due"] "names" 3 := ⟨rfl, by decide, by decide⟩
  have s_k : Sl ["script", "house", "fresh", "names", "k", "part", "new", "here", "there", "name", "face", "worth", "hook", "row", "end", "mine", "want", "due"] "k" 4 := ⟨rfl, by decide, by decide⟩
  have s_part : Sl ["script", "house", "fresh", "names", "k", "part", "new", "here", "there", "name", "face", "worth", "hook", "row", "end", "mine", "want", "due"] "part" 5 := ⟨rfl, by decide, by decide⟩
  have s_new : Sl ["script", "house", "fresh", "names", "k", "part", "new", "here", "there", "name", "face", "worth", "hook", "row", "end", "mine", "want", "due"] "new" 6 := ⟨rfl, by decide, by decide⟩
  have s_here : Sl ["script", "house", "fresh", "names", "k", "part", "new", "here", "there", "name", "face", "worth", "hook", "row", "end", "mine", "want", "due"] "here" 7 := ⟨rfl, by decide, by decide⟩
  have s_there : Sl ["script", "house", "fresh", "names", "k", "part", "new", "here", "there", "name", "face", "worth", "hook", "row", "end", "mine", "want", "due"] "there" 8 := ⟨rfl, by decide, by decide⟩
  have s_name : Sl ["script", "house", "fresh", "names", "k", "part", "new", "here", "there", "name", "face", "worth", "hook", "row", "end", "mine", "want", "due"] "name" 9 := ⟨rfl, by decide, by decide⟩
  have s_face : Sl ["script", "house", "fresh", "names", "k", "part", "new", "here", "there", "name", "face", "worth", "hook", "row", "end", "mine", "want", "due"] "face" 10 := ⟨rfl, by decide, by decide⟩
  have s_worth : Sl ["script", "house", "fresh", "names", "k", "part", "new", "here", "there", "name", "face", "worth", "hook", "row", "end", "mine", "want", "due"] "worth" 11 := ⟨rfl, by decide, by decide⟩
  have s_hook : Sl ["script", "house", "fresh", "names", "k", "part", "new", "here", "there", "name", "face", "worth", "hook", "row", "end", "mine", "want", "due"] "hook" 12 := ⟨rfl, by decide, by decide⟩
  have s_row : Sl ["script", "house", "fresh", "names", "k", "part", "new", "here", "there", "name", "face", "worth", "hook", "row", "end", "mine", "want", "due"] "row" 13 := ⟨rfl, by decide, by decide⟩
  have s_end : Sl ["script", "house", "fresh", "names", "k", "part", "new", "here", "there", "name", "face", "worth", "hook", "row", "end", "mine", "want", "due"] "end" 14 := ⟨rfl, by decide, by decide⟩
  have s_mine : Sl ["script", "house", "fresh", "names", "k", "part", "new", "here", "there", "name", "face", "worth", "hook", "row", "end", "mine", "want", "due"] "mine" 15 := ⟨rfl, by decide, by decide⟩
  have s_want : Sl ["script", "house", "fresh", "names", "k", "part", "new", "here", "there", "name", "face", "worth", "hook", "row", "end", "mine", "want", "due"] "want" 16 := ⟨rfl, by decide, by decide⟩
  have s_due : Sl ["script", "house", "fresh", "names", "k", "part", "new", "here", "there", "name", "face", "worth", "hook", "row", "end", "mine", "want", "due"] "due" 17 := ⟨rfl, by decide, by decide⟩
  have c__law_house : Cl P w K mg base "_law_house" 3 (g1 m__law_house) := ⟨_, _, _, ok__law_house T, T.m__law_house, T.F__law_house.kp, T.b__law_house⟩
  have c__law_mixed : Cl P w K mg base "_law_mixed" 2 (g2 m__law_mixed) := ⟨_, _, _, ok__law_mixed T, T.m__law_mixed, T.F__law_mixed.kp, T.b__law_mixed⟩
  have c_lacking : Cl P w K mg base "lacking" 6 (g1 m_lacking) := ⟨_, _, _, ok_lacking T, T.m_lacking, T.F_lacking.kp, T.b_lacking⟩
  have c_pulled : Cl P w K mg base "pulled" 9 (g3 m_pulled) := ⟨_, _, _, ok_pulled T, T.m_pulled, T.F_pulled.kp, T.b_pulled⟩
  have c_standing : Cl P w K mg base "standing" 6 (g1 m_standing) := ⟨_, _, _, ok_standing T, T.m_standing, T.F_standing.kp, T.b_standing⟩
  have c_order : Cl P w K mg base "order" 7 (g1 m_order) := ⟨_, _, _, ok_order T, T.m_order, T.F_order.kp, T.b_order⟩
  have c_stuck : Cl P w K mg base "stuck" 8 (g1 m_stuck) := ⟨_, _, _, ok_stuck T, T.m_stuck, T.F_stuck.kp, T.b_stuck⟩
  have c_chain : Cl P w K mg base "chain" 8 (g2 m_chain) := ⟨_, _, _, ok_chain T, T.m_chain, T.F_chain.kp, T.b_chain⟩
  have c_lost : Cl P w K mg base "lost" 8 (g2 m_lost) := ⟨_, _, _, ok_lost T, T.m_lost, T.F_lost.kp, T.b_lost⟩
  have c_giver : Cl P w K mg base "giver" 6 (g3 m_giver) := ⟨_, _, _, ok_giver T, T.m_giver, T.F_giver.kp, T.b_giver⟩
  have c_leans : Cl P w K mg base "leans" 7 (g2 m_leans) := ⟨_, _, _, ok_leans T, T.m_leans, T.F_leans.kp, T.b_leans⟩
  have n_dict : Nb mg "dict" (.type "dict") := ⟨T.n_dict, by decide +kernel, by decide, by decide⟩
  have n_tuple : Nb mg "tuple" (.type "tuple") := ⟨T.n_tuple, by decide +kernel, by decide, by decide⟩
  have n_enumerate : Nb mg "enumerate" (.type "enumerate") := ⟨T.n_enumerate, by decide +kernel, by decide, by decide⟩
  unfold m_law_K14
  show So _ _ [.val a_script, .un, .un, .un, .un, .un, .un, .un, .un, .un, .un, .un, .un, .un, .un, .un, .un, .un] _ _
  refine so_set 1 nd (eo_c1 c__law_house (hr.mono (by decide)) (eo_c2 c__law_mixed (hr.mono (by decide)) (eo_v s_script) eo_int)) (fun x_house1 => ?_)
  refine so_set 2 nd (eo_tup (ao_cons eo_str (ao_cons eo_str (ao_cons eo_str (ao_cons eo_str (ao_cons eo_str (ao_cons eo_str ao_nil))))))) (fun x_fresh2 => ?_)
  refine so_newD 3 nd (ed_t1 cd_dict n_dict (Eo.u (En.o (en_lc nd (by kernel_rfl) (Io.q (io_enum n_enumerate (eo_v s_house))) (fun _ _ _ _ _ => (tg_2 (Tn.mk' s_k nd) (Tn.mk' s_part nd))) (fun v4 => fun _ _ _ _ _ => ts_nil) (fun v4 => fun _ _ _ _ _ => (eo_tup (ao_cons (eo_ix ru (Eo.u (eo_v s_part)) eo_int) (ao_cons (eo_ix ru (Eo.u (eo_v s_fresh)) (eo_v s_k)) ao_nil)))) (by kernel_rfl))))) (fun x_names3 => ?_)
  refine so_nput 3 s_names rfl eo_non (fun q_names x_names5 => ?_)
  show So _ _ [.val a_script, .val x_house1, .val x_fresh2, .gen (GN P w q_names (x_names3, x_names5)) [q_names], .un, .un, .un, .un, .un, .un, .un, .un, .un, .un, .un, .un, .un, .un] _ _
  refine so_set 6 nd (eo_t1 ca_tup n_tuple (Eo.u (En.o (en_lc nd (by kernel_rfl) (Io.q (io_v (eo_v s_house))) (fun _ _ _ _ _ => (tg_1 (Tn.mk' s_part nd))) (fun v7 => fun _ _ _ _ _ => ts_nil) (fun v7 => fun _ _ _ _ _ => (eo_bin of_add (Eo.u (eo_tup (ao_cons (eo_nix s_names (eo_ix ru (Eo.u (eo_v s_part)) eo_int)) ao_nil))) (Eo.u (eo_cut (Eo.u (eo_v s_part)) (po_s eo_int) po_n)))) (by kernel_rfl))))) (fun x_new6 => ?_)
  refine so_for (fun (s8 : Unit) => [.val a_script, .val x_house1, .val x_fresh2, .gen (GN P w q_names (x_names3, x_names5)) [q_names], .un, .un, .val x_new6, .un, .un, .un, .un, .un, .un, .un, .un, .un, .un, .un]) (by repeat (first | exact le_nil | apply le_cons | apply le_un)) (io_v (eo_tup (ao_cons (eo_tup (ao_cons (eo_c1 c_standing (hr.mono (by decide)) (eo_v s_house)) (ao_cons (eo_c1 c_standing (hr.mono (by decide)) (eo_v s_new)) ao_nil))) (ao_cons (eo_tup (ao_cons (eo_c1 c_order (hr.mono (by decide)) (eo_v s_house)) (ao_cons (eo_c1 c_order (hr.mono (by decide)) (eo_v s_new)) ao_nil))) (ao_cons (eo_tup (ao_cons (eo_c1 c_stuck (hr.mono (by decide)) (eo_v s_house)) (ao_cons (eo_c1 c_stuck (hr.mono (by decide)) (eo_v s_new)) ao_nil))) ao_nil))))) (fun s8 => (tg_2 (Tn.mk' s_here nd) (Tn.mk' s_there nd))) (fun s8 v9 => ?_) (fun s8 => ?_)
  · refine so_ifE (et_cmpF (cm_ne ru) (Eo.u (eo_v s_there)) (Eo.u (eo_t1 ca_tup n_tuple (Eo.u (En.o (en_lc nd (by kernel_rfl) (Io.q (io_v (eo_v s_here))) (fun _ _ _ _ _ => (tg_1 (Tn.mk' s_name nd))) (fun v10 => fun _ _ _ _ _ => ts_nil) (fun v10 => fun _ _ _ _ _ => (eo_nix s_names (eo_v s_name))) (by kernel_rfl))))))) ?_ ?_
    · exact so_ret (fun d => (Lp.out d)) eo_bl
    · exact so_go (by repeat (first | exact le_nil | apply le_cons | apply le_un))
  refine so_ifT (et_cmpF (cm_ne ru) (Eo.u (eo_c1 c_lacking (hr.mono (by decide)) (eo_v s_new))) (Eo.u (eo_t1 ca_tup n_tuple (Eo.u (En.o (en_lc nd (by kernel_rfl) (Io.q (io_v (eo_c1 c_lacking (hr.mono (by decide)) (eo_v s_house)))) (fun _ _ _ _ _ => (tg_2 (Tn.mk' s_name nd) (Tn.mk' s_face nd))) (fun v11 => fun _ _ _ _ _ => ts_nil) (fun v11 => fun _ _ _ _ _ => (eo_tup (ao_cons (eo_nix s_names (eo_v s_name)) (ao_cons (eo_v s_face) ao_nil)))) (by kernel_rfl))))))) ?_ ?_
  · exact so_ret (fun d => d) eo_bl
  refine so_set 11 nd (eo_bin of_mod (Eo.u (eo_c2 c__law_mixed (hr.mono (by decide)) (eo_v s_script) eo_int)) (Eo.u eo_int)) (fun x_worth12 => ?_)
  refine so_for (fun (s13 : Unit) => [.val a_script, .val x_house1, .val x_fresh2, .gen (GN P w q_names (x_names3, x_names5)) [q_names], .un, .un, .val x_new6, .un, .un, .un, .un, .val x_worth12, .un, .un, .un, .un, .un, .un]) (by repeat (first | exact le_nil | apply le_cons | apply le_un)) (io_v (eo_tup (ao_cons eo_str (ao_cons eo_str ao_nil)))) (fun s13 => (tg_1 (Tn.mk' s_hook nd))) (fun s13 v14 => ?_) (fun s13 => ?_)
  · refine so_ifT (et_cmpF (cm_ne ru) (Eo.u (eo_c2 c_chain (hr.mono (by decide)) (eo_v s_new) (eo_v s_hook))) (Eo.u (eo_t1 ca_tup n_tuple (Eo.u (En.o (en_lc nd (by kernel_rfl) (Io.q (io_v (eo_c2 c_chain (hr.mono (by decide)) (eo_v s_house) (eo_v s_hook)))) (fun _ _ _ _ _ => (tg_1 (Tn.mk' s_row nd))) (fun v15 => fun _ _ _ _ _ => ts_nil) (fun v15 => fun _ _ _ _ _ => (eo_bin of_add (Eo.u (eo_tup (ao_cons (eo_nix s_names (eo_ix ru (Eo.u (eo_v s_row)) eo_int)) ao_nil))) (Eo.u (eo_cut (Eo.u (eo_v s_row)) (po_s eo_int) po_n)))) (by kernel_rfl))))))) ?_ ?_
    · exact so_ret (fun d => (Lp.out d)) eo_bl
    refine so_set 14 nd (eo_c3 c_pulled (hr.mono (by decide)) (eo_v s_house) (eo_v s_hook) (eo_v s_worth)) (fun x_end16 => ?_)
    refine so_ifE (et_cmpF (cm_ne ru) (Eo.u (eo_c3 c_pulled (hr.mono (by decide)) (eo_v s_new) (eo_v s_hook) (eo_v s_worth))) (Eo.u (eo_tup (ao_cons (eo_ix ru (Eo.u (eo_v s_end)) eo_int) (ao_cons (eo_nix s_names (eo_ix ru (Eo.u (eo_v s_end)) eo_int)) ao_nil))))) ?_ ?_
    · exact so_ret (fun d => (Lp.out d)) eo_bl
    · exact so_go (by repeat (first | exact le_nil | apply le_cons | apply le_un))
  refine so_for (fun (s17 : Unit) => [.val a_script, .val x_house1, .val x_fresh2, .gen (GN P w q_names (x_names3, x_names5)) [q_names], .un, .un, .val x_new6, .un, .un, .un, .un, .val x_worth12, .un, .un, .un, .un, .un, .un]) (by repeat (first | exact le_nil | apply le_cons | apply le_un)) (io_v (eo_v s_house)) (fun s17 => (tg_1 (Tn.mk' s_part nd))) (fun s17 v18 => ?_) (fun s17 => ?_)
  · refine so_set 15 nd (eo_nix s_names (eo_ix ru (Eo.u (eo_v s_part)) eo_int)) (fun x_mine19 => ?_)
    refine so_for (fun (s20 : Unit) => [.val a_script, .val x_house1, .val x_fresh2, .gen (GN P w q_names (x_names3, x_names5)) [q_names], .un, .val v18, .val x_new6, .un, .un, .un, .un, .val x_worth12, .un, .un, .un, .val x_mine19, .un, .un]) (by repeat (first | exact le_nil | apply le_cons | apply le_un)) (io_v (eo_ix ru (Eo.u (eo_v s_part)) eo_int)) (fun s20 => (tg_1 (Tn.mk' s_want nd))) (fun s20 v21 => ?_) (fun s20 => ?_)
    · refine so_ifE (et_cmpF (cm_ne ru) (Eo.u (eo_c3 c_giver (hr.mono (by decide)) (eo_v s_new) (eo_v s_mine) (eo_ix ru (Eo.u (eo_v s_want)) eo_int))) (Eo.u (eo_nix s_names (eo_c3 c_giver (hr.mono (by decide)) (eo_v s_house) (eo_ix ru (Eo.u (eo_v s_part)) eo_int) (eo_ix ru (Eo.u (eo_v s_want)) eo_int))))) ?_ ?_
      · exact so_ret (fun d => (Lp.out (Lp.out d))) eo_bl
      · exact so_go (by repeat (first | exact le_nil | apply le_cons | apply le_un))
    refine so_join (fun (j22 : Unit) => [.val a_script, .val x_house1, .val x_fresh2, .gen (GN P w q_names (x_names3, x_names5)) [q_names], .un, .val v18, .val x_new6, .un, .un, .un, .un, .val x_worth12, .un, .un, .un, .val x_mine19, .un, .un]) (et_cmpF (cm_in ru) (Eo.u (eo_ix ru (Eo.u (eo_v s_part)) eo_int)) (Eo.u (eo_c1 c_standing (hr.mono (by decide)) (eo_v s_house)))) ?_ ?_ (fun j22 => ?_)
    · refine so_set 17 nd (eo_t1 ca_tup n_tuple (Eo.u (En.o (en_lc nd (by kernel_rfl) (Io.q (io_v (eo_c2 c_leans (hr.mono (by decide)) (eo_v s_house) (eo_ix ru (Eo.u (eo_v s_part)) eo_int)))) (fun _ _ _ _ _ => (tg_1 (Tn.mk' s_name nd))) (fun v24 => fun _ _ _ _ _ => ts_nil) (fun v24 => fun _ _ _ _ _ => (eo_nix s_names (eo_v s_name))) (by kernel_rfl))))) (fun x_due23 => ?_)
      refine so_ifE (et_cmpF (cm_ne ru) (Eo.u (eo_c2 c_leans (hr.mono (by decide)) (eo_v s_new) (eo_v s_mine))) (Eo.u (eo_v s_due))) ?_ ?_
      · exact so_ret (fun d => (Nx.rt (Lp.out d))) eo_bl
      · exact so_jn (by repeat (first | exact le_nil | apply le_cons | apply le_un))
    · exact so_jn (by repeat (first | exact le_nil | apply le_cons | apply le_un))
    refine so_ifE (et_cmpF (cm_ne ru) (Eo.u (eo_c2 c_lost (hr.mono (by decide)) (eo_v s_new) (eo_v s_mine))) (Eo.u (eo_t1 ca_tup n_tuple (Eo.u (En.o (en_lc nd (by kernel_rfl) (Io.q (io_v (eo_c2 c_lost (hr.mono (by decide)) (eo_v s_house) (eo_ix ru (Eo.u (eo_v s_part)) eo_int)))) (fun _ _ _ _ _ => (tg_1 (Tn.mk' s_name nd))) (fun v25 => fun _ _ _ _ _ => ts_nil) (fun v25 => fun _ _ _ _ _ => (eo_nix s_names (eo_v s_name))) (by kernel_rfl))))))) ?_ ?_
    · exact so_ret (fun d => (Lp.out d)) eo_bl
    · exact so_go (by repeat (first | exact le_nil | apply le_cons | apply le_un))
  exact so_ret (fun d => d) eo_bl
end
def d__law_drawn : He.DefD := ⟨("_law_drawn", none), "_law_drawn", "_law_drawn", defArgs (top 24), defBody (top 24), defScope (top 24), [], []⟩
def d__law_part : He.DefD := ⟨("_law_part", none), "_law_part", "_law_part", defArgs (top 25), defBody (top 25), defScope (top 25), [], []⟩
def d__law_house : He.DefD := ⟨("_law_house", none), "_law_house", "_law_house", defArgs (top 26), defBody (top 26), defScope (top 26), [], []⟩
def d__law_cell_at : He.DefD := ⟨("_law_cell_at", none), "_law_cell_at", "_law_cell_at", defArgs (top 22), defBody (top 22), defScope (top 22), [], []⟩
def d__law_mixed : He.DefD := ⟨("_law_mixed", none), "_law_mixed", "_law_mixed", defArgs (top 23), defBody (top 23), defScope (top 23), [], []⟩
def d_make_of : He.DefD := ⟨("make_of", none), "make_of", "make_of", defArgs (top 1), defBody (top 1), defScope (top 1), [], []⟩
def d_gives : He.DefD := ⟨("gives", none), "gives", "gives", defArgs (top 2), defBody (top 2), defScope (top 2), [], []⟩
def d_givers_for : He.DefD := ⟨("givers_for", none), "givers_for", "givers_for", defArgs (top 3), defBody (top 3), defScope (top 3), [], []⟩
def d_lacks : He.DefD := ⟨("lacks", none), "lacks", "lacks", defArgs (top 4), defBody (top 4), defScope (top 4), [], []⟩
def d_standing_parts : He.DefD := ⟨("standing_parts", none), "standing_parts", "standing_parts", defArgs (top 5), defBody (top 5), defScope (top 5), [], []⟩
def d_lacking : He.DefD := ⟨("lacking", none), "lacking", "lacking", defArgs (top 7), defBody (top 7), defScope (top 7), [], []⟩
def d_giver_among : He.DefD := ⟨("giver_among", none), "giver_among", "giver_among", defArgs (top 8), defBody (top 8), defScope (top 8), [], []⟩
def d_givers : He.DefD := ⟨("givers", none), "givers", "givers", defArgs (top 11), defBody (top 11), defScope (top 11), [], []⟩
def d_order : He.DefD := ⟨("order", none), "order", "order", defArgs (top 12), defBody (top 12), defScope (top 12), [], []⟩
def d_chain : He.DefD := ⟨("chain", none), "chain", "chain", defArgs (top 17), defBody (top 17), defScope (top 17), [], []⟩
def d_pulled : He.DefD := ⟨("pulled", none), "pulled", "pulled", defArgs (top 18), defBody (top 18), defScope (top 18), [], []⟩
def d_standing : He.DefD := ⟨("standing", none), "standing", "standing", defArgs (top 6), defBody (top 6), defScope (top 6), [], []⟩
def d_stuck : He.DefD := ⟨("stuck", none), "stuck", "stuck", defArgs (top 13), defBody (top 13), defScope (top 13), [], []⟩
def d_lost : He.DefD := ⟨("lost", none), "lost", "lost", defArgs (top 20), defBody (top 20), defScope (top 20), [], []⟩
def d_giver : He.DefD := ⟨("giver", none), "giver", "giver", defArgs (top 9), defBody (top 9), defScope (top 9), [], []⟩
def d_leans : He.DefD := ⟨("leans", none), "leans", "leans", defArgs (top 14), defBody (top 14), defScope (top 14), [], []⟩
def d_law : He.DefD := ⟨("law", none), "law", "law", defArgs (top 27), defBody (top 27), defScope (top 27), [], []⟩
def fn : List He.DefD := [d__law_drawn, d__law_part, d__law_house, d__law_cell_at, d__law_mixed, d_make_of, d_gives, d_givers_for, d_lacks, d_standing_parts, d_lacking, d_giver_among, d_givers, d_order, d_chain, d_pulled, d_standing, d_stuck, d_lost, d_giver, d_leans, d_law]
def fa : List He.Fa := [.glo "_law_drawn", .glo "_law_part", .glo "_law_house", .glo "_law_cell_at", .glo "_law_mixed", .glo "make_of", .glo "gives", .glo "givers_for", .glo "lacks", .glo "standing_parts", .glo "lacking", .glo "giver_among", .glo "givers", .glo "order", .glo "chain", .glo "pulled", .glo "standing", .glo "stuck", .glo "lost", .glo "giver", .glo "leans", .glo "law", .free "enumerate", .free "range", .free "min", .free "int", .free "len", .free "dict", .free "list", .free "tuple", .free "sorted", .free "all", .int "RING" 1000]
abbrev R : PySem.W.OpenRow := PySem.W.OpenLaw.row PySem.Challenge.rw_parthost_k14_whole_other_names_of_parts
abbrev hk : PySem.W.Hook := He.hookD 4 fa fn
def ob (s : PySem.W.SharedT) : He.AlD := He.obsDG 4 fa fn (HandSHeadRun.getT s)
theorem ob_eq (s : PySem.W.SharedT) : ob s = hk.obs s.abs := He.obsDG_eq (HandSHeadRun.getT_eq s)
theorem run (w : World) : HandSHeadRun.RunEq R (PySem.W.view R.prog [27]) hk ob 4000 ["make_of", "gives", "givers_for", "lacks", "standing_parts", "standing", "lacking", "giver_among", "giver", "givers", "order", "stuck", "leans", "chain", "pulled", "lost", "_law_cell_at", "_law_mixed", "_law_drawn", "_law_part", "_law_house", "RING"] w := by
  intro os
  kernel_rfl
theorem facts {P : Program} {w : World} {K : PySem.W.Frag} {h : Heap} {mg : Str → Option Value} {f : Addr} (X : K.In h) (G : h.Ns mainGlobals mg) (hfa : mg ("law" : Str) = some (.ref f)) (c : He.SaysD fa fn K) :
    ∃ fd : FuncData, (∀ (s : Shared) (v : Value), BindsTo s fd ⟨[v], []⟩ [("script", v)]) ∧ ∀ base : Heap, K.In base → base.Ns mainGlobals mg → FnOk P w K mg base CX0 10 f fd ["script"] (SpD K (g1 m_law_K14)) := by
  obtain ⟨fd__law_drawn, F__law_drawn⟩ := c.def_ 0 (d := d__law_drawn) rfl
  obtain ⟨fd__law_part, F__law_part⟩ := c.def_ 1 (d := d__law_part) rfl
  obtain ⟨fd__law_house, F__law_house⟩ := c.def_ 2 (d := d__law_house) rfl
  obtain ⟨fd__law_cell_at, F__law_cell_at⟩ := c.def_ 3 (d := d__law_cell_at) rfl
  obtain ⟨fd__law_mixed, F__law_mixed⟩ := c.def_ 4 (d := d__law_mixed) rfl
  obtain ⟨fd_make_of, F_make_of⟩ := c.def_ 5 (d := d_make_of) rfl
  obtain ⟨fd_gives, F_gives⟩ := c.def_ 6 (d := d_gives) rfl
  obtain ⟨fd_givers_for, F_givers_for⟩ := c.def_ 7 (d := d_givers_for) rfl
  obtain ⟨fd_lacks, F_lacks⟩ := c.def_ 8 (d := d_lacks) rfl
  obtain ⟨fd_standing_parts, F_standing_parts⟩ := c.def_ 9 (d := d_standing_parts) rfl
  obtain ⟨fd_lacking, F_lacking⟩ := c.def_ 10 (d := d_lacking) rfl
  obtain ⟨fd_giver_among, F_giver_among⟩ := c.def_ 11 (d := d_giver_among) rfl
  obtain ⟨fd_givers, F_givers⟩ := c.def_ 12 (d := d_givers) rfl
  obtain ⟨fd_order, F_order⟩ := c.def_ 13 (d := d_order) rfl
  obtain ⟨fd_chain, F_chain⟩ := c.def_ 14 (d := d_chain) rfl
  obtain ⟨fd_pulled, F_pulled⟩ := c.def_ 15 (d := d_pulled) rfl
  obtain ⟨fd_standing, F_standing⟩ := c.def_ 16 (d := d_standing) rfl
  obtain ⟨fd_stuck, F_stuck⟩ := c.def_ 17 (d := d_stuck) rfl
  obtain ⟨fd_lost, F_lost⟩ := c.def_ 18 (d := d_lost) rfl
  obtain ⟨fd_giver, F_giver⟩ := c.def_ 19 (d := d_giver) rfl
  obtain ⟨fd_leans, F_leans⟩ := c.def_ 20 (d := d_leans) rfl
  obtain ⟨fd_law, F_law⟩ := c.def_ 21 (d := d_law) rfl
  have m__law_drawn := He.glo_ok X G (c.fact 0 (f := .glo "_law_drawn") rfl)
  have m__law_part := He.glo_ok X G (c.fact 1 (f := .glo "_law_part") rfl)
  have m__law_house := He.glo_ok X G (c.fact 2 (f := .glo "_law_house") rfl)
  have m__law_cell_at := He.glo_ok X G (c.fact 3 (f := .glo "_law_cell_at") rfl)
  have m__law_mixed := He.glo_ok X G (c.fact 4 (f := .glo "_law_mixed") rfl)
  have m_make_of := He.glo_ok X G (c.fact 5 (f := .glo "make_of") rfl)
  have m_gives := He.glo_ok X G (c.fact 6 (f := .glo "gives") rfl)
  have m_givers_for := He.glo_ok X G (c.fact 7 (f := .glo "givers_for") rfl)
  have m_lacks := He.glo_ok X G (c.fact 8 (f := .glo "lacks") rfl)
  have m_standing_parts := He.glo_ok X G (c.fact 9 (f := .glo "standing_parts") rfl)
  have m_lacking := He.glo_ok X G (c.fact 10 (f := .glo "lacking") rfl)
  have m_giver_among := He.glo_ok X G (c.fact 11 (f := .glo "giver_among") rfl)
  have m_givers := He.glo_ok X G (c.fact 12 (f := .glo "givers") rfl)
  have m_order := He.glo_ok X G (c.fact 13 (f := .glo "order") rfl)
  have m_chain := He.glo_ok X G (c.fact 14 (f := .glo "chain") rfl)
  have m_pulled := He.glo_ok X G (c.fact 15 (f := .glo "pulled") rfl)
  have m_standing := He.glo_ok X G (c.fact 16 (f := .glo "standing") rfl)
  have m_stuck := He.glo_ok X G (c.fact 17 (f := .glo "stuck") rfl)
  have m_lost := He.glo_ok X G (c.fact 18 (f := .glo "lost") rfl)
  have m_giver := He.glo_ok X G (c.fact 19 (f := .glo "giver") rfl)
  have m_leans := He.glo_ok X G (c.fact 20 (f := .glo "leans") rfl)
  have m_law := He.glo_ok X G (c.fact 21 (f := .glo "law") rfl)
  have n_enumerate := He.free_ok X G (c.fact 22 (f := .free "enumerate") rfl)
  have n_range := He.free_ok X G (c.fact 23 (f := .free "range") rfl)
  have n_min := He.free_ok X G (c.fact 24 (f := .free "min") rfl)
  have n_int := He.free_ok X G (c.fact 25 (f := .free "int") rfl)
  have n_len := He.free_ok X G (c.fact 26 (f := .free "len") rfl)
  have n_dict := He.free_ok X G (c.fact 27 (f := .free "dict") rfl)
  have n_list := He.free_ok X G (c.fact 28 (f := .free "list") rfl)
  have n_tuple := He.free_ok X G (c.fact 29 (f := .free "tuple") rfl)
  have n_sorted := He.free_ok X G (c.fact 30 (f := .free "sorted") rfl)
  have n_all := He.free_ok X G (c.fact 31 (f := .free "all") rfl)
  have k_RING := He.int_ok X G (c.fact 32 (f := .int "RING" 1000) rfl)
  have e := hfa.symm.trans m_law
  cases e
  have b := FunD.bindsA (ps := ["script"]) F_law fun _ _ _ _ _ _ us hl => match us, hl with | [_], _ => rfl
  refine ⟨fd_law, fun s v => b s [v] rfl, fun base _ _ => ?_⟩
  exact ok_law (P := P) (w := w) (base := base) ⟨_, fd__law_drawn, F__law_drawn, FunD.bindsN (ps := ["number", "k"]) F__law_drawn fun _ _ _ _ _ _ us hl => match us, hl with | [_, _], _ => rfl, m__law_drawn, _, fd__law_part, F__law_part, FunD.bindsN (ps := ["number", "name"]) F__law_part fun _ _ _ _ _ _ us hl => match us, hl with | [_, _], _ => rfl, m__law_part, _, fd__law_house, F__law_house, FunD.bindsN (ps := ["number"]) F__law_house fun _ _ _ _ _ _ us hl => match us, hl with | [_], _ => rfl, m__law_house, _, fd__law_cell_at, F__law_cell_at, FunD.bindsN (ps := ["script", "k"]) F__law_cell_at fun _ _ _ _ _ _ us hl => match us, hl with | [_, _], _ => rfl, m__law_cell_at, _, fd__law_mixed, F__law_mixed, FunD.bindsN (ps := ["script", "k"]) F__law_mixed fun _ _ _ _ _ _ us hl => match us, hl with | [_, _], _ => rfl, m__law_mixed, _, fd_make_of, F_make_of, FunD.bindsN (ps := ["part", "face"]) F_make_of fun _ _ _ _ _ _ us hl => match us, hl with | [_, _], _ => rfl, m_make_of, _, fd_gives, F_gives, FunD.bindsN (ps := ["part", "want"]) F_gives fun _ _ _ _ _ _ us hl => match us, hl with | [_, _], _ => rfl, m_gives, _, fd_givers_for, F_givers_for, FunD.bindsN (ps := ["parts", "name", "want"]) F_givers_for fun _ _ _ _ _ _ us hl => match us, hl with | [_, _, _], _ => rfl, m_givers_for, _, fd_lacks, F_lacks, FunD.bindsN (ps := ["parts", "part"]) F_lacks fun _ _ _ _ _ _ us hl => match us, hl with | [_, _], _ => rfl, m_lacks, _, fd_standing_parts, F_standing_parts, FunD.bindsN (ps := ["house"]) F_standing_parts fun _ _ _ _ _ _ us hl => match us, hl with | [_], _ => rfl, m_standing_parts, _, fd_lacking, F_lacking, FunD.bindsN (ps := ["house"]) F_lacking fun _ _ _ _ _ _ us hl => match us, hl with | [_], _ => rfl, m_lacking, _, fd_giver_among, F_giver_among, FunD.bindsN (ps := ["parts", "name", "want"]) F_giver_among fun _ _ _ _ _ _ us hl => match us, hl with | [_, _, _], _ => rfl, m_giver_among, _, fd_givers, F_givers, FunD.bindsN (ps := ["house"]) F_givers fun _ _ _ _ _ _ us hl => match us, hl with | [_], _ => rfl, m_givers, _, fd_order, F_order, FunD.bindsN (ps := ["house"]) F_order fun _ _ _ _ _ _ us hl => match us, hl with | [_], _ => rfl, m_order, _, fd_chain, F_chain, FunD.bindsN (ps := ["house", "hook"]) F_chain fun _ _ _ _ _ _ us hl => match us, hl with | [_, _], _ => rfl, m_chain, _, fd_pulled, F_pulled, FunD.bindsN (ps := ["house", "hook", "worth"]) F_pulled fun _ _ _ _ _ _ us hl => match us, hl with | [_, _, _], _ => rfl, m_pulled, _, fd_standing, F_standing, FunD.bindsN (ps := ["house"]) F_standing fun _ _ _ _ _ _ us hl => match us, hl with | [_], _ => rfl, m_standing, _, fd_stuck, F_stuck, FunD.bindsN (ps := ["house"]) F_stuck fun _ _ _ _ _ _ us hl => match us, hl with | [_], _ => rfl, m_stuck, _, fd_lost, F_lost, FunD.bindsN (ps := ["house", "name"]) F_lost fun _ _ _ _ _ _ us hl => match us, hl with | [_, _], _ => rfl, m_lost, _, fd_giver, F_giver, FunD.bindsN (ps := ["house", "name", "face"]) F_giver fun _ _ _ _ _ _ us hl => match us, hl with | [_, _, _], _ => rfl, m_giver, _, fd_leans, F_leans, FunD.bindsN (ps := ["house", "name"]) F_leans fun _ _ _ _ _ _ us hl => match us, hl with | [_, _], _ => rfl, m_leans, _, fd_law, F_law, FunD.bindsN (ps := ["script"]) F_law fun _ _ _ _ _ _ us hl => match us, hl with | [_], _ => rfl, m_law, n_enumerate, n_range, n_min, n_int, n_len, n_dict, n_list, n_tuple, n_sorted, n_all, k_RING⟩
end DL.K14
open PySem PySem.W PySem.Calls PyProof.Rows
set_option maxHeartbeats 0 in
set_option maxRecDepth 100000 in
theorem PySem.Challenge.cw_parthost_k14_whole_other_names_of_parts_holds : PySem.Challenge.rw_parthost_k14_whole_other_names_of_parts.Holds := by
  w_on; o_law
  refine HandSHeadRun.head_any (r := OpenLaw.row PySem.Challenge.rw_parthost_k14_whole_other_names_of_parts) (q := view (OpenLaw.row PySem.Challenge.rw_parthost_k14_whole_other_names_of_parts).prog [27]) (H := DL.K14.hk) (ob := DL.K14.ob) (M := 4000) (loose := ["make_of", "gives", "givers_for", "lacks", "standing_parts", "standing", "lacking", "giver_among", "giver", "givers", "order", "stuck", "leans", "chain", "pulled", "lost", "_law_cell_at", "_law_mixed", "_law_drawn", "_law_part", "_law_house", "RING"]) (d := HandSHeadRun.topDef (OpenLaw.row PySem.Challenge.rw_parthost_k14_whole_other_names_of_parts).prog 27) (kwd := []) DL.K14.ob_eq
    (by kernel_rfl) (fun s => by kernel_rfl) DL.K14.run (by kernel_rfl) (by kernel_rfl) (by kernel_rfl) (by rfl) (by first | assumption | decide +kernel) (by decide +kernel) ⟨rfl, rfl, rfl, rfl, rfl, by decide +kernel⟩ ?hw ?hc
  case hw => w_witness2
  case hc =>
    refine L2.walk_ofE (l := PySem.Challenge.rw_parthost_k14_whole_other_names_of_parts) (n := 63) (k := 10) (x := "script") (CX := L2.CX0) rfl (by decide) (by kernel_rfl) ⟨rfl, by decide, by decide⟩ ?F (fun _ _ _ _ z => z)
    intro w mg fa h Y G hmg0
    obtain ⟨K, KX, c⟩ := Y
    have hmg : mg ("law" : PySem.Str) = some (.ref fa) := by
      have e : (HandSHeadRun.topDef (OpenLaw.row PySem.Challenge.rw_parthost_k14_whole_other_names_of_parts).prog 27).name = ("law" : PySem.Str) := by kernel_rfl
      rw [← e]
      exact hmg0
    obtain ⟨fd, hb, hF⟩ := DL.K14.facts (P := (PySem.Challenge.rw_parthost_k14_whole_other_names_of_parts).prog) (w := w) KX G hmg c
    exact ⟨K, fd, DL.SpD K (DL.g1 DL.m_law_K14), KX, hb, fun H a ns hl hO hS => DL.law_in hO hS ⟨_, rfl, DL.law_K14 ns hl⟩, hF⟩

