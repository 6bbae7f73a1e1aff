import PyProof.Rows.All
import Wide.All
import OpenK.AllK
import Wide.FinOn
import KE.KStateDown
import Lean
import HandS.ForMost
import HandS.More
import HandS.WordsExc
import HandS.Defaults
import HandS.Flow
import HandS.Deep
import HandS.Walk
import HandS.Lambda
import HandS.TupAny
import HandS.TupLe
import HandS.TupMul
import HandS.Style
import HandS.Zip
import KE.GoesEnum
import KE.KDictPairs
import KE.SortCalls
import KE.DataCmp
import HandS.Text
import HandS.Strs
import HandS.SetFor
import HandS.SetTxt0
import HandS.IsInst
import HandS.RaiseMore
import HandS.Codes
import HandS.HeadHook1
import PyProof.ListRange
import HandS.Exc
import PyProof.ExcBaseAll.ValueError
import HandS.HeadWalk
import HandS.HeadHook4
import HandS.HeadHook3
import HandS.ExcIs
import PyProof.Rows.StrMul
import KE.GoesRaise
import HandS.Head0
import HandS.Head1
import HandS.Head2
import HandS.HeadEnd
import HandS.HeadHook2
import HandS.NestedK
import PySem.Challenge.RW_parthost_k04_whole_nothing_else_read
set_option Elab.async false
set_option linter.all false
set_option maxRecDepth 100000
set_option maxHeartbeats 4000000
set_option autoImplicit false
/-! The data layer: what an expression, a statement comes to, as plain data. -/
namespace DL
open PySem PySem.Spec PyProof.Rows L2

abbrev D := PyData

/-! ### stable heaps -/
/-- a code object -/
def IsCode (b : Addr) (φ : Heap → Prop) : Prop := ∃ q, HO.ext φ = LamX.CodeO b q
/-- what can never change is as it was -/
structure Stb (H H' : Hp) : Prop where
  p1 : ∀ b xs, H b = some (.tup xs) → H' b = some (.tup xs)
  p2 : ∀ b o u, H b = some (.frz o u) → H' b = some (.frz o u)
  p3 : ∀ b φ, IsCode b φ → H b = some (.ext φ) → H' b = some (.ext φ)
theorem Stb.refl (H : Hp) : Stb H H := ⟨fun _ _ h => h, fun _ _ _ h => h, fun _ _ _ h => h⟩
theorem Stb.trans {H H1 H2 : Hp} (a : Stb H H1) (b : Stb H1 H2) : Stb H H2 := ⟨fun c xs h => b.p1 c xs (a.p1 c xs h), fun c o u h => b.p2 c o u (a.p2 c o u h), fun c φ i h => b.p3 c φ i (a.p3 c φ i h)⟩
theorem Stb.of {H H' : Hp} (s : Same H H') : Stb H H' := ⟨fun b xs h => s b _ h, fun b o u h => s b _ h, fun b φ _ h => s b _ h⟩
/-- a thing that may change: not one that is known by what is true of it -/
def MutS : Option HO → Prop
  | some (.lst _) => True
  | some (.dK _) => True
  | some (.dT _) => True
  | some (.set _ _) => True
  | some (.ins _ _ _) => True
  | some (.tbl _) => True
  | some (.ext φ) => ∀ b, ¬ IsCode b φ
  | _ => False
theorem same_new {H : Hp} {p : Addr} {o : HO} (h : H p = none) : Same H (upd H p o) := fun b x e => by
  rw [upd_ne (ne_of_none e h)]
  exact e
theorem same_mut {H H' : Hp} {p : Addr} {o : HO} (e : Same H H') (h : H p = none) : Same H (upd H' p o) := fun b x q => by
  rw [upd_ne (ne_of_none q h)]
  exact e b x q
/-- a thing that may change is changed -/
theorem stb_upd {H : Hp} {p : Addr} {u o : HO} (h : H p = some u) (mu : MutS (some u)) : Stb H (upd H p o) := by
  refine ⟨fun b xs e => ?_, fun b ob x e => ?_, fun b φ i e => ?_⟩
  · rw [upd_ne (fun z => by subst z; rw [h] at e; cases e; exact mu)]; exact e
  · rw [upd_ne (fun z => by subst z; rw [h] at e; cases e; exact mu)]; exact e
  · rw [upd_ne (fun z => by subst z; rw [h] at e; cases e; exact mu _ i)]; exact e
theorem stb_new {H : Hp} {p : Addr} {o : HO} (h : H p = none) : Stb H (upd H p o) := .of (same_new h)

/-! ### a value stands for a datum, for ever -/
/-- a tuple without a dict of its own -/
def PlT (K : PySem.W.Frag) (H : Hp) (a : Addr) (xs : List V) : Prop := (∃ o, H a = some (.frz o (.tup xs)) ∧ o.dict = none) ∨
  ∃ (o : Obj) (its : Array Value) (n : Nat), K.lookup a = some o ∧ o.cls = .type "tuple" ∧ o.dict = none ∧ o.data = .seq its n ∧ its.size ≤ sizeLine ∧ Vals xs its.toList
theorem PlT.sq {K : PySem.W.Frag} {H : Hp} {a : Addr} {xs : List V} (h : PlT K H a xs) : SqT K H a xs := by
  rcases h with ⟨o, h, _⟩ | ⟨o, its, n, h1, h2, _, h3, h4, h5⟩
  · exact .inl (.inr ⟨o, h⟩)
  · exact .inr ⟨o, its, n, h1, h2, h3, h4, h5⟩
theorem PlT.stb {K : PySem.W.Frag} {H H' : Hp} {a : Addr} {xs : List V} (s : Stb H H') (h : PlT K H a xs) : PlT K H' a xs := by
  rcases h with ⟨o, h, q⟩ | h
  · exact .inl ⟨o, s.p2 _ _ _ h, q⟩
  · exact .inr h
/-- a list that never changes -/
def FzL (K : PySem.W.Frag) (H : Hp) (a : Addr) (xs : List V) : Prop := (∃ o, H a = some (.frz o (.lst xs))) ∨
  ∃ (o : Obj) (its : Array Value) (n : Nat), K.lookup a = some o ∧ o.cls = .type "list" ∧ o.dict = none ∧ o.data = .seq its n ∧ its.size ≤ sizeLine ∧ Vals xs its.toList
theorem FzL.sq {K : PySem.W.Frag} {H : Hp} {a : Addr} {xs : List V} (h : FzL K H a xs) : SqL K H a xs := by
  rcases h with ⟨o, h⟩ | h
  · exact .inl (.inr ⟨o, h⟩)
  · exact .inr h
theorem FzL.stb {K : PySem.W.Frag} {H H' : Hp} {a : Addr} {xs : List V} (s : Stb H H') (h : FzL K H a xs) : FzL K H' a xs := by
  rcases h with ⟨o, h⟩ | h
  · exact .inl ⟨o, s.p2 _ _ _ h⟩
  · exact .inr h
/-- a new tuple is laid -/
theorem inv_tup {X : Cx} {pins : List (Addr × Obj)} {σ : L2.St} {H : Hp} {s : Shared} {h' : Heap} {t' : Nat} {p : Addr} {o : Obj} {xs : List V} {us : List Value} {n : Nat} (I : Inv X pins σ H s) (k : ∀ b u, s.heap.get? b = some u → h'.get? b = some u) (hp : s.heap.objs.size ≤ p) (e : h'.get? p = some o) (hc : o.cls = .type "tuple") (hd : o.data = .seq us.toArray n) (r : Vals xs us) (z : xs.length ≤ sizeLine) :
    Inv X pins σ (upd H p (.frz o (.tup xs))) { s with heap := h', toks := t' } := I.laid k hp ⟨e, z, us, r, ⟨o, e, hc, n, hd⟩⟩
theorem inv_pl {X : Cx} {pins : List (Addr × Obj)} {σ : L2.St} {H : Hp} {s : Shared} {a : Addr} {xs : List V} (I : Inv X pins σ H s) (h : PlT X.K H a xs) : ∃ (o : Obj) (its : List Value) (n : Nat), s.heap.get? a = some o ∧ o.cls = .type "tuple" ∧ o.dict = none ∧ o.data = .seq its.toArray n ∧ Vals xs its ∧ xs.length ≤ sizeLine := by
  rcases h with ⟨o, h, q⟩ | ⟨o, its, n, h1, h2, h3, h4, h5, h6⟩
  · obtain ⟨e, z, its, r, ⟨o', e', hc, n, hd⟩⟩ := I.hok a _ h
    rw [e] at e'
    cases e'
    exact ⟨o, its, n, e, hc, q, hd, r, z⟩
  · refine ⟨o, its.toList, n, I.kIn a o h1, h2, h3, by simpa using h4, h6, ?_⟩
    have e := h6.length
    simp only [Array.length_toList] at e
    omega
mutual
inductive Rp (K : PySem.W.Frag) (H : Hp) : V → D → Prop
  | non : Rp K H .non .none
  | bl (b : Bool) : Rp K H (.bl b) (.bool b)
  | int (i : Int) : Rp K H (.int i) (.int i)
  | str (x : Str) : Rp K H (.str x) (.str x)
  | tup {a : Addr} {xs : List V} {ds : List D} : PlT K H a xs → RpAll K H xs ds → Rp K H (.ref a) (.tuple ds)
  | lst {a : Addr} {xs : List V} {ds : List D} : FzL K H a xs → RpAll K H xs ds → Rp K H (.ref a) (.list ds)
  | dct {a : Addr} {o : Obj} {kvs : List (Key × V)} {es : List (D × D)} : H a = some (.frz o (.dK kvs)) → RpKV K H kvs es → Rp K H (.ref a) (.dict es)
inductive RpAll (K : PySem.W.Frag) (H : Hp) : List V → List D → Prop
  | nil : RpAll K H [] []
  | cons {v : V} {vs : List V} {d : D} {ds : List D} : Rp K H v d → RpAll K H vs ds → RpAll K H (v :: vs) (d :: ds)
inductive RpKV (K : PySem.W.Frag) (H : Hp) : List (Key × V) → List (D × D) → Prop
  | nil : RpKV K H [] []
  | int {i : Int} {v : V} {vs : List (Key × V)} {d : D} {ds : List (D × D)} : Rp K H v d → RpKV K H vs ds → RpKV K H ((.inl i, v) :: vs) ((.int i, d) :: ds)
  | str {x : Str} {v : V} {vs : List (Key × V)} {d : D} {ds : List (D × D)} : Rp K H v d → RpKV K H vs ds → RpKV K H ((.inr x, v) :: vs) ((.str x, d) :: ds)
end
section
variable {K : PySem.W.Frag} {H H' : Hp}
theorem sqT_stb {a : Addr} {xs : List V} (s : Stb H H') (h : SqT K H a xs) : SqT K H' a xs := by
  rcases h with (h | ⟨o, h⟩) | h
  · exact .inl (.inl (s.p1 _ _ h))
  · exact .inl (.inr ⟨o, s.p2 _ _ _ h⟩)
  · exact .inr h
mutual
theorem Rp.mono (s : Stb H H') : ∀ {v : V} {d : D}, Rp K H v d → Rp K H' v d
  | _, _, .non => .non
  | _, _, .bl b => .bl b
  | _, _, .int i => .int i
  | _, _, .str x => .str x
  | _, _, .tup h a => .tup (h.stb s) (RpAll.mono s a)
  | _, _, .lst h a => .lst (h.stb s) (RpAll.mono s a)
  | _, _, .dct h a => .dct (s.p2 _ _ _ h) (RpKV.mono s a)
theorem RpAll.mono (s : Stb H H') : ∀ {vs : List V} {ds : List D}, RpAll K H vs ds → RpAll K H' vs ds
  | _, _, .nil => .nil
  | _, _, .cons h t => .cons (Rp.mono s h) (RpAll.mono s t)
theorem RpKV.mono (s : Stb H H') : ∀ {vs : List (Key × V)} {ds : List (D × D)}, RpKV K H vs ds → RpKV K H' vs ds
  | _, _, .nil => .nil
  | _, _, .int h t => .int (Rp.mono s h) (RpKV.mono s t)
  | _, _, .str h t => .str (Rp.mono s h) (RpKV.mono s t)
end
theorem RpAll.length : ∀ {vs : List V} {ds : List D}, RpAll K H vs ds → vs.length = ds.length
  | _, _, .nil => rfl
  | _, _, .cons _ t => congrArg (· + 1) (RpAll.length t)
theorem RpAll.append : ∀ {vs ws : List V} {ds es : List D}, RpAll K H vs ds → RpAll K H ws es → RpAll K H (vs ++ ws) (ds ++ es)
  | _, _, _, _, .nil, s => s
  | _, _, _, _, .cons h t, s => .cons h (RpAll.append t s)
theorem RpAll.get : ∀ {vs : List V} {ds : List D} {i : Nat} {d : D}, RpAll K H vs ds → ds[i]? = some d → ∃ v, vs[i]? = some v ∧ Rp K H v d
  | _, _, _, _, .nil, e => by simp at e
  | _, _, 0, _, .cons h _, e => by simp at e; subst e; exact ⟨_, rfl, h⟩
  | _, _, i + 1, d, .cons _ t, e => by
    obtain ⟨v, h1, h2⟩ := RpAll.get (i := i) (d := d) t (by simpa using e)
    exact ⟨v, by simpa using h1, h2⟩
theorem RpAll.got : ∀ {vs : List V} {ds : List D} {i : Nat} {v : V}, RpAll K H vs ds → vs[i]? = some v → ∃ d, ds[i]? = some d ∧ Rp K H v d
  | _, _, _, _, .nil, e => by simp at e
  | _, _, 0, _, .cons h _, e => by simp at e; subst e; exact ⟨_, rfl, h⟩
  | _, _, i + 1, v, .cons _ t, e => by
    obtain ⟨d, h1, h2⟩ := RpAll.got (i := i) (v := v) t (by simpa using e)
    exact ⟨d, by simpa using h1, h2⟩
theorem RpAll.take : ∀ {vs : List V} {ds : List D} (n : Nat), RpAll K H vs ds → RpAll K H (vs.take n) (ds.take n)
  | _, _, 0, _ => .nil
  | _, _, _ + 1, .nil => .nil
  | _, _, n + 1, .cons h t => .cons h (RpAll.take n t)
theorem RpAll.drop : ∀ {vs : List V} {ds : List D} (n : Nat), RpAll K H vs ds → RpAll K H (vs.drop n) (ds.drop n)
  | _, _, 0, r => r
  | _, _, _ + 1, .nil => .nil
  | _, _, n + 1, .cons _ t => RpAll.drop n t
theorem RpAll.reverse : ∀ {vs : List V} {ds : List D}, RpAll K H vs ds → RpAll K H vs.reverse ds.reverse
  | _, _, .nil => .nil
  | _, _, .cons h t => by
    rw [List.reverse_cons, List.reverse_cons]
    exact (RpAll.reverse t).append (.cons h .nil)
theorem RpAll.dropLast {vs : List V} {ds : List D} (h : RpAll K H vs ds) : RpAll K H vs.dropLast ds.dropLast := by
  rw [List.dropLast_eq_take, List.dropLast_eq_take, h.length]
  exact h.take _
theorem RpAll.of_paired : ∀ {vs : List V} {ds : List D}, Paired (Rp K H) vs ds → RpAll K H vs ds
  | _, _, .nil => .nil
  | _, _, .cons h t => .cons h (RpAll.of_paired t)
theorem RpAll.paired : ∀ {vs : List V} {ds : List D}, RpAll K H vs ds → Paired (Rp K H) vs ds
  | _, _, .nil => .nil
  | _, _, .cons h t => .cons h (RpAll.paired t)
theorem RpAll.perm {vs ws : List V} (p : vs.Perm ws) : ∀ {ds : List D}, RpAll K H vs ds → ∃ es, ds.Perm es ∧ RpAll K H ws es := by
  induction p with
  | nil => intro ds h; cases h; exact ⟨[], .nil, .nil⟩
  | cons x _ ih =>
    intro ds h
    cases h with
    | cons h t =>
      obtain ⟨es, p1, r⟩ := ih t
      exact ⟨_, p1.cons _, .cons h r⟩
  | swap x y l =>
    intro ds h
    cases h with
    | cons h t =>
      cases t with
      | cons h2 t => exact ⟨_, .swap _ _ _, .cons h2 (.cons h t)⟩
  | trans _ _ ih1 ih2 =>
    intro ds h
    obtain ⟨es, p1, r1⟩ := ih1 h
    obtain ⟨fs, p2, r2⟩ := ih2 r1
    exact ⟨fs, p1.trans p2, r2⟩

/-! ### a value that can be read as a datum now: it is one, or a list, a dict of one's own -/
inductive Rq (K : PySem.W.Frag) (H : Hp) : V → D → Prop
  | of {v : V} {d : D} : Rp K H v d → Rq K H v d
  | own {a : Addr} {xs : List V} {ds : List D} : H a = some (.lst xs) → RpAll K H xs ds → Rq K H (.ref a) (.list ds)
  | dct {a : Addr} {kvs : List (Key × V)} {es : List (D × D)} : H a = some (.dK kvs) → RpKV K H kvs es → Rq K H (.ref a) (.dict es)
theorem Rq.mono (s : Same H H') {v : V} {d : D} : Rq K H v d → Rq K H' v d
  | .of h => .of (h.mono (.of s))
  | .own h a => .own (s _ _ h) (a.mono (.of s))
  | .dct h a => .dct (s _ _ h) (a.mono (.of s))
/-- the list, the tuple behind it -/
theorem Rq.lst {v : V} {ds : List D} (h : Rq K H v (.list ds)) : ∃ a xs, v = .ref a ∧ SqL K H a xs ∧ RpAll K H xs ds := by
  cases h with
  | of h => cases h with | lst h a => exact ⟨_, _, rfl, h.sq, a⟩
  | own h a => exact ⟨_, _, rfl, .inl (.inl h), a⟩
theorem Rp.tupI {v : V} {ds : List D} (h : Rp K H v (.tuple ds)) : ∃ a xs, v = .ref a ∧ SqT K H a xs ∧ RpAll K H xs ds := by
  cases h with | tup h a => exact ⟨_, _, rfl, h.sq, a⟩
theorem Rq.tup {v : V} {ds : List D} (h : Rq K H v (.tuple ds)) : ∃ a xs, v = .ref a ∧ SqT K H a xs ∧ RpAll K H xs ds := by
  cases h with | of h => exact h.tupI
theorem Rq.tupP {v : V} {ds : List D} (h : Rq K H v (.tuple ds)) : ∃ a xs, v = .ref a ∧ PlT K H a xs ∧ RpAll K H xs ds := by
  cases h with | of h => cases h with | tup h a => exact ⟨_, _, rfl, h, a⟩
theorem Rq.int {v : V} {i : Int} (h : Rq K H v (.int i)) : v = .int i := by
  cases h with | of h => cases h; rfl
theorem Rq.str {v : V} {x : Str} (h : Rq K H v (.str x)) : v = .str x := by
  cases h with | of h => cases h; rfl
theorem Rq.bl {v : V} {b : Bool} (h : Rq K H v (.bool b)) : v = .bl b := by
  cases h with | of h => cases h; rfl
theorem Rq.non {v : V} (h : Rq K H v .none) : v = .non := by
  cases h with | of h => cases h; rfl
theorem Rp.is_non {v : V} {d : D} (h : Rp K H v d) : (v = .non) ↔ d = .none := by
  cases h <;> simp
theorem Rq.is_non {v : V} {d : D} (h : Rq K H v d) : (v = .non) ↔ d = .none := by
  cases h with
  | of h => exact h.is_non
  | own => simp
  | dct => simp
mutual
def nod : D → Bool
  | .none => true
  | .bool _ => true
  | .int _ => true
  | .str _ => true
  | .list xs => nods xs
  | .tuple xs => nods xs
  | .dict _ => false
def nods : List D → Bool
  | [] => true
  | x :: xs => nod x && nods xs
end
mutual
theorem Rp.dp : ∀ {v : V} {d : D}, nod d = true → Rp K H v d → Dp K H v d
  | _, _, _, .non => .non
  | _, _, _, .bl b => .bl b
  | _, _, _, .int i => .int i
  | _, _, _, .str x => .str x
  | _, _, n, .tup h a => .tup h.sq (RpAll.dp (by simpa [nod] using n) a)
  | _, _, n, .lst h a => .lst h.sq (RpAll.dp (by simpa [nod] using n) a)
  | _, _, n, .dct _ _ => by simp [nod] at n
theorem RpAll.dp : ∀ {vs : List V} {ds : List D}, nods ds = true → RpAll K H vs ds → DpAll K H vs ds
  | _, _, _, .nil => .nil
  | _, _, n, .cons h t => by
    simp only [nods, Bool.and_eq_true] at n
    exact .cons (Rp.dp n.1 h) (RpAll.dp n.2 t)
end
theorem Rq.dp {v : V} {d : D} (n : nod d = true) (h : Rq K H v d) : Dp K H v d := by
  cases h with
  | of h => exact h.dp n
  | own h a => exact .lst (.inl (.inl h)) (a.dp (by simpa [nod] using n))
  | dct => simp [nod] at n
end

/-- .. or a pair that a walk has just made -/
def RY (yl : Bool) (K : PySem.W.Frag) (H : Hp) (v : V) (d : D) : Prop := Rp K H v d ∨ (yl = true ∧ ∃ a xs ds, v = .ref a ∧ d = .tuple ds ∧ SqT K H a xs ∧ RpAll K H xs ds)
theorem RY.tup {yl : Bool} {K : PySem.W.Frag} {H : Hp} {v : V} {ds : List D} (h : RY yl K H v (.tuple ds)) : ∃ a xs, v = .ref a ∧ SqT K H a xs ∧ RpAll K H xs ds := by
  rcases h with h | ⟨_, a, xs, ds', e1, e2, h1, h2⟩
  · exact h.tupI
  · cases e2
    exact ⟨a, xs, e1, h1, h2⟩
theorem RY.no {K : PySem.W.Frag} {H : Hp} {v : V} {d : D} (h : RY false K H v d) : Rp K H v d := by
  rcases h with h | ⟨e, _⟩
  · exact h
  · cases e
/-! ### the names' slots -/
/-- a field of an object -/
inductive Fld where
  | val (d : D)
  | own (ds : List D)
  | dic (es : List (D × D))
/-- things in things: a list of one's own of data, lists, objects -/
inductive Tr where
  | val (d : D)
  | lst (ts : List Tr)
  | obj (C : Addr) (fs : List (Str × Fld))
inductive B where
  /-- nothing is known -/
  | un
  /-- a datum -/
  | val (d : D)
  /-- a list, a dict of one's own, that may be changed -/
  | own (ds : List D) | dic (es : List (D × D))
  /-- an object of one's own: an instance of a class, or a dict by texts, with its fields -/
  | obj (C : Option Addr) (a : Addr) (fs : List (Str × Fld))
  /-- tables of code objects, by the names of their lambdas -/
  | tab (T : List (Addr × Str))
  /-- anything else, by what is true of it; the addresses that are its own -/
  | gen (G : PySem.W.Frag → Hp → V → Prop) (L : List Addr)
  /-- things in things, all of one's own -/
  | tr (t : Tr)
abbrev Rho := List B
def isOwn : B → Bool
  | .own _ => true
  | .dic _ => true
  | .obj _ _ _ => true
  | .tab _ => true
  | .gen _ _ => true
  | .tr _ => true
  | _ => false
/-- a field's value, and the addresses that are its own -/
inductive FdOk (K : PySem.W.Frag) (H : Hp) : V → Fld → List Addr → Prop
  | val {v : V} {d : D} : Rp K H v d → FdOk K H v (.val d) []
  | own {p : Addr} {xs : List V} {ds : List D} : H p = some (.lst xs) → RpAll K H xs ds → FdOk K H (.ref p) (.own ds) [p]
  | dic {p : Addr} {kvs : List (Key × V)} {es : List (D × D)} : H p = some (.dK kvs) → RpKV K H kvs es → FdOk K H (.ref p) (.dic es) [p]
inductive FdsOk (K : PySem.W.Frag) (H : Hp) : List (Str × V) → List (Str × Fld) → List Addr → Prop
  | nil : FdsOk K H [] [] []
  | cons {x : Str} {v : V} {f : Fld} {vs : List (Str × V)} {fs : List (Str × Fld)} {L M : List Addr} : FdOk K H v f L → FdsOk K H vs fs M → FdsOk K H ((x, v) :: vs) ((x, f) :: fs) (L ++ M)
mutual
inductive TrOk (K : PySem.W.Frag) (H : Hp) : V → Tr → List Addr → Prop
  | val {v : V} {d : D} : Rp K H v d → TrOk K H v (.val d) []
  | lst {a : Addr} {xs : List V} {ts : List Tr} {L : List Addr} : H a = some (.lst xs) → TrsOk K H xs ts L → TrOk K H (.ref a) (.lst ts) (a :: L)
  | obj {a C dx : Addr} {vs : List (Str × V)} {fs : List (Str × Fld)} {L : List Addr} : H a = some (.ins C dx vs) → FdsOk K H vs fs L → TrOk K H (.ref a) (.obj C fs) (a :: L)
inductive TrsOk (K : PySem.W.Frag) (H : Hp) : List V → List Tr → List Addr → Prop
  | nil : TrsOk K H [] [] []
  | cons {v : V} {t : Tr} {vs : List V} {ts : List Tr} {L M : List Addr} : TrOk K H v t L → TrsOk K H vs ts M → TrsOk K H (v :: vs) (t :: ts) (L ++ M)
end
/-- it hangs on what never changes, and on its own addresses -/
structure GenOk (K : PySem.W.Frag) (G : PySem.W.Frag → Hp → V → Prop) (L : List Addr) (v : V) : Prop where
  mono : ∀ H H' : Hp, Stb H H' → (∀ x ∈ L, ∀ o, H x = some o → H' x = some o) → G K H v → G K H' v
  stands : ∀ H : Hp, G K H v → ∀ x ∈ L, ∃ o, H x = some o ∧ MutS (some o) ∧ ∀ ps, o ≠ .tbl ps
/-- what is in a slot of one's own, and the addresses that are its own -/
inductive Own (K : PySem.W.Frag) (H : Hp) : V → B → List Addr → Prop
  | own {a : Addr} {xs : List V} {ds : List D} : H a = some (.lst xs) → RpAll K H xs ds → Own K H (.ref a) (.own ds) [a]
  | dic {a : Addr} {kvs : List (Key × V)} {es : List (D × D)} : H a = some (.dK kvs) → RpKV K H kvs es → Own K H (.ref a) (.dic es) [a]
  | ins {a C dx : Addr} {vs : List (Str × V)} {fs : List (Str × Fld)} {L : List Addr} : H a = some (.ins C dx vs) → FdsOk K H vs fs L → (a :: L).Nodup → Own K H (.ref a) (.obj (some C) a fs) (a :: L)
  | dct {a : Addr} {vs : List (Str × V)} {fs : List (Str × Fld)} {L : List Addr} : H a = some (.dK (vs.map fun q => (.inr q.1, q.2))) → FdsOk K H vs fs L → (a :: L).Nodup → Own K H (.ref a) (.obj none a fs) (a :: L)
  | tab {T : List (Addr × Str)} : LamX.Tabs T H → Own K H .non (.tab T) (T.map (·.1))
  | gen {v : V} {G : PySem.W.Frag → Hp → V → Prop} {L : List Addr} : G K H v → GenOk K G L v → Own K H v (.gen G L) L
  | tr {v : V} {t : Tr} {L : List Addr} : TrOk K H v t L → L.Nodup → Own K H v (.tr t) L
theorem tabs_mono {T : List (Addr × Str)} {H H' : Hp} (s : Stb H H') (h : LamX.Tabs T H) (k : ∀ x ∈ T.map (·.1), ∀ o, H x = some o → H' x = some o) : LamX.Tabs T H' := fun p hp => by
  obtain ⟨ps, h1, h2, h3⟩ := h p hp
  refine ⟨ps, k _ (List.mem_map_of_mem hp) _ h1, h2, fun pos cv hc => ?_⟩
  obtain ⟨c, e1, e2⟩ := h3 pos cv hc
  exact ⟨c, e1, s.p3 _ _ ⟨_, rfl⟩ e2⟩
section
variable {K : PySem.W.Frag} {H H' : Hp} {v : V} {b : B} {L M : List Addr}
theorem FdOk.mono {f : Fld} (s : Stb H H') (k : ∀ x ∈ L, ∀ o, H x = some o → H' x = some o) (h : FdOk K H v f L) : FdOk K H' v f L := by
  cases h with
  | val r => exact .val (r.mono s)
  | own e r => exact .own (k _ (by simp) _ e) (r.mono s)
  | dic e r => exact .dic (k _ (by simp) _ e) (r.mono s)
theorem FdOk.det {f : Fld} (h : FdOk K H v f L) (g : FdOk K H' v f M) : L = M := by
  cases h <;> cases g <;> rfl
theorem FdsOk.mono {vs : List (Str × V)} {fs : List (Str × Fld)} (s : Stb H H') (h : FdsOk K H vs fs L) : (∀ x ∈ L, ∀ o, H x = some o → H' x = some o) → FdsOk K H' vs fs L := by
  induction h with
  | nil => exact fun _ => .nil
  | cons h _ ih => exact fun k => .cons (h.mono s fun x hx => k x (List.mem_append_left _ hx)) (ih fun x hx => k x (List.mem_append_right _ hx))
theorem FdsOk.det {vs : List (Str × V)} {fs : List (Str × Fld)} (h : FdsOk K H vs fs L) : ∀ {M : List Addr}, FdsOk K H' vs fs M → L = M := by
  induction h with
  | nil => intro M g; cases g; rfl
  | cons h _ ih =>
    intro M g
    cases g with
    | cons g1 g2 => rw [h.det g1, ih g2]
mutual
theorem TrOk.mono (s : Stb H H') : ∀ {v : V} {t : Tr} {L : List Addr}, TrOk K H v t L → (∀ x ∈ L, ∀ o, H x = some o → H' x = some o) → TrOk K H' v t L
  | _, _, _, .val r, _ => .val (r.mono s)
  | _, _, _, .lst e r, k => .lst (k _ (by simp) _ e) (TrsOk.mono s r fun x hx => k x (List.mem_cons_of_mem _ hx))
  | _, _, _, .obj e r, k => .obj (k _ (by simp) _ e) (r.mono s fun x hx => k x (List.mem_cons_of_mem _ hx))
theorem TrsOk.mono (s : Stb H H') : ∀ {v : List V} {t : List Tr} {L : List Addr}, TrsOk K H v t L → (∀ x ∈ L, ∀ o, H x = some o → H' x = some o) → TrsOk K H' v t L
  | _, _, _, .nil, _ => .nil
  | _, _, _, .cons a b, k => .cons (TrOk.mono s a fun x hx => k x (List.mem_append_left _ hx)) (TrsOk.mono s b fun x hx => k x (List.mem_append_right _ hx))
end
mutual
theorem TrOk.det : ∀ {v : V} {t : Tr} {L M : List Addr}, TrOk K H v t L → TrOk K H v t M → L = M
  | _, _, _, _, .val _, g => by cases g; rfl
  | _, _, _, _, .lst e r, g => by
    cases g with
    | lst e2 r2 =>
      rw [e] at e2
      cases e2
      rw [TrsOk.det r r2]
  | _, _, _, _, .obj e r, g => by
    cases g with
    | obj e2 r2 =>
      rw [e] at e2
      cases e2
      rw [r.det r2]
theorem TrsOk.det : ∀ {v : List V} {t : List Tr} {L M : List Addr}, TrsOk K H v t L → TrsOk K H v t M → L = M
  | _, _, _, _, .nil, g => by cases g; rfl
  | _, _, _, _, .cons a b, g => by
    cases g with
    | cons a2 b2 => rw [TrOk.det a a2, TrsOk.det b b2]
end
theorem Own.mono (s : Stb H H') (k : ∀ x ∈ L, ∀ o, H x = some o → H' x = some o) (h : Own K H v b L) : Own K H' v b L := by
  cases h with
  | own e r => exact .own (k _ (by simp) _ e) (r.mono s)
  | dic e r => exact .dic (k _ (by simp) _ e) (r.mono s)
  | ins e r n => exact .ins (k _ (by simp) _ e) (r.mono s fun x hx => k x (List.mem_cons_of_mem _ hx)) n
  | dct e r n => exact .dct (k _ (by simp) _ e) (r.mono s fun x hx => k x (List.mem_cons_of_mem _ hx)) n
  | tab e => exact .tab (tabs_mono s e k)
  | gen e g => exact .gen (g.mono _ _ s k e) g
  | tr r n => exact .tr (r.mono s k) n
theorem keys_inj : ∀ {vs ws : List (Str × V)}, (vs.map fun q => ((.inr q.1 : Key), q.2)) = ws.map (fun q => (.inr q.1, q.2)) → vs = ws
  | [], [], _ => rfl
  | [], _ :: _, h => by simp at h
  | _ :: _, [], h => by simp at h
  | q :: vs, r :: ws, h => by
    simp only [List.map_cons, List.cons.injEq, Prod.mk.injEq, Sum.inr.injEq] at h
    rw [keys_inj h.2, Prod.ext h.1.1 h.1.2]
theorem Own.det (h : Own K H v b L) (g : Own K H v b M) : L = M := by
  cases h with
  | own => cases g; rfl
  | dic => cases g; rfl
  | ins e r _ =>
    cases g with
    | ins e2 r2 _ =>
      rw [e] at e2
      cases e2
      rw [r.det r2]
  | dct e r _ =>
    cases g with
    | dct e2 r2 _ =>
      rw [e] at e2
      have e3 := keys_inj (HO.dK.inj (Option.some.inj e2))
      subst e3
      rw [r.det r2]
  | tab e => cases g; rfl
  | gen e g' => cases g; rfl
  | tr r n => cases g with | tr r2 _ => exact r.det r2
theorem Own.is (h : Own K H v b L) : isOwn b = true := by cases h <;> rfl
theorem FdsOk.stands {vs : List (Str × V)} {fs : List (Str × Fld)} (h : FdsOk K H vs fs L) : ∀ x ∈ L, ∃ o, H x = some o ∧ MutS (some o) := by
  induction h with
  | nil => exact fun x hx => nomatch hx
  | cons h _ ih =>
    intro x hx
    rcases List.mem_append.mp hx with z | z
    · cases h with
      | val => cases z
      | own e _ => simp at z; rw [z]; exact ⟨_, e, trivial⟩
      | dic e _ => simp at z; rw [z]; exact ⟨_, e, trivial⟩
    · exact ih x z
mutual
theorem TrOk.stands : ∀ {v : V} {t : Tr} {L : List Addr}, TrOk K H v t L → ∀ x ∈ L, ∃ o, H x = some o ∧ MutS (some o) ∧ ∀ ps, o ≠ .tbl ps
  | _, _, _, .val _, _, h => nomatch h
  | _, _, _, .lst e r, x, h => by
    rcases List.mem_cons.mp h with rfl | z
    · exact ⟨_, e, trivial, fun _ z => nomatch z⟩
    · exact TrsOk.stands r x z
  | _, _, _, .obj e r, x, h => by
    rcases List.mem_cons.mp h with rfl | z
    · exact ⟨_, e, trivial, fun _ z => nomatch z⟩
    · clear h e
      induction r with
      | nil => cases z
      | cons h _ ih =>
        rcases List.mem_append.mp z with y | y
        · cases h with
          | val => cases y
          | own e _ => simp at y; rw [y]; exact ⟨_, e, trivial, fun _ z => nomatch z⟩
          | dic e _ => simp at y; rw [y]; exact ⟨_, e, trivial, fun _ z => nomatch z⟩
        · exact ih y
theorem TrsOk.stands : ∀ {v : List V} {t : List Tr} {L : List Addr}, TrsOk K H v t L → ∀ x ∈ L, ∃ o, H x = some o ∧ MutS (some o) ∧ ∀ ps, o ≠ .tbl ps
  | _, _, _, .nil, _, h => nomatch h
  | _, _, _, .cons a b, x, h => by
    rcases List.mem_append.mp h with z | z
    · exact TrOk.stands a x z
    · exact TrsOk.stands b x z
end
/-- all of one's own stands -/
theorem Own.stands (h : Own K H v b L) : ∀ x ∈ L, ∃ o, H x = some o ∧ MutS (some o) := by
  intro x hx
  cases h with
  | own e _ => simp at hx; rw [hx]; exact ⟨_, e, trivial⟩
  | dic e _ => simp at hx; rw [hx]; exact ⟨_, e, trivial⟩
  | ins e r _ =>
    rcases List.mem_cons.mp hx with rfl | z
    · exact ⟨_, e, trivial⟩
    · exact r.stands x z
  | dct e r _ =>
    rcases List.mem_cons.mp hx with rfl | z
    · exact ⟨_, e, trivial⟩
    · exact r.stands x z
  | tab e =>
    obtain ⟨p, hp, rfl⟩ := List.mem_map.mp hx
    obtain ⟨ps, h1, _⟩ := e p hp
    exact ⟨_, h1, trivial⟩
  | gen e g =>
    obtain ⟨o, h1, h2, _⟩ := g.stands _ e x hx
    exact ⟨o, h1, h2⟩
  | tr r n =>
    obtain ⟨o, h1, h2, _⟩ := r.stands x hx
    exact ⟨o, h1, h2⟩
end
structure SOk (K : PySem.W.Frag) (ρ : Rho) (σ : L2.St) (H : Hp) : Prop where
  len : ρ.length = σ.length
  val : ∀ (i : Nat) d, ρ[i]? = some (.val d) → ∃ v, σ[i]? = some (some v) ∧ Rp K H v d
  has : ∀ (i : Nat) b, ρ[i]? = some b → isOwn b = true → ∃ v L, σ[i]? = some (some v) ∧ Own K H v b L
  apart : ∀ (i j : Nat) b c v w L M x, ρ[i]? = some b → ρ[j]? = some c → σ[i]? = some (some v) → σ[j]? = some (some w) → Own K H v b L → Own K H w c M → x ∈ L → x ∈ M → i = j
section
variable {K : PySem.W.Frag} {ρ : Rho} {σ : L2.St} {H H' : Hp}
theorem SOk.own (h : SOk K ρ σ H) (i : Nat) (ds : List D) (e : ρ[i]? = some (.own ds)) : ∃ a xs, σ[i]? = some (some (.ref a)) ∧ H a = some (.lst xs) ∧ RpAll K H xs ds := by
  obtain ⟨v, L, e1, o⟩ := h.has i _ e rfl
  cases o with
  | own e2 r => exact ⟨_, _, e1, e2, r⟩
theorem SOk.dic (h : SOk K ρ σ H) (i : Nat) (es : List (D × D)) (e : ρ[i]? = some (.dic es)) : ∃ a kvs, σ[i]? = some (some (.ref a)) ∧ H a = some (.dK kvs) ∧ RpKV K H kvs es := by
  obtain ⟨v, L, e1, o⟩ := h.has i _ e rfl
  cases o with
  | dic e2 r => exact ⟨_, _, e1, e2, r⟩
/-- what is one's own behind a change was so before -/
theorem SOk.back (h : SOk K ρ σ H) (s : Stb H H') {i : Nat} {b : B} {v : V} {L : List Addr} (k : ∀ L, Own K H v b L → ∀ x ∈ L, ∀ o, H x = some o → H' x = some o) (e : ρ[i]? = some b) (es : σ[i]? = some (some v)) (o : Own K H' v b L) : Own K H v b L := by
  obtain ⟨v', L', e1, o'⟩ := h.has i b e o.is
  rw [es] at e1
  cases e1
  rw [o.det (o'.mono s (k L' o'))]
  exact o'
/-- a stable change that leaves one's own things -/
theorem SOk.stb (s : Stb H H') (k : ∀ (i : Nat) b v L, ρ[i]? = some b → σ[i]? = some (some v) → Own K H v b L → ∀ x ∈ L, ∀ o, H x = some o → H' x = some o) (h : SOk K ρ σ H) : SOk K ρ σ H' := by
  refine ⟨h.len, fun i d e => ?_, fun i b e o => ?_, fun i j b c v w L M x e1 e2 s1 s2 o1 o2 => ?_⟩
  · obtain ⟨v, e1, r⟩ := h.val i d e
    exact ⟨v, e1, r.mono s⟩
  · obtain ⟨v, L, e1, r⟩ := h.has i b e o
    exact ⟨v, L, e1, r.mono s (k i b v L e e1 r)⟩
  · exact h.apart i j b c v w L M x e1 e2 s1 s2 (h.back s (fun L o => k i b v L e1 s1 o) e1 s1 o1) (h.back s (fun L o => k j c w L e2 s2 o) e2 s2 o2)
theorem SOk.mono (s : Same H H') (h : SOk K ρ σ H) : SOk K ρ σ H' := h.stb (.of s) fun _ _ _ _ _ _ _ x _ o e => s x o e
/-- forgetting slots -/
theorem SOk.weak {ρ' : Rho} {σ' : L2.St} (h : SOk K ρ σ H) (hl : ρ'.length = σ'.length) (w : ∀ (i : Nat) b, ρ'[i]? = some b → b ≠ .un → ρ[i]? = some b ∧ σ'[i]? = σ[i]?) : SOk K ρ' σ' H := by
  have ne : ∀ {b : B} {v : V} {L : List Addr}, Own K H v b L → b ≠ .un := fun o => by rintro rfl; cases o
  refine ⟨hl, fun i d e => ?_, fun i b e o => ?_, fun i j b c v w' L M x e1 e2 s1 s2 o1 o2 => ?_⟩
  · obtain ⟨e', q⟩ := w i _ e (by simp)
    rw [q]; exact h.val i d e'
  · obtain ⟨e', q⟩ := w i b e (by rintro rfl; cases o)
    rw [q]; exact h.has i b e' o
  · obtain ⟨e1', q1⟩ := w i b e1 (ne o1)
    obtain ⟨e2', q2⟩ := w j c e2 (ne o2)
    exact h.apart i j b c v w' L M x e1' e2' (by rw [← q1]; exact s1) (by rw [← q2]; exact s2) o1 o2
/-- a datum is stored -/
theorem SOk.set {i : Nat} {v : V} {d : D} (h : SOk K ρ σ H) (r : Rp K H v d) : SOk K (ρ.set i (.val d)) (σ.set i (some v)) H := by
  have hl := h.len
  have ne : ∀ (j : Nat) b, (ρ.set i (.val d))[j]? = some b → j ≠ i → ρ[j]? = some b ∧ (σ.set i (some v))[j]? = σ[j]? := fun j b e n => by
    rw [List.getElem?_set_ne (Ne.symm n)] at e
    exact ⟨e, List.getElem?_set_ne (Ne.symm n)⟩
  have at_ : ∀ b, (ρ.set i (.val d))[i]? = some b → b = .val d ∧ (σ.set i (some v))[i]? = some (some v) := fun b e => by
    by_cases hi : i < ρ.length
    · rw [List.getElem?_set_self hi] at e
      cases e
      exact ⟨rfl, List.getElem?_set_self (by omega)⟩
    · rw [List.getElem?_eq_none (by rw [List.length_set]; omega)] at e; cases e
  refine ⟨by simpa using hl, fun j d' e => ?_, fun j b e o => ?_, fun j k b c w u L M x e1 e2 s1 s2 o1 o2 => ?_⟩
  · by_cases hj : j = i
    · subst hj
      obtain ⟨q, e'⟩ := at_ _ e
      cases q
      exact ⟨v, e', r⟩
    · obtain ⟨e', q⟩ := ne j _ e hj
      rw [q]; exact h.val j d' e'
  · by_cases hj : j = i
    · subst hj; obtain ⟨q, _⟩ := at_ _ e; subst q; cases o
    · obtain ⟨e', q⟩ := ne j _ e hj
      rw [q]; exact h.has j b e' o
  · have hj : j ≠ i := fun z => by subst z; obtain ⟨q, _⟩ := at_ _ e1; subst q; cases o1
    have hk : k ≠ i := fun z => by subst z; obtain ⟨q, _⟩ := at_ _ e2; subst q; cases o2
    obtain ⟨e1', q1⟩ := ne j _ e1 hj
    obtain ⟨e2', q2⟩ := ne k _ e2 hk
    exact h.apart j k b c w u L M x e1' e2' (by rw [← q1]; exact s1) (by rw [← q2]; exact s2) o1 o2
/-- a thing of one's own is stored -/
theorem SOk.setOwn {i : Nat} {v0 : V} {b0 : B} {L0 : List Addr} (h : SOk K ρ σ H) (o0 : Own K H v0 b0 L0) (hp : ∀ (j : Nat) b v L x, ρ[j]? = some b → j ≠ i → σ[j]? = some (some v) → Own K H v b L → x ∈ L → x ∉ L0) : SOk K (ρ.set i b0) (σ.set i (some v0)) H := by
  have hl := h.len
  have ne : ∀ (j : Nat) b, (ρ.set i b0)[j]? = some b → j ≠ i → ρ[j]? = some b ∧ (σ.set i (some v0))[j]? = σ[j]? := fun j b e n => by
    rw [List.getElem?_set_ne (Ne.symm n)] at e
    exact ⟨e, List.getElem?_set_ne (Ne.symm n)⟩
  have at_ : ∀ b, (ρ.set i b0)[i]? = some b → b = b0 ∧ (σ.set i (some v0))[i]? = some (some v0) := fun b e => by
    by_cases hi : i < ρ.length
    · rw [List.getElem?_set_self hi] at e
      cases e
      exact ⟨rfl, List.getElem?_set_self (by omega)⟩
    · rw [List.getElem?_eq_none (by rw [List.length_set]; omega)] at e; cases e
  refine ⟨by simpa using hl, fun j d' e => ?_, fun j b e o => ?_, fun j k b c w u L M x e1 e2 s1 s2 o1 o2 m1 m2 => ?_⟩
  · by_cases hj : j = i
    · subst hj; obtain ⟨q, _⟩ := at_ _ e; subst q; cases o0
    · obtain ⟨e', q⟩ := ne j _ e hj
      rw [q]; exact h.val j d' e'
  · by_cases hj : j = i
    · subst hj
      obtain ⟨q, e'⟩ := at_ _ e
      subst q
      exact ⟨v0, L0, e', o0⟩
    · obtain ⟨e', q⟩ := ne j _ e hj
      rw [q]; exact h.has j b e' o
  · by_cases hj : j = i
    · by_cases hk : k = i
      · rw [hj, hk]
      · subst hj
        obtain ⟨q, e'⟩ := at_ _ e1
        subst q
        rw [e'] at s1
        cases s1
        obtain ⟨e2', q2⟩ := ne k _ e2 hk
        exact absurd (by rw [o0.det o1]; exact m1) (hp k c u M x e2' hk (q2 ▸ s2) o2 m2)
    · by_cases hk : k = i
      · subst hk
        obtain ⟨q, e'⟩ := at_ _ e2
        subst q
        rw [e'] at s2
        cases s2
        obtain ⟨e1', q1⟩ := ne j _ e1 hj
        exact absurd (by rw [o0.det o2]; exact m2) (hp j b w L x e1' hj (q1 ▸ s1) o1 m1)
      · obtain ⟨e1', q1⟩ := ne j _ e1 hj
        obtain ⟨e2', q2⟩ := ne k _ e2 hk
        exact h.apart j k b c w u L M x e1' e2' (by rw [← q1]; exact s1) (by rw [← q2]; exact s2) o1 o2 m1 m2
end
end DL


namespace DL
open PySem PySem.Spec PyProof.Rows L2

/-! ### the weakest readings -/
section
variable {X : Cx}
def cE (X : Cx) (e : Expr) : TE := fun σ H Q => ∃ t, PE X e t ∧ t σ H Q
def cT (X : Cx) (e : Expr) : TT := fun σ H Q => ∃ t, PT X e t ∧ t σ H Q
def cW (X : Cx) (e : Expr) : TT := fun σ H Q => ∃ t, PW X e t ∧ t σ H Q
def cA (X : Cx) (es : List Expr) : TA := fun σ H Q => ∃ t, PA X es t ∧ t σ H Q
def cS (X : Cx) (st : Stmt) : TS := fun D σ H => ∃ t, PS X st t ∧ t D σ H
def cSs (X : Cx) (st : List Stmt) : TS := fun D σ H => ∃ t, PSs X st t ∧ t D σ H
def cG (X : Cx) (tg : Expr) : TG := fun v σ H Q => ∃ t, PG X tg t ∧ t v σ H Q
def cGs (X : Cx) (tg : List Expr) : TGs := fun v σ H Q => ∃ t, PGs X tg t ∧ t v σ H Q
def cI (X : Cx) (tg it : Expr) : TI := fun σ H R => ∃ t, PI X tg it t ∧ t σ H R
def cP (X : Cx) (e : Option Expr) : TO := fun σ H Q => ∃ t, PO X e t ∧ t σ H Q
def cTs (X : Cx) (es : List Expr) : TT := fun σ H Q => ∃ t, PTs X es t ∧ t σ H Q
theorem pe_c {e : Expr} : PE X e (cE X e) := ⟨fun pins s σ H Q I ⟨t, h, q⟩ => h.run pins s σ H Q I q⟩
theorem pt_c {e : Expr} : PT X e (cT X e) := ⟨fun pins s σ H Q I ⟨t, h, q⟩ => h.run pins s σ H Q I q⟩
theorem pw_c {e : Expr} : PW X e (cW X e) := ⟨fun wh pins s σ H Q I ⟨t, h, q⟩ => h.run wh pins s σ H Q I q⟩
theorem pa_c {es : List Expr} : PA X es (cA X es) := ⟨fun pos pins s σ H Q I ⟨t, h, q⟩ => h.run pos pins s σ H Q I q⟩
theorem ps_c {st : Stmt} : PS X st (cS X st) := ⟨fun pins s σ H D I ⟨t, h, q⟩ => h.run pins s σ H D I q⟩
theorem pss_c {st : List Stmt} : PSs X st (cSs X st) := ⟨fun pins s σ H D I ⟨t, h, q⟩ => h.run pins s σ H D I q⟩
theorem pg_c {tg : Expr} : PG X tg (cG X tg) := ⟨fun pins s σ H v u Q I r ⟨t, h, q⟩ => h.run pins s σ H v u Q I r q⟩
theorem pgs_c {tg : List Expr} : PGs X tg (cGs X tg) := ⟨fun pins s σ H v u Q I r ⟨t, h, q⟩ => h.run pins s σ H v u Q I r q⟩
theorem pi_c {tg it : Expr} : PI X tg it (cI X tg it) := ⟨fun pins s σ H R I ⟨t, h, q⟩ => h.run pins s σ H R I q⟩
theorem po_c {e : Option Expr} : PO X e (cP X e) := ⟨fun pins s σ H Q I ⟨t, h, q⟩ => h.run pins s σ H Q I q⟩
theorem pts_c {es : List Expr} : PTs X es (cTs X es) := ⟨fun pins s σ H Q I ⟨t, h, q⟩ => h.run pins s σ H Q I q⟩
end

/-! ### what comes of an expression -/
inductive Kd where
  /-- a datum | one that can be read now | a new list, a new dict of one's own -/
  | val (d : D) | qua (d : D) | new (ds : List D) | newD (es : List (D × D))
def RS (K : PySem.W.Frag) : Kd → Hp → V → Hp → Prop
  | .val d, H, v, H' => Same H H' ∧ Rp K H' v d
  | .qua d, H, v, H' => Same H H' ∧ Rq K H' v d
  | .new ds, H, v, H' => Same H H' ∧ ∃ p xs, v = .ref p ∧ H p = none ∧ H' p = some (.lst xs) ∧ RpAll K H' xs ds
  | .newD es, H, v, H' => Same H H' ∧ ∃ p kvs, v = .ref p ∧ H p = none ∧ H' p = some (.dK kvs) ∧ RpKV K H' kvs es
section
variable {K : PySem.W.Frag} {H H1 H2 : Hp} {v : V}
theorem RS.abs : ∀ {k : Kd}, Same H H1 → RS K k H1 v H2 → RS K k H v H2
  | .val _, s, ⟨a, b⟩ => ⟨s.trans a, b⟩
  | .qua _, s, ⟨a, b⟩ => ⟨s.trans a, b⟩
  | .new _, s, ⟨a, p, xs, e, n, q⟩ => ⟨s.trans a, p, xs, e, s.free n, q⟩
  | .newD _, s, ⟨a, p, xs, e, n, q⟩ => ⟨s.trans a, p, xs, e, s.free n, q⟩
theorem RS.same : ∀ {k : Kd}, RS K k H v H2 → Same H H2
  | .val _, h => h.1
  | .qua _, h => h.1
  | .new _, h => h.1
  | .newD _, h => h.1
end
def Ev (X : Cx) (e : Expr) (ρ : Rho) (k : Kd) : Prop := ∀ σ H Q, SOk X.K ρ σ H → (∀ v H', RS X.K k H v H' → Q v H') → cE X e σ H Q
def EvT (X : Cx) (e : Expr) (ρ : Rho) (b : Bool) : Prop := ∀ σ H Q, SOk X.K ρ σ H → (∀ H', Same H H' → Q b H') → cT X e σ H Q
def EvW (X : Cx) (e : Expr) (ρ : Rho) (b : Bool) : Prop := ∀ σ H Q, SOk X.K ρ σ H → (∀ H', Same H H' → Q b H') → cW X e σ H Q
/-- arguments: data | what can be read -/
def EvA (X : Cx) (es : List Expr) (ρ : Rho) (ds : List D) : Prop := ∀ σ H Q, SOk X.K ρ σ H → (∀ vs H', Same H H' → RpAll X.K H' vs ds → Q vs H') → cA X es σ H Q
def EvAq (X : Cx) (es : List Expr) (ρ : Rho) (ds : List D) : Prop := ∀ σ H Q, SOk X.K ρ σ H → (∀ vs H', Same H H' → Paired (Rq X.K H') vs ds → Q vs H') → cA X es σ H Q
section
variable {X : Cx} {ρ : Rho} {e a b c : Expr} {d x y z : D} {ds es' : List D} {k : Kd}
theorem Ev.q (h : Ev X e ρ (.val d)) : Ev X e ρ (.qua d) := fun σ H Q S q => h σ H Q S fun v H' r => q v H' ⟨r.1, .of r.2⟩
theorem Ev.nq (h : Ev X e ρ (.new ds)) : Ev X e ρ (.qua (.list ds)) := fun σ H Q S q => h σ H Q S fun v H' ⟨s, p, xs, e1, _, e2, r⟩ => by
  subst e1
  exact q _ H' ⟨s, .own e2 r⟩
/-- a new thing is locked for ever -/
theorem fz_any {t : TE} (h : PE X e t) : PE X e (fun σ H Q => t σ H fun v H' => ∃ a u, v = .ref a ∧ H' a = some u ∧ Mut (some u) ∧ ∀ od, Q v (upd H' a (.frz od u))) := by
  refine ⟨fun pins s σ H Q I hw => ?_⟩
  refine thn (h.run pins s σ H _ I hw) fun v s1 ⟨x, H1, I1, r1, a, u, e1, hu, mu, q⟩ => ?_
  subst e1
  obtain ⟨od, I2⟩ := I1.lock hu mu
  exact ⟨_, _, I2, r1, q od⟩
theorem rp_lock {K : PySem.W.Frag} {H : Hp} {p : Addr} {xs : List V} {ds : List D} (e : H p = some (.lst xs)) (r : RpAll K H xs ds) (od : Obj) : Rp K (upd H p (.frz od (.lst xs))) (.ref p) (.list ds) :=
  .lst (.inl ⟨od, upd_same⟩) (r.mono (stb_upd e trivial))
theorem rp_lockD {K : PySem.W.Frag} {H : Hp} {p : Addr} {kvs : List (Key × V)} {es : List (D × D)} (e : H p = some (.dK kvs)) (r : RpKV K H kvs es) (od : Obj) : Rp K (upd H p (.frz od (.dK kvs))) (.ref p) (.dict es) :=
  .dct upd_same (r.mono (stb_upd e trivial))
theorem Ev.fz (h : Ev X e ρ (.new ds)) : Ev X e ρ (.val (.list ds)) := fun σ H Q S q =>
  ⟨_, fz_any pe_c, h σ H _ S fun v H' ⟨s, p, xs, e1, n, e2, r⟩ => ⟨p, _, e1, e2, trivial, fun od => by
    subst e1
    exact q _ _ ⟨same_mut s n, rp_lock e2 r od⟩⟩⟩
theorem Ev.fzD {es : List (D × D)} (h : Ev X e ρ (.newD es)) : Ev X e ρ (.val (.dict es)) := fun σ H Q S q =>
  ⟨_, fz_any pe_c, h σ H _ S fun v H' ⟨s, p, xs, e1, n, e2, r⟩ => ⟨p, _, e1, e2, trivial, fun od => by
    subst e1
    exact q _ _ ⟨same_mut s n, rp_lockD e2 r od⟩⟩⟩
theorem Ev.cast {k' : Kd} (h : Ev X e ρ k) (e1 : k = k') : Ev X e ρ k' := e1 ▸ h
theorem EvT.cast {b b' : Bool} (h : EvT X e ρ b) (e1 : b = b') : EvT X e ρ b' := e1 ▸ h

/-! ### names, constants -/
theorem ev_var (i : Nat) {x : Str} {pos : Pos} (h : ρ[i]? = some (.val d) := by rfl) (hN : X.N[i]? = some x := by rfl) (hv : Vis X.env.scope x := by first | exact Or.inl rfl | exact Or.inr (Or.inl rfl) | exact Or.inr (Or.inr rfl)) (hd : (x == ("__debug__" : Str)) = false := by decide)
    (hcd : (x == ("__classdict__" : Str)) = false := by decide) : Ev X (.Name x pos) ρ (.val d) := fun σ H Q S q => by
  obtain ⟨v, e, r⟩ := S.val i d h
  exact ⟨_, pe_var hN hv hd hcd, v, e, q v H ⟨.refl H, r⟩⟩
theorem ev_own (i : Nat) {x : Str} {pos : Pos} (h : ρ[i]? = some (.own ds) := by rfl) (hN : X.N[i]? = some x := by rfl) (hv : Vis X.env.scope x := by first | exact Or.inl rfl | exact Or.inr (Or.inl rfl) | exact Or.inr (Or.inr rfl)) (hd : (x == ("__debug__" : Str)) = false := by decide)
    (hcd : (x == ("__classdict__" : Str)) = false := by decide) : Ev X (.Name x pos) ρ (.qua (.list ds)) := fun σ H Q S q => by
  obtain ⟨p, xs, e, e2, r⟩ := S.own i ds h
  exact ⟨_, pe_var hN hv hd hcd, _, e, q _ H ⟨.refl H, .own e2 r⟩⟩
theorem ev_dic (i : Nat) {x : Str} {pos : Pos} {es : List (D × D)} (h : ρ[i]? = some (.dic es) := by rfl) (hN : X.N[i]? = some x := by rfl) (hv : Vis X.env.scope x := by first | exact Or.inl rfl | exact Or.inr (Or.inl rfl) | exact Or.inr (Or.inr rfl)) (hd : (x == ("__debug__" : Str)) = false := by decide)
    (hcd : (x == ("__classdict__" : Str)) = false := by decide) : Ev X (.Name x pos) ρ (.qua (.dict es)) := fun σ H Q S q => by
  obtain ⟨p, xs, e, e2, r⟩ := S.dic i es h
  exact ⟨_, pe_var hN hv hd hcd, _, e, q _ H ⟨.refl H, .dct e2 r⟩⟩
theorem ev_int {i : Int} {j : Nat} {pos : Pos} : Ev X (.Constant (.int i) j pos) ρ (.val (.int i)) := fun _ H _ _ q => ⟨_, pe_int, q _ H ⟨.refl H, .int i⟩⟩
theorem ev_bl {i : Bool} {j : Nat} {pos : Pos} : Ev X (.Constant (.bool i) j pos) ρ (.val (.bool i)) := fun _ H _ _ q => ⟨_, pe_bl, q _ H ⟨.refl H, .bl i⟩⟩
theorem ev_str {i : Str} {j : Nat} {pos : Pos} : Ev X (.Constant (.str i) j pos) ρ (.val (.str i)) := fun _ H _ _ q => ⟨_, pe_str, q _ H ⟨.refl H, .str i⟩⟩
theorem ev_non {j : Nat} {pos : Pos} : Ev X (.Constant .none j pos) ρ (.val .none) := fun _ H _ _ q => ⟨_, pe_non, q _ H ⟨.refl H, .non⟩⟩
/-- a constant of the module that is a text, an int -/
theorem ev_gstr {x : Str} {s : Str} {t : Tok} {pos : Pos} (hm : X.mg x = some (.str s t)) (hg : Gl X x := by rfl) (hd : (x == ("__debug__" : Str)) = false := by decide) : Ev X (.Name x pos) ρ (.val (.str s)) :=
  fun _ H _ _ q => ⟨_, pe_glob (v := .str s) hg hm ⟨_, rfl⟩ hd, q _ H ⟨.refl H, .str s⟩⟩
theorem ev_gint {x : Str} {s : Int} {t : Tok} {pos : Pos} (hm : X.mg x = some (.int s t)) (hg : Gl X x := by rfl) (hd : (x == ("__debug__" : Str)) = false := by decide) : Ev X (.Name x pos) ρ (.val (.int s)) :=
  fun _ H _ _ q => ⟨_, pe_glob (v := .int s) hg hm ⟨_, rfl⟩ hd, q _ H ⟨.refl H, .int s⟩⟩

/-! ### operators by data -/
def OpV (X : Cx) (f : Value → Value → Sem Value) (x y : D) (k : Kd) : Prop :=
  ∀ H u v Q, Rq X.K H u x → Rq X.K H v y → (∀ w H', RS X.K k H w H' → Q w H') → ∃ r, OpR X f r ∧ r u v H Q
def cOp (X : Cx) (f : Value → Value → Sem Value) : R2 := fun u v H Q => ∃ r, OpR X f r ∧ r u v H Q
theorem op_c {f : Value → Value → Sem Value} : OpR X f (cOp X f) := fun pins s σ H x y v u Q I rx ry ⟨r, h, q⟩ => h pins s σ H x y v u Q I rx ry q
theorem ev_two {f : Value → Value → Sem Value} {σ : L2.St} {H : Hp} {Q : VK} (o : OpV X f x y k) (ha : Ev X a ρ (.qua x)) (hb : Ev X b ρ (.qua y)) (S : SOk X.K ρ σ H) (q : ∀ v H', RS X.K k H v H' → Q v H') : tOp (cOp X f) (cE X a) (cE X b) σ H Q :=
  ha σ H _ S fun u H1 ⟨s1, r1⟩ => hb σ H1 _ (S.mono s1) fun v H2 ⟨s2, r2⟩ => o H2 u v Q (r1.mono s2) r2 fun w H3 r => q w H3 (r.abs (s1.trans s2))
theorem ev_bin {op : Operator} {pos : Pos} (o : OpV X (binaryOp op) x y k) (ha : Ev X a ρ (.qua x)) (hb : Ev X b ρ (.qua y)) : Ev X (.BinOp a op b pos) ρ k := fun σ H Q S q => ⟨_, pe_op op_c pe_c pe_c, ev_two o ha hb S q⟩
theorem ev_cmp {op : CmpOp} {pos : Pos} (o : OpV X (compareOp op) x y k) (ha : Ev X a ρ (.qua x)) (hb : Ev X b ρ (.qua y)) (hm : behindInMarks op b = false := by first | exact nomark _ | rfl) : Ev X (.Compare a [op] [b] pos) ρ k := fun σ H Q S q => ⟨_, pe_cmpR op_c pe_c pe_c hm, ev_two o ha hb S q⟩
theorem et_cmp {op : CmpOp} {pos : Pos} {t : Bool} (o : OpV X (compareOp op) x y (.val (.bool t))) (ha : Ev X a ρ (.qua x)) (hb : Ev X b ρ (.qua y)) (hm : behindInMarks op b = false := by first | exact nomark _ | rfl) : EvT X (.Compare a [op] [b] pos) ρ t :=
  fun σ H Q S q => ⟨_, pt_cmpR op_c pe_c pe_c hm, ev_two o ha hb S fun v H' ⟨s, r⟩ => by cases r; exact ⟨t, rfl, q H' s⟩⟩
/-- a < b < c -/
theorem ev_chain {op op' : CmpOp} {pos : Pos} {t t' : Bool} (o : OpV X (compareOp op) x y (.val (.bool t))) (ha : Ev X a ρ (.val x)) (hb : Ev X b ρ (.val y)) (o' : t = true → OpV X (compareOp op') y z (.val (.bool t'))) (hc : t = true → Ev X c ρ (.val z))
    (hm : lastMarks [op, op'] [b, c] = false := by with_unfolding_all rfl) : Ev X (.Compare a [op, op'] [b, c] pos) ρ (.val (.bool (t && t'))) := fun σ H Q S q => by
  refine ⟨_, pe_chain op_c op_c pe_c pe_c pe_c hm, ?_⟩
  refine ha σ H _ S fun u H1 ⟨s1, r1⟩ => hb σ H1 _ (S.mono s1) fun v H2 ⟨s2, r2⟩ => o H2 u v _ ((Rq.of r1).mono s2) (.of r2) fun w H3 ⟨s3, r3⟩ => ?_
  have r3' : w = .bl t := (Rq.of r3).bl
  refine ⟨t, r3', ?_⟩
  cases t with
  | false => exact iteF (q _ H3 ⟨(s1.trans s2).trans s3, .bl _⟩)
  | true =>
    exact iteT (hc rfl σ H3 _ (S.mono ((s1.trans s2).trans s3)) fun w' H4 ⟨s4, r4⟩ => o' rfl H4 v w' _ ((Rq.of r2).mono (s3.trans s4)) (.of r4) fun z H5 r5 => q z H5 (r5.abs (((s1.trans s2).trans s3).trans s4)))
theorem et_chain {op op' : CmpOp} {pos : Pos} {t t' : Bool} (o : OpV X (compareOp op) x y (.val (.bool t))) (ha : Ev X a ρ (.val x)) (hb : Ev X b ρ (.val y)) (o' : t = true → OpV X (compareOp op') y z (.val (.bool t'))) (hc : t = true → Ev X c ρ (.val z))
    (hm : lastMarks [op, op'] [b, c] = false := by with_unfolding_all rfl) : EvT X (.Compare a [op, op'] [b, c] pos) ρ (t && t') := fun σ H Q S q => by
  refine ⟨_, pt_chain op_c op_c pe_c pe_c pe_c hm, ?_⟩
  refine ha σ H _ S fun u H1 ⟨s1, r1⟩ => hb σ H1 _ (S.mono s1) fun v H2 ⟨s2, r2⟩ => o H2 u v _ ((Rq.of r1).mono s2) (.of r2) fun w H3 ⟨s3, r3⟩ => ?_
  have r3' : w = .bl t := (Rq.of r3).bl
  refine ⟨t, r3', ?_⟩
  cases t with
  | false => exact iteF ⟨_, rfl, q H3 ((s1.trans s2).trans s3)⟩
  | true =>
    exact iteT (hc rfl σ H3 _ (S.mono ((s1.trans s2).trans s3)) fun w' H4 ⟨s4, r4⟩ => o' rfl H4 v w' _ ((Rq.of r2).mono (s3.trans s4)) (.of r4) fun z H5 r5 => by
      have e5 : z = .bl t' := (Rq.of r5.2).bl
      exact ⟨t', e5, q H5 (((((s1.trans s2).trans s3).trans s4)).trans r5.1)⟩)

/-! ### tests -/
theorem et_val {t : Bool} (h : Ev X e ρ (.val (.bool t))) (he : ∀ whole, isTrue e X.env whole = (do let v ← whole; standAt e.pos; holding [v] (truthy v)) := by intro _; rfl) : EvT X e ρ t := fun σ H Q S q =>
  ⟨_, pt_val pe_c he, h σ H _ S fun v H' ⟨s, r⟩ => ⟨t, (Rq.of r).bl, q H' s⟩⟩
theorem EvW.t {t : Bool} (h : EvW X e ρ t) : EvT X e ρ t := fun σ H Q S q => ⟨_, PW.pt pw_c, h σ H Q S q⟩
theorem ew_and1 {t : Bool} {pos : Pos} (h : EvT X a ρ t) : EvW X (.BoolOp .And [a] pos) ρ t := fun σ H Q S q => ⟨_, pw_and1 pt_c, h σ H Q S q⟩
theorem ew_or1 {t : Bool} {pos : Pos} (h : EvT X a ρ t) : EvW X (.BoolOp .Or [a] pos) ρ t := fun σ H Q S q => ⟨_, pw_or1 pt_c, h σ H Q S q⟩
theorem ew_and {t t' : Bool} {pos : Pos} {rest : List Expr} (h : EvT X a ρ t) (h' : t = true → EvW X (.BoolOp .And (b :: rest) pos) ρ t') : EvW X (.BoolOp .And (a :: b :: rest) pos) ρ (t && t') := fun σ H Q S q =>
  ⟨_, pw_and pt_c pw_c, h σ H _ S fun H1 s1 => by
    cases t with
    | true => exact iteT (h' rfl σ H1 Q (S.mono s1) fun H2 s2 => q H2 (s1.trans s2))
    | false => exact iteF (q H1 s1)⟩
theorem ew_or {t t' : Bool} {pos : Pos} {rest : List Expr} (h : EvT X a ρ t) (h' : t = false → EvW X (.BoolOp .Or (b :: rest) pos) ρ t') : EvW X (.BoolOp .Or (a :: b :: rest) pos) ρ (t || t') := fun σ H Q S q =>
  ⟨_, pw_or pt_c pw_c, h σ H _ S fun H1 s1 => by
    cases t with
    | false => exact iteF (h' rfl σ H1 Q (S.mono s1) fun H2 s2 => q H2 (s1.trans s2))
    | true => exact iteT (q H1 s1)⟩
theorem et_not {t : Bool} {pos : Pos} (h : EvT X a ρ t) : EvT X (.UnaryOp .Not a pos) ρ (!t) := fun σ H Q S q => ⟨_, pt_not pt_c, h σ H _ S fun H1 s1 => q H1 s1⟩
/-- and, or, not as values (all truths) -/
theorem ev_one {op : BoolOp} {pos : Pos} (h : Ev X a ρ k) : Ev X (.BoolOp op [a] pos) ρ k := fun σ H Q S q => ⟨_, pe_one pe_c, h σ H Q S q⟩
theorem ev_and {t t' : Bool} {pos : Pos} {rest : List Expr} (h : Ev X a ρ (.val (.bool t))) (h' : t = true → Ev X (.BoolOp .And (b :: rest) pos) ρ (.val (.bool t'))) : Ev X (.BoolOp .And (a :: b :: rest) pos) ρ (.val (.bool (t && t'))) := fun σ H Q S q =>
  ⟨_, pe_and pe_c pe_c, h σ H _ S fun v H1 ⟨s1, r1⟩ => ⟨t, (Rq.of r1).bl, by
    cases t with
    | true => exact iteT (h' rfl σ H1 Q (S.mono s1) fun v H2 r2 => q v H2 (r2.abs s1))
    | false => exact iteF (q _ H1 ⟨s1, .bl _⟩)⟩⟩
theorem ev_or {t t' : Bool} {pos : Pos} {rest : List Expr} (h : Ev X a ρ (.val (.bool t))) (h' : t = false → Ev X (.BoolOp .Or (b :: rest) pos) ρ (.val (.bool t'))) : Ev X (.BoolOp .Or (a :: b :: rest) pos) ρ (.val (.bool (t || t'))) := fun σ H Q S q =>
  ⟨_, pe_or pe_c pe_c, h σ H _ S fun v H1 ⟨s1, r1⟩ => ⟨t, (Rq.of r1).bl, by
    cases t with
    | false => exact iteF (h' rfl σ H1 Q (S.mono s1) fun v H2 r2 => q v H2 (r2.abs s1))
    | true => exact iteT (q _ H1 ⟨s1, .bl _⟩)⟩⟩
theorem ev_not {t : Bool} {pos : Pos} (h : Ev X a ρ (.val (.bool t))) : Ev X (.UnaryOp .Not a pos) ρ (.val (.bool (!t))) := fun σ H Q S q =>
  ⟨_, pe_not pe_c, h σ H _ S fun v H1 ⟨s1, r1⟩ => ⟨t, (Rq.of r1).bl, q _ H1 ⟨s1, .bl _⟩⟩⟩
theorem ev_neg {i : Int} {pos : Pos} (h : Ev X a ρ (.val (.int i))) : Ev X (.UnaryOp .USub a pos) ρ (.val (.int (-i))) := fun σ H Q S q =>
  ⟨_, pe_un un_neg pe_c, h σ H _ S fun v H1 ⟨s1, r1⟩ => ⟨i, (Rq.of r1).int, q _ H1 ⟨s1, .int _⟩⟩⟩
theorem ev_if {t : Bool} {pos : Pos} (hc : EvT X c ρ t) (ha : t = true → Ev X a ρ k) (hb : t = false → Ev X b ρ k) : Ev X (.IfExp c a b pos) ρ k := fun σ H Q S q =>
  ⟨_, pe_ifExp pt_c pe_c pe_c, hc σ H _ S fun H1 s1 => by
    cases t with
    | true => exact iteT (ha rfl σ H1 Q (S.mono s1) fun v H2 r2 => q v H2 (r2.abs s1))
    | false => exact iteF (hb rfl σ H1 Q (S.mono s1) fun v H2 r2 => q v H2 (r2.abs s1))⟩

/-! ### arguments, displays -/
theorem ea_nil : EvA X [] ρ [] := fun _ H _ _ q => ⟨_, pa_nil, q [] H (.refl H) .nil⟩
theorem ea_cons {es : List Expr} (h : Ev X e ρ (.val d)) (t : EvA X es ρ ds) (hs : starEach (e :: es) X.env = (false, eval e X.env) :: starEach es X.env := by rfl) : EvA X (e :: es) ρ (d :: ds) := fun σ H Q S q =>
  ⟨_, pa_cons pe_c pa_c hs, h σ H _ S fun v H1 ⟨s1, r1⟩ => t σ H1 _ (S.mono s1) fun vs H2 s2 r2 => q _ H2 (s1.trans s2) (.cons (r1.mono (.of s2)) r2)⟩
theorem eq_nil : EvAq X [] ρ [] := fun _ H _ _ q => ⟨_, pa_nil, q [] H (.refl H) .nil⟩
theorem paired_mono {K : PySem.W.Frag} {H H' : Hp} (s : Same H H') : ∀ {vs : List V} {ds : List D}, Paired (Rq K H) vs ds → Paired (Rq K H') vs ds
  | _, _, .nil => .nil
  | _, _, .cons h t => .cons (h.mono s) (paired_mono s t)
theorem eq_cons {es : List Expr} (h : Ev X e ρ (.qua d)) (t : EvAq X es ρ ds) (hs : starEach (e :: es) X.env = (false, eval e X.env) :: starEach es X.env := by rfl) : EvAq X (e :: es) ρ (d :: ds) := fun σ H Q S q =>
  ⟨_, pa_cons pe_c pa_c hs, h σ H _ S fun v H1 ⟨s1, r1⟩ => t σ H1 _ (S.mono s1) fun vs H2 s2 r2 => q _ H2 (s1.trans s2) (.cons (r1.mono s2) r2)⟩
/-- a display of a tuple, laid with its object -/
theorem pe_tupF {es : List Expr} {t : TA} {n : Nat} {pos : Pos} (h : PA X es t) : PE X (.Tuple es n pos) (fun σ H Q => t σ H fun xs H1 => xs.length ≤ sizeLine ∧ ∀ p o, H1 p = none → o.dict = none → Q (.ref p) (upd H1 p (.frz o (.tup xs)))) := by
  refine ⟨fun pins s σ H Q I hq => ?_⟩
  refine wpAny_Tuple_spliced (thn (h.run pos pins s σ H _ I hq) fun us s1 ⟨xs, H1, I1, r, z, q⟩ => ⟨by rw [← r.length]; exact z, ?_⟩)
  exact ⟨.ref s1.heap.objs.size, _, inv_tup (t' := s1.toks) I1 (fun b u e => Heap.get?_push_of_some _ e) (Nat.le_refl _) (Heap.get?_push_size _ rfl) rfl rfl r z, rfl, q _ _ (I1.hok.fresh (Nat.le_refl _)) rfl⟩
theorem rp_tupNew {K : PySem.W.Frag} {H : Hp} {p : Addr} {o : Obj} {xs : List V} {ds : List D} (hp : H p = none) (ho : o.dict = none) (r : RpAll K H xs ds) : Rp K (upd H p (.frz o (.tup xs))) (.ref p) (.tuple ds) := .tup (.inl ⟨o, upd_same, ho⟩) (r.mono (stb_new hp))
theorem ev_tup {es : List Expr} {n : Nat} {pos : Pos} (h : EvA X es ρ ds) (hl : ds.length ≤ 1000 := by simp) : Ev X (.Tuple es n pos) ρ (.val (.tuple ds)) := fun σ H Q S q =>
  ⟨_, pe_tupF pa_c, h σ H _ S fun vs H1 s1 r1 => ⟨by rw [r1.length]; exact Nat.le_of_lt (small1000 hl), fun p o hp ho => q _ _ ⟨s1.trans (same_new hp), rp_tupNew hp ho r1⟩⟩⟩
theorem ev_lst {es : List Expr} {pos : Pos} (h : EvA X es ρ ds) (hl : ds.length ≤ 1000 := by simp) : Ev X (.List es pos) ρ (.new ds) := fun σ H Q S q =>
  ⟨_, pe_lst pa_c, h σ H _ S fun vs H1 s1 r1 => ⟨by rw [r1.length]; exact Nat.le_of_lt (small1000 hl), fun p hp => q _ _ ⟨s1.trans (same_new hp), p, _, rfl, s1.free hp, upd_same, r1.mono (stb_new hp)⟩⟩⟩

/-! ### calls -/
/-- a def's promise by data -/
def SpD (K : PySem.W.Frag) (g : List D → D → Prop) : Sp := fun vs H Q _ => ∃ ds d, RpAll K H vs ds ∧ g ds d ∧ ∀ v H', Same H H' → Rp K H' v d → Q v H'
abbrev FnD (P : Program) (w : World) (K : PySem.W.Frag) (mg : Str → Option Value) (base : Heap) (k : Nat) (f : Addr) (fd : FuncData) (ps : List Str) (g : List D → D → Prop) : Prop := FnOk P w K mg base CX0 k f fd ps (SpD K g)
theorem ev_call {kk : Nat} {f : Addr} {fd : FuncData} {ps : List Str} {g : List D → D → Prop} {es : List Expr} {x : Str} {p pos : Pos} (F : FnD X.prog X.w X.K X.mg X.base kk f fd ps g) (hr : Room kk X.A) (hm : X.mg x = some (.ref f)) (hk : PySem.W.keepIn X.K (.ref f) = true) (hb : Binds X.K fd ps [])
    (ha : EvA X (e :: es) ρ ds) (hg' : g ds d) (hg : Gl X x := by rfl) (hdb : (x == ("__debug__" : Str)) = false := by decide) (he : starEach (e :: es) X.env = (false, eval e X.env) :: starEach es X.env := by rfl) (hpl : (backTo pos (starEach es X.env)).any (·.1) = false := by rfl) :
    Ev X (.Call (.Name x p) (e :: es) [] pos) ρ (.val d) := fun σ H Q S q =>
  ⟨_, pe_call F hr hg hm hk hb .nil pass0 pa_c hdb he hpl, ha σ H _ S fun vs H1 s1 r1 => by
    rw [List.append_nil]
    exact ⟨ds, d, r1, hg', fun v H2 s2 r2 => q v H2 ⟨s1.trans s2, r2⟩⟩⟩
/-- a built-in by its name -/
def CallV (X : Cx) (f : Value) (ds : List D) (k : Kd) : Prop := ∀ H vs Q, Paired (Rq X.K H) vs ds → (∀ w H', RS X.K k H w H' → Q w H') → ∃ r, CallR X f r ∧ r vs H Q
def cCall (X : Cx) (f : Value) : List V → Hp → VK → Prop := fun vs H Q => ∃ r, CallR X f r ∧ r vs H Q
theorem call_c {f : Value} : CallR X f (cCall X f) := fun pins s σ H xs us Q I rx ⟨r, h, q⟩ => h pins s σ H xs us Q I rx q
end
end DL


namespace DL
open PySem PySem.Spec PyProof.Rows L2
section
variable {X : Cx} {ρ : Rho} {e a b c : Expr} {d x y z : D} {ds : List D} {k : Kd}
theorem ev_b {id : String} {es : List Expr} {x : Str} {p pos : Pos} (hc : CallV X (.builtin id) ds k) (hm : X.mg x = none) (ha : EvAq X (e :: es) ρ ds) (hv : bootBuiltins x = some (.builtin id) := by decide +kernel) (hg : Gl X x := by rfl) (hn : x ≠ "__name__" := by decide) (hdb : (x == ("__debug__" : Str)) = false := by decide)
    (he : starEach (e :: es) X.env = (false, eval e X.env) :: starEach es X.env := by rfl) (hpl : (backTo pos (starEach es X.env)).any (·.1) = false := by rfl) : Ev X (.Call (.Name x p) (e :: es) [] pos) ρ k := fun σ H Q S q =>
  ⟨_, pe_callB call_c hg hm hv pa_c hn hdb he hpl, ha σ H _ S fun vs H1 s1 r1 => hc H1 vs Q r1 fun w H2 r2 => q w H2 (r2.abs s1)⟩
theorem ev_ty {T : String} {es : List Expr} {x : Str} {p pos : Pos} (hc : CallV X (.type T) ds k) (hm : X.mg x = none) (ha : EvAq X (e :: es) ρ ds) (hv : bootBuiltins x = some (.type T) := by decide +kernel) (hg : Gl X x := by rfl) (hn : x ≠ "__name__" := by decide) (hdb : (x == ("__debug__" : Str)) = false := by decide)
    (he : starEach (e :: es) X.env = (false, eval e X.env) :: starEach es X.env := by rfl) (hpl : (backTo pos (starEach es X.env)).any (·.1) = false := by rfl) : Ev X (.Call (.Name x p) (e :: es) [] pos) ρ k := fun σ H Q S q =>
  ⟨_, pe_callTy call_c hg hm hv pa_c hn hdb he hpl, ha σ H _ S fun vs H1 s1 r1 => hc H1 vs Q r1 fun w H2 r2 => q w H2 (r2.abs s1)⟩
/-! ### subscripts, slices -/
def IxV (X : Cx) (x y : D) (k : Kd) : Prop := ∀ H u v Q, Rq X.K H u x → Rq X.K H v y → (∀ w H', RS X.K k H w H' → Q w H') → ∃ r, IxR X r ∧ r u v H Q
def cIx (X : Cx) : R2 := fun u v H Q => ∃ r, IxR X r ∧ r u v H Q
theorem ix_c : IxR X (cIx X) := fun va sl pins s σ H x y v u Q I rx ry ⟨r, h, q⟩ hs => h va sl pins s σ H x y v u Q I rx ry q hs
theorem ev_ix {pos : Pos} (o : IxV X x y k) (ha : Ev X a ρ (.qua x)) (hb : Ev X b ρ (.qua y)) (hs : PlainIx b := by exact fun _ _ => rfl) : Ev X (.Subscript a b pos) ρ k := fun σ H Q S q =>
  ⟨_, pe_ix ix_c pe_c pe_c hs, ha σ H _ S fun u H1 ⟨s1, r1⟩ => hb σ H1 _ (S.mono s1) fun v H2 ⟨s2, r2⟩ => o H2 u v Q (r1.mono s2) r2 fun w H3 r => q w H3 (r.abs (s1.trans s2))⟩
theorem atI_rp {K : PySem.W.Frag} {H : Hp} {xs : List V} {i : Int} {d : D} (r : RpAll K H xs ds) (h : atI ds i = some d) : ∃ v, atI xs i = some v ∧ Rp K H v d := by
  unfold atI at h ⊢
  rw [r.length]
  cases e : ixN ds.length i with
  | none => rw [e] at h; cases h
  | some j => rw [e] at h; exact r.get h
theorem ix_tupD {i : Int} (h : atI ds i = some d) : IxV X (.tuple ds) (.int i) (.val d) := fun H u v Q ru rv q => by
  obtain ⟨p, xs, rfl, hs, hr⟩ := ru.tup
  obtain ⟨w, hw, rw'⟩ := atI_rp hr h
  exact ⟨_, ix_tup, p, xs, i, w, rfl, rv.int, hs, hw, q _ H ⟨.refl H, rw'⟩⟩
theorem ix_lstD {i : Int} (h : atI ds i = some d) : IxV X (.list ds) (.int i) (.val d) := fun H u v Q ru rv q => by
  obtain ⟨p, xs, rfl, hs, hr⟩ := ru.lst
  obtain ⟨w, hw, rw'⟩ := atI_rp hr h
  exact ⟨_, ix_list, p, xs, i, w, rfl, rv.int, hs, hw, q _ H ⟨.refl H, rw'⟩⟩
theorem ix_strD {s : Str} {i : Int} {cc : Nat} (hl : s.length ≤ sizeLine) (h : atI s.cps.toList i = some cc) : IxV X (.str s) (.int i) (.val (.str ⟨#[cc]⟩)) := fun H u v Q ru rv q =>
  ⟨_, ix_str, s, i, cc, ru.str, rv.int, hl, h, q _ H ⟨.refl H, .str _⟩⟩
/-- a part of a slice -/
def EvP (X : Cx) (e : Option Expr) (ρ : Rho) (o : Option Int) : Prop := ∀ σ H Q, SOk X.K ρ σ H → (∀ H', Same H H' → Q o H') → cP X e σ H Q
theorem ep_none : EvP X none ρ none := fun _ H _ _ q => ⟨_, po_none, q H (.refl H)⟩
theorem ep_some {i : Int} (h : Ev X e ρ (.val (.int i))) : EvP X (some e) ρ (some i) := fun σ H Q S q => ⟨_, po_some pe_c, h σ H _ S fun v H1 ⟨s1, r1⟩ => ⟨i, (Rq.of r1).int, q H1 s1⟩⟩
def SlV (X : Cx) (x : D) (lo hi : Option Int) (k : Kd) : Prop := ∀ H u Q, Rq X.K H u x → (∀ w H', RS X.K k H w H' → Q w H') → ∃ r, SlR X r ∧ r u lo hi H Q
def cSl (X : Cx) : V → Option Int → Option Int → Hp → VK → Prop := fun u lo hi H Q => ∃ r, SlR X r ∧ r u lo hi H Q
theorem sl_c : SlR X (cSl X) := fun pins s σ H x v vl vu lo hi sl Q I rx h1 h2 h3 ⟨r, h, q⟩ => h pins s σ H x v vl vu lo hi sl Q I rx h1 h2 h3 q
theorem ev_sl {pos p2 : Pos} {lo hi : Option Expr} {l h : Option Int} (o : SlV X x l h k) (ha : Ev X a ρ (.qua x)) (hl : EvP X lo ρ l) (hh : EvP X hi ρ h) : Ev X (.Subscript a (.Slice lo hi none p2) pos) ρ k := fun σ H Q S q =>
  ⟨_, pe_slice sl_c pe_c po_c po_c, ha σ H _ S fun u H1 ⟨s1, r1⟩ => hl σ H1 _ (S.mono s1) fun H2 s2 => hh σ H2 _ (S.mono (s1.trans s2)) fun H3 s3 => o H3 u Q (r1.mono (s2.trans s3)) fun w H4 r => q w H4 (r.abs ((s1.trans s2).trans s3))⟩

/-! ### targets -/
structure EvG (X : Cx) (yl : Bool) (tg : Expr) (ρ : Rho) (d : D) (ρ' : Rho) (is : List Nat) : Prop where
  run : ∀ σ H v Q, SOk X.K ρ σ H → RY yl X.K H v d → (∀ σ', SOk X.K ρ' σ' H → (∀ vs : List Nat, (∀ i ∈ is, i ∈ vs) → wipe σ' vs = wipe σ vs) → Q σ' H) → cG X tg v σ H Q
  own : ∀ (i : Nat) b, ρ'[i]? = some b → isOwn b = true → ρ[i]? = some b ∧ i ∉ is
theorem wipe_set {σ : L2.St} {i : Nat} {x : Option V} : ∀ {vs : List Nat}, i ∈ vs → wipe (σ.set i x) vs = wipe σ vs
  | [], h => by cases h
  | v :: vs, h => by
    unfold wipe
    by_cases hv : i = v
    · subst hv
      by_cases hm : i ∈ vs
      · rw [wipe_set hm]
      · have q : ∀ {us : List Nat}, i ∉ us → wipe (σ.set i x) us = (wipe σ us).set i x := by
          intro us
          induction us with
          | nil => intro _; rfl
          | cons u us ih =>
            intro hu
            unfold wipe
            rw [ih fun z => hu (List.mem_cons_of_mem _ z), List.set_comm _ _ fun z => hu (by rw [z]; exact List.mem_cons_self)]
        rw [q hm, List.set_set]
    · rw [wipe_set (List.mem_of_ne_of_mem hv h)]
theorem own_set {i j : Nat} {d : D} {b : B} (e : (ρ.set i (.val d))[j]? = some b) (o : isOwn b = true) : ρ[j]? = some b ∧ j ∉ [i] := by
  by_cases hj : j = i
  · subst hj
    by_cases hl : j < ρ.length
    · rw [List.getElem?_set_self hl] at e; cases e; cases o
    · rw [List.getElem?_eq_none (by rw [List.length_set]; omega)] at e; cases e
  · rw [List.getElem?_set_ne (Ne.symm hj)] at e
    exact ⟨e, by simpa using hj⟩
theorem eg_name (i : Nat) {x : Str} {pos : Pos} (hN : X.N.Nodup) (hi : X.N[i]? = some x := by rfl) (hx : Loc X.env.scope x := by first | exact Or.inl rfl | exact Or.inr rfl) (hf : X.fn x = true ∨ X.env.scope.names.lookup x = some .local := by first | exact .inl rfl | exact .inr rfl | assumption) : EvG X false (.Name x pos) ρ d (ρ.set i (.val d)) [i] :=
  ⟨fun σ H v Q S r q => ⟨_, pg_name hN hi hx hf, q _ (S.set r.no) fun vs h => wipe_set (h i (by simp))⟩, fun _ _ e o => own_set e o⟩
structure EvGs (X : Cx) (tg : List Expr) (ρ : Rho) (ds : List D) (ρ' : Rho) (is : List Nat) : Prop where
  run : ∀ σ H vs Q, SOk X.K ρ σ H → RpAll X.K H vs ds → (∀ σ', SOk X.K ρ' σ' H → (∀ vs : List Nat, (∀ i ∈ is, i ∈ vs) → wipe σ' vs = wipe σ vs) → Q σ' H) → cGs X tg vs σ H Q
  own : ∀ (i : Nat) b, ρ'[i]? = some b → isOwn b = true → ρ[i]? = some b ∧ i ∉ is
theorem egs_nil : EvGs X [] ρ [] ρ [] := ⟨fun σ H vs Q S r q => ⟨_, pgs_nil, by cases r; exact ⟨rfl, q σ S fun _ _ => rfl⟩⟩, fun _ _ e _ => ⟨e, by simp⟩⟩
theorem egs_cons {e : Expr} {es : List Expr} {d : D} {ρ1 ρ2 : Rho} {is js : List Nat} (h1 : EvG X false e ρ d ρ1 is) (h2 : EvGs X es ρ1 ds ρ2 js)
    (hs : (assignEach (e :: es) X.env).map (·.2) = assign e X.env :: (assignEach es X.env).map (·.2) := by rfl) : EvGs X (e :: es) ρ (d :: ds) ρ2 (is ++ js) :=
  ⟨fun σ H vs Q S r q => ⟨_, pgs_cons pg_c pgs_c hs, by
    cases r with
    | cons r1 r2 =>
      refine ⟨_, _, rfl, h1.run σ H _ _ S (.inl r1) fun σ1 S1 w1 => h2.run σ1 H _ Q S1 r2 fun σ2 S2 w2 => q σ2 S2 fun vs hv => ?_⟩
      rw [w2 vs fun i hi => hv i (List.mem_append_right _ hi), w1 vs fun i hi => hv i (List.mem_append_left _ hi)]⟩,
   fun i b e o => by
    obtain ⟨q1, n1⟩ := h2.own i b e o
    obtain ⟨q2, n2⟩ := h1.own i b q1 o
    exact ⟨q2, fun z => (List.mem_append.mp z).elim n2 n1⟩⟩
theorem eg_tup {yl : Bool} {es : List Expr} {n k : Nat} {pos : Pos} {ρ' : Rho} {is : List Nat} (h : EvGs X es ρ ds ρ' is) (hn : (assignEach es X.env).length = n := by rfl) (hl : ds.length = n := by rfl) (hc : X.calm = true := by rfl) (hst : (assignEach es X.env).findIdx? (·.1) = none := by rfl) :
    EvG X yl (.Tuple es k pos) ρ (.tuple ds) ρ' is := ⟨fun σ H v Q S r q => by
  obtain ⟨a, xs, rfl, hq, hr⟩ := r.tup
  exact ⟨_, pg_tup hc pgs_c hn hst, a, xs, rfl, hq, hr.length.trans hl, h.run σ H xs Q S hr q⟩, h.own⟩

/-! ### what is walked -/
/-- the lists and tuples that come are not too long -/
theorem pe_know {t : TE} (h : PE X e t) : PE X e (fun σ H Q => t σ H fun v H' => (∀ a xs, v = .ref a → SqL X.K H' a xs ∨ SqT X.K H' a xs → xs.length ≤ sizeLine) → Q v H') := by
  refine ⟨fun pins s σ H Q I hw => thn (h.run pins s σ H _ I hw) fun v s1 ⟨x, H1, I1, r1, q⟩ => ⟨x, H1, I1, r1, q fun a xs e hx => ?_⟩⟩
  rcases hx with hx | hx
  · obtain ⟨_, _, _, z⟩ := I1.list hx
    exact z
  · obtain ⟨_, _, _, z⟩ := I1.tuple hx
    exact z
theorem pe_knowD {t : TE} (h : PE X e t) : PE X e (fun σ H Q => t σ H fun v H' => (∀ a o kvs, v = .ref a → H' a = some (.frz o (.dK kvs)) → kvs.length ≤ sizeLine) → Q v H') := by
  refine ⟨fun pins s σ H Q I hw => thn (h.run pins s σ H _ I hw) fun v s1 ⟨x, H1, I1, r1, q⟩ => ⟨x, H1, I1, r1, q fun a o kvs e hx => ?_⟩⟩
  obtain ⟨_, z, _⟩ := I1.hok a _ hx
  exact z
def YD (yl : Bool) (K : PySem.W.Frag) (xs : List D) : Nat → Hp → V → Hp → Prop := fun i H v H' => Same H H' ∧ ∃ d, xs[i]? = some d ∧ RY yl K H' v d
/-- it gives the data xs while what is stable stays | while all stays -/
def EvI (X : Cx) (tg it : Expr) (ρ : Rho) (yl : Bool) (xs : List D) : Prop := ∀ σ H R, SOk X.K ρ σ H → (∀ J H', Same H H' → xs.length ≤ sizeLine → Walk J xs.length (Stb H') (YD yl X.K xs) → R J H') → cI X tg it σ H R
def EvIq (X : Cx) (tg it : Expr) (ρ : Rho) (yl : Bool) (xs : List D) : Prop := ∀ σ H R, SOk X.K ρ σ H → (∀ J H', Same H H' → xs.length ≤ sizeLine → Walk J xs.length (Same H') (YD yl X.K xs) → R J H') → cI X tg it σ H R
theorem EvI.q {tg it : Expr} {yl : Bool} {xs : List D} (h : EvI X tg it ρ yl xs) : EvIq X tg it ρ yl xs := fun σ H R S q => h σ H R S fun J H' s z w => q J H' s z (w.mono (fun _ z => .of z) fun _ _ _ _ _ _ z => z)
theorem ei_tup {tg it : Expr} {xs : List D} (h : Ev X it ρ (.val (.tuple xs))) : EvI X tg it ρ false xs := fun σ H R S q =>
  ⟨_, pi_tup (pe_know pe_c), h σ H _ S fun v H1 ⟨s1, r1⟩ kn => by
    obtain ⟨a, vs, rfl, hs, hr⟩ := r1.tupI
    refine ⟨a, rfl, ⟨vs, hs⟩, q _ H1 s1 (by rw [← hr.length]; exact kn a vs rfl (.inr hs)) ?_⟩
    rw [← hr.length]
    refine (walk_tup (K := X.K) (a := a) (xs := vs)).mono (fun H2 z => sqT_stb z hs) fun i H2 x H3 _ z y => ?_
    obtain ⟨e, y⟩ := y
    subst e
    obtain ⟨d, e1, e2⟩ := hr.got y
    exact ⟨.refl _, d, e1, .inl (e2.mono z)⟩⟩
theorem ei_lst {tg it : Expr} {xs : List D} (h : Ev X it ρ (.val (.list xs))) : EvI X tg it ρ false xs := fun σ H R S q =>
  ⟨_, pi_list (pe_know pe_c), h σ H _ S fun v H1 ⟨s1, r1⟩ kn => by
    cases r1 with
    | lst hs hr =>
      refine ⟨_, rfl, ⟨_, hs.sq⟩, q _ H1 s1 (by rw [← hr.length]; exact kn _ _ rfl (.inl hs.sq)) ?_⟩
      rw [← hr.length]
      refine (walk_list (K := X.K)).mono (fun H2 z => (hs.stb z).sq) fun i H2 x H3 _ z y => ?_
      obtain ⟨e, y⟩ := y
      subst e
      obtain ⟨d, e1, e2⟩ := hr.got y
      exact ⟨.refl _, d, e1, .inl (e2.mono z)⟩⟩
/-- a list of one's own, in a comprehension -/
theorem ei_own {tg it : Expr} {xs : List D} (h : Ev X it ρ (.qua (.list xs))) : EvIq X tg it ρ false xs := fun σ H R S q =>
  ⟨_, pi_list (pe_know pe_c), h σ H _ S fun v H1 ⟨s1, r1⟩ kn => by
    obtain ⟨a, vs, rfl, hs, hr⟩ := r1.lst
    refine ⟨a, rfl, ⟨vs, hs⟩, q _ H1 s1 (by rw [← hr.length]; exact kn a vs rfl (.inl hs)) ?_⟩
    rw [← hr.length]
    refine (walk_list (K := X.K) (a := a) (xs := vs)).mono (fun H2 z => z.seq hs) fun i H2 x H3 _ z y => ?_
    obtain ⟨e, y⟩ := y
    subst e
    obtain ⟨d, e1, e2⟩ := hr.got y
    exact ⟨.refl _, d, e1, .inl (e2.mono (.of z))⟩⟩
/-- range(n) -/
theorem ei_range {tg a : Expr} {n : Int} {p pos : Pos} (hm : X.mg "range" = none) (h : Ev X a ρ (.val (.int n))) (h2 : n ≤ 100000 ∧ -100000 ≤ n := by omega) (hg : Gl X "range" := by rfl) (hs : starEach [a] X.env = [(false, eval a X.env)] := by rfl) :
    EvI X tg (.Call (.Name "range" p) [a] [] pos) ρ false ((List.range n.toNat).map fun i => .int ((i : Nat) : Int)) := fun σ H R S q =>
  ⟨_, pi_range1 hg hm (pa_cons pe_c pa_nil (by rw [hs]; rfl)) hs, h σ H _ S fun v H1 ⟨s1, r1⟩ => by
    have e := (Rq.of r1).int
    subst e
    refine ⟨n, rfl, by omega, by omega, q _ H1 s1 (by rw [List.length_map, List.length_range, sizeLine_eq]; omega) ?_⟩
    rw [List.length_map, List.length_range]
    refine (walk_range (lo := 0) (n := n.toNat)).mono (fun _ _ => trivial) fun i H2 x H3 hi _ y => ?_
    obtain ⟨e, y⟩ := y
    subst e y
    refine ⟨.refl _, .int (i : Nat), ?_, ?_⟩
    · rw [List.getElem?_map, List.getElem?_range hi]; rfl
    · show RY false X.K _ (.int (0 + ((i : Nat) : Int))) _
      rw [Int.zero_add]; exact .inl (.int _)⟩
theorem ei_range2 {tg a b : Expr} {m n : Int} {p pos : Pos} (hm : X.mg "range" = none) (h : Ev X a ρ (.val (.int m))) (h' : Ev X b ρ (.val (.int n))) (h1 : -100000 ≤ m ∧ m ≤ 100000 ∧ -100000 ≤ n ∧ n ≤ 100000 := by omega) (hg : Gl X "range" := by rfl) (hs : starEach [a, b] X.env = [(false, eval a X.env), (false, eval b X.env)] := by rfl) (hs2 : starEach [b] X.env = [(false, eval b X.env)] := by rfl) :
    EvI X tg (.Call (.Name "range" p) [a, b] [] pos) ρ false ((List.range (n - m).toNat).map fun i => .int (m + ((i : Nat) : Int))) := fun σ H R S q =>
  ⟨_, pi_range2 hg hm (pa_cons pe_c (pa_cons pe_c pa_nil (by rw [hs2]; rfl)) (by rw [hs, hs2])) hs hs2, h σ H _ S fun v H1 ⟨s1, r1⟩ => h' σ H1 _ (S.mono s1) fun v' H2 ⟨s2, r2⟩ => by
    have e := (Rq.of r1).int
    subst e
    have e := (Rq.of r2).int
    subst e
    refine ⟨m, n, rfl, ⟨by omega, by omega, by omega, by omega⟩, q _ H2 (s1.trans s2) (by rw [List.length_map, List.length_range, sizeLine_eq]; omega) ?_⟩
    rw [List.length_map, List.length_range]
    refine (walk_range (lo := m) (n := (n - m).toNat)).mono (fun _ _ => trivial) fun i H2 x H3 hi _ y => ?_
    obtain ⟨e, y⟩ := y
    subst e y
    refine ⟨.refl _, .int (m + (i : Nat)), ?_, .inl (.int _)⟩
    rw [List.getElem?_map, List.getElem?_range hi]; rfl⟩
/-- the signs of a text -/
theorem ei_str {tg it : Expr} {s : Str} (h : Ev X it ρ (.val (.str s))) (hz : s.length ≤ sizeLine) : EvI X tg it ρ false (s.cps.toList.map fun c => .str ⟨#[c]⟩) := fun σ H R S q =>
  ⟨_, pi_str pe_c, h σ H _ S fun v H1 ⟨s1, r1⟩ => by
    refine ⟨s, (Rq.of r1).str, q _ H1 s1 (by rw [List.length_map, Array.length_toList]; exact hz) ?_⟩
    rw [List.length_map, Array.length_toList]
    refine (walk_str (z := s)).mono (fun _ _ => trivial) fun i H2 x H3 hi _ y => ?_
    obtain ⟨e, cc, e1, e2⟩ := y
    subst e e2
    refine ⟨.refl _, .str ⟨#[cc]⟩, ?_, .inl (.str _)⟩
    rw [List.getElem?_map, Array.getElem?_toList, e1]; rfl⟩
/-- the keys of a dict -/
theorem rpKV_keys {K : PySem.W.Frag} {H : Hp} : ∀ {kvs : List (Key × V)} {es : List (D × D)} {i : Nat} {kk : Key} {v : V}, RpKV K H kvs es → kvs[i]? = some (kk, v) → ∃ d, (es.map (·.1))[i]? = some d ∧ Rp K H (kV kk) d
  | _, _, _, _, _, .nil, e => by simp at e
  | _, _, 0, _, _, .int _ _, e => by simp at e; obtain ⟨rfl, _⟩ := e; exact ⟨_, rfl, .int _⟩
  | _, _, 0, _, _, .str _ _, e => by simp at e; obtain ⟨rfl, _⟩ := e; exact ⟨_, rfl, .str _⟩
  | _, _, i + 1, _, _, .int _ t, e => rpKV_keys (i := i) t (by simpa using e)
  | _, _, i + 1, _, _, .str _ t, e => rpKV_keys (i := i) t (by simpa using e)
theorem RpKV.length {K : PySem.W.Frag} {H : Hp} : ∀ {kvs : List (Key × V)} {es : List (D × D)}, RpKV K H kvs es → kvs.length = es.length
  | _, _, .nil => rfl
  | _, _, .int _ t => congrArg (· + 1) (RpKV.length t)
  | _, _, .str _ t => congrArg (· + 1) (RpKV.length t)
theorem ei_keys {tg it : Expr} {es : List (D × D)} (h : Ev X it ρ (.val (.dict es))) : EvI X tg it ρ false (es.map (·.1)) := fun σ H R S q =>
  ⟨_, pi_keys (pe_knowD pe_c), h σ H _ S fun v H1 ⟨s1, r1⟩ kn => by
    cases r1 with
    | dct hs hr =>
      refine ⟨_, _, rfl, .inl ⟨_, hs, q _ H1 s1 (by rw [List.length_map, ← hr.length]; exact kn _ _ _ rfl hs) ?_⟩⟩
      rw [List.length_map, ← hr.length]
      refine walk_keys.mono (fun H2 z => z.2 _ _ _ hs) fun i H2 x H3 _ z y => ?_
      obtain ⟨e, kk, vv, y1, y2⟩ := y
      subst e y2
      obtain ⟨d, e1, e2⟩ := rpKV_keys hr y1
      exact ⟨.refl _, d, e1, .inl (e2.mono z)⟩⟩

/-! ### list comprehensions -/
def wipeB (ρ : Rho) : List Nat → Rho
  | [] => ρ
  | v :: vs => (wipeB ρ vs).set v .un
theorem wipeB_len (ρ : Rho) : ∀ vs : List Nat, (wipeB ρ vs).length = ρ.length
  | [] => rfl
  | v :: vs => by unfold wipeB; rw [List.length_set, wipeB_len ρ vs]
theorem wipeB_some {ρ : Rho} {i : Nat} {b : B} : ∀ {vs : List Nat}, (wipeB ρ vs)[i]? = some b → b ≠ .un → ρ[i]? = some b ∧ i ∉ vs
  | [], h, _ => ⟨h, by simp⟩
  | v :: vs, h, hb => by
    unfold wipeB at h
    by_cases hi : v = i
    · subst hi
      by_cases hv : v < (wipeB ρ vs).length
      · rw [List.getElem?_set_self hv] at h; cases h; exact absurd rfl hb
      · rw [List.getElem?_eq_none (by simpa using hv)] at h; cases h
    · rw [List.getElem?_set_ne hi] at h
      obtain ⟨h1, h2⟩ := wipeB_some h hb
      exact ⟨h1, by simp only [List.mem_cons, not_or]; exact ⟨fun e => hi e.symm, h2⟩⟩
theorem SOk.wiped {K : PySem.W.Frag} {σ : L2.St} {H : Hp} {vs : List Nat} (S : SOk K ρ σ H) : SOk K (wipeB ρ vs) (wipe σ vs) H :=
  S.weak (by rw [wipeB_len, wipe_length]; exact S.len) fun i b e hb => by
    obtain ⟨h1, h2⟩ := wipeB_some e hb
    exact ⟨h1, wipe_out h2⟩
/-- the tests of a comprehension -/
def EvTs (X : Cx) (es : List Expr) (ρ : Rho) (b : Bool) : Prop := ∀ σ H Q, SOk X.K ρ σ H → (∀ H', Same H H' → Q b H') → cTs X es σ H Q
theorem ets_nil : EvTs X [] ρ true := fun _ H _ _ q => ⟨_, pts_nil, q H (.refl H)⟩
theorem ets_one {t : Bool} (h : EvT X e ρ t) : EvTs X [e] ρ t := fun σ H Q S q => ⟨_, pts_one pt_c, h σ H Q S q⟩
abbrev Blk (X : Cx) (scope : Scope) (P : Cx → Prop) : Prop := ∀ (s : Shared) (H : Hp) (C : Addr) (cl : List (Str × Addr)) (fp : List Addr), P (X.blk s H scope (compEnvC scope cl C X.env) fp)
def cEB (X : Cx) (scope : Scope) (e : Expr) : TE := fun σ H Q => Blk X scope fun Y => cE Y e σ H Q
def cTB (X : Cx) (scope : Scope) (es : List Expr) : TT := fun σ H Q => Blk X scope fun Y => cTs Y es σ H Q
def cGB (X : Cx) (scope : Scope) (e : Expr) : TG := fun v σ H Q => Blk X scope fun Y => cG Y e v σ H Q
theorem pe_cB {scope : Scope} : Blk X scope fun Y => PE Y e (cEB X scope e) := fun s H C cl fp => ⟨fun pins s' σ H' Q I h => pe_c.run pins s' σ H' Q I (h s H C cl fp)⟩
theorem pt_cB {scope : Scope} {es : List Expr} : Blk X scope fun Y => PTs Y es (cTB X scope es) := fun s H C cl fp => ⟨fun pins s' σ H' Q I h => pts_c.run pins s' σ H' Q I (h s H C cl fp)⟩
theorem pg_cB {scope : Scope} : Blk X scope fun Y => PG Y e (cGB X scope e) := fun s H C cl fp => ⟨fun pins s' σ H' v u Q I r h => pg_c.run pins s' σ H' v u Q I r (h s H C cl fp)⟩
theorem lc_run {elt tg iter : Expr} {ifs : List Expr} {scope : Scope} {own : List (Str × Nat)} {α : Type} (ps : List α) (en : α → D) {ρ' : α → Rho} {keep : α → Bool} {f : α → D} {is : List Nat} {yl : Bool} {σ : L2.St} {H : Hp} {Q : VK}
    (hi : EvIq X tg iter ρ yl (ps.map en)) (hg : ∀ p ∈ ps, Blk X scope fun Y => EvG Y yl tg (wipeB ρ (own.map (·.2))) (en p) (ρ' p) is) (hw : ∀ i ∈ is, i ∈ own.map (·.2))
    (ht : ∀ p ∈ ps, Blk X scope fun Y => EvTs Y ifs (ρ' p) (keep p)) (he : ∀ p ∈ ps, keep p = true → Blk X scope fun Y => Ev Y elt (ρ' p) (.val (f p))) (S : SOk X.K ρ σ H)
    (q : ∀ v H', RS X.K (.new ((ps.filter keep).map f)) H v H' → Q v H') :
    tLc (cI X tg iter) (cGB X scope tg) (cTB X scope ifs) (cEB X scope elt) (own.map (·.2)) σ H Q := by
  refine hi σ H _ S fun J H1 s1 hz w => fun L hL => ?_
  rw [List.length_map] at hz
  have hn : ∀ H', Same (upd H1 L (.lst [])) H' ∨ True := fun _ => .inr trivial
  refine lc_it w (fun i H2 => Same H1 H2 ∧ ∃ acc, H2 L = some (.lst acc) ∧ acc.length ≤ i ∧ RpAll X.K H2 acc (((ps.take i).filter keep).map f)) ⟨same_new hL, [], upd_same, Nat.le_refl _, by simpa using RpAll.nil⟩ (fun i H2 _ h => h.1) (fun i x H2 H3 hlt ⟨s2, acc, hacc, hal, racc⟩ ⟨s3, d, hd, rd⟩ => ?_) (fun H2 ⟨s2, acc, hacc, hal, racc⟩ => ?_)
  · rw [List.length_map] at hlt
    rw [List.getElem?_map, List.getElem?_eq_getElem hlt] at hd
    have ed : en ps[i] = d := Option.some.inj hd
    subst ed
    have hp : ps[i] ∈ ps := List.getElem_mem hlt
    have tk : ps.take (i + 1) = ps.take i ++ [ps[i]] := by rw [List.take_add_one, List.getElem?_eq_getElem hlt]; rfl
    have s13 : Same H1 H3 := s2.trans s3
    have SW := (S.mono s1).wiped (vs := own.map (·.2))
    intro s₀ H₀ C cl fp
    refine (hg _ hp s₀ H₀ C cl fp).run _ _ _ _ (SW.mono s13) rd fun σ2 S2 w2 => ⟨(w2 _ hw).trans ?_, ?_⟩
    · have ww : ∀ us : List Nat, wipe (wipe σ us) us = wipe σ us := by
        intro us
        apply List.ext_getElem?
        intro j
        by_cases hj : j ∈ us
        · have a1 : ∀ τ : L2.St, j ∈ us → (wipe τ us)[j]? = (τ[j]?).map fun _ => none := by
            intro τ _
            induction us with
            | nil => cases hj
            | cons u us ih =>
              unfold wipe
              by_cases hu : u = j
              · subst hu
                by_cases hl : u < τ.length
                · rw [List.getElem?_set_self (by rw [wipe_length]; exact hl), List.getElem?_eq_getElem hl]; rfl
                · rw [List.getElem?_eq_none (by rw [List.length_set, wipe_length]; omega), List.getElem?_eq_none (by omega)]; rfl
              · rw [List.getElem?_set_ne hu]
                have hj' : j ∈ us := List.mem_of_ne_of_mem (fun z => hu z.symm) hj
                exact ih hj' hj'
          rw [a1 _ hj, a1 _ hj]
          cases σ[j]? <;> rfl
        · rw [wipe_out hj]
      exact ww _
    · intro s₁ H₁ C1 cl1 fp1
      refine ht _ hp s₁ H₁ C1 cl1 fp1 σ2 H3 _ S2 fun H4 s4 => ?_
      have s14 : Same H1 H4 := s13.trans s4
      have hL4 : H4 L = some (.lst acc) := s4 _ _ (s3 _ _ hacc)
      have racc4 : RpAll X.K H4 acc (((ps.take i).filter keep).map f) := racc.mono (.of (s3.trans s4))
      cases hk : keep ps[i] with
      | false =>
        refine iteF ⟨s14, acc, hL4, by omega, ?_⟩
        rw [tk, List.filter_append, List.filter_cons, hk]
        simpa using racc4
      | true =>
        refine iteT ?_
        intro s₂ H₂ C2 cl2 fp2
        refine he _ hp hk s₂ H₂ C2 cl2 fp2 σ2 H4 _ (S2.mono s4) fun y H5 ⟨s5, r5⟩ => ?_
        have hL5 : H5 L = some (.lst acc) := s5 _ _ hL4
        refine ⟨acc, hL5, by omega, same_mut (s14.trans s5) hL, acc ++ [y], upd_same, by simp; omega, ?_⟩
        rw [tk, List.filter_append, List.map_append, List.filter_cons, hk]
        have st : Stb H5 (upd H5 L (.lst (acc ++ [y]))) := stb_upd hL5 trivial
        exact ((racc4.mono (.of s5)).mono st).append (.cons (r5.mono st) .nil)
  · rw [List.length_map, List.take_length] at racc
    exact q _ H2 ⟨s1.trans s2, L, acc, rfl, s1.free hL, hacc, racc⟩
theorem ev_lc {elt tg iter : Expr} {ifs : List Expr} {scope : Scope} {own : List (Str × Nat)} {pos : Pos} {α : Type} {ps : List α} {en : α → D} {ρ' : α → Rho} {keep : α → Bool} {f : α → D} {is : List Nat} {yl : Bool}
    (hN : X.N.Nodup) (ok : BlkOk X.N X.env.scope scope own)
    (hi : EvIq X tg iter ρ yl (ps.map en)) (hg : ∀ p ∈ ps, Blk X scope fun Y => EvG Y yl tg (wipeB ρ (own.map (·.2))) (en p) (ρ' p) is)
    (ht : ∀ p ∈ ps, Blk X scope fun Y => EvTs Y ifs (ρ' p) (keep p)) (he : ∀ p ∈ ps, keep p = true → Blk X scope fun Y => Ev Y elt (ρ' p) (.val (f p)))
    (hw : ∀ i ∈ is, i ∈ own.map (·.2) := by decide) (hc : X.calm = true := by rfl) (hs : ∀ x, foldedSetIterable iter X.env x = pure x := by intro _; rfl) :
    Ev X (.ListComp elt [⟨tg, iter, ifs, 0⟩] scope pos) ρ (.new ((ps.filter keep).map f)) := fun σ H Q S q =>
  ⟨_, pe_lc hc hN pi_c ok pg_cB pt_cB pe_cB hs, lc_run ps en hi hg hw ht he S q⟩
end
end DL


namespace DL
open PySem PySem.Spec PyProof.Rows L2

/-! ### statements -/
/-- the entry of a body: the heap, and what the body may write of it -/
structure Ent where
  H : Hp
  W : Addr → Prop
def Ent.Keeps (E : Ent) (H : Hp) : Prop := ∀ b o, E.H b = some o → ¬ E.W b → H b = some o
theorem Ent.Keeps.trans {E : Ent} {H H' : Hp} (h : E.Keeps H) (s : Same H H') : E.Keeps H' := fun b o e w => s b o (h b o e w)
theorem Ent.Keeps.mut {E : Ent} {H : Hp} {p : Addr} {o : HO} (h : E.Keeps H) (f : E.H p = none ∨ E.W p) : E.Keeps (upd H p o) := fun b x e w => by
  rw [upd_ne (fun z => by
    subst z
    rcases f with f | f
    · rw [f] at e; cases e
    · exact w f)]
  exact h b x e w
theorem Ent.Keeps.free {E : Ent} {H : Hp} {p : Addr} (h : E.Keeps H) (n : H p = none) : E.H p = none ∨ E.W p := by
  by_cases w : E.W p
  · exact .inr w
  · refine .inl ?_
    cases e : E.H p with
    | none => rfl
    | some o => rw [h p o e w] at n; cases n
/-- an entry of which nothing may be written -/
def Ent.of (H : Hp) : Ent := ⟨H, fun _ => False⟩
theorem Ent.Keeps.same {H H' : Hp} (h : (Ent.of H).Keeps H') : Same H H' := fun b o e => h b o e (fun z => z)
/-- the state of a body: H0 its entry, H1 an earlier heap whose stable things stay -/
structure SK (K : PySem.W.Frag) (H0 : Ent) (H1 : Hp) (ρ : Rho) (σ : L2.St) (H : Hp) : Prop where
  same : H0.Keeps H
  stb : Stb H1 H
  ok : SOk K ρ σ H
  fr : ∀ (i : Nat) b v L x, ρ[i]? = some b → σ[i]? = some (some v) → Own K H v b L → x ∈ L → H0.H x = none ∨ H0.W x
  tb : ∀ (i : Nat) T, ρ[i]? = some (.tab T) → ∀ b ps, H0.H b = some (.tbl ps) → H0.W b
theorem tb_set {ρ : Rho} {i j : Nat} {b0 : B} {T : List (Addr × Str)} (nb : ∀ T, b0 ≠ .tab T) (e : (ρ.set i b0)[j]? = some (.tab T)) : ρ[j]? = some (.tab T) := by
  by_cases hj : j = i
  · subst hj
    by_cases hl : j < ρ.length
    · rw [List.getElem?_set_self hl] at e; exact absurd (Option.some.inj e) (nb T)
    · rw [List.getElem?_eq_none (by rw [List.length_set]; omega)] at e; cases e
  · rwa [List.getElem?_set_ne (Ne.symm hj)] at e
structure Fin where
  nx : Rho → Prop
  rt : D → Rho → Prop
  bk : Rho → Prop := fun _ => False
  ct : Rho → Prop := fun _ => False
  ro : Addr → Rho → Prop := fun _ _ => False
  /-- what holds of the heap where an exception leaves -/
  ex : Option (Hp → Prop) := none
structure FinOk (K : PySem.W.Frag) (H0 : Ent) (H1 : Hp) (Φ : DL.Fin) (E : Ends) : Prop where
  nx : ∀ ρ σ H, SK K H0 H1 ρ σ H → Φ.nx ρ → E.nx σ H
  rt : ∀ d v ρ σ H, (∃ H1, SK K H0 H1 ρ σ H) → Rp K H v d → Φ.rt d ρ → E.rt v H
  bk : ∀ ρ σ H, SK K H0 H1 ρ σ H → Φ.bk ρ → E.bk σ H
  ct : ∀ ρ σ H, SK K H0 H1 ρ σ H → Φ.ct ρ → E.ct σ H
  ro : ∀ q ρ σ H, (∃ H1, SK K H0 H1 ρ σ H) → (∃ (i : Nat) (C : Addr) (fs : List (Str × Fld)), ρ[i]? = some (.obj (some C) q fs) ∧ σ[i]? = some (some (.ref q))) → Φ.ro q ρ → E.rt (.ref q) H
  ex : ∀ W, Φ.ex = some W → ∀ H', H0.Keeps H' → W H'
def Sx (X : Cx) (st : Stmt) (ρ : Rho) (Φ : DL.Fin) : Prop := ∀ H0 H1 σ H E, SK X.K H0 H1 ρ σ H → FinOk X.K H0 H1 Φ E → cS X st E σ H
def Sxs (X : Cx) (st : List Stmt) (ρ : Rho) (Φ : DL.Fin) : Prop := ∀ H0 H1 σ H E, SK X.K H0 H1 ρ σ H → FinOk X.K H0 H1 Φ E → cSs X st E σ H
section
variable {X : Cx} {ρ : Rho} {Φ : DL.Fin} {e a b c : Expr} {d x y z : D} {ds : List D} {k : Kd} {st : Stmt} {rest : List Stmt} {pos : Pos}
theorem SK.mono {K : PySem.W.Frag} {H0 : Ent} {H1 H H' : Hp} {σ : L2.St} (S : SK K H0 H1 ρ σ H) (s : Same H H') : SK K H0 H1 ρ σ H' := ⟨S.same.trans s, S.stb.trans (.of s), S.ok.mono s, fun i b v L x e es o => S.fr i b v L x e es (S.ok.back (.of s) (fun _ _ x _ o e => s x o e) e es o), S.tb⟩
theorem SK.set {K : PySem.W.Frag} {H0 : Ent} {H1 H H' : Hp} {σ : L2.St} {i : Nat} {v : V} (S : SK K H0 H1 ρ σ H) (s : Same H H') (r : Rp K H' v d) : SK K H0 H1 (ρ.set i (.val d)) (σ.set i (some v)) H' := by
  refine ⟨S.same.trans s, S.stb.trans (.of s), (S.ok.mono s).set r, fun j b w L x e1 e3 o => ?_, fun j T e => S.tb j T (tb_set (fun _ h => by cases h) e)⟩
  by_cases hj : j = i
  · subst hj
    by_cases hl : j < ρ.length
    · rw [List.getElem?_set_self hl] at e1; cases e1; cases o
    · rw [List.getElem?_eq_none (by rw [List.length_set]; omega)] at e1; cases e1
  · rw [List.getElem?_set_ne (Ne.symm hj)] at e1 e3
    exact (S.mono s).fr j b w L x e1 e3 o
theorem SK.weak {K : PySem.W.Frag} {H0 : Ent} {H1 H : Hp} {σ σ' : L2.St} {ρ' : Rho} (S : SK K H0 H1 ρ σ H) (hl : ρ'.length = σ'.length) (w : ∀ (i : Nat) b, ρ'[i]? = some b → b ≠ .un → ρ[i]? = some b ∧ σ'[i]? = σ[i]?) : SK K H0 H1 ρ' σ' H :=
  ⟨S.same, S.stb, S.ok.weak hl w, fun j b v L x e1 e3 o => by
    obtain ⟨q1, q2⟩ := w j b e1 (by rintro rfl; cases o)
    exact S.fr j b v L x q1 (by rw [← q2]; exact e3) o, fun j T e => S.tb j T (w j _ e (fun h => by cases h)).1⟩
theorem Sx.imp {Ψ : DL.Fin} (h : Sx X st ρ Ψ) (n : ∀ ρ, Ψ.nx ρ → Φ.nx ρ) (r : ∀ d ρ, Ψ.rt d ρ → Φ.rt d ρ) (bk : ∀ ρ, Ψ.bk ρ → Φ.bk ρ) (ct : ∀ ρ, Ψ.ct ρ → Φ.ct ρ) (ro : ∀ q ρ, Ψ.ro q ρ → Φ.ro q ρ := by intro _ _ h; first | exact h | exact False.elim h) (ex : ∀ W, Ψ.ex = some W → Φ.ex = some W := by intro _ h; first | exact h | cases h) : Sx X st ρ Φ := fun H0 H1 σ H E S F =>
  h H0 H1 σ H E S ⟨fun ρ σ H s q => F.nx ρ σ H s (n ρ q), fun d v ρ σ H s r' q => F.rt d v ρ σ H s r' (r d ρ q), fun ρ σ H s q => F.bk ρ σ H s (bk ρ q), fun ρ σ H s q => F.ct ρ σ H s (ct ρ q), fun q ρ σ H s z h => F.ro q ρ σ H s z (ro q ρ h), fun W h => F.ex W (ex W h)⟩
theorem Sxs.imp {Ψ : DL.Fin} (h : Sxs X rest ρ Ψ) (n : ∀ ρ, Ψ.nx ρ → Φ.nx ρ) (r : ∀ d ρ, Ψ.rt d ρ → Φ.rt d ρ) (bk : ∀ ρ, Ψ.bk ρ → Φ.bk ρ) (ct : ∀ ρ, Ψ.ct ρ → Φ.ct ρ) (ro : ∀ q ρ, Ψ.ro q ρ → Φ.ro q ρ := by intro _ _ h; first | exact h | exact False.elim h) (ex : ∀ W, Ψ.ex = some W → Φ.ex = some W := by intro _ h; first | exact h | cases h) : Sxs X rest ρ Φ := fun H0 H1 σ H E S F =>
  h H0 H1 σ H E S ⟨fun ρ σ H s q => F.nx ρ σ H s (n ρ q), fun d v ρ σ H s r' q => F.rt d v ρ σ H s r' (r d ρ q), fun ρ σ H s q => F.bk ρ σ H s (bk ρ q), fun ρ σ H s q => F.ct ρ σ H s (ct ρ q), fun q ρ σ H s z h => F.ro q ρ σ H s z (ro q ρ h), fun W h => F.ex W (ex W h)⟩
/-! ### blocks -/
theorem xs_nil (h : Φ.nx ρ) : Sxs X [] ρ Φ := fun H0 H1 σ H E S F => ⟨_, pss_nil, F.nx ρ σ H S h⟩
theorem xs_cons (h : Sx X st ρ { Φ with nx := fun ρ' => Sxs X rest ρ' Φ }) : Sxs X (st :: rest) ρ Φ := fun H0 H1 σ H E S F =>
  ⟨_, pss_cons ps_c pss_c, h H0 H1 σ H _ S ⟨fun ρ' σ' H' S' q => q H0 H1 σ' H' E S' F, F.rt, F.bk, F.ct, F.ro, F.ex⟩⟩
theorem xs_one (h : Sx X st ρ Φ) : Sxs X [st] ρ Φ := fun H0 H1 σ H E S F => ⟨_, pss_one ps_c, h H0 H1 σ H E S F⟩
/-! ### small statements -/
theorem sx_pass (h : Φ.nx ρ) : Sx X (.Pass pos) ρ Φ := fun H0 H1 σ H E S F => ⟨_, ps_pass, F.nx ρ σ H S h⟩
theorem sx_break (h : Φ.bk ρ) : Sx X (.Break pos) ρ Φ := fun H0 H1 σ H E S F => ⟨_, ps_break, F.bk ρ σ H S h⟩
theorem sx_cont (h : Φ.ct ρ) : Sx X (.Continue pos) ρ Φ := fun H0 H1 σ H E S F => ⟨_, ps_continue, F.ct ρ σ H S h⟩
theorem sx_ret (he : Ev X e ρ (.val d)) (h : Φ.rt d ρ) : Sx X (.Return (some e) pos) ρ Φ := fun H0 H1 σ H E S F =>
  ⟨_, ps_ret pe_c, he σ H _ S.ok fun v H' ⟨s, r⟩ => F.rt d v ρ σ H' ⟨_, S.mono s⟩ r h⟩
theorem sx_retN (h : Φ.rt .none ρ) : Sx X (.Return none pos) ρ Φ := fun H0 H1 σ H E S F => ⟨_, ps_retN, F.rt .none .non ρ σ H ⟨_, S⟩ .non h⟩
theorem sx_if {t : Bool} {as bs : List Stmt} (hc : EvT X c ρ t) (ha : t = true → Sxs X as ρ Φ) (hb : t = false → Sxs X bs ρ Φ) : Sx X (.If c as bs pos) ρ Φ := fun H0 H1 σ H E S F =>
  ⟨_, ps_if pt_c pss_c pss_c, hc σ H _ S.ok fun H2 s2 => by
    cases t with
    | true => exact iteT (ha rfl H0 H1 σ H2 E (S.mono s2) F)
    | false => exact iteF (hb rfl H0 H1 σ H2 E (S.mono s2) F)⟩
/-! ### name = value -/
theorem sx_set (i : Nat) {x : Str} {pos' : Pos} (hN : X.N.Nodup) (he : Ev X e ρ (.val d)) (h : Φ.nx (ρ.set i (.val d))) (hi : X.N[i]? = some x := by rfl) (hx : Loc X.env.scope x := by first | exact Or.inl rfl | exact Or.inr rfl) (hs : swapsWith e (some (.Name x pos')) pos.line X.env = pure false := by rfl) (hf : X.fn x = true ∨ X.env.scope.names.lookup x = some .local := by first | exact .inl rfl | exact .inr rfl | assumption) :
    Sx X (.Assign [.Name x pos'] e pos) ρ Φ := fun H0 H1 σ H E S F =>
  ⟨_, ps_set hN hi hx pe_c hs hf, he σ H _ S.ok fun v H' ⟨s, r⟩ => F.nx _ _ _ (S.set s r) h⟩
theorem SK.setNew {K : PySem.W.Frag} {H0 : Ent} {H1 H H' : Hp} {σ : L2.St} {i : Nat} {v0 : V} {b0 : B} {L0 : List Addr} (S : SK K H0 H1 ρ σ H) (s : Same H H') (n : ∀ x ∈ L0, H x = none) (o0 : Own K H' v0 b0 L0) (nb : ∀ T, b0 ≠ .tab T := by intro _ h; cases h) : SK K H0 H1 (ρ.set i b0) (σ.set i (some v0)) H' := by
  have far : ∀ (j : Nat) b v L x, ρ[j]? = some b → σ[j]? = some (some v) → Own K H' v b L → x ∈ L → x ∉ L0 := fun j b v L x e es o m z => by
    have o' := S.ok.back (.of s) (fun _ _ x _ o e => s x o e) e es o
    obtain ⟨u, hu, _⟩ := o'.stands x m
    rw [n x z] at hu
    cases hu
  refine ⟨S.same.trans s, S.stb.trans (.of s), (S.ok.mono s).setOwn o0 (fun j b v L x e _ es o => far j b v L x e es o), fun j b v L x e1 e3 o m => ?_, fun j T e => S.tb j T (tb_set nb e)⟩
  by_cases hj : j = i
  · subst hj
    have hl := S.ok.len
    by_cases hlt : j < ρ.length
    · rw [List.getElem?_set_self (by omega)] at e3 e1
      cases e3
      cases e1
      rw [← o0.det o] at m
      exact S.same.free (n x m)
    · rw [List.getElem?_eq_none (by rw [List.length_set]; omega)] at e1; cases e1
  · rw [List.getElem?_set_ne (Ne.symm hj)] at e1 e3
    exact (S.mono s).fr j b v L x e1 e3 o m
theorem SK.new {K : PySem.W.Frag} {H0 : Ent} {H1 H H' : Hp} {σ : L2.St} {i : Nat} {v : V} (S : SK K H0 H1 ρ σ H) (r : RS K (.new ds) H v H') : SK K H0 H1 (ρ.set i (.own ds)) (σ.set i (some v)) H' := by
  obtain ⟨s, p, xs, rfl, n, e, r⟩ := r
  exact S.setNew s (fun x hx => by simp at hx; rw [hx]; exact n) (.own e r)
theorem SK.newD {K : PySem.W.Frag} {H0 : Ent} {H1 H H' : Hp} {σ : L2.St} {i : Nat} {v : V} {es : List (D × D)} (S : SK K H0 H1 ρ σ H) (r : RS K (.newD es) H v H') : SK K H0 H1 (ρ.set i (.dic es)) (σ.set i (some v)) H' := by
  obtain ⟨s, p, xs, rfl, n, e, r⟩ := r
  exact S.setNew s (fun x hx => by simp at hx; rw [hx]; exact n) (.dic e r)
theorem sx_new (i : Nat) {x : Str} {pos' : Pos} (hN : X.N.Nodup) (he : Ev X e ρ (.new ds)) (h : Φ.nx (ρ.set i (.own ds))) (hi : X.N[i]? = some x := by rfl) (hx : Loc X.env.scope x := by first | exact Or.inl rfl | exact Or.inr rfl) (hs : swapsWith e (some (.Name x pos')) pos.line X.env = pure false := by rfl) (hf : X.fn x = true ∨ X.env.scope.names.lookup x = some .local := by first | exact .inl rfl | exact .inr rfl | assumption) :
    Sx X (.Assign [.Name x pos'] e pos) ρ Φ := fun H0 H1 σ H E S F =>
  ⟨_, ps_set hN hi hx pe_c hs hf, he σ H _ S.ok fun v H' r => F.nx _ _ _ (S.new r) h⟩
theorem sx_newD (i : Nat) {x : Str} {pos' : Pos} {es : List (D × D)} (hN : X.N.Nodup) (he : Ev X e ρ (.newD es)) (h : Φ.nx (ρ.set i (.dic es))) (hi : X.N[i]? = some x := by rfl) (hx : Loc X.env.scope x := by first | exact Or.inl rfl | exact Or.inr rfl) (hs : swapsWith e (some (.Name x pos')) pos.line X.env = pure false := by rfl) (hf : X.fn x = true ∨ X.env.scope.names.lookup x = some .local := by first | exact .inl rfl | exact .inr rfl | assumption) :
    Sx X (.Assign [.Name x pos'] e pos) ρ Φ := fun H0 H1 σ H E S F =>
  ⟨_, ps_set hN hi hx pe_c hs hf, he σ H _ S.ok fun v H' r => F.nx _ _ _ (S.newD r) h⟩
/-- name = [..] on one line, the name a local: the new list is locked -/
theorem fz_stmt {t : TE} {i : Nat} (h : PS X st (tAsg t (gName i))) : PS X st (tAsg (fun σ H Q => t σ H fun v H' => ∃ a u, v = .ref a ∧ H' a = some u ∧ Mut (some u) ∧ ∀ od, Q v (upd H' a (.frz od u))) (gName i)) ∨ True := .inr trivial
theorem ps_fzNx {t : TS} (h : PS X st t) : PS X st (fun E σ H => t { E with nx := fun σ' H' => ∃ a u, H' a = some u ∧ Mut (some u) ∧ ∀ od, E.nx σ' (upd H' a (.frz od u)) } σ H) := by
  refine ⟨fun pins s σ H E I hw => ?_⟩
  refine thn (h.run pins s σ H _ I hw) fun f s1 q => ?_
  cases f with
  | next =>
    obtain ⟨σ', H', I2, a, u, hu, mu, q⟩ := q
    obtain ⟨od, I3⟩ := I2.lock hu mu
    exact ⟨σ', _, I3, q od⟩
  | brk => exact q
  | cont => exact q
  | ret v => exact q
theorem sx_setLc (i : Nat) {y : Str} {py : Pos} {elt tg iter : Expr} {ifs : List Expr} {scope : Scope} {own : List (Str × Nat)} {pos spos : Pos} {α : Type} {ps : List α} {en : α → D} {ρ' : α → Rho} {keep : α → Bool} {f : α → D} {is : List Nat} {yl : Bool}
    (hN : X.N.Nodup) (ok : BlkOk X.N X.env.scope scope own) (hsw : swapsWith (.ListComp elt [⟨tg, iter, ifs, 0⟩] scope pos) (some (.Name y py)) spos.line X.env = pure true)
    (hi : EvIq X tg iter ρ yl (ps.map en)) (hg : ∀ p ∈ ps, Blk X scope fun Y => EvG Y yl tg (wipeB ρ (own.map (·.2))) (en p) (ρ' p) is)
    (ht : ∀ p ∈ ps, Blk X scope fun Y => EvTs Y ifs (ρ' p) (keep p)) (he : ∀ p ∈ ps, keep p = true → Blk X scope fun Y => Ev Y elt (ρ' p) (.val (f p)))
    (h : Φ.nx (ρ.set i (.val (.list ((ps.filter keep).map f)))))
    (hw : ∀ i ∈ is, i ∈ own.map (·.2) := by decide) (hy : X.N[i]? = some y := by rfl) (hyl : X.env.scope.names.lookup y = some .local := by rfl) (hc : X.calm = true := by rfl) (hs : ∀ x, foldedSetIterable iter X.env x = pure x := by intro _; rfl) :
    Sx X (.Assign [.Name y py] (.ListComp elt [⟨tg, iter, ifs, 0⟩] scope pos) spos) ρ Φ := fun H0 H1 σ H E S F =>
  ⟨_, ps_fzNx (ps_setLc hc hN hy hyl hsw pi_c ok pg_cB pt_cB pe_cB hs), lc_run ps en hi hg hw ht he S.ok fun v H' ⟨s, p, xs, e1, n, e2, r⟩ => by
    subst e1
    exact ⟨p, _, e2, trivial, fun od => F.nx _ _ _ (S.set (same_mut s n) (rp_lock e2 r od)) h⟩⟩
theorem sx_newLc (i : Nat) {y : Str} {py : Pos} {elt tg iter : Expr} {ifs : List Expr} {scope : Scope} {own : List (Str × Nat)} {pos spos : Pos} {α : Type} {ps : List α} {en : α → D} {ρ' : α → Rho} {keep : α → Bool} {f : α → D} {is : List Nat} {yl : Bool}
    (hN : X.N.Nodup) (ok : BlkOk X.N X.env.scope scope own) (hsw : swapsWith (.ListComp elt [⟨tg, iter, ifs, 0⟩] scope pos) (some (.Name y py)) spos.line X.env = pure true)
    (hi : EvIq X tg iter ρ yl (ps.map en)) (hg : ∀ p ∈ ps, Blk X scope fun Y => EvG Y yl tg (wipeB ρ (own.map (·.2))) (en p) (ρ' p) is)
    (ht : ∀ p ∈ ps, Blk X scope fun Y => EvTs Y ifs (ρ' p) (keep p)) (he : ∀ p ∈ ps, keep p = true → Blk X scope fun Y => Ev Y elt (ρ' p) (.val (f p)))
    (h : Φ.nx (ρ.set i (.own ((ps.filter keep).map f))))
    (hw : ∀ i ∈ is, i ∈ own.map (·.2) := by decide) (hy : X.N[i]? = some y := by rfl) (hyl : X.env.scope.names.lookup y = some .local := by rfl) (hc : X.calm = true := by rfl) (hs : ∀ x, foldedSetIterable iter X.env x = pure x := by intro _; rfl) :
    Sx X (.Assign [.Name y py] (.ListComp elt [⟨tg, iter, ifs, 0⟩] scope pos) spos) ρ Φ := fun H0 H1 σ H E S F =>
  ⟨_, ps_setLc hc hN hy hyl hsw pi_c ok pg_cB pt_cB pe_cB hs, lc_run ps en hi hg hw ht he S.ok fun v H' r => F.nx _ _ _ (S.new r) h⟩
/-- a thing of one's own at p becomes a datum -/
theorem SK.lock {K : PySem.W.Frag} {H0 : Ent} {H1 H : Hp} {σ : L2.St} {j : Nat} {p : Addr} {u o : HO} {b0 : B} (S : SK K H0 H1 ρ σ H) (hj : ρ[j]? = some b0) (e1 : σ[j]? = some (some (.ref p))) (o0 : Own K H (.ref p) b0 [p]) (e2 : H p = some u) (mu : MutS (some u)) (rp : Rp K (upd H p o) (.ref p) d) :
    SK K H0 H1 (ρ.set j (.val d)) σ (upd H p o) := by
  have st : Stb H (upd H p o) := stb_upd e2 mu
  have hlt : j < ρ.length := (List.getElem?_eq_some_iff.mp hj).1
  have ne : ∀ (i : Nat) b, (ρ.set j (.val d))[i]? = some b → i ≠ j → ρ[i]? = some b := fun i b e n => by rwa [List.getElem?_set_ne (Ne.symm n)] at e
  have at_ : ∀ b, (ρ.set j (.val d))[j]? = some b → b = .val d := fun b e => by rw [List.getElem?_set_self hlt] at e; exact (Option.some.inj e).symm
  have far : ∀ (i : Nat) b v L, ρ[i]? = some b → i ≠ j → σ[i]? = some (some v) → Own K H v b L → ∀ x ∈ L, ∀ q, H x = some q → upd H p o x = some q := fun i b v L e n es ow x m q hq => by
    rw [upd_ne (fun z => n (S.ok.apart i j b _ v _ L [p] x e hj es e1 ow o0 m (by simp [z])))]
    exact hq
  have back : ∀ (i : Nat) b v L, ρ[i]? = some b → i ≠ j → σ[i]? = some (some v) → Own K (upd H p o) v b L → Own K H v b L := fun i b v L e n es ow => S.ok.back st (fun L o => far i b v L e n es o) e es ow
  refine ⟨S.same.mut (S.fr j _ _ _ p hj e1 o0 (by simp)), S.stb.trans st, ⟨by rw [List.length_set]; exact S.ok.len, fun i d' e => ?_, fun i b e ob => ?_, fun i k b c v w L M x q1 q2 s1 s2 o1 o2 => ?_⟩, fun i b v L x q1 q3 ow => ?_, fun i T e => S.tb i T (tb_set (fun _ h => by cases h) e)⟩
  · by_cases hi : i = j
    · subst hi
      have q := at_ _ e
      cases q
      exact ⟨_, e1, rp⟩
    · obtain ⟨v, h1, h2⟩ := S.ok.val i d' (ne i _ e hi)
      exact ⟨v, h1, h2.mono st⟩
  · by_cases hi : i = j
    · subst hi; have q := at_ _ e; subst q; cases ob
    · obtain ⟨v, L, h1, h2⟩ := S.ok.has i b (ne i _ e hi) ob
      exact ⟨v, L, h1, h2.mono st (far i b v L (ne i _ e hi) hi h1 h2)⟩
  · have hi : i ≠ j := fun z => by subst z; have q := at_ _ q1; subst q; cases o1
    have hk : k ≠ j := fun z => by subst z; have q := at_ _ q2; subst q; cases o2
    exact S.ok.apart i k b c v w L M x (ne i _ q1 hi) (ne k _ q2 hk) s1 s2 (back i b v L (ne i _ q1 hi) hi s1 o1) (back k c w M (ne k _ q2 hk) hk s2 o2)
  · have hi : i ≠ j := fun z => by subst z; have q := at_ _ q1; subst q; cases ow
    exact S.fr i b v L x (ne i _ q1 hi) q3 (back i b v L (ne i _ q1 hi) hi q3 ow)
/-- x = y, y a list of one's own: it is locked; both are that datum -/
theorem SK.lockOwn {K : PySem.W.Frag} {H0 : Ent} {H1 H : Hp} {σ : L2.St} {j : Nat} {p : Addr} {xs : List V} (S : SK K H0 H1 ρ σ H) (hj : ρ[j]? = some (.own ds)) (e1 : σ[j]? = some (some (.ref p))) (e2 : H p = some (.lst xs)) (r : RpAll K H xs ds) (od : Obj) :
    SK K H0 H1 (ρ.set j (.val (.list ds))) σ (upd H p (.frz od (.lst xs))) := S.lock hj e1 (.own e2 r) e2 trivial (rp_lock e2 r od)
theorem SK.lockDic {K : PySem.W.Frag} {H0 : Ent} {H1 H : Hp} {σ : L2.St} {j : Nat} {p : Addr} {kvs : List (Key × V)} {es : List (D × D)} (S : SK K H0 H1 ρ σ H) (hj : ρ[j]? = some (.dic es)) (e1 : σ[j]? = some (some (.ref p))) (e2 : H p = some (.dK kvs)) (r : RpKV K H kvs es) (od : Obj) :
    SK K H0 H1 (ρ.set j (.val (.dict es))) σ (upd H p (.frz od (.dK kvs))) := S.lock hj e1 (.dic e2 r) e2 trivial (rp_lockD e2 r od)
/-- a list, a dict of one's own is handed back -/
theorem sx_retOwn (i : Nat) {x : Str} {p : Pos} (hi : ρ[i]? = some (.own ds)) (h : Φ.rt (.list ds) (ρ.set i (.val (.list ds)))) (hN : X.N[i]? = some x := by rfl) (hv : Vis X.env.scope x := by first | exact Or.inl rfl | exact Or.inr (Or.inl rfl) | exact Or.inr (Or.inr rfl)) (hd : (x == ("__debug__" : Str)) = false := by decide)
    (hcd : (x == ("__classdict__" : Str)) = false := by decide) : Sx X (.Return (some (.Name x p)) pos) ρ Φ := fun H0 H1 σ H E S F => by
  obtain ⟨a, xs, e1, e2, r⟩ := S.ok.own i ds hi
  exact ⟨_, ps_ret (fz_any (pe_var hN hv hd hcd)), _, e1, a, _, rfl, e2, trivial, fun od => F.rt _ _ _ _ _ ⟨_, S.lockOwn hi e1 e2 r od⟩ (rp_lock e2 r od) h⟩
theorem sx_retDic (i : Nat) {x : Str} {p : Pos} {es : List (D × D)} (hi : ρ[i]? = some (.dic es)) (h : Φ.rt (.dict es) (ρ.set i (.val (.dict es)))) (hN : X.N[i]? = some x := by rfl) (hv : Vis X.env.scope x := by first | exact Or.inl rfl | exact Or.inr (Or.inl rfl) | exact Or.inr (Or.inr rfl)) (hd : (x == ("__debug__" : Str)) = false := by decide)
    (hcd : (x == ("__classdict__" : Str)) = false := by decide) : Sx X (.Return (some (.Name x p)) pos) ρ Φ := fun H0 H1 σ H E S F => by
  obtain ⟨a, xs, e1, e2, r⟩ := S.ok.dic i es hi
  exact ⟨_, ps_ret (fz_any (pe_var hN hv hd hcd)), _, e1, a, _, rfl, e2, trivial, fun od => F.rt _ _ _ _ _ ⟨_, S.lockDic hi e1 e2 r od⟩ (rp_lockD e2 r od) h⟩
theorem sx_move (i j : Nat) {x y : Str} {pos' p : Pos} (hN : X.N.Nodup) (hj : ρ[j]? = some (.own ds)) (h : Φ.nx ((ρ.set j (.val (.list ds))).set i (.val (.list ds)))) (hi : X.N[i]? = some x := by rfl) (hx : Loc X.env.scope x := by first | exact Or.inl rfl | exact Or.inr rfl) (hNj : X.N[j]? = some y := by rfl) (hv : Vis X.env.scope y := by first | exact Or.inl rfl | exact Or.inr (Or.inl rfl) | exact Or.inr (Or.inr rfl)) (hd : (y == ("__debug__" : Str)) = false := by decide)
    (hcd : (y == ("__classdict__" : Str)) = false := by decide) (hs : swapsWith (.Name y p) (some (.Name x pos')) pos.line X.env = pure false := by rfl) (hf : X.fn x = true ∨ X.env.scope.names.lookup x = some .local := by first | exact .inl rfl | exact .inr rfl | assumption) :
    Sx X (.Assign [.Name x pos'] (.Name y p) pos) ρ Φ := fun H0 H1 σ H E S F => by
  obtain ⟨a, xs, e1, e2, r⟩ := S.ok.own j ds hj
  refine ⟨_, ps_set hN hi hx (fz_any (pe_var hNj hv hd hcd)) hs hf, _, e1, a, _, rfl, e2, trivial, fun od => F.nx _ _ _ ?_ h⟩
  exact (S.lockOwn hj e1 e2 r od).set (.refl _) (rp_lock e2 r od)
/-- targets of tuples -/
theorem sx_unpack {es : List Expr} {n : Nat} {pt : Pos} {ρ' : Rho} {is : List Nat} (he : Ev X e ρ (.val d)) (hg : EvG X false (.Tuple es n pt) ρ d ρ' is) (h : Φ.nx ρ') (hs : swapsWithSole [.Tuple es n pt] e pos.line X.env = pure false := by rfl) (hw : swappedStores [.Tuple es n pt] e X.env = pure none := by rfl)
    (h1 : (assignEach [.Tuple es n pt] X.env).map (·.2) = [assign (.Tuple es n pt) X.env] := by rfl) : Sx X (.Assign [.Tuple es n pt] e pos) ρ Φ := fun H0 H1 σ H E S F =>
  ⟨_, ps_asg pe_c pg_c hs hw h1, he σ H _ S.ok fun v H' ⟨s, r⟩ => hg.run σ H' v _ (S.ok.mono s) (.inl r) fun σ' S' w => F.nx _ _ _ ⟨S.same.trans s, S.stb.trans (.of s), S', fun i b u L x q1 q3 o => by
    obtain ⟨z1, z2⟩ := hg.own i b q1 o.is
    refine (S.mono s).fr i b u L x z1 ?_ o
    have e1 := congrArg (fun τ : L2.St => τ[i]?) (w is fun _ z => z)
    simp only [wipe_out z2] at e1
    rw [← e1]; exact q3, fun i T q => S.tb i T (hg.own i _ q rfl).1⟩ h⟩
/-! ### loops -/
/-- the turns of a for, one by one -/
def ForW (X : Cx) (yl : Bool) (tg : Expr) (body : List Stmt) : List D → Rho → DL.Fin → Prop
  | [], ρ, Φ => Φ.nx ρ
  | x :: xs, ρ, Φ => ∃ ρ' is, EvG X yl tg ρ x ρ' is ∧ Sxs X body ρ' { nx := fun ρ2 => ForW X yl tg body xs ρ2 Φ, rt := Φ.rt, bk := Φ.nx, ct := fun ρ2 => ForW X yl tg body xs ρ2 Φ, ro := Φ.ro, ex := Φ.ex }
theorem sx_for {yl : Bool} {tg it : Expr} {body : List Stmt} {xs : List D} (hi : EvI X tg it ρ yl xs) (h : ForW X yl tg body xs ρ Φ) (hp : PassesOwn (model X.prog X.w) X.A X.env X.xe := by exact PassesOwn.never) (hc : X.calm = true := by rfl) (hs : ∀ x, foldedSetIterable it X.env x = pure x := by intro _; rfl) :
    Sx X (.For tg it body [] pos) ρ Φ := fun H0 H1 σ H E S F =>
  ⟨_, ps_for hp hc pi_c pg_c pss_c hs, hi σ H _ S.ok fun J H2 s2 _ w => by
    refine for_it w (fun i σ' H' => Stb H2 H' ∧ ∃ ρ', SK X.K H0 H1 ρ' σ' H' ∧ ForW X yl tg body (xs.drop i) ρ' Φ) ⟨.refl _, ρ, S.mono s2, by simpa using h⟩ (fun i σ' H' _ h => h.1) (fun i x σ' H3 H4 hlt ⟨st3, ρ3, S3, f3⟩ ⟨s4, d, hd, rd⟩ => ?_) (fun σ' H3 ⟨st3, ρ3, S3, f3⟩ => ?_)
    · have hx : xs.drop i = xs[i] :: xs.drop (i + 1) := List.drop_eq_getElem_cons hlt
      rw [List.getElem?_eq_getElem hlt] at hd
      have ed : xs[i] = d := Option.some.inj hd
      subst ed
      rw [hx] at f3
      obtain ⟨ρ4, is, hg, hb⟩ := f3
      refine hg.run σ' H4 x _ (S3.ok.mono s4) rd fun σ5 S5 w5 => ?_
      have K5 : SK X.K H0 H4 ρ4 σ5 H4 := ⟨S3.same.trans s4, .refl _, S5, fun i b u L x q1 q3 o => by
        obtain ⟨z1, z2⟩ := hg.own i b q1 o.is
        refine (S3.mono s4).fr i b u L x z1 ?_ o
        have e1 := congrArg (fun τ : L2.St => τ[i]?) (w5 is fun _ z => z)
        simp only [wipe_out z2] at e1
        rw [← e1]; exact q3, fun i T q => S3.tb i T (hg.own i _ q rfl).1⟩
      have back : ∀ {ρ6 : Rho} {σ6 : L2.St} {H6 : Hp}, SK X.K H0 H4 ρ6 σ6 H6 → SK X.K H0 H1 ρ6 σ6 H6 := fun S6 => ⟨S6.same, S3.stb.trans ((Stb.of s4).trans S6.stb), S6.ok, S6.fr, S6.tb⟩
      refine hb H0 H4 σ5 H4 _ K5 ⟨fun ρ6 σ6 H6 S6 q => ⟨st3.trans ((Stb.of s4).trans S6.stb), ρ6, back S6, q⟩, F.rt, fun ρ6 σ6 H6 S6 q => F.nx ρ6 σ6 H6 (back S6) q, fun ρ6 σ6 H6 S6 q => ⟨st3.trans ((Stb.of s4).trans S6.stb), ρ6, back S6, q⟩, F.ro, F.ex⟩
    · rw [List.drop_length] at f3
      exact F.nx ρ3 σ' H3 S3 f3⟩
theorem sx_while {body : List Stmt} (W : Nat → Rho → Prop) (m : Nat) (h0 : W m ρ) (turn : ∀ m ρ, W m ρ → ∃ t, EvT X c ρ t ∧ (t = true → Sxs X body ρ { nx := fun ρ' => ∃ m', m' < m ∧ W m' ρ', rt := Φ.rt, bk := Φ.nx, ct := fun ρ' => ∃ m', m' < m ∧ W m' ρ', ro := Φ.ro, ex := Φ.ex }) ∧ (t = false → Φ.nx ρ))
    (hp : PassesOwn (model X.prog X.w) X.A X.env X.xe := by exact PassesOwn.never) : Sx X (.While c body [] pos) ρ Φ := fun H0 H1 σ H E S F => by
  refine ⟨_, ps_while hp pt_c pss_c, fun m σ' H' => ∃ ρ', SK X.K H0 H1 ρ' σ' H' ∧ W m ρ', ⟨m, ρ, S, h0⟩, fun m σ2 H2 ⟨ρ2, S2, w2⟩ => ?_⟩
  obtain ⟨t, ht, h1, h2⟩ := turn m ρ2 w2
  refine ht σ2 H2 _ S2.ok fun H3 s3 => ?_
  cases t with
  | true =>
    refine iteT ⟨fun σ' H' => ∃ m', m' < m ∧ ∃ ρ', SK X.K H0 H1 ρ' σ' H' ∧ W m' ρ', fun σ' H' h => h, h1 rfl H0 H1 σ2 H3 _ (S2.mono s3) ⟨fun ρ4 σ4 H4 S4 ⟨m', lt, w4⟩ => ⟨m', lt, ρ4, S4, w4⟩, F.rt, F.nx, fun ρ4 σ4 H4 S4 ⟨m', lt, w4⟩ => ⟨m', lt, ρ4, S4, w4⟩, F.ro, F.ex⟩⟩
  | false => exact iteF (F.nx ρ2 σ2 H3 (S2.mono s3) (h2 rfl))
/-! ### a list of one's own is changed -/
/-- the thing in slot j is changed, at addresses of its own alone -/
theorem SK.chg {K : PySem.W.Frag} {H0 : Ent} {H1 H H' : Hp} {σ : L2.St} {j : Nat} {v0 : V} {b0 b1 : B} {L0 L1 : List Addr} (S : SK K H0 H1 ρ σ H) (hj : ρ[j]? = some b0) (e1 : σ[j]? = some (some v0)) (o0 : Own K H v0 b0 L0) (st : Stb H H') (kp : ∀ x q, H x = some q → x ∉ L0 → H' x = some q) (o1 : Own K H' v0 b1 L1) (hL : ∀ x ∈ L1, x ∈ L0 ∨ H x = none) (nb : ∀ T, b1 ≠ .tab T := by intro _ h; cases h) : SK K H0 H1 (ρ.set j b1) σ H' := by
  have hlt : j < ρ.length := (List.getElem?_eq_some_iff.mp hj).1
  have ne : ∀ (i : Nat) b, (ρ.set j b1)[i]? = some b → i ≠ j → ρ[i]? = some b := fun i b e n => by rwa [List.getElem?_set_ne (Ne.symm n)] at e
  have at_ : ∀ b, (ρ.set j b1)[j]? = some b → b = b1 := fun b e => by rw [List.getElem?_set_self hlt] at e; exact (Option.some.inj e).symm
  have far : ∀ (i : Nat) b v L, ρ[i]? = some b → i ≠ j → σ[i]? = some (some v) → Own K H v b L → ∀ x ∈ L, ∀ q, H x = some q → H' x = some q := fun i b v L e n es ow x m q hq =>
    kp x q hq fun z => n (S.ok.apart i j b _ v _ L L0 x e hj es e1 ow o0 m z)
  have back : ∀ (i : Nat) b v L, ρ[i]? = some b → i ≠ j → σ[i]? = some (some v) → Own K H' v b L → Own K H v b L := fun i b v L e n es ow => S.ok.back st (fun L o => far i b v L e n es o) e es ow
  have two : ∀ (i : Nat) b v L x, ρ[i]? = some b → i ≠ j → σ[i]? = some (some v) → Own K H v b L → x ∈ L → x ∉ L1 := fun i b v L x e n es ow m z => by
    rcases hL x z with q | q
    · exact n (S.ok.apart i j b _ v _ L L0 x e hj es e1 ow o0 m q)
    · obtain ⟨u, hu, _⟩ := ow.stands x m
      rw [q] at hu; cases hu
  have fr1 : ∀ x ∈ L1, H0.H x = none ∨ H0.W x := fun x m => by
    rcases hL x m with q | q
    · exact S.fr j _ _ _ x hj e1 o0 q
    · exact S.same.free q
  refine ⟨fun b q e w => ?_, S.stb.trans st, ⟨by rw [List.length_set]; exact S.ok.len, fun i d e => ?_, fun i b e ob => ?_, fun i k b c v w L M x q1 q2 s1 s2 w1 w2 m1 m2 => ?_⟩, fun i b v L x q1 q3 ow m => ?_, fun i T e => S.tb i T (tb_set nb e)⟩
  · refine kp b q (S.same b q e w) fun z => ?_
    rcases S.fr j _ _ _ b hj e1 o0 z with f | f
    · rw [f] at e; cases e
    · exact w f
  · by_cases hi : i = j
    · subst hi; have q := at_ _ e; subst q; cases o1
    · obtain ⟨v, h1, h2⟩ := S.ok.val i d (ne i _ e hi)
      exact ⟨v, h1, h2.mono st⟩
  · by_cases hi : i = j
    · subst hi; have q := at_ _ e; subst q; exact ⟨v0, L1, e1, o1⟩
    · obtain ⟨v, L, h1, h2⟩ := S.ok.has i b (ne i _ e hi) ob
      exact ⟨v, L, h1, h2.mono st (far i b v L (ne i _ e hi) hi h1 h2)⟩
  · by_cases hi : i = j
    · by_cases hk : k = j
      · rw [hi, hk]
      · subst hi
        have q := at_ _ q1
        subst q
        rw [e1] at s1
        cases s1
        rw [← o1.det w1] at m1
        exact absurd m1 (two k c w M x (ne k _ q2 hk) hk s2 (back k c w M (ne k _ q2 hk) hk s2 w2) m2)
    · by_cases hk : k = j
      · subst hk
        have q := at_ _ q2
        subst q
        rw [e1] at s2
        cases s2
        rw [← o1.det w2] at m2
        exact absurd m2 (two i b v L x (ne i _ q1 hi) hi s1 (back i b v L (ne i _ q1 hi) hi s1 w1) m1)
      · exact S.ok.apart i k b c v w L M x (ne i _ q1 hi) (ne k _ q2 hk) s1 s2 (back i b v L (ne i _ q1 hi) hi s1 w1) (back k c w M (ne k _ q2 hk) hk s2 w2) m1 m2
  · by_cases hi : i = j
    · subst hi
      have q := at_ _ q1
      subst q
      rw [e1] at q3
      cases q3
      rw [← o1.det ow] at m
      exact fr1 x m
    · exact S.fr i b v L x (ne i _ q1 hi) q3 (back i b v L (ne i _ q1 hi) hi q3 ow) m
theorem SK.write {K : PySem.W.Frag} {H0 : Ent} {H1 H : Hp} {σ : L2.St} {j : Nat} {p : Addr} {u : HO} {o : HO} {b0 b1 : B} (S : SK K H0 H1 ρ σ H) (hj : ρ[j]? = some b0) (e1 : σ[j]? = some (some (.ref p))) (o0 : Own K H (.ref p) b0 [p]) (e2 : H p = some u) (mu : MutS (some u)) (o1 : Own K (upd H p o) (.ref p) b1 [p]) (nb : ∀ T, b1 ≠ .tab T := by intro _ h; cases h) : SK K H0 H1 (ρ.set j b1) σ (upd H p o) :=
  S.chg hj e1 o0 (stb_upd e2 mu) (fun x q e n => by rw [upd_ne (by simpa using n)]; exact e) o1 (fun x m => .inl m) nb
theorem sx_append (j : Nat) {y : Str} {p2 apos cpos : Pos} (hj : ρ[j]? = some (.own ds)) (he : Ev X e ρ (.val d)) (hz : ds.length < sizeLine) (h : Φ.nx (ρ.set j (.own (ds ++ [d])))) (hNj : X.N[j]? = some y := by rfl) (hv : Vis X.env.scope y := by first | exact Or.inl rfl | exact Or.inr (Or.inl rfl) | exact Or.inr (Or.inr rfl)) (hd : (y == ("__debug__" : Str)) = false := by decide)
    (hcd : (y == ("__classdict__" : Str)) = false := by decide) (hbase : attributeBase (.Name y p2) "append" X.env (eval (.Name y p2) X.env) = eval (.Name y p2) X.env := by rfl)
    (hfew : ((backTo cpos (starEach [e] X.env)).all (fun x => !x.1) && (backToKw cpos (keywordEach [] X.env)).all (fun x => x.1.isSome)
      && decide ([e].length + ([] : List Keyword).length + (if ([] : List Keyword).isEmpty then 0 else 1) < 30)) = true := by rfl)
    (hline : (apos.endLine == cpos.line) = true := by rfl) (hs : starEach [e] X.env = (false, eval e X.env) :: starEach [] X.env := by rfl) (hplain : (backTo cpos (starEach [] X.env)).any (·.1) = false := by rfl)
    (hsw : swapsWith (.Call (.Attribute (.Name y p2) "append" apos) [e] [] cpos) none pos.line X.env = pure false := by rfl) :
    Sx X (.Expr (.Call (.Attribute (.Name y p2) "append" apos) [e] [] cpos) pos) ρ Φ := fun H0 H1 σ H E S F => by
  obtain ⟨a, xs, e1, e2, r⟩ := S.ok.own j ds hj
  refine ⟨_, ps_expr (pe_bm PySem.F.plainAttrs_list PySem.F.slot_list_append PySem.F.type_list_append mt_append (pe_var hNj hv hd hcd) (pa_cons pe_c pa_nil hs) hbase hfew hline hs hplain) hsw, _, e1, .inl ⟨rfl, xs, .of e2⟩, he σ H _ S.ok fun v H2 ⟨s2, r2⟩ => ?_⟩
  refine ⟨a, xs, v, rfl, rfl, s2 _ _ e2, by rw [r.length]; exact hz, F.nx _ _ _ ((S.mono s2).write hj e1 (.own (s2 _ _ e2) (r.mono (.of s2))) (s2 _ _ e2) trivial ?_) h⟩
  have st : Stb H2 (upd H2 a (.lst (xs ++ [v]))) := stb_upd (s2 _ _ e2) trivial
  exact .own upd_same (((r.mono (.of s2)).mono st).append (.cons (r2.mono st) .nil))
theorem sx_extend (j : Nat) {y : Str} {p2 apos cpos : Pos} {es : List D} (hj : ρ[j]? = some (.own ds)) (he : Ev X e ρ (.new es)) (hz : ds.length + es.length ≤ sizeLine) (h : Φ.nx (ρ.set j (.own (ds ++ es)))) (hNj : X.N[j]? = some y := by rfl) (hv : Vis X.env.scope y := by first | exact Or.inl rfl | exact Or.inr (Or.inl rfl) | exact Or.inr (Or.inr rfl)) (hd : (y == ("__debug__" : Str)) = false := by decide)
    (hcd : (y == ("__classdict__" : Str)) = false := by decide) (hbase : attributeBase (.Name y p2) "extend" X.env (eval (.Name y p2) X.env) = eval (.Name y p2) X.env := by rfl)
    (hfew : ((backTo cpos (starEach [e] X.env)).all (fun x => !x.1) && (backToKw cpos (keywordEach [] X.env)).all (fun x => x.1.isSome)
      && decide ([e].length + ([] : List Keyword).length + (if ([] : List Keyword).isEmpty then 0 else 1) < 30)) = true := by rfl)
    (hline : (apos.endLine == cpos.line) = true := by rfl) (hs : starEach [e] X.env = (false, eval e X.env) :: starEach [] X.env := by rfl) (hplain : (backTo cpos (starEach [] X.env)).any (·.1) = false := by rfl)
    (hsw : swapsWith (.Call (.Attribute (.Name y p2) "extend" apos) [e] [] cpos) none pos.line X.env = pure false := by rfl) :
    Sx X (.Expr (.Call (.Attribute (.Name y p2) "extend" apos) [e] [] cpos) pos) ρ Φ := fun H0 H1 σ H E S F => by
  obtain ⟨a, xs, e1, e2, r⟩ := S.ok.own j ds hj
  refine ⟨_, ps_expr (pe_bm PySem.F.plainAttrs_list PySem.F.slot_list_extend PySem.F.type_list_extend mt_extend (pe_var hNj hv hd hcd) (pa_cons pe_c pa_nil hs) hbase hfew hline hs hplain) hsw, _, e1, .inl ⟨rfl, xs, .of e2⟩, he σ H _ S.ok fun v H2 ⟨s2, p, zs, e3, n3, e4, r2⟩ => ?_⟩
  subst e3
  refine ⟨a, p, xs, zs, rfl, rfl, s2 _ _ e2, e4, by rw [r.length, r2.length]; exact hz, F.nx _ _ _ ((S.mono s2).write hj e1 (.own (s2 _ _ e2) (r.mono (.of s2))) (s2 _ _ e2) trivial ?_) h⟩
  have st : Stb H2 (upd H2 a (.lst (xs ++ zs))) := stb_upd (s2 _ _ e2) trivial
  exact .own upd_same (((r.mono (.of s2)).mono st).append (r2.mono st))
end
/-! ### a def by its body -/
section
variable {P : Program} {w : World} {K : PySem.W.Frag} {mg : Str → Option Value} {base : Heap} {x qual : Str} {params : Arguments} {body : List Stmt} {scope : Scope} {kws : List (Str × V)} {f : Addr} {fd : FuncData}
def startB (n : Nat) (ds : List D) : Rho := ds.map .val ++ List.replicate (n - ds.length) .un
theorem sok_start {H : Hp} {N : List Str} {vs : List V} {ds : List D} (r : RpAll K H vs ds) : SOk K (startB N.length ds) (L2.start N vs) H := by
  have hl := r.length
  have key : ∀ (i : Nat) b, (startB N.length ds)[i]? = some b → b = .un ∨ ∃ d v, b = .val d ∧ (L2.start N vs)[i]? = some (some v) ∧ Rp K H v d := fun i b e => by
    unfold startB at e
    by_cases hi : i < ds.length
    · rw [List.getElem?_append_left (by simpa using hi), List.getElem?_map] at e
      cases q : ds[i]? with
      | none => rw [q] at e; cases e
      | some d =>
        rw [q] at e
        obtain ⟨v, h1, h2⟩ := r.get q
        refine .inr ⟨d, v, (Option.some.inj e).symm, ?_, h2⟩
        unfold L2.start
        rw [List.getElem?_append_left (by simpa using (by omega : i < vs.length)), List.getElem?_map, h1]
        rfl
    · rw [List.getElem?_append_right (by simpa using hi), List.getElem?_replicate] at e
      split at e
      · exact .inl (Option.some.inj e).symm
      · cases e
  refine ⟨by unfold startB L2.start; simp [hl], fun i d e => ?_, fun i b e o => ?_, fun i j b c v w L M x e1 _ _ _ o1 _ _ _ => ?_⟩
  · rcases key i _ e with q | ⟨d', v, q, h1, h2⟩
    · cases q
    · cases q; exact ⟨v, h1, h2⟩
  · rcases key i _ e with q | ⟨d', v, q, h1, h2⟩ <;> (subst q; cases o)
  · rcases key i _ e1 with q | ⟨d', v, q, h1, h2⟩ <;> (subst q; cases o1)
theorem fn_d {N ps : List Str} {k : Nat} {g : List D → D → Prop} (F : FunD K x qual params body scope [] kws f fd) (S : FnScope N ps scope) (len : ∀ ds d, g ds d → ds.length = ps.length)
    (hbody : ∀ (cdv : Value) (A : Around) (outer : List Env) (s : Shared) (H : Hp) (E : XK) (ds : List D) (d : D), Room k (A.deeper (envOfC qual scope s.heap.objs.size f cdv)) → g ds d →
      Sxs (cxOf CX0 P w K mg base N qual scope f cdv A outer s H E).nox body (startB N.length ds) { nx := fun _ => d = .none, rt := fun r _ => r = d }) : FnD P w K mg base (k + 1) f fd ps g := by
  refine F.ok S (fun vs H Q E ⟨ds, d, r, hg, _⟩ => by rw [r.length]; exact len ds d hg) (fun cdv A outer s H vs Q E hr ⟨ds, d, r, hg, q⟩ => ?_)
  refine ⟨_, PSs.nox pss_c, hbody cdv A outer s H E ds d hr hg (Ent.of H) H (L2.start N vs) H _ ⟨fun _ _ e _ => e, .refl _, sok_start r, fun i b v L x e1 _ o1 => ?_, fun i T e1 => ?_⟩ ⟨fun ρ σ H' S' e => ?_, fun r' v ρ σ H' s' rp e => ?_, fun _ _ _ _ z => z.elim, fun _ _ _ _ z => z.elim, fun _ _ _ _ _ _ z => z.elim, fun _ z => nomatch z⟩⟩
  · exfalso
    unfold startB at e1
    by_cases hi : i < ds.length
    · rw [List.getElem?_append_left (by simpa using hi), List.getElem?_map] at e1
      cases q : ds[i]? with
      | none => rw [q] at e1; cases e1
      | some d => rw [q] at e1; cases e1; cases o1
    · rw [List.getElem?_append_right (by simpa using hi), List.getElem?_replicate] at e1
      split at e1 <;> cases e1
      cases o1
  · exfalso
    unfold startB at e1
    by_cases hi : i < ds.length
    · rw [List.getElem?_append_left (by simpa using hi), List.getElem?_map] at e1
      cases q : ds[i]? with
      | none => rw [q] at e1; cases e1
      | some d => rw [q] at e1; cases e1
    · rw [List.getElem?_append_right (by simpa using hi), List.getElem?_replicate] at e1
      split at e1 <;> cases e1
  · subst e
    exact q _ _ S'.same.same .non
  · subst e
    obtain ⟨_, S'⟩ := s'
    exact q _ _ S'.same.same rp
end
end DL


namespace DL
open PySem PySem.Spec PyProof.Rows L2
section
variable {X : Cx} {ρ : Rho} {e a b c : Expr} {d x y z : D} {ds es : List D} {k : Kd}
/-! ### ints -/
theorem o_add {i j : Int} : OpV X (binaryOp .Add) (.int i) (.int j) (.val (.int (i + j))) := fun H u v Q ru rv q => ⟨_, op_add, i, j, ru.int, rv.int, q _ H ⟨.refl H, .int _⟩⟩
theorem o_sub {i j : Int} : OpV X (binaryOp .Sub) (.int i) (.int j) (.val (.int (i - j))) := fun H u v Q ru rv q => ⟨_, op_sub, i, j, ru.int, rv.int, q _ H ⟨.refl H, .int _⟩⟩
theorem o_mul {i j : Int} (hc : CMul i j) : OpV X (binaryOp .Mult) (.int i) (.int j) (.val (.int (i * j))) := fun H u v Q ru rv q => ⟨_, op_mul, i, j, ru.int, rv.int, hc, q _ H ⟨.refl H, .int _⟩⟩
theorem o_div {i j : Int} (hc : CDiv i j) : OpV X (binaryOp .FloorDiv) (.int i) (.int j) (.val (.int (i / j))) := fun H u v Q ru rv q => ⟨_, op_fdiv, i, j, ru.int, rv.int, hc, q _ H ⟨.refl H, .int _⟩⟩
theorem o_mod {i j : Int} (hc : 0 < j) : OpV X (binaryOp .Mod) (.int i) (.int j) (.val (.int (i % j))) := fun H u v Q ru rv q => ⟨_, op_mod, i, j, ru.int, rv.int, hc, q _ H ⟨.refl H, .int _⟩⟩
theorem o_lt {i j : Int} : OpV X (compareOp .Lt) (.int i) (.int j) (.val (.bool (decide (i < j)))) := fun H u v Q ru rv q => ⟨_, op_lt, i, j, ru.int, rv.int, q _ H ⟨.refl H, .bl _⟩⟩
theorem o_le {i j : Int} : OpV X (compareOp .LtE) (.int i) (.int j) (.val (.bool (decide (i ≤ j)))) := fun H u v Q ru rv q => ⟨_, op_le, i, j, ru.int, rv.int, q _ H ⟨.refl H, .bl _⟩⟩
theorem o_gt {i j : Int} : OpV X (compareOp .Gt) (.int i) (.int j) (.val (.bool (decide (j < i)))) := fun H u v Q ru rv q => ⟨_, op_gt, i, j, ru.int, rv.int, q _ H ⟨.refl H, .bl _⟩⟩
theorem o_ge {i j : Int} : OpV X (compareOp .GtE) (.int i) (.int j) (.val (.bool (decide (j ≤ i)))) := fun H u v Q ru rv q => ⟨_, op_ge, i, j, ru.int, rv.int, q _ H ⟨.refl H, .bl _⟩⟩
/-! ### texts -/
theorem o_adds {i j : Str} (h : i.length + j.length ≤ sizeLine) : OpV X (binaryOp .Add) (.str i) (.str j) (.val (.str (i ++ j))) := fun H u v Q ru rv q => ⟨_, op_add_str, i, j, ru.str, rv.str, h, q _ H ⟨.refl H, .str _⟩⟩
theorem o_lts {i j : Str} : OpV X (compareOp .Lt) (.str i) (.str j) (.val (.bool (decide (i.cps.toList < j.cps.toList)))) := fun H u v Q ru rv q => ⟨_, op_lt_str, i, j, ru.str, rv.str, q _ H ⟨.refl H, .bl _⟩⟩
theorem o_les {i j : Str} : OpV X (compareOp .LtE) (.str i) (.str j) (.val (.bool (!decide (j.cps.toList < i.cps.toList)))) := fun H u v Q ru rv q => ⟨_, op_le_str, i, j, ru.str, rv.str, q _ H ⟨.refl H, .bl _⟩⟩
/-! ### None -/
def isNon : D → Bool
  | .none => true
  | _ => false
theorem isNon_iff {d : D} : isNon d = true ↔ d = .none := by cases d <;> simp [isNon]
theorem isNon_dec {K : PySem.W.Frag} {H : Hp} {v : V} (h : Rq K H v d) : decide (v = .non) = isNon d := by
  have := h.is_non
  cases e : isNon d with
  | true => exact decide_eq_true (this.mpr (isNon_iff.mp e))
  | false => exact decide_eq_false fun z => by rw [isNon_iff.mpr (this.mp z)] at e; cases e
theorem o_isN : OpV X (compareOp .Is) x .none (.val (.bool (isNon x))) := fun H u v Q ru rv q => ⟨_, op_isN, rv.non, by rw [isNon_dec ru]; exact q _ H ⟨.refl H, .bl _⟩⟩
theorem o_notN : OpV X (compareOp .IsNot) x .none (.val (.bool (!isNon x))) := fun H u v Q ru rv q => ⟨_, op_notN, rv.non, by rw [isNon_dec ru]; exact q _ H ⟨.refl H, .bl _⟩⟩
/-! ### == and != -/
mutual
theorem lay_nod : ∀ {d : D}, d.canLay0 = true → nod d = true
  | .none, _ => rfl
  | .bool _, _ => rfl
  | .int _, _ => rfl
  | .str _, _ => rfl
  | .list xs, h => by
    simp only [PyData.canLay0] at h
    simp only [nod]; exact lay_nods h
  | .tuple xs, h => by
    simp only [PyData.canLay0] at h
    simp only [nod]; exact lay_nods h
  | .dict _, h => by simp [PyData.canLay0] at h
theorem lay_nods : ∀ {ds : List D}, PyData.canLayAll0 ds = true → nods ds = true
  | [], _ => rfl
  | d :: ds, h => by
    simp only [PyData.canLayAll0, Bool.and_eq_true] at h
    simp only [nods, Bool.and_eq_true]; exact ⟨lay_nod h.1, lay_nods h.2⟩
end
/-- plain data of some depth at most -/
structure Pl (n : Nat) (d : D) : Prop where
  lay : d.canLay0 = true
  dep : d.depth ≤ n
theorem Pl.sh {n : Nat} (h : Pl n d) (hn : n ≤ 64 := by decide) : SeqAt.shaped d = true := by
  unfold SeqAt.shaped
  rw [h.lay, decide_eq_true (Nat.le_trans h.dep hn)]; rfl
theorem Pl.mono {n m : Nat} (h : Pl n d) (hn : n ≤ m) : Pl m d := ⟨h.lay, Nat.le_trans h.dep hn⟩
theorem pl_int {n : Nat} {i : Int} : Pl n (.int i) := ⟨by simp [PyData.canLay0], by simp [PyData.depth]⟩
theorem pl_bool {n : Nat} {i : Bool} : Pl n (.bool i) := ⟨by simp [PyData.canLay0], by simp [PyData.depth]⟩
theorem pl_none {n : Nat} : Pl n .none := ⟨by simp [PyData.canLay0], by simp [PyData.depth]⟩
theorem pl_str {n : Nat} {s : Str} (h : PyData.strOk s = true) : Pl n (.str s) := ⟨by simpa [PyData.canLay0] using h, by simp [PyData.depth]⟩
def PlAll (n : Nat) (ds : List D) : Prop := ∀ d ∈ ds, Pl n d
theorem PlAll.lay {n : Nat} : ∀ {ds : List D}, PlAll n ds → PyData.canLayAll0 ds = true
  | [], _ => by simp [PyData.canLayAll0]
  | d :: ds, h => by
    simp only [PyData.canLayAll0, Bool.and_eq_true]
    exact ⟨(h d List.mem_cons_self).lay, PlAll.lay fun x hx => h x (List.mem_cons_of_mem _ hx)⟩
theorem PlAll.dep {n : Nat} : ∀ {ds : List D}, PlAll n ds → PyData.depthAll ds ≤ n
  | [], _ => by simp [PyData.depthAll]
  | d :: ds, h => by
    simp only [PyData.depthAll]
    exact Nat.max_le.mpr ⟨(h d List.mem_cons_self).dep, PlAll.dep fun x hx => h x (List.mem_cons_of_mem _ hx)⟩
theorem pl_tup {n : Nat} (h : PlAll n ds) : Pl (n + 1) (.tuple ds) := ⟨by simpa [PyData.canLay0] using h.lay, by simpa [PyData.depth] using h.dep⟩
theorem pl_lst {n : Nat} (h : PlAll n ds) : Pl (n + 1) (.list ds) := ⟨by simpa [PyData.canLay0] using h.lay, by simpa [PyData.depth] using h.dep⟩
theorem pla_nil {n : Nat} : PlAll n [] := fun _ h => nomatch h
theorem pla_cons {n : Nat} (h : Pl n d) (t : PlAll n ds) : PlAll n (d :: ds) := fun x hx => by
  rcases List.mem_cons.mp hx with rfl | hx
  · exact h
  · exact t x hx
theorem pla_map {n : Nat} {α : Type} {f : α → D} {l : List α} (h : ∀ a ∈ l, Pl n (f a)) : PlAll n (l.map f) := fun x hx => by
  obtain ⟨a, ha, rfl⟩ := List.mem_map.mp hx
  exact h a ha
theorem o_eqD {n m : Nat} (hx : Pl n x) (hy : Pl m y) (hu : X.A.units + 64 < cLine) (hn : n ≤ 64 := by decide) (hm : m ≤ 64 := by decide) : OpV X (compareOp .Eq) x y (.val (.bool (PyData.eqv x y))) := fun H u v Q ru rv q =>
  ⟨_, op_eqD hu, x, y, ru.dp (lay_nod hx.lay), rv.dp (lay_nod hy.lay), hx.sh hn, hy.sh hm, q _ H ⟨.refl H, .bl _⟩⟩
theorem o_neD {n m : Nat} (hx : Pl n x) (hy : Pl m y) (hu : X.A.units + 64 < cLine) (hn : n ≤ 64 := by decide) (hm : m ≤ 64 := by decide) : OpV X (compareOp .NotEq) x y (.val (.bool (!PyData.eqv x y))) := fun H u v Q ru rv q =>
  ⟨_, op_neD hu, x, y, ru.dp (lay_nod hx.lay), rv.dp (lay_nod hy.lay), hx.sh hn, hy.sh hm, q _ H ⟨.refl H, .bl _⟩⟩
/-- scalars -/
def scD : D → D → Bool
  | .none, .none => true | .none, .int _ => true | .int _, .none => true | .none, .bool _ => true | .bool _, .none => true | .none, .str _ => true | .str _, .none => true
  | .int _, .int _ => true | .bool _, .bool _ => true | .str _, .str _ => true
  | .int _, .str _ => true | .str _, .int _ => true | .bool _, .str _ => true | .str _, .bool _ => true
  | _, _ => false
theorem sc_ok {K : PySem.W.Frag} {H : Hp} {u v : V} (hs : scD x y = true) (ru : Rq K H u x) (rv : Rq K H v y) : scal u v = true ∧ decide (u = v) = PyData.eqv x y := by
  cases x <;> cases y <;> first
    | (exfalso; exact Bool.noConfusion hs)
    | skip
  all_goals first
    | (cases ru.non) | (cases ru.int) | (cases ru.str) | (cases ru.bl)
  all_goals first
    | (cases rv.non) | (cases rv.int) | (cases rv.str) | (cases rv.bl)
  all_goals refine ⟨rfl, ?_⟩
  all_goals first
    | (simp [PyData.eqv]; done)
    | (rw [dec_int]; simp [PyData.eqv]; done)
    | (rw [dec_str]; simp [PyData.eqv]; done)
    | (rw [dec_bl]; simp [PyData.eqv]; done)
theorem o_eq (hs : scD x y = true := by rfl) : OpV X (compareOp .Eq) x y (.val (.bool (PyData.eqv x y))) := fun H u v Q ru rv q => by
  obtain ⟨h1, h2⟩ := sc_ok hs ru rv
  exact ⟨_, op_eq, h1, by rw [h2]; exact q _ H ⟨.refl H, .bl _⟩⟩
theorem o_ne (hs : scD x y = true := by rfl) : OpV X (compareOp .NotEq) x y (.val (.bool (!PyData.eqv x y))) := fun H u v Q ru rv q => by
  obtain ⟨h1, h2⟩ := sc_ok hs ru rv
  exact ⟨_, op_ne, h1, by rw [h2]; exact q _ H ⟨.refl H, .bl _⟩⟩
/-! ### in -/
theorem o_in {n m : Nat} (hx : Pl n x) (hy : PlAll m ds) (hu : X.A.units + 65 < cLine) (hn : n ≤ 64 := by decide) (hm : m ≤ 63 := by decide) : OpV X (compareOp .In) x (.list ds) (.val (.bool (ds.any fun z => PyData.eqv z x))) := fun H u v Q ru rv q =>
  ⟨_, op_inD hu, x, ds, ru.dp (lay_nod hx.lay), rv.dp (lay_nod (pl_lst hy).lay), hx.sh hn, (pl_lst hy).sh (by omega), q _ H ⟨.refl H, .bl _⟩⟩
theorem o_nin {n m : Nat} (hx : Pl n x) (hy : PlAll m ds) (hu : X.A.units + 65 < cLine) (hn : n ≤ 64 := by decide) (hm : m ≤ 63 := by decide) : OpV X (compareOp .NotIn) x (.list ds) (.val (.bool (!ds.any fun z => PyData.eqv z x))) := fun H u v Q ru rv q =>
  ⟨_, op_notInD hu, x, ds, ru.dp (lay_nod hx.lay), rv.dp (lay_nod (pl_lst hy).lay), hx.sh hn, (pl_lst hy).sh (by omega), q _ H ⟨.refl H, .bl _⟩⟩
theorem op_inTD (hu : X.A.units + 65 < cLine) : OpR X (compareOp .In) (fun x y H Q => ∃ d ds, Dp X.K H x d ∧ Dp X.K H y (.tuple ds) ∧ SeqAt.shaped d = true ∧ SeqAt.shaped (.tuple ds) = true ∧ Q (.bl (ds.any fun z => PyData.eqv z d)) H) := by
  intro pins s σ H x y v u Q I rx ry h
  obtain ⟨d, ds, hd, he, sd, se, q⟩ := h
  obtain ⟨as, r1⟩ := Dp.reads I d x v hd rx
  obtain ⟨bs, r2⟩ := Dp.reads I (.tuple ds) y u he ry
  exact SeqAt.in_tuple_reads r2 r1 (SeqAt.canLay_of_shaped se) (SeqAt.canLay_of_shaped sd) (room_in_shaped sd hu) ⟨.bl _, H, I, rfl, q⟩
theorem op_ninTD (hu : X.A.units + 65 < cLine) : OpR X (compareOp .NotIn) (fun x y H Q => ∃ d ds, Dp X.K H x d ∧ Dp X.K H y (.tuple ds) ∧ SeqAt.shaped d = true ∧ SeqAt.shaped (.tuple ds) = true ∧ Q (.bl (!ds.any fun z => PyData.eqv z d)) H) := by
  intro pins s σ H x y v u Q I rx ry h
  obtain ⟨d, ds, hd, he, sd, se, q⟩ := h
  obtain ⟨as, r1⟩ := Dp.reads I d x v hd rx
  obtain ⟨bs, r2⟩ := Dp.reads I (.tuple ds) y u he ry
  exact SeqAt.notIn_tuple_reads r2 r1 (SeqAt.canLay_of_shaped se) (SeqAt.canLay_of_shaped sd) (room_in_shaped sd hu) ⟨.bl _, H, I, rfl, q⟩
theorem o_inT {n m : Nat} (hx : Pl n x) (hy : PlAll m ds) (hu : X.A.units + 65 < cLine) (hn : n ≤ 64 := by decide) (hm : m ≤ 63 := by decide) : OpV X (compareOp .In) x (.tuple ds) (.val (.bool (ds.any fun z => PyData.eqv z x))) := fun H u v Q ru rv q =>
  ⟨_, op_inTD hu, x, ds, ru.dp (lay_nod hx.lay), rv.dp (lay_nod (pl_tup hy).lay), hx.sh hn, (pl_tup hy).sh (by omega), q _ H ⟨.refl H, .bl _⟩⟩
theorem o_ninT {n m : Nat} (hx : Pl n x) (hy : PlAll m ds) (hu : X.A.units + 65 < cLine) (hn : n ≤ 64 := by decide) (hm : m ≤ 63 := by decide) : OpV X (compareOp .NotIn) x (.tuple ds) (.val (.bool (!ds.any fun z => PyData.eqv z x))) := fun H u v Q ru rv q =>
  ⟨_, op_ninTD hu, x, ds, ru.dp (lay_nod hx.lay), rv.dp (lay_nod (pl_tup hy).lay), hx.sh hn, (pl_tup hy).sh (by omega), q _ H ⟨.refl H, .bl _⟩⟩
/-! ### tuples put together, cut -/
theorem op_catP : OpR X (binaryOp .Add) (fun x y H Q => ∃ a b xs ys, x = .ref a ∧ y = .ref b ∧ SqT X.K H a xs ∧ SqT X.K H b ys ∧ xs.length + ys.length ≤ sizeLine ∧
    (xs = [] → Q (.ref b) H) ∧ (xs ≠ [] → ys = [] → Q (.ref a) H) ∧ (xs ≠ [] → ys ≠ [] → ∀ p o, H p = none → o.dict = none → Q (.ref p) (upd H p (.frz o (.tup (xs ++ ys)))))) := by
  intro pins s σ H x y v u Q I rx ry h
  obtain ⟨a, b, xs, ys, rfl, rfl, ha, hb, hz, q0, q1, q2⟩ := h
  cases rx
  cases ry
  obtain ⟨its, r1, p1, _⟩ := I.tuple ha
  obtain ⟨its2, r2, p2, _⟩ := I.tuple hb
  by_cases hx : xs = []
  · subst hx
    cases r1
    exact cat_tup0 p1 p2 ⟨.ref b, H, I, rfl, q0 rfl⟩
  · have hi : its ≠ [] := fun z => hx ((Vals.nil_iff r1).mp z)
    refine HT.cat_tup p1 p2 hi (fun z => ⟨.ref a, H, I, rfl, q1 hx ((Vals.nil_iff r2).mp z)⟩) (fun z => ?_) (by rw [← r1.length, ← r2.length]; exact hz)
    exact ⟨.ref s.heap.objs.size, _, inv_tup (t' := s.toks) I (fun b u e => Heap.get?_push_of_some _ e) (Nat.le_refl _) (Heap.get?_push_size _ rfl) rfl rfl (r1.append r2) (by rw [List.length_append]; exact hz), rfl, q2 hx (fun w => z ((Vals.nil_iff r2).mpr w)) _ _ (I.hok.fresh (Nat.le_refl _)) rfl⟩
theorem o_addT (h : ds.length + es.length ≤ sizeLine) : OpV X (binaryOp .Add) (.tuple ds) (.tuple es) (.val (.tuple (ds ++ es))) := fun H u v Q ru rv q => by
  have ru0 := ru
  have rv0 := rv
  obtain ⟨a, xs, rfl, hs, hr⟩ := ru.tup
  obtain ⟨b, ys, rfl, hs2, hr2⟩ := rv.tup
  refine ⟨_, op_catP, a, b, xs, ys, rfl, rfl, hs, hs2, by rw [hr.length, hr2.length]; exact h, fun e => ?_, fun _ e => ?_, fun _ _ p o hp ho => ?_⟩
  · subst e
    cases hr
    cases rv0 with | of r => exact q _ H ⟨.refl H, r⟩
  · subst e
    cases hr2
    rw [List.append_nil] at q
    cases ru0 with | of r => exact q _ H ⟨.refl H, r⟩
  · exact q _ _ ⟨same_new hp, rp_tupNew hp ho (hr.append hr2)⟩
/-- xs[lo:hi] of data -/
def cutD (ds : List D) (lo hi : Option Int) : List D := (ds.drop (HT.sIx ds.length 0 lo)).take (HT.sIx ds.length ds.length hi - HT.sIx ds.length 0 lo)
theorem cut_rp {K : PySem.W.Frag} {H : Hp} {xs : List V} {lo hi : Option Int} (r : RpAll K H xs ds) : RpAll K H (cutV xs lo hi) (cutD ds lo hi) := by
  unfold cutV cutD
  rw [r.length]
  exact (r.drop _).take _
theorem cutD_whole {lo hi : Option Int} (h : HT.sIx ds.length 0 lo = 0 ∧ HT.sIx ds.length ds.length hi = ds.length) : cutD ds lo hi = ds := by
  unfold cutD
  rw [h.1, h.2]
  simp
theorem sl_tupP : SlR X (fun x lo hi H Q => ∃ a xs, x = .ref a ∧ SqT X.K H a xs ∧ (HT.sIx xs.length 0 lo = 0 ∧ HT.sIx xs.length xs.length hi = xs.length → Q (.ref a) H) ∧ (∀ p o, H p = none → o.dict = none → Q (.ref p) (upd H p (.frz o (.tup (cutV xs lo hi)))))) := by
  intro pins s σ H x v vl vu lo hi sl Q I rx hs pl pu h
  obtain ⟨a, xs, rfl, hx, q1, q2⟩ := h
  cases rx
  obtain ⟨its, r, ht, hz⟩ := I.tuple hx
  have hlen : its.toArray.size = xs.length := by rw [List.size_toArray]; exact r.length.symm
  refine ⟨"tuple", _, PyProof.Rows.slot_tuple_getitem.lookup, ht.typeIs, ?_⟩
  by_cases hw : HT.sIx xs.length 0 lo = 0 ∧ HT.sIx xs.length xs.length hi = xs.length
  · exact getItem_tuple_whole ht hs pl pu (by rw [hlen]; exact hw) ⟨.ref a, H, I, rfl, q1 hw⟩
  · refine HT.getItem_tuple_cut ht hs pl pu (by rw [hlen]; exact hw) ?_ (by rw [hlen]; exact hz)
    rw [hlen]
    exact ⟨.ref s.heap.objs.size, _, inv_tup (t' := s.toks) I (fun b u e => Heap.get?_push_of_some _ e) (Nat.le_refl _) (Heap.get?_push_size _ rfl) rfl rfl ((r.drop (HT.sIx xs.length 0 lo)).take (HT.sIx xs.length xs.length hi - HT.sIx xs.length 0 lo)) (Nat.le_trans (cutV_length xs lo hi) hz), rfl, q2 _ _ (I.hok.fresh (Nat.le_refl _)) rfl⟩
theorem s_tup {lo hi : Option Int} : SlV X (.tuple ds) lo hi (.val (.tuple (cutD ds lo hi))) := fun H u Q ru q => by
  have ru0 := ru
  obtain ⟨a, xs, rfl, hs, hr⟩ := ru.tup
  refine ⟨_, sl_tupP, a, xs, rfl, hs, fun e => ?_, fun p o hp ho => q _ _ ⟨same_new hp, rp_tupNew hp ho (cut_rp hr)⟩⟩
  rw [hr.length] at e
  rw [cutD_whole e] at q
  cases ru0 with | of r => exact q _ H ⟨.refl H, r⟩
theorem s_lst {lo hi : Option Int} : SlV X (.list ds) lo hi (.new (cutD ds lo hi)) := fun H u Q ru q => by
  obtain ⟨a, xs, rfl, hs, hr⟩ := ru.lst
  exact ⟨_, sl_list, a, xs, rfl, hs, fun p hp => q _ _ ⟨same_new hp, p, _, rfl, hp, upd_same, (cut_rp hr).mono (stb_new hp)⟩⟩
theorem cut_from {n : Nat} : cutD ds (some (n : Int)) none = ds.drop n := by
  unfold cutD
  rw [HT.sIx_nat, HT.sIx_none]
  apply List.ext_getElem?
  intro i
  by_cases h : n ≤ ds.length
  · rw [Nat.min_eq_left h, List.take_of_length_le (by rw [List.length_drop]; omega)]
  · rw [Nat.min_eq_right (by omega), List.drop_of_length_le (by omega), List.drop_of_length_le (by omega)]; simp
theorem cut_to {n : Nat} : cutD ds none (some (n : Int)) = ds.take n := by
  unfold cutD
  rw [HT.sIx_nat, HT.sIx_none]
  simp only [List.drop_zero, Nat.sub_zero]
  by_cases h : n ≤ ds.length
  · rw [Nat.min_eq_left h]
  · rw [Nat.min_eq_right (by omega), List.take_length, List.take_of_length_le (by omega)]
theorem cut_last : cutD ds none (some (-1)) = ds.dropLast := by
  unfold cutD
  rw [HT.sIx_none, List.dropLast_eq_take, List.drop_zero, Nat.sub_zero]
  congr 1
  unfold HT.sIx
  simp only
  split <;> omega
/-! ### lists put together -/
theorem op_catL : OpR X (binaryOp .Add) (fun x y H Q => ∃ l b xs zs, x = .ref l ∧ y = .ref b ∧ SqL X.K H l xs ∧ SqL X.K H b zs ∧ xs.length + zs.length ≤ sizeLine ∧ ∀ p, H p = none → Q (.ref p) (upd H p (.lst (xs ++ zs)))) := by
  intro pins s σ H x y v u Q I rx ry h
  obtain ⟨l, b, xs, zs, rfl, rfl, hl, hb, hz, q⟩ := h
  cases rx
  cases ry
  obtain ⟨its, r, p1, _⟩ := I.list hl
  obtain ⟨its2, r2, p2, _⟩ := I.list hb
  have l1 := r.length
  have l2 := r2.length
  obtain ⟨⟨cls, dd, data, sl⟩, ho, hc, n, hd⟩ := p1.isList
  obtain ⟨⟨cls2, dd2, data2, sl2⟩, ho2, hc2, n2, hd2⟩ := p2.isList
  simp only at hc hd hc2 hd2
  subst hc hd hc2 hd2
  have e : its.toArray ++ its2.toArray = (its ++ its2).toArray := by simp
  refine concat_meets ⟨_, ho, rfl⟩ ⟨_, ho2, rfl⟩ noFill_list_add seq_list_add PySem.F.slot_list_add PySem.F.entry_list_add (PySem.F.args_list_add_2 _ _) (list_addW l b its.toArray its2.toArray n n2 dd dd2 sl sl2 (by rw [List.size_toArray, List.size_toArray]; omega)) ⟨ho, ho2, ?_⟩
  rw [e]
  exact ⟨.ref _, _, I.lnew (t' := s.toks) (r.append r2) (by rw [List.length_append]; omega), rfl, q _ I.fresh⟩
theorem o_addL (h : ds.length + es.length ≤ sizeLine) : OpV X (binaryOp .Add) (.list ds) (.list es) (.new (ds ++ es)) := fun H u v Q ru rv q => by
  obtain ⟨a, xs, rfl, hs, hr⟩ := ru.lst
  obtain ⟨b, ys, rfl, hs2, hr2⟩ := rv.lst
  exact ⟨_, op_catL, a, b, xs, ys, rfl, rfl, hs, hs2, by rw [hr.length, hr2.length]; exact h, fun p hp => q _ _ ⟨same_new hp, p, _, rfl, hp, upd_same, (hr.append hr2).mono (stb_new hp)⟩⟩
/-! ### built-ins -/
theorem paired1 {K : PySem.W.Frag} {H : Hp} {vs : List V} (h : Paired (Rq K H) vs [x]) : ∃ v, vs = [v] ∧ Rq K H v x := by
  cases h with | cons a t => cases t; exact ⟨_, rfl, a⟩
theorem paired2 {K : PySem.W.Frag} {H : Hp} {vs : List V} (h : Paired (Rq K H) vs [x, y]) : ∃ v w, vs = [v, w] ∧ Rq K H v x ∧ Rq K H w y := by
  cases h with | cons a t => cases t with | cons b t => cases t; exact ⟨_, _, rfl, a, b⟩
theorem c_lenL : CallV X (.builtin "len") [.list ds] (.val (.int (ds.length : Nat))) := fun H vs Q r q => by
  obtain ⟨v, rfl, r0⟩ := paired1 r
  obtain ⟨a, xs, rfl, hs, hr⟩ := r0.lst
  exact ⟨_, call_len_seq, a, xs, rfl, .inl hs, by rw [hr.length]; exact q _ H ⟨.refl H, .int _⟩⟩
theorem c_lenT : CallV X (.builtin "len") [.tuple ds] (.val (.int (ds.length : Nat))) := fun H vs Q r q => by
  obtain ⟨v, rfl, r0⟩ := paired1 r
  obtain ⟨a, xs, rfl, hs, hr⟩ := r0.tup
  exact ⟨_, call_len_seq, a, xs, rfl, .inr hs, by rw [hr.length]; exact q _ H ⟨.refl H, .int _⟩⟩
theorem c_lenS {s : Str} (h : s.length ≤ sizeLine) : CallV X (.builtin "len") [.str s] (.val (.int (s.length : Nat))) := fun H vs Q r q => by
  obtain ⟨v, rfl, r0⟩ := paired1 r
  exact ⟨_, call_len_str, s, by rw [r0.str], h, q _ H ⟨.refl H, .int _⟩⟩
theorem c_listT : CallV X (.type "list") [.tuple ds] (.new ds) := fun H vs Q r q => by
  obtain ⟨v, rfl, r0⟩ := paired1 r
  obtain ⟨a, xs, rfl, hs, hr⟩ := r0.tup
  exact ⟨_, call_list_of, a, xs, rfl, .inr hs, fun l hl => q _ _ ⟨same_new hl, l, _, rfl, hl, upd_same, hr.mono (stb_new hl)⟩⟩
theorem c_listL : CallV X (.type "list") [.list ds] (.new ds) := fun H vs Q r q => by
  obtain ⟨v, rfl, r0⟩ := paired1 r
  obtain ⟨a, xs, rfl, hs, hr⟩ := r0.lst
  exact ⟨_, call_list_of, a, xs, rfl, .inl hs, fun l hl => q _ _ ⟨same_new hl, l, _, rfl, hl, upd_same, hr.mono (stb_new hl)⟩⟩
theorem call_tupleF : CallR X (.type "tuple") (fun xs H Q => ∃ p ys, xs = [.ref p] ∧ SqL X.K H p ys ∧ ∀ l o, H l = none → o.dict = none → Q (.ref l) (upd H l (.frz o (.tup ys)))) := by
  intro pins s σ H xs us Q I r h
  obtain ⟨p, ys, rfl, hq, q⟩ := h
  obtain ⟨u, rfl, rx⟩ := vals1 r
  cases rx
  obtain ⟨its, r', pl, hz⟩ := I.list hq
  have hlen := r'.length
  refine call_tuple_list pl.isList (fun h' kp => ?_) (by simp only [List.size_toArray] <;> omega)
  have I1 : Inv X pins σ H { s with heap := h' } := I.kept (t' := s.toks) kp
  have I2 := inv_tup (s := { s with heap := h' }) (h' := h'.push { cls := .type "tuple", data := .seq its.toArray }) (p := h'.objs.size) (t' := s.toks) I1 (fun b o e => Heap.get?_push_of_some _ e) (Nat.le_refl _) (Heap.get?_push_size _ rfl) rfl rfl r' hz
  exact ⟨.ref h'.objs.size, _, I2, rfl, q _ _ (I1.hok.fresh (Nat.le_refl _)) rfl⟩
theorem c_tupleL : CallV X (.type "tuple") [.list ds] (.val (.tuple ds)) := fun H vs Q r q => by
  obtain ⟨v, rfl, r0⟩ := paired1 r
  obtain ⟨a, xs, rfl, hs, hr⟩ := r0.lst
  exact ⟨_, call_tupleF, a, xs, rfl, hs, fun l o hl ho => q _ _ ⟨same_new hl, rp_tupNew hl ho hr⟩⟩
theorem c_int {i : Int} : CallV X (.type "int") [.int i] (.val (.int i)) := fun H vs Q r q => by
  obtain ⟨v, rfl, r0⟩ := paired1 r
  exact ⟨_, call_int1, .inl ⟨i, by rw [r0.int], q _ H ⟨.refl H, .int _⟩⟩⟩
theorem c_intB {i : Bool} : CallV X (.type "int") [.bool i] (.val (.int (if i then 1 else 0))) := fun H vs Q r q => by
  obtain ⟨v, rfl, r0⟩ := paired1 r
  exact ⟨_, call_int1, .inr ⟨i, by rw [r0.bl], q _ H ⟨.refl H, .int _⟩⟩⟩
theorem c_min {i j : Int} (hc : X.calm = true := by rfl) : CallV X (.builtin "min") [.int i, .int j] (.val (.int (if j < i then j else i))) := fun H vs Q r q => by
  obtain ⟨v, w, rfl, r1, r2⟩ := paired2 r
  exact ⟨_, call_min2 hc, i, j, by rw [r1.int, r2.int], q _ H ⟨.refl H, .int _⟩⟩
theorem c_max {i j : Int} (hc : X.calm = true := by rfl) : CallV X (.builtin "max") [.int i, .int j] (.val (.int (if j > i then j else i))) := fun H vs Q r q => by
  obtain ⟨v, w, rfl, r1, r2⟩ := paired2 r
  exact ⟨_, call_max2 hc, i, j, by rw [r1.int, r2.int], q _ H ⟨.refl H, .int _⟩⟩
theorem c_str {i : Int} (h : i.natAbs.log2 < 1920) : CallV X (.type "str") [.int i] (.val (.str (toString i))) := fun H vs Q r q => by
  obtain ⟨v, rfl, r0⟩ := paired1 r
  exact ⟨_, call_str_int, i, by rw [r0.int], h, q _ H ⟨.refl H, .str _⟩⟩
end
end DL


namespace PySem
theorem dl_draws_tuple {prog : Program} {w : World} {A : Around} (hh : A.handled = none) (it l : Addr) (hne : l ≠ it) (items : Array Value) :
    Draws prog w A it [it, l] items.size (fun i v => items[i]? = some v) (fun i h => h.IsTupleIter it l i ∧ h.IsTuple l items) where
  live := fun _ _ st => let ⟨o, ho, _⟩ := st.1; ⟨o, ho⟩
  frame := fun _ _ _ st hk => ⟨st.1.at fun o e => hk it (by simp) o e, st.2.at fun o e => hk l (by simp) o e⟩
  item := fun i s Q E hi st hQ => by
    refine RZ.nextOf_tuple_item st.1 st.2 (x := items[i]) (by simp [hi]) fun h' hit' hs' => ?_
    exact hQ _ h' s.toks (by simp [hi]) ⟨hit', st.2.at fun o e => (hs'.2 l hne).trans e⟩ hs'
  done := fun s Q E st hE => RZ.nextOf_tuple_end hh st.1 st.2 (by simp) hE
set_option maxHeartbeats 1000000 in
theorem dl_meets_enum {v : Value} {o : Obj} {H : Heap → Prop} (B : Begins v o H) :
    Meets (Builtin.«enumerate.__new__» ⟨[.type "enumerate", v], []⟩) (fun _ R s => H s.heap ∧
      R (.ok (.ret (.ref (s.heap.push o).objs.size))) { s with heap := (s.heap.push o).push { cls := .type "enumerate", data := .fields #[.none, .bool false, .ref s.heap.objs.size, rawInt 0, .none, .none] } }) :=
  .of_wp fun prog w A R s h => by
    obtain ⟨hp, g, d, tk, os⟩ := s; obtain ⟨h1, h⟩ := h
    have hsub := sub_enumerate
    have q1 : ∀ {A' : Around} {E : Value → Shared → Prop} {Q : Value → Shared → Prop}, Q (.ref hp.objs.size) ⟨hp.push o, g, d, tk, os⟩ → wpAny (model prog w) A' (pyIter v) Q E ⟨hp, g, d, tk, os⟩ :=
      fun q => B.iter prog w _ _ ⟨hp, g, d, tk, os⟩ _ h1 q
    wp_walk using q1
    refine wpAny_stack_any fun st => wpAny_pure ?_
    split
    · rename_i c _ _ _ _ _
      cases (c == Value.type "enumerate")
      · wp_walk using q1
        exact ⟨_, rfl, h⟩
      · wp_walk using q1
        exact ⟨_, rfl, h⟩
    · wp_walk using q1
      exact ⟨_, rfl, h⟩
section
variable {prog : Program} {w : World} {A : Around} {E : Value → Shared → Prop} {s : Shared}
theorem dl_enum_begins {v : Value} {o : Obj} {H : Heap → Prop} {Q : Value → Shared → Prop} (B : Begins v o H) (h1 : H s.heap)
    (h : ∀ h', IsEnum h' (s.heap.objs.size + 1) s.heap.objs.size 0 .none → h'.get? s.heap.objs.size = some o → h'.objs.size = s.heap.objs.size + 2 →
      (∀ b o, s.heap.get? b = some o → h'.get? b = some o) → Q (.ref (s.heap.objs.size + 1)) { s with heap := h' }) :
    wpAny (model prog w) A (call (.type "enumerate") [v]) Q E s := by
  refine callType_new F.called_enumerate (by decide) (F.typeCall_enumerate_1 _) (F.newCall_enumerate_1 _) (fun obj => F.args_object_init_2 obj _) F.entry_enumerate_new
    (dl_meets_enum B) ⟨h1, ?_⟩
  have hz : (s.heap.push o).objs.size = s.heap.objs.size + 1 := Heap.size_push ..
  show _ ∧ _
  rw [hz]
  have he : IsEnum ((s.heap.push o).push { cls := .type "enumerate", data := .fields #[.none, .bool false, .ref s.heap.objs.size, rawInt 0, .none, .none] }) (s.heap.objs.size + 1) s.heap.objs.size 0 .none := by
    have := Heap.get?_push_size (s.heap.push o) (o := { cls := .type "enumerate", data := .fields #[.none, .bool false, .ref s.heap.objs.size, rawInt 0, .none, .none] }) rfl
    rw [hz] at this; exact this
  refine ⟨⟨_, he, rfl⟩, h _ he (Heap.get?_push_of_some _ (Heap.get?_push_size _ B.free)) (by rw [Heap.size_push, hz]) fun b o x => Heap.get?_push_of_some _ (Heap.get?_push_of_some _ x)⟩
theorem dl_enum_end {e it l : Addr} {c : Int} {i : Nat} {items : Array Value} {old : Value} {Q : Option Value → Shared → Prop} (hh : A.handled = none)
    (he : IsEnum s.heap e it c old) (hit : s.heap.IsTupleIter it l i) (hl : s.heap.IsTuple l items) (hx : items[i]? = none)
    (hQ : ∀ h', Heap.ExtBut it s.heap h' → Q none { s with heap := h' }) : wpAny (model prog w) A (pyNext (.ref e)) Q E s := by
  have hT : s.TypeIs (.ref e) "enumerate" := ⟨_, he, rfl⟩
  unfold pyNext
  refine wpAny_bind (wpAny_attempt (wpAny_callSpecial?_slot (name := Str.ofString "__next__") hT F.slot_enumerate_next
    (wpAny_call_entry F.slot_enumerate_next hT F.entry_enumerate_next ?_ (F.args_enumerate_next_1 _))))
  show wpAny _ _ (field (.ref e) 2 >>= _) _ _ _
  refine wpAny_bind (wpAny_field he rfl (x := .ref it) rfl ?_)
  refine wpAny_bind (RZ.nextOf_tuple_end hh hit hl hx fun h' x he' hx' => ?_)
  obtain ⟨o, ho, hc⟩ := hx'
  refine wpAny_bind (wpAny_isInstance (T := "StopIteration") (b := true) ⟨o, ho, hc⟩ isSubtype_stop ?_)
  exact wpAny_pure (hQ _ he')
end
end PySem
namespace DL
open PySem PySem.Spec PyProof.Rows L2
/-! ### enumerate(tuple) -/
def IteT (K : PySem.W.Frag) (a : Addr) : It :=
  ⟨fun i H => ∃ (xs : List V) (x : V), SqT K H a xs ∧ xs[i]? = some x, fun i H v H' => ∃ T x, v = .ref T ∧ H T = none ∧ H' = upd H T (.tup [.int (i : Nat), x]) ∧ ∀ xs, SqT K H a xs → xs[i]? = some x, fun i H => ∃ xs : List V, SqT K H a xs ∧ xs.length ≤ i⟩
theorem turn_enumT {P : Program} {w : World} {K : PySem.W.Frag} {elts : List Expr} {kk : Nat} {tpos : Pos} (a e it : Addr) (hai : a ≠ it) (hae : a ≠ e) :
    Turn P w K (.Tuple elts kk tpos) (IteT K a) [e, it] e (fun i h => (∃ old, IsEnum h e it ((i : Nat) : Int) old) ∧ h.IsTupleIter it a i ∧ e ≠ it) where
  mem := by simp
  obj := fun i h st b hb => by
    obtain ⟨⟨old, he⟩, ⟨o, ho, hc, hd⟩, _⟩ := st
    have e' : b = e ∨ b = it := by simpa using hb
    rcases e' with z | z
    · rw [z]; exact ⟨_, he, fun v q => nomatch q⟩
    · rw [z]; exact ⟨o, ho, fun v q => by rw [hd] at q; cases q⟩
  keep := fun i h h' st k => let ⟨⟨old, he⟩, hi, hne⟩ := st; ⟨⟨old, k e (by simp) _ he⟩, hi.at fun o q => k it (by simp) o q, hne⟩
  item := by
    intro X hP hw hK hc i pins s σ H E I hf st hg
    subst hP hw hK
    obtain ⟨⟨old, he⟩, hit, hne⟩ := st
    obtain ⟨xs, x, hq, hx⟩ := hg
    obtain ⟨its, rv, p, hz⟩ := I.tuple hq
    obtain ⟨u, hu, ru⟩ := rv.get hx
    have hel : e < s.heap.objs.size := Heap.lt_size he
    have hil : it < s.heap.objs.size := by obtain ⟨_, q, _⟩ := hit; exact Heap.lt_size q
    have hlt : i < its.toArray.size := by
      obtain ⟨h1, _⟩ := List.getElem?_eq_some_iff.mp hu
      simpa using h1
    refine wpAny_pyNext_enum_itemC (dl_draws_tuple (A := X.A.in1) (I.ok.hd hc) it a hai its.toArray) he ⟨hit, p⟩ hlt hne (by simp; exact ⟨hne, Ne.symm hae⟩) fun v h' tk hP ho hst' hT hsz hk => ?_
    have hv : v = u := by
      rw [List.getElem?_toArray] at hP
      exact Option.some.inj (hP.symm.trans hu)
    subst hv
    refine ⟨_, rfl, wpAny_letOwnedTupleGo_enum (s := { s with heap := h', toks := tk + 1 }) ho fun h'' he' sb => ?_⟩
    have hT2 : h''.get? s.heap.objs.size = some { cls := .type "tuple", data := .seq #[.int i tk, v] } := (sb.2 _ (Nat.ne_of_gt hel)).trans hT
    have new : ObjOk X.prog X.w (upd H s.heap.objs.size (.tup [.int (i : Nat), x])) h'' s.heap.objs.size (.tup [.int (i : Nat), x]) :=
      ⟨by show 2 ≤ sizeLine; decide, [.int i tk, v], .cons ⟨_, rfl⟩ (.cons ru .nil), ⟨_, hT2, rfl, _, rfl⟩⟩
    have I1 : Inv X pins σ (upd H s.heap.objs.size (.tup [.int (i : Nat), x])) { s with heap := h'', toks := tk + 1 } :=
      I.turnedNew (ch := [e, it]) (fun b ob hb q => (sb.2 b (fun z => hb (by simp [z]))).trans (hk b ob (fun z => hb (by simp [z])) (fun z => hb (by simp [z])) q)) hf (Nat.le_refl _) new
    refine ⟨.ref s.heap.objs.size, _, I1, rfl, ⟨_, x, rfl, I.hok.fresh (Nat.le_refl _), rfl, fun ys hy => by rw [I.tuple_inj hy hq]; exact hx⟩, ⟨⟨v, ?_⟩, hst'.1.at fun o q => (sb.2 it (Ne.symm hne)).trans q, hne⟩, fun b hb => ?_⟩
    · have e1 : ((i + 1 : Nat) : Int) = (i : Int) + 1 := by omega
      rw [e1]; exact he'
    · have hb' : b < s.heap.objs.size := by
        have e' : b = e ∨ b = it := by simpa using hb
        rcases e' with z | z
        · rw [z]; exact hel
        · rw [z]; exact hil
      rw [upd_ne (Nat.ne_of_lt hb')]
      exact (hf b hb).1
  done := by
    intro X hP hw hK hc i pins s σ H E I hf st hg
    subst hP hw hK
    obtain ⟨⟨old, he⟩, hit, hne⟩ := st
    obtain ⟨xs, hq, hx⟩ := hg
    obtain ⟨its, rv, p, hz⟩ := I.tuple hq
    obtain ⟨f0, f1, f2, f3, f4, f5⟩ := hf it (by simp)
    have hl := rv.length
    exact dl_enum_end (I.ok.hd hc) he hit p (by simp; omega) fun h' eb => ⟨rfl, I.turned (t' := s.toks) (fun b o hb q => eb b o hb q) f0 f1 f3 f4 f5⟩
  self := fun A i s Q E st h => let ⟨⟨_, he⟩, _⟩ := st; wpAny_pyIter_enum he h
theorem pi_enumT {X : Cx} {e : Expr} {ta : TA} {p pos tpos : Pos} {elts : List Expr} {kk : Nat} (hg : Gl X "enumerate") (hm : X.mg "enumerate" = none) (ha : PA X [e] ta) (hs : starEach [e] X.env = [(false, eval e X.env)] := by rfl) :
    PI X (.Tuple elts kk tpos) (.Call (.Name "enumerate" p) [e] [] pos) (fun σ H R => ta σ H fun vs H1 => ∃ a xs, vs = [.ref a] ∧ SqT X.K H1 a xs ∧ R (IteT X.K a) H1) := by
  refine ⟨fun pins s σ H R I h => ?_⟩
  refine Call_ (ld_blt I hg hm boot_enumerate (PyProof.Rows.callWith_type1 (thn (ha.run pos pins s σ H _ I h) fun us s1 ⟨vs, H1, I1, r1, q1⟩ => ?_) hs rfl))
  obtain ⟨a, xs, ex, hq, q⟩ := q1
  subst ex
  cases r1 with
  | cons r rr =>
    cases rr
    cases r
    obtain ⟨its, rv, p', hz⟩ := I1.tuple hq
    refine dl_enum_begins (begins_tuple a its.toArray) p' fun h' he hit hsz hk => wpAny_pyIter_enum he ?_
    have I2 : Inv X pins σ H1 { s1 with heap := h' } := I1.kept (t' := s1.toks) hk
    have hal : a < s1.heap.objs.size := p'.lt
    refine ⟨s1.heap.objs.size + 1, [s1.heap.objs.size + 1, s1.heap.objs.size], _, _, H1, rfl, I2, turn_enumT a (s1.heap.objs.size + 1) s1.heap.objs.size (Nat.ne_of_lt hal) (Nat.ne_of_lt (Nat.lt_succ_of_lt hal)), ⟨⟨.none, he⟩, ⟨_, hit, rfl, rfl⟩, Nat.succ_ne_self _⟩, fun b hb => ?_, q⟩
    have e' : b = s1.heap.objs.size + 1 ∨ b = s1.heap.objs.size := by simpa using hb
    have hle : s1.heap.objs.size ≤ b := by
      rcases e' with z | z
      · rw [z]; exact Nat.le_add_right _ _
      · rw [z]; exact Nat.le_refl _
    exact I1.fpOk hle (I1.hok.fresh hle)
section
variable {X : Cx} {ρ : Rho} {e a b c : Expr} {d x y z : D} {ds es : List D} {k : Kd}
def enumD : Nat → List D → List D
  | _, [] => []
  | n, d :: ds => .tuple [.int (n : Nat), d] :: enumD (n + 1) ds
theorem enumD_len : ∀ (ds : List D) (n : Nat), (enumD n ds).length = ds.length
  | [], _ => rfl
  | _ :: ds, n => congrArg (· + 1) (enumD_len ds (n + 1))
theorem enumD_get : ∀ (ds : List D) (n i : Nat) (d : D), ds[i]? = some d → (enumD n ds)[i]? = some (.tuple [.int ((n + i : Nat) : Int), d])
  | [], _, _, _, h => by simp at h
  | x :: ds, n, 0, d, h => by simp at h; subst h; rfl
  | x :: ds, n, i + 1, d, h => by
    have := enumD_get ds (n + 1) i d (by simpa using h)
    show (enumD (n + 1) ds)[i]? = _
    rw [this, show n + 1 + i = n + (i + 1) by omega]
theorem ei_enumT {it : Expr} {xs : List D} {p pos tpos : Pos} {elts : List Expr} {kk : Nat} (hm : X.mg "enumerate" = none) (h : Ev X it ρ (.val (.tuple xs))) (hg : Gl X "enumerate" := by rfl) (hs : starEach [it] X.env = [(false, eval it X.env)] := by rfl) :
    EvI X (.Tuple elts kk tpos) (.Call (.Name "enumerate" p) [it] [] pos) ρ true (enumD 0 xs) := fun σ H R S q =>
  ⟨_, pi_enumT hg hm (pa_cons (pe_know pe_c) pa_nil (by rw [hs]; rfl)) hs, h σ H _ S fun v H1 ⟨s1, r1⟩ kn => by
    obtain ⟨a, vs, rfl, hs, hr⟩ := r1.tupI
    refine ⟨a, vs, rfl, hs, q _ H1 s1 (by rw [enumD_len, ← hr.length]; exact kn a vs rfl (.inr hs)) ?_⟩
    rw [enumD_len, ← hr.length]
    refine ⟨fun i H2 hi z => ⟨vs, vs[i], sqT_stb z hs, by simp [hi]⟩, fun H2 z => ⟨vs, sqT_stb z hs, Nat.le_refl _⟩, fun i H2 x H3 hi z y => ?_⟩
    obtain ⟨T, x', rfl, hT, rfl, hx⟩ := y
    obtain ⟨d, e1, e2⟩ := hr.got (hx vs (sqT_stb z hs))
    refine ⟨same_new hT, _, enumD_get xs 0 i d e1, .inr ⟨rfl, T, _, _, rfl, rfl, .of upd_same, ?_⟩⟩
    rw [Nat.zero_add]
    exact .cons (.int _) (.cons ((e2.mono z).mono (stb_new hT)) .nil)⟩
/-! ### zip(tuple, tuple), zip(list, list) -/
theorem ei_zipT {it it2 : Expr} {xs ys : List D} {p pos tpos : Pos} {elts : List Expr} {kk : Nat} (hm : X.mg "zip" = none) (h : Ev X it ρ (.val (.tuple xs))) (h2 : Ev X it2 ρ (.val (.tuple ys))) (hl : xs.length = ys.length) (hg : Gl X "zip" := by rfl) (hs : starEach [it, it2] X.env = (false, eval it X.env) :: starEach [it2] X.env := by rfl) (hs2 : starEach [it2] X.env = (false, eval it2 X.env) :: starEach [] X.env := by rfl) (hpl : (backTo pos (starEach [it2] X.env)).any (·.1) = false := by rfl) :
    EvI X (.Tuple elts kk tpos) (.Call (.Name "zip" p) [it, it2] [] pos) ρ true ((xs.zip ys).map fun q => .tuple [q.1, q.2]) := fun σ H R S q =>
  ⟨_, RZ.pi_zipA hg hm (pa_cons (pe_know pe_c) (pa_cons pe_c pa_nil hs2) hs) hs hpl, h σ H _ S fun v H1 ⟨s1, r1⟩ kn => h2 σ H1 _ (S.mono s1) fun v' H2 ⟨s2, r2⟩ => by
    obtain ⟨a, vs, rfl, hs1, hr1⟩ := r1.tupI
    have hz := kn a vs rfl (.inr hs1)
    have hs := sqT_stb (.of s2) hs1
    have hr := hr1.mono (.of s2)
    obtain ⟨b, ws, rfl, hs', hr'⟩ := r2.tupI
    have l1 := hr.length
    have l2 := hr'.length
    refine ⟨a, b, vs, ws, rfl, .inr ⟨hs, hs', q _ H2 (s1.trans s2) (by rw [List.length_map, List.length_zip]; omega) ?_⟩⟩
    have lz : ((xs.zip ys).map fun q : D × D => (PyData.tuple [q.1, q.2])).length = vs.length := by rw [List.length_map, List.length_zip]; omega
    rw [lz]
    refine ⟨fun i H3 hi z => ⟨vs, ws, vs[i], ws[i]'(by omega), sqT_stb z hs, sqT_stb z hs', by simp [hi], by simp [show i < ws.length by omega]⟩, fun H3 z => ⟨vs, ws, sqT_stb z hs, sqT_stb z hs', .inl (Nat.le_refl _)⟩, fun i H3 x H4 hi z y => ?_⟩
    obtain ⟨T, x', y', rfl, hT, rfl, hx, hy⟩ := y
    obtain ⟨d, e1, e2⟩ := hr.got (hx vs (sqT_stb z hs))
    obtain ⟨d', e1', e2'⟩ := hr'.got (hy ws (sqT_stb z hs'))
    refine ⟨same_new hT, .tuple [d, d'], ?_, .inr ⟨rfl, T, _, _, rfl, rfl, .of upd_same, .cons ((e2.mono z).mono (stb_new hT)) (.cons ((e2'.mono z).mono (stb_new hT)) .nil)⟩⟩
    have hz : (xs.zip ys)[i]? = some (d, d') := List.getElem?_zip_eq_some.mpr ⟨e1, e1'⟩
    rw [List.getElem?_map, hz]; rfl⟩
end
end DL


namespace DL
open PySem PySem.Spec PyProof.Rows L2
/-! ### dicts of data -/
def kd : D → Option Key
  | .int i => some (.inl i)
  | .str s => some (.inr s)
  | _ => none
def keyD : Key → D
  | .inl i => .int i
  | .inr s => .str s
theorem kd_keyD (k : Key) : kd (keyD k) = some k := by cases k <;> rfl
theorem kd_eq {d : D} {k : Key} (h : kd d = some k) : d = keyD k := by cases d <;> simp [kd] at h <;> subst h <;> rfl
/-- d.get(k) of the pairs | d[k] = v -/
def lookD (es : List (D × D)) (k : Key) : Option D := (es.find? fun e => decide (kd e.1 = some k)).map (·.2)
def putD (es : List (D × D)) (k : Key) (v : D) : List (D × D) :=
  if (es.any fun e => decide (kd e.1 = some k)) = true then es.map (fun e => if kd e.1 = some k then (e.1, v) else e) else es ++ [(keyD k, v)]
def mergeD (es : List (D × D)) (more : List (Key × D)) : List (D × D) := more.foldl (fun acc kv => putD acc kv.1 kv.2) es
section
variable {K : PySem.W.Frag} {H : Hp}
theorem RpKV.cons {k : Key} {v : V} {d : D} {vs : List (Key × V)} {es : List (D × D)} (h : Rp K H v d) (t : RpKV K H vs es) : RpKV K H ((k, v) :: vs) ((keyD k, d) :: es) := by
  cases k with
  | inl i => exact .int h t
  | inr s => exact .str h t
theorem RpKV.uncons {p : Key × V} {vs : List (Key × V)} {es : List (D × D)} (h : RpKV K H (p :: vs) es) : ∃ d es', es = (keyD p.1, d) :: es' ∧ Rp K H p.2 d ∧ RpKV K H vs es' := by
  cases h with
  | int h t => exact ⟨_, _, rfl, h, t⟩
  | str h t => exact ⟨_, _, rfl, h, t⟩
theorem RpKV.look (k : Key) : ∀ {vs : List (Key × V)} {es : List (D × D)}, RpKV K H vs es → (valV vs k = none ∧ lookD es k = none) ∨ ∃ v d, valV vs k = some v ∧ lookD es k = some d ∧ Rp K H v d
  | [], _, h => by cases h; exact .inl ⟨rfl, rfl⟩
  | p :: vs, _, h => by
    obtain ⟨d, es', rfl, r, t⟩ := h.uncons
    by_cases e : p.1 = k
    · refine .inr ⟨p.2, d, valV_pos e, ?_, r⟩
      unfold lookD
      rw [List.find?_cons, show decide (kd (keyD p.1) = some k) = true by rw [kd_keyD, e]; simp]
      rfl
    · rw [valV_neg e]
      have e2 : lookD ((keyD p.1, d) :: es') k = lookD es' k := by
        unfold lookD
        rw [List.find?_cons, show decide (kd (keyD p.1) = some k) = false by rw [kd_keyD]; simpa using e]
      rw [e2]
      exact RpKV.look k t
theorem RpKV.any (k : Key) : ∀ {vs : List (Key × V)} {es : List (D × D)}, RpKV K H vs es → (vs.any fun kv => decide (kv.1 = k)) = es.any fun e => decide (kd e.1 = some k)
  | [], _, h => by cases h; rfl
  | p :: vs, _, h => by
    obtain ⟨d, es', rfl, r, t⟩ := h.uncons
    rw [List.any_cons, List.any_cons, RpKV.any k t, kd_keyD]
    simp
theorem RpKV.snoc {k : Key} {v : V} {d : D} (r : Rp K H v d) : ∀ {vs : List (Key × V)} {es : List (D × D)}, RpKV K H vs es → RpKV K H (vs ++ [(k, v)]) (es ++ [(keyD k, d)])
  | [], _, h => by cases h; exact .cons r .nil
  | p :: vs, _, h => by
    obtain ⟨d', es', rfl, r', t⟩ := h.uncons
    exact .cons r' (RpKV.snoc r t)
theorem RpKV.over {k : Key} {v : V} {d : D} (r : Rp K H v d) : ∀ {vs : List (Key × V)} {es : List (D × D)}, RpKV K H vs es → RpKV K H (vs.map fun kv => if kv.1 = k then (kv.1, v) else kv) (es.map fun e => if kd e.1 = some k then (e.1, d) else e)
  | [], _, h => by cases h; exact .nil
  | p :: vs, _, h => by
    obtain ⟨d', es', rfl, r', t⟩ := h.uncons
    rw [List.map_cons, List.map_cons]
    by_cases e : p.1 = k
    · rw [if_pos e, if_pos (by rw [kd_keyD, e])]
      exact .cons r (RpKV.over r t)
    · rw [if_neg e, if_neg (by rw [kd_keyD]; simpa using e)]
      exact .cons r' (RpKV.over r t)
theorem RpKV.put {k : Key} {v : V} {d : D} {vs : List (Key × V)} {es : List (D × D)} (h : RpKV K H vs es) (r : Rp K H v d) : RpKV K H (putK vs k v) (putD es k d) := by
  unfold putK putD
  rw [h.any k]
  split
  · exact h.over r
  · exact h.snoc r
end
section
variable {X : Cx} {ρ : Rho} {e a b c : Expr} {d x y z : D} {ds : List D} {k : Kd}
theorem Rq.dctR {K : PySem.W.Frag} {H : Hp} {v : V} {es : List (D × D)} (h : Rq K H v (.dict es)) : ∃ a kvs, v = .ref a ∧ Rd H a (.dK kvs) ∧ RpKV K H kvs es := by
  cases h with
  | of h => cases h with | dct h r => exact ⟨_, _, rfl, .inr ⟨_, h⟩, r⟩
  | dct h r => exact ⟨_, _, rfl, .inl h, r⟩
theorem Rq.key {K : PySem.W.Frag} {H : Hp} {v : V} {kk : Key} (h : Rq K H v (keyD kk)) : v = kV kk := by
  cases kk with
  | inl i => exact h.int
  | inr s => exact h.str
/-- {} -/
theorem ev_dnew {pos : Pos} : Ev X (.Dict [] [] pos) ρ (.newD []) := fun σ H Q S q => ⟨_, pe_dnewK, fun p hp => q _ _ ⟨same_new hp, p, _, rfl, hp, upd_same, .nil⟩⟩
/-- d[k], there -/
theorem ev_dget {pos : Pos} {es : List (D × D)} {kk : Key} (hu : X.A.units + 1 < cLine) (ha : Ev X a ρ (.qua (.dict es))) (hb : Ev X b ρ (.val (keyD kk))) (h : lookD es kk = some d) (hs : NoSl b := by exact fun _ _ => rfl) : Ev X (.Subscript a b pos) ρ (.val d) := fun σ H Q S q =>
  ⟨_, pe_dget hu pe_c pe_c hs, ha σ H _ S fun u H1 ⟨s1, r1⟩ => hb σ H1 _ (S.mono s1) fun v H2 ⟨s2, r2⟩ => by
    obtain ⟨p, kvs, rfl, hd, hr⟩ := (r1.mono s2).dctR
    have ev := (Rq.of r2).key
    subst ev
    rcases hr.look kk with ⟨_, e2⟩ | ⟨w, d', e1, e2, r⟩
    · rw [h] at e2; cases e2
    · rw [h] at e2; cases e2
      exact ⟨p, w, rfl, .inl ⟨kvs, kk, hd, rfl, e1.symm⟩, q _ H2 ⟨s1.trans s2, r⟩⟩⟩
/-- d.get(k, x) -/
theorem ev_dgetx {apos cpos : Pos} {f : Expr} {es : List (D × D)} {kk : Key} (hu : X.A.units + 1 < cLine) (ha : Ev X a ρ (.qua (.dict es))) (hb : Ev X b ρ (.val (keyD kk))) (hf : Ev X f ρ (.val x)) (m : M2 X a "get" apos b f cpos := by exact ⟨rfl, rfl, rfl, rfl⟩) : Ev X (.Call (.Attribute a "get" apos) [b, f] [] cpos) ρ (.val ((lookD es kk).getD x)) := fun σ H Q S q =>
  ⟨_, pe_dget2 hu pe_c pe_c pe_c m, ha σ H _ S fun u H1 ⟨s1, r1⟩ => by
    obtain ⟨p, kvs, rfl, hd, hr⟩ := r1.dctR
    refine ⟨p, rfl, .inl ⟨kvs, hd⟩, hb σ H1 _ (S.mono s1) fun v H2 ⟨s2, r2⟩ => hf σ H2 _ (S.mono (s1.trans s2)) fun w H3 ⟨s3, r3⟩ => ?_⟩
    have ev := (Rq.of r2).key
    subst ev
    have hd3 : Rd H3 p (.dK kvs) := by
      rcases hd with hd | ⟨o, hd⟩
      · exact .inl (s3 _ _ (s2 _ _ hd))
      · exact .inr ⟨o, s3 _ _ (s2 _ _ hd)⟩
    refine ⟨_, .inl ⟨kvs, kk, hd3, rfl, rfl⟩, ?_⟩
    rcases hr.look kk with ⟨e1, e2⟩ | ⟨w', d', e1, e2, r⟩
    · rw [e1]
      rw [e2] at q
      exact q _ H3 ⟨(s1.trans s2).trans s3, r3⟩
    · rw [e1]
      rw [e2] at q
      exact q _ H3 ⟨(s1.trans s2).trans s3, r.mono (.of (s2.trans s3))⟩⟩
/-- d[k] = v, d a dict of one's own -/
theorem sx_dput {Φ : DL.Fin} (j : Nat) {yn : Str} {p2 tpos pos : Pos} {es : List (D × D)} {kk : Key} (hj : ρ[j]? = some (.dic es)) (hu : X.A.units + 1 < cLine) (hb : Ev X b ρ (.val (keyD kk))) (he : Ev X e ρ (.val d)) (hz : es.length < sizeLine) (h : Φ.nx (ρ.set j (.dic (putD es kk d)))) (hNj : X.N[j]? = some yn := by rfl) (hv : Vis X.env.scope yn := by first | exact Or.inl rfl | exact Or.inr (Or.inl rfl) | exact Or.inr (Or.inr rfl)) (hd : (yn == ("__debug__" : Str)) = false := by decide)
    (hcd : (yn == ("__classdict__" : Str)) = false := by decide) (hs : swapsWith e (some (.Subscript (.Name yn p2) b tpos)) pos.line X.env = pure false := by rfl) : Sx X (.Assign [.Subscript (.Name yn p2) b tpos] e pos) ρ Φ := fun H0 H1 σ H E S F => by
  obtain ⟨p, kvs, e1, e2, r⟩ := S.ok.dic j es hj
  refine ⟨_, ps_dput hu (pe_var hNj hv hd hcd) pe_c pe_c hs, he σ H _ S.ok fun v H2 ⟨s2, r2⟩ => ⟨_, e1, hb σ H2 _ (S.mono s2).ok fun w H3 ⟨s3, r3⟩ => ?_⟩⟩
  have ev := (Rq.of r3).key
  subst ev
  have e3 : H3 p = some (.dK kvs) := s3 _ _ (s2 _ _ e2)
  refine ⟨p, _, rfl, .k e3 (by rw [r.length]; exact hz), F.nx _ _ _ (((S.mono s2).mono s3).write hj e1 (.dic e3 (r.mono (.of (s2.trans s3)))) e3 trivial ?_) h⟩
  have st : Stb H3 (upd H3 p (.dK (putK kvs kk v))) := stb_upd e3 trivial
  exact .dic upd_same (((r.mono (.of (s2.trans s3))).mono st).put ((r2.mono (.of s3)).mono st))
/-! ### dict(pairs) -/
theorem call_dictT (hcalm : X.calm = true) : CallR X (.type "dict") (fun xs H Q => ∃ (a : Addr) (ps : List Addr) (kvs : List (Key × V)), xs = [.ref a] ∧ PlT X.K H a (ps.map V.ref) ∧ Paired (fun p kv => SqT X.K H p [kV kv.1, kv.2]) ps kvs ∧
    ∀ p, H p = none → Q (.ref p) (upd H p (.dK (mergeK [] kvs)))) := by
  intro pins s σ H xs us Q I r q
  obtain ⟨a, ps, kvs, ex, hq, hp, q⟩ := q
  subst ex
  obtain ⟨u, eu, rx⟩ := vals1 r
  subst eu
  cases rx
  obtain ⟨o, its, n, ho, hc, hd, hdat, rv, hz⟩ := inv_pl I hq
  have ei := refs_at rv
  subst ei
  rw [List.length_map] at hz
  obtain ⟨prs, rel, hl, hpr⟩ := pairs_of I hp
  have items : ∃ pv : List (Value × Value), pv.length = prs.length ∧ ∀ j k v, pv[j]? = some (k, v) → ∃ key, prs[j]? = some (key, v) ∧ keyIs key k = true ∧ PairAt s.heap (ps.getD j 0) k v := by
    clear q hq hp rel ho hdat rv hc hd
    induction prs generalizing ps with
    | nil => exact ⟨[], rfl, fun j k v e => by simp at e⟩
    | cons pr prs ih =>
      cases ps with
      | nil => simp at hl
      | cons p ps =>
        obtain ⟨b, u, e1, e2, e3⟩ := hpr 0 pr rfl
        have eb : p = b := by simpa using e1
        subst eb
        obtain ⟨pv, h1, h2⟩ := ih ps (by simp at hz; omega) (by simpa using hl) fun j q e => by
          obtain ⟨b, u, z1, z2, z3⟩ := hpr (j + 1) q (by simpa using e)
          exact ⟨b, u, by simpa using z1, z2, z3⟩
        refine ⟨(u, pr.2) :: pv, by simp [h1], fun j k v e => ?_⟩
        cases j with
        | zero =>
          simp at e
          obtain ⟨rfl, rfl⟩ := e
          exact ⟨pr.1, rfl, e3, .inl e2⟩
        | succ j =>
          obtain ⟨key, z1, z2, z3⟩ := h2 j k v (by simpa using e)
          exact ⟨key, by simpa using z1, z2, by simpa using z3⟩
  obtain ⟨pv, hpl, hpi⟩ := items
  have ok : PlainSeq "tuple" s.heap a (ps.map Value.ref).toArray ∧ PairItems s.heap (ps.map Value.ref).toArray (fun j => ps.getD j 0) pv := by
    refine ⟨⟨o, n, ho, hc, hd, hdat⟩, by simp [hpl, hl], fun j k v e => ?_⟩
    obtain ⟨key, z1, z2, z3⟩ := hpi j k v e
    have hj : j < ps.length := by
      have := (List.getElem?_eq_some_iff.mp e).1
      omega
    refine ⟨?_, z3⟩
    simp [hj]
  refine PySem.call_dict_pairs (knd := mixKind X.prog X.w) (kvs := prs) (PairArg.tuple a (ps.map Value.ref).toArray (fun j => ps.getD j 0) pv) (I.ok.hd hcalm) ok ⟨hpl.symm, fun i key v e => ?_⟩ (by omega) fun h' tk hd' kk => ?_
  · obtain ⟨kx, z1, z2, _⟩ := hpi i key v e
    exact ⟨kx, z1, z2⟩
  · have hm : (s.heap.objs.size == sysModules) = false := beq_eq_false_iff_ne.mpr (Nat.ne_of_gt I.big)
    have hlen : (mergeK [] kvs).length ≤ sizeLine := by
      refine Nat.le_trans (length_mergeK kvs []) ?_
      rw [List.length_nil, Nat.zero_add, rel.length, hl]
      exact hz
    exact ⟨.ref s.heap.objs.size, upd H s.heap.objs.size (.dK (mergeK [] kvs)), I.laid (t' := tk) (fun b o e => kk b o (by simp) e) (Nat.le_refl _) (show ObjOk X.prog X.w _ _ _ (.dK (mergeK [] kvs)) from ⟨hlen, hm, merged [] prs, KV.merge rel .nil, hd'⟩), rfl, q _ (I.hok.fresh (Nat.le_refl _))⟩
theorem RpKV.merge {K : PySem.W.Frag} {H : Hp} : ∀ {more : List (Key × V)} {md : List (Key × D)} {vs : List (Key × V)} {es : List (D × D)}, Paired (fun (p : Key × V) (q : Key × D) => p.1 = q.1 ∧ Rp K H p.2 q.2) more md → RpKV K H vs es → RpKV K H (mergeK vs more) (mergeD es md)
  | _, _, _, _, .nil, h => h
  | _, _, _, _, .cons (a := p) (b := q) ⟨e, r⟩ t, h => by
    show RpKV K H (mergeK (putK _ p.1 p.2) _) (mergeD (putD _ q.1 q.2) _)
    rw [← e]
    exact RpKV.merge t (h.put r)
theorem pairs_rp {K : PySem.W.Frag} {H : Hp} : ∀ {xs : List V} {md : List (Key × D)}, RpAll K H xs (md.map fun q => .tuple [keyD q.1, q.2]) → ∃ (ps : List Addr) (kvs : List (Key × V)), xs = ps.map V.ref ∧ Paired (fun p kv => SqT K H p [kV kv.1, kv.2]) ps kvs ∧ Paired (fun (p : Key × V) (q : Key × D) => p.1 = q.1 ∧ Rp K H p.2 q.2) kvs md
  | _, [], h => by cases h; exact ⟨[], [], rfl, .nil, .nil⟩
  | _, q :: md, h => by
    cases h with
    | cons h t =>
      obtain ⟨ps, kvs, rfl, h1, h2⟩ := pairs_rp t
      obtain ⟨p, ys, rfl, hs, hr⟩ := h.tupI
      cases hr with
      | cons r1 r2 =>
        cases r2 with
        | cons r2 r3 =>
          cases r3
          have ek := (Rq.of r1).key
          subst ek
          exact ⟨p :: ps, (q.1, _) :: kvs, rfl, .cons hs h1, .cons ⟨rfl, r2⟩ h2⟩
theorem c_dictT {md : List (Key × D)} (hc : X.calm = true := by rfl) : CallV X (.type "dict") [.tuple (md.map fun q => .tuple [keyD q.1, q.2])] (.newD (mergeD [] md)) := fun H vs Q r q => by
  obtain ⟨v, rfl, r0⟩ := paired1 r
  obtain ⟨a, xs, rfl, hs, hr⟩ := r0.tupP
  obtain ⟨ps, kvs, rfl, h1, h2⟩ := pairs_rp hr
  exact ⟨_, call_dictT hc, a, ps, kvs, rfl, hs, h1, fun p hp => q _ _ ⟨same_new hp, p, _, rfl, hp, upd_same, (RpKV.merge h2 .nil).mono (stb_new hp)⟩⟩
theorem c_dictL {md : List (Key × D)} (hc : X.calm = true := by rfl) : CallV X (.type "dict") [.list (md.map fun q => .tuple [keyD q.1, q.2])] (.newD (mergeD [] md)) := fun H vs Q r q => by
  obtain ⟨v, rfl, r0⟩ := paired1 r
  obtain ⟨a, xs, rfl, hs, hr⟩ := r0.lst
  obtain ⟨ps, kvs, rfl, h1, h2⟩ := pairs_rp hr
  exact ⟨_, call_dictP hc, a, ps, kvs, rfl, hs, h1, fun p hp => q _ _ ⟨same_new hp, p, _, rfl, hp, upd_same, (RpKV.merge h2 .nil).mono (stb_new hp)⟩⟩
end
end DL


/-! Parts, houses as plain data. -/
namespace DL
open PySem L2
structure Want where
  face : Str
  low : Int
  high : Int
  must : Bool
structure Hook where
  hook : Str
  rank : Int
  word : Str
  worth : Option Int
structure Part where
  name : Str
  make : Int
  faces : List (Str × Int)
  wants : List Want
  hooks : List Hook
def encW (w : Want) : D := .tuple [.str w.face, .int w.low, .int w.high, .bool w.must]
def encF (f : Str × Int) : D := .tuple [.str f.1, .int f.2]
def encDeed (h : Hook) : D := .tuple (.str h.word :: (match h.worth with | none => [] | some n => [.int n]))
def encK (h : Hook) : D := .tuple [.str h.hook, .int h.rank, encDeed h]
def encP (p : Part) : D := .tuple [.str p.name, .int p.make, .tuple (p.faces.map encF), .tuple (p.wants.map encW), .tuple (p.hooks.map encK)]
abbrev House := List Part
def encH (h : House) : D := .tuple (h.map encP)
/-- the last face of this name -/
def lookF (fs : List (Str × Int)) (x : Str) : Option Int := fs.foldl (fun acc f => if x = f.1 then some f.2 else acc) none
def makeOf (p : Part) (x : Str) : Int := (lookF p.faces x).getD 0
theorem lookD_put (es : List (D × D)) (k j : Key) (v : D) : lookD (putD es k v) j = if j = k then some v else lookD es j := by
  unfold putD
  induction es with
  | nil =>
    simp only [List.any_nil, Bool.false_eq_true, if_false, List.nil_append]
    unfold lookD
    rw [List.find?_cons]
    by_cases h : j = k
    · subst h; rw [kd_keyD]; simp
    · rw [kd_keyD, if_neg h, show decide (some k = some j) = false by simpa using fun z => h z.symm]
  | cons e es ih =>
    by_cases hk : kd e.1 = some k
    · have h1 : ((e :: es).any fun e => decide (kd e.1 = some k)) = true := by rw [List.any_cons]; simp [hk]
      rw [if_pos h1, List.map_cons, if_pos hk]
      unfold lookD
      rw [List.find?_cons, List.find?_cons]
      by_cases h : j = k
      · subst h; rw [if_pos rfl]; simp [hk]
      · rw [if_neg h]
        have hj : decide (kd e.1 = some j) = false := by rw [hk]; simpa using fun z => h z.symm
        rw [hj]
        simp only
        have : ∀ l : List (D × D), (l.map fun e => if kd e.1 = some k then (e.1, v) else e).find? (fun e => decide (kd e.1 = some j)) = l.find? (fun e => decide (kd e.1 = some j)) := by
          intro l
          induction l with
          | nil => rfl
          | cons x l ihl =>
            rw [List.map_cons, List.find?_cons, List.find?_cons]
            by_cases hx : kd x.1 = some k
            · rw [if_pos hx]
              have : decide (kd x.1 = some j) = false := by rw [hx]; simpa using fun z => h z.symm
              simp only [this]; exact ihl
            · rw [if_neg hx, ihl]
        rw [this]
    · have h1 : ((e :: es).any fun e => decide (kd e.1 = some k)) = (es.any fun e => decide (kd e.1 = some k)) := by rw [List.any_cons]; simp [hk]
      rw [h1]
      have step : ∀ l : List (D × D), lookD (e :: l) j = if kd e.1 = some j then some e.2 else lookD l j := by
        intro l
        unfold lookD
        rw [List.find?_cons]
        by_cases hj : kd e.1 = some j <;> simp [hj]
      by_cases ha : (es.any fun e => decide (kd e.1 = some k)) = true
      · rw [if_pos ha] at ih ⊢
        rw [List.map_cons, if_neg hk, step, step, ih]
        by_cases hj : kd e.1 = some j
        · rw [if_pos hj, if_pos hj, if_neg]; rintro rfl; exact hk hj
        · rw [if_neg hj, if_neg hj]
      · rw [if_neg ha] at ih ⊢
        rw [List.cons_append, step, step, ih]
        by_cases hj : kd e.1 = some j
        · rw [if_pos hj, if_pos hj, if_neg]; rintro rfl; exact hk hj
        · rw [if_neg hj, if_neg hj]
theorem lookD_merge (j : Key) : ∀ (md : List (Key × D)) (es : List (D × D)), lookD (mergeD es md) j = md.foldl (fun acc kv => if j = kv.1 then some kv.2 else acc) (lookD es j)
  | [], _ => rfl
  | kv :: md, es => by
    show lookD (mergeD (putD es kv.1 kv.2) md) j = _
    rw [lookD_merge j md, lookD_put]
    rfl
def facesK (fs : List (Str × Int)) : List (Key × D) := fs.map fun f => (Sum.inr f.1, .int f.2)
theorem faces_enc (fs : List (Str × Int)) : (facesK fs).map (fun q => PyData.tuple [keyD q.1, q.2]) = fs.map encF := by
  unfold facesK
  rw [List.map_map]
  rfl
theorem look_faces (fs : List (Str × Int)) (x : Str) : lookD (mergeD [] (facesK fs)) (.inr x) = (lookF fs x).map .int := by
  rw [lookD_merge]
  unfold facesK lookF
  rw [List.foldl_map]
  have : ∀ (l : List (Str × Int)) (a : Option Int), l.foldl (fun (acc : Option D) f => if (Sum.inr x : Key) = Sum.inr f.1 then some (.int f.2) else acc) (a.map .int) = (l.foldl (fun acc f => if x = f.1 then some f.2 else acc) a).map PyData.int := by
    intro l
    induction l with
    | nil => intro a; rfl
    | cons f l ih =>
      intro a
      rw [List.foldl_cons, List.foldl_cons, ← ih]
      congr 1
      by_cases h : x = f.1
      · rw [if_pos (by rw [h]), if_pos h]; rfl
      · rw [if_neg (by simpa using h), if_neg h]
  exact this fs none
theorem flt_true {α : Type} (l : List α) : (l.filter fun _ => true) = l := by simp
theorem isE_map {α β : Type} (f : α → β) (l : List α) : (l.map f).isEmpty = l.isEmpty := by cases l <;> rfl
theorem eqv_len0 {α : Type} (l : List α) : PyData.eqv (.int (l.length : Nat)) (.int 0) = l.isEmpty := by cases l <;> simp [PyData.eqv]
  <;> omega
/-! ### who can stand -/
def gives (p : Part) (w : Want) : Bool := decide (w.low ≤ makeOf p w.face) && decide (makeOf p w.face ≤ w.high)
def giversFor (ps : List Part) (n : Str) (w : Want) : List Part := ps.filter fun p => !(p.name == n) && gives p w
def lacksL (ps : List Part) (p : Part) : List Str := (p.wants.filter fun w => w.must && (giversFor ps p.name w).isEmpty).map (·.face)
def stands (ps : List Part) : List Part := ps.filter fun p => (lacksL ps p).isEmpty
/-! ### texts that can be laid -/
structure OkP (p : Part) : Prop where
  nm : PyData.strOk p.name = true
  fs : ∀ f ∈ p.faces, PyData.strOk f.1 = true
  ws : ∀ w ∈ p.wants, PyData.strOk w.face = true
  ks : ∀ h ∈ p.hooks, PyData.strOk h.hook = true ∧ PyData.strOk h.word = true
def OkH (h : List Part) : Prop := ∀ p ∈ h, OkP p
theorem pl_encF {n : Nat} {f : Str × Int} (h : PyData.strOk f.1 = true) : Pl (n + 1) (encF f) := pl_tup (pla_cons (pl_str h) (pla_cons pl_int pla_nil))
theorem pl_encW {n : Nat} {w : Want} (h : PyData.strOk w.face = true) : Pl (n + 1) (encW w) := pl_tup (pla_cons (pl_str h) (pla_cons pl_int (pla_cons pl_int (pla_cons pl_bool pla_nil))))
theorem pl_encDeed {n : Nat} {h : Hook} (k : PyData.strOk h.word = true) : Pl (n + 1) (encDeed h) := by
  unfold encDeed
  refine pl_tup (pla_cons (pl_str k) ?_)
  cases h.worth with
  | none => exact pla_nil
  | some n => exact pla_cons pl_int pla_nil
theorem pl_encK {n : Nat} {h : Hook} (k : PyData.strOk h.hook = true ∧ PyData.strOk h.word = true) : Pl (n + 2) (encK h) := pl_tup (pla_cons (pl_str k.1) (pla_cons pl_int (pla_cons (pl_encDeed k.2) pla_nil)))
theorem pl_encP {n : Nat} {p : Part} (h : OkP p) : Pl (n + 4) (encP p) :=
  pl_tup (pla_cons (pl_str h.nm) (pla_cons pl_int (pla_cons (pl_tup (pla_map fun f hf => pl_encF (h.fs f hf))) (pla_cons (pl_tup (pla_map fun w hw => pl_encW (h.ws w hw))) (pla_cons (pl_tup (pla_map fun k hk => pl_encK (h.ks k hk))) pla_nil)))))
theorem pl_parts {n : Nat} {h : List Part} (k : OkH h) : PlAll (n + 4) (h.map encP) := pla_map fun p hp => pl_encP (k p hp)
theorem OkH.get {h : List Part} (k : OkH h) {p : Part} (hp : p ∈ h) : OkP p := k p hp
theorem OkH.sub {h g : List Part} (k : OkH h) (s : ∀ p ∈ g, p ∈ h) : OkH g := fun p hp => k p (s p hp)
theorem OkH.filter {h : List Part} {f : Part → Bool} (k : OkH h) : OkH (h.filter f) := k.sub fun _ hp => (List.mem_filter.mp hp).1
end DL


/-! What the laws draw, as plain functions. -/
namespace DL
open PySem L2
def cellAt (ns : List Int) (k : Int) : Int := if k < (ns.length : Int) then ns.getD k.toNat 0 else 0
def mixed0 (ns : List Int) (k : Int) : Int := (cellAt ns k + 7919 * k + 1) * 48271 % 2147483647
def mixed (ns : List Int) (k : Int) : Int := (mixed0 ns k * mixed0 ns k + 7 * mixed0 ns k + k) % 2147483629
def drawn0 (n k : Int) : Int := (n + 104729 * k + 17) * 69621 % 2147483647
def drawn (n k : Int) : Int := (drawn0 n k * drawn0 n k + 3 * drawn0 n k + k) % 2147483629
theorem drawn0_b (n k : Int) : 0 ≤ drawn0 n k ∧ drawn0 n k < 2147483647 := ⟨Int.emod_nonneg _ (by decide), Int.emod_lt_of_pos _ (by decide)⟩
theorem mixed0_b (n : List Int) (k : Int) : 0 ≤ mixed0 n k ∧ mixed0 n k < 2147483647 := ⟨Int.emod_nonneg _ (by decide), Int.emod_lt_of_pos _ (by decide)⟩
theorem drawn_b (n k : Int) : 0 ≤ drawn n k ∧ drawn n k < 2147483629 := ⟨Int.emod_nonneg _ (by decide), Int.emod_lt_of_pos _ (by decide)⟩
theorem mixed_b (n : List Int) (k : Int) : 0 ≤ mixed n k ∧ mixed n k < 2147483629 := ⟨Int.emod_nonneg _ (by decide), Int.emod_lt_of_pos _ (by decide)⟩
/-- the part of a number -/
def faceOf (n : Int) (k : Int) (f : Str) : List (Str × Int) := if drawn n k / 4 % 3 = 0 then [(f, 1 + drawn n k / 4 / 4 % 4)] else []
def wantOf (n : Int) (k : Int) (f : Str) : List Want := if drawn n k / 4 % 4 = 1 then
  [⟨f, 1 + drawn n k / 4 / 4 % 3, (if 1 + drawn n k / 4 / 4 % 3 + drawn n k / 4 / 16 % 4 < 9 then 1 + drawn n k / 4 / 4 % 3 + drawn n k / 4 / 16 % 4 else 9), decide (0 < drawn n k / 4 / 64 % 3)⟩] else []
def wordOf (r : Int) : Str := if r % 6 = 0 then "plus" else if r % 6 = 1 then "times" else if r % 6 = 2 then "set" else if r % 6 = 3 then "stop" else if r % 6 = 4 then "fail" else "plus"
def worthOf (r : Int) : Int := r / 8 % (if r / 8192 % 2 = 0 then 1000 else 5)
def hookNm (r : Int) : Str := if r / 16384 % 2 = 0 then "go" else "end"
def rankOf (r : Int) : Int := if r / 32768 % 4 = 0 then 0 else if r / 32768 % 4 = 1 then -1 else if r / 32768 % 4 = 2 then 5 else -9
def hookOf (n : Int) (k : Int) : Hook := ⟨hookNm (drawn n (10 + k) / 4), rankOf (drawn n (10 + k) / 4), wordOf (drawn n (10 + k) / 4), if wordOf (drawn n (10 + k) / 4) = "stop" then none else some (worthOf (drawn n (10 + k) / 4))⟩
def hooksOf (n : Int) : List Hook := (List.range (n % 4).toNat).map fun k => hookOf n ((k : Nat) : Int)
def facesOf (n : Int) : List (Str × Int) := faceOf n 0 "f" ++ (faceOf n 1 "g" ++ faceOf n 2 "h")
def wantsOf (n : Int) : List Want := wantOf n 0 "f" ++ (wantOf n 1 "g" ++ wantOf n 2 "h")
theorem faceOf_len (n k : Int) (f : Str) : (faceOf n k f).length ≤ 1 := by unfold faceOf; split <;> simp
theorem wantOf_len (n k : Int) (f : Str) : (wantOf n k f).length ≤ 1 := by unfold wantOf; split <;> simp
theorem facesOf_len (n : Int) : (facesOf n).length ≤ 3 := by
  have h1 := faceOf_len n 0 "f"; have h2 := faceOf_len n 1 "g"; have h3 := faceOf_len n 2 "h"
  unfold facesOf; simp only [List.length_append]; omega
theorem wantsOf_len (n : Int) : (wantsOf n).length ≤ 3 := by
  have h1 := wantOf_len n 0 "f"; have h2 := wantOf_len n 1 "g"; have h3 := wantOf_len n 2 "h"
  unfold wantsOf; simp only [List.length_append]; omega
theorem hooksOf_len (n : Int) : (hooksOf n).length ≤ 3 := by
  unfold hooksOf; rw [List.length_map, List.length_range]; omega
def partOf (n : Int) (nm : Str) : Part := ⟨nm, 1 + n / 4 % 4, facesOf n, (wantsOf n).drop (n / 64 % 2).toNat, hooksOf n⟩
def partAt (n : Int) (k : Int) (nm : Str) : List Part := if n % 4 < drawn n (20 + k) / 4 % 8 then [partOf (drawn n (20 + k) / 4 / 8) nm] else []
def houseOf (n : Int) : House := partAt n 0 "a" ++ (partAt n 1 "b" ++ (partAt n 2 "c" ++ (partAt n 3 "d" ++ (partAt n 4 "e" ++ partAt n 5 "log"))))
theorem partAt_len (n k : Int) (f : Str) : (partAt n k f).length ≤ 1 := by unfold partAt; split <;> simp
theorem houseOf_len (n : Int) : (houseOf n).length ≤ 6 := by
  have h1 := partAt_len n 0 "a"; have h2 := partAt_len n 1 "b"; have h3 := partAt_len n 2 "c"; have h4 := partAt_len n 3 "d"; have h5 := partAt_len n 4 "e"; have h6 := partAt_len n 5 "log"
  unfold houseOf; simp only [List.length_append]; omega
end DL


namespace DL
open PySem PySem.Spec PyProof.Rows L2
section
variable {X : Cx} {ρ : Rho} {e a b c : Expr} {d x y z : D} {ds es : List D} {k : Kd} {Φ : DL.Fin} {st : Stmt} {sts : List Stmt}
/-- forgetting -/
def Le (ρ' ρ2 : Rho) : Prop := ρ2.length = ρ'.length ∧ ∀ (i : Nat) (b : B), ρ2[i]? = some b → b ≠ .un → ρ'[i]? = some b
theorem Le.refl (ρ : Rho) : Le ρ ρ := ⟨rfl, fun _ _ h _ => h⟩
theorem le_nil : Le [] [] := ⟨rfl, fun _ _ h _ => h⟩
theorem le_cons {b : B} {r s : Rho} (h : Le r s) : Le (b :: r) (b :: s) := ⟨congrArg (· + 1) h.1, fun i c e n => by
  cases i with
  | zero => exact e
  | succ i => exact h.2 i c e n⟩
theorem le_un {b : B} {r s : Rho} (h : Le r s) : Le (b :: r) (.un :: s) := ⟨congrArg (· + 1) h.1, fun i c e n => by
  cases i with
  | zero => cases e; exact absurd rfl n
  | succ i => exact h.2 i c e n⟩
theorem SK.le {K : PySem.W.Frag} {H0 : Ent} {H1 H : Hp} {σ : L2.St} {ρ2 : Rho} (S : SK K H0 H1 ρ σ H) (h : Le ρ ρ2) : SK K H0 H1 ρ2 σ H := S.weak (by rw [h.1]; exact S.ok.len) fun i b e n => ⟨h.2 i b e n, rfl⟩
theorem sx_weak (ρ2 : Rho) (h : Sx X st ρ { Φ with nx := fun ρ' => Le ρ' ρ2 }) (q : Φ.nx ρ2) : Sx X st ρ Φ := fun H0 H1 σ H E S F =>
  h H0 H1 σ H E S ⟨fun ρ' σ' H' S' l => F.nx ρ2 σ' H' (S'.le l) q, F.rt, F.bk, F.ct, F.ro, F.ex⟩
theorem xs_weak (ρ2 : Rho) (h : Sxs X sts ρ { Φ with nx := fun ρ' => Le ρ' ρ2 }) (q : Φ.nx ρ2) : Sxs X sts ρ Φ := fun H0 H1 σ H E S F =>
  h H0 H1 σ H E S ⟨fun ρ' σ' H' S' l => F.nx ρ2 σ' H' (S'.le l) q, F.rt, F.bk, F.ct, F.ro, F.ex⟩
/-- from a state that knows more -/
theorem xs_le {ρ2 : Rho} (l : Le ρ ρ2) (h : Sxs X sts ρ2 Φ) : Sxs X sts ρ Φ := fun H0 H1 σ H E S F => h H0 H1 σ H E (S.le l) F
theorem EvG.le {yl : Bool} {tg : Expr} {ρ2 ρ' : Rho} {is : List Nat} (h : EvG X yl tg ρ2 d ρ' is) (l : Le ρ ρ2) : EvG X yl tg ρ d ρ' is :=
  ⟨fun σ H v Q S r q => h.run σ H v Q (S.weak (by rw [l.1]; exact S.len) fun i b e n => ⟨l.2 i b e n, rfl⟩) r q, fun i b e o => by
    obtain ⟨q, n⟩ := h.own i b e o
    exact ⟨l.2 i b q (by rintro rfl; cases o), n⟩⟩
/-- what is wanted behind a loop is kept by forgetting -/
theorem forW_le {yl : Bool} {tg : Expr} {body : List Stmt} (hΦ : ∀ ρ ρ2, Le ρ ρ2 → Φ.nx ρ2 → Φ.nx ρ) : ∀ {xs : List D} {ρ ρ2 : Rho}, Le ρ ρ2 → ForW X yl tg body xs ρ2 Φ → ForW X yl tg body xs ρ Φ
  | [], _, _, l, h => hΦ _ _ l h
  | _ :: _, _, _, l, ⟨ρ', is, hg, hb⟩ => ⟨ρ', is, hg.le l, hb⟩
theorem sx_for' {yl : Bool} {tg it : Expr} {body : List Stmt} {xs : List D} {pos : Pos} (ρe : Rho → Prop) (hi : EvI X tg it ρ yl xs) (h : ForW X yl tg body xs ρ { Φ with nx := fun ρ' => ∃ ρ2, Le ρ' ρ2 ∧ Φ.nx ρ2 }) (hp : PassesOwn (model X.prog X.w) X.A X.env X.xe := by exact PassesOwn.never) (hc : X.calm = true := by rfl) (hs : ∀ x, foldedSetIterable it X.env x = pure x := by intro _; rfl) :
    Sx X (.For tg it body [] pos) ρ Φ := fun H0 H1 σ H E S F =>
  sx_for hi h hp hc hs H0 H1 σ H E S ⟨fun ρ' σ' H' S' ⟨ρ2, l, q⟩ => F.nx ρ2 σ' H' (S'.le l) q, F.rt, F.bk, F.ct, F.ro, F.ex⟩
/-- a for by what holds of a datum b of the state, item by item -/
theorem forW_st {yl : Bool} {tg : Expr} {body : List Stmt} {α β : Type} (en : α → D) (st : β → Rho) (R : List α → β → Prop)
    (step : ∀ a rest b, R (a :: rest) b → ∃ ρ' is, EvG X yl tg (st b) (en a) ρ' is ∧ Sxs X body ρ' { nx := fun ρ2 => ∃ b', R rest b' ∧ Le ρ2 (st b'), rt := Φ.rt, bk := fun ρ' => ∃ ρ2, Le ρ' ρ2 ∧ Φ.nx ρ2, ct := fun ρ2 => ∃ b', R rest b' ∧ Le ρ2 (st b'), ro := Φ.ro, ex := Φ.ex })
    (done : ∀ b, R [] b → Φ.nx (st b)) : ∀ (l : List α) (b : β), R l b → ForW X yl tg body (l.map en) (st b) { Φ with nx := fun ρ' => ∃ ρ2, Le ρ' ρ2 ∧ Φ.nx ρ2 }
  | [], b, h => ⟨_, .refl _, done b h⟩
  | a :: l, b, h => by
    obtain ⟨ρ', is, hg, hb⟩ := step a l b h
    have next : ∀ ρ2, (∃ b', R l b' ∧ Le ρ2 (st b')) → ForW X yl tg body (l.map en) ρ2 { Φ with nx := fun ρ' => ∃ ρ2, Le ρ' ρ2 ∧ Φ.nx ρ2 } := fun ρ2 ⟨b', hr, l'⟩ =>
      forW_le (Φ := { Φ with nx := fun ρ' => ∃ ρ2, Le ρ' ρ2 ∧ Φ.nx ρ2 }) (fun r r2 q h3 => by
        obtain ⟨r3, l3, q3⟩ := h3
        exact ⟨r3, ⟨l3.1.trans q.1, fun i b e n => q.2 i b (l3.2 i b e n) n⟩, q3⟩) l' (forW_st en st R step done l b' hr)
    exact ⟨ρ', is, hg, hb.imp next (fun _ _ q => q) (fun _ q => q) next⟩
theorem sx_forS {yl : Bool} {tg it : Expr} {body : List Stmt} {α β : Type} (l : List α) (en : α → D) (st : β → Rho) (R : List α → β → Prop) (b0 : β) {pos : Pos} (hi : EvI X tg it (st b0) yl (l.map en)) (h0 : R l b0)
    (step : ∀ a rest b, R (a :: rest) b → ∃ ρ' is, EvG X yl tg (st b) (en a) ρ' is ∧ Sxs X body ρ' { nx := fun ρ2 => ∃ b', R rest b' ∧ Le ρ2 (st b'), rt := Φ.rt, bk := fun ρ' => ∃ ρ2, Le ρ' ρ2 ∧ Φ.nx ρ2, ct := fun ρ2 => ∃ b', R rest b' ∧ Le ρ2 (st b'), ro := Φ.ro, ex := Φ.ex })
    (done : ∀ b, R [] b → Φ.nx (st b)) (hp : PassesOwn (model X.prog X.w) X.A X.env X.xe := by exact PassesOwn.never) (hc : X.calm = true := by rfl) (hs : ∀ x, foldedSetIterable it X.env x = pure x := by intro _; rfl) : Sx X (.For tg it body [] pos) (st b0) Φ :=
  sx_for' (fun _ => True) hi (forW_st en st R step done l b0 h0) hp hc hs
/-- an if whose ways meet -/
theorem sx_ifS {t : Bool} {as bs : List Stmt} {β : Type} {pos : Pos} (st : β → Rho) (R : β → Prop) (hc : EvT X c ρ t) (ha : t = true → Sxs X as ρ { Φ with nx := fun ρ' => ∃ b, R b ∧ Le ρ' (st b) }) (hb : t = false → Sxs X bs ρ { Φ with nx := fun ρ' => ∃ b, R b ∧ Le ρ' (st b) }) (h : ∀ b, R b → Φ.nx (st b)) : Sx X (.If c as bs pos) ρ Φ := fun H0 H1 σ H E S F =>
  sx_if (Φ := { Φ with nx := fun ρ' => ∃ b, R b ∧ Le ρ' (st b) }) hc ha hb H0 H1 σ H E S ⟨fun ρ' σ' H' S' ⟨b, r, l⟩ => F.nx (st b) σ' H' (S'.le l) (h b r), F.rt, F.bk, F.ct, F.ro, F.ex⟩
/-! ### tuple * 0, tuple * 1 -/
theorem tuple_mul0 (l : Addr) (items : Array Value) (n : Nat) (dd : Option Addr) (sl : Array (Option Value)) (u : Tok) (c1 : items.isEmpty = false) :
    Meets (Builtin.«tuple.__mul__» ⟨[.ref l, .int 0 u], []⟩) (fun _ R s => s.heap.get? l = some { cls := .type "tuple", dict := dd, data := .seq items n, slots := sl } ∧
      R (.ok (.ret (Value.ref s.heap.objs.size))) { s with heap := s.heap.push { cls := Value.type "tuple", data := Data.seq #[] }, toks := s.toks }) :=
  .of_wp fun prog w A R s h => by
    obtain ⟨hp, g, d, tk, os⟩ := s
    obtain ⟨hl, h⟩ := h
    have f1 := AutoSeq1.idx_int
    have c2 : (items.isEmpty || (0 : Int) == 1) = false := by rw [c1]; rfl
    have c3 : (decide ((0 : Int) ≤ 0) || items.isEmpty) = true := by simp
    wp_walk using wpAny_loadPart' hl
    repeat (first
      | (refine wpAny_ite_false (decide_eq_false (by rw [c2]; exact Bool.false_ne_true)) ?_; wp_walk using wpAny_loadPart' hl)
      | (refine wpAny_ite_true (decide_eq_true c3) ?_; wp_walk using wpAny_loadPart' hl))
    exact ⟨_, rfl, h⟩
theorem tuple_mul1 (l : Addr) (items : Array Value) (n : Nat) (sl : Array (Option Value)) (u : Tok) :
    Meets (Builtin.«tuple.__mul__» ⟨[.ref l, .int 1 u], []⟩) (fun _ R s => s.heap.get? l = some { cls := .type "tuple", dict := none, data := .seq items n, slots := sl } ∧
      R (.ok (.ret (Value.ref l))) s) :=
  .of_wp fun prog w A R s h => by
    obtain ⟨hp, g, d, tk, os⟩ := s
    obtain ⟨hl, h⟩ := h
    have f1 := AutoSeq1.idx_int
    have c2 : (items.isEmpty || (1 : Int) == 1) = true := by simp
    wp_walk using wpAny_loadPart' hl
    repeat (first
      | (refine wpAny_ite_true (decide_eq_true c2) ?_; wp_walk using wpAny_loadPart' hl))
    exact ⟨_, rfl, h⟩
theorem op_rep01 : OpR X (binaryOp .Mult) (fun x y H Q => ∃ l k xs, x = .ref l ∧ y = .int k ∧ PlT X.K H l xs ∧ xs ≠ [] ∧ ((k = 0 ∧ ∀ p o, H p = none → o.dict = none → Q (.ref p) (upd H p (.frz o (.tup [])))) ∨ (k = 1 ∧ Q (.ref l) H))) := by
  intro pins s σ H x y v u Q I rx ry h
  obtain ⟨l, k, xs, rfl, rfl, hT, hne, h⟩ := h
  cases rx
  obtain ⟨t, rfl⟩ := ry
  obtain ⟨⟨cls, dd, data, sl⟩, its, n, ho, hc, hdn, hd, r, hz⟩ := inv_pl I hT
  simp only at hc hd hdn
  subst hc hd hdn
  have hi : its.toArray.isEmpty = false := by
    cases its with
    | nil => exact absurd ((Vals.nil_iff r).mp rfl) hne
    | cons a b => rfl
  rcases h with ⟨rfl, q⟩ | ⟨rfl, q⟩
  · refine wpAny_binaryOp_repeat_ref (T := "tuple") (U := "int") (by decide) ⟨_, ho, rfl⟩ (fun s' => typeIs_int s' 0 t) noFill_tuple_mul F.fills_int_mul F.slot_int_rmul repeat_tuple F.slot_int_index.lookup
      (call_meets F.slot_int_rmul (typeIs_int s 0 t) F.entry_int_rmul (F.args_int_rmul_2 _ _) (int_rmul_tuple 0 t l its.toArray n none sl)
        ⟨ho, rfl, ⟨_, ho, rfl⟩, call_meets F.slot_tuple_mul ⟨_, ho, rfl⟩ F.entry_tuple_mul (F.args_tuple_mul_2 _ _) (tuple_mul0 l its.toArray n none sl t hi) ⟨ho, ?_⟩⟩)
    exact ⟨.ref s.heap.objs.size, _, inv_tup (us := []) (xs := []) (t' := s.toks) I (fun b u e => Heap.get?_push_of_some _ e) (Nat.le_refl _) (Heap.get?_push_size _ rfl) rfl rfl .nil (Nat.zero_le _), rfl, q _ _ (I.hok.fresh (Nat.le_refl _)) rfl⟩
  · refine wpAny_binaryOp_repeat_ref (T := "tuple") (U := "int") (by decide) ⟨_, ho, rfl⟩ (fun s' => typeIs_int s' 1 t) noFill_tuple_mul F.fills_int_mul F.slot_int_rmul repeat_tuple F.slot_int_index.lookup
      (call_meets F.slot_int_rmul (typeIs_int s 1 t) F.entry_int_rmul (F.args_int_rmul_2 _ _) (int_rmul_tuple 1 t l its.toArray n none sl)
        ⟨ho, rfl, ⟨_, ho, rfl⟩, call_meets F.slot_tuple_mul ⟨_, ho, rfl⟩ F.entry_tuple_mul (F.args_tuple_mul_2 _ _) (tuple_mul1 l its.toArray n sl t) ⟨ho, ?_⟩⟩)
    exact ⟨.ref l, H, I, rfl, q⟩
theorem o_rep01 {t : Bool} (hne : ds ≠ []) : OpV X (binaryOp .Mult) (.tuple ds) (.int (if t then 1 else 0)) (.val (.tuple (if t then ds else []))) := fun H u v Q ru rv q => by
  have ru0 := ru
  obtain ⟨a, xs, rfl, hs, hr⟩ := ru.tupP
  have hx : xs ≠ [] := fun e => hne (by subst e; cases hr; rfl)
  refine ⟨_, op_rep01, a, _, xs, rfl, rv.int, hs, hx, ?_⟩
  cases t with
  | false => exact .inl ⟨rfl, fun p o hp ho => q _ _ ⟨same_new hp, rp_tupNew hp ho .nil⟩⟩
  | true => cases ru0 with | of r => exact .inr ⟨rfl, q _ H ⟨.refl H, r⟩⟩
end
end DL


namespace DL
open PySem PySem.Spec PyProof.Rows L2
/-! ### sorted(xs) of alike data -/
/-- the sorted data -/
def sortD (ds : List D) : List D := ds.mergeSort fun a b => !PySem.W.dataLt b a
structure SortOk (ds : List D) : Prop where
  al : PySem.W.AllAlike ds
  so : PySem.W.Sortable ds
  dp : ∀ d ∈ ds, d.depth ≤ 8
  nd : ∀ d ∈ ds, nod d = true
/-- the shapes of keys -/
inductive Sh where
  | int | str | bool | tup (l : List Sh)
mutual
def shOk : Sh → D → Bool
  | .int, .int _ => true
  | .str, .str _ => true
  | .bool, .bool _ => true
  | .tup l, .tuple ds => shAll l ds
  | _, _ => false
def shAll : List Sh → List D → Bool
  | [], [] => true
  | s :: l, d :: ds => shOk s d && shAll l ds
  | _, _ => false
end
mutual
theorem sh_alike : ∀ (s : Sh) (d e : D), shOk s d = true → shOk s e = true → PySem.W.alike d e = true
  | .int, d, e, h1, h2 => by cases d <;> simp [shOk] at h1; cases e <;> simp [shOk] at h2; simp [PySem.W.alike]
  | .str, d, e, h1, h2 => by cases d <;> simp [shOk] at h1; cases e <;> simp [shOk] at h2; simp [PySem.W.alike]
  | .bool, d, e, h1, h2 => by cases d <;> simp [shOk] at h1; cases e <;> simp [shOk] at h2; simp [PySem.W.alike]
  | .tup l, d, e, h1, h2 => by
    cases d <;> simp [shOk] at h1
    cases e <;> simp [shOk] at h2
    rw [PySem.W.alike]
    exact shAll_alike l _ _ h1 h2
theorem shAll_alike : ∀ (s : List Sh) (d e : List D), shAll s d = true → shAll s e = true → PySem.W.alikeAll d e = true
  | [], d, e, h1, h2 => by cases d <;> simp [shAll] at h1; rw [PySem.W.alikeAll]
  | s :: l, d, e, h1, h2 => by
    cases d <;> simp [shAll] at h1
    cases e <;> simp [shAll] at h2
    rw [PySem.W.alikeAll, Bool.and_eq_true]
    exact ⟨sh_alike s _ _ h1.1 h2.1, shAll_alike l _ _ h1.2 h2.2⟩
end
mutual
def shDep : Sh → Nat
  | .tup l => shDepA l + 1
  | _ => 0
def shDepA : List Sh → Nat
  | [] => 0
  | s :: l => max (shDep s) (shDepA l)
end
mutual
theorem sh_dep : ∀ (s : Sh) (d : D), shOk s d = true → d.depth ≤ shDep s
  | .int, d, h1 => by cases d <;> simp [shOk] at h1; simp [PyData.depth]
  | .str, d, h1 => by cases d <;> simp [shOk] at h1; simp [PyData.depth]
  | .bool, d, h1 => by cases d <;> simp [shOk] at h1; simp [PyData.depth]
  | .tup l, d, h1 => by
    cases d <;> simp [shOk] at h1
    have := shAll_dep l _ h1
    simp only [PyData.depth, shDep]
    omega
theorem shAll_dep : ∀ (s : List Sh) (d : List D), shAll s d = true → PyData.depthAll d ≤ shDepA s
  | [], d, h1 => by cases d <;> simp [shAll] at h1; simp [PyData.depthAll]
  | s :: l, d, h1 => by
    cases d <;> simp [shAll] at h1
    have a := sh_dep s _ h1.1
    have b := shAll_dep l _ h1.2
    simp only [PyData.depthAll, shDepA]
    omega
end
mutual
theorem sh_nod : ∀ (s : Sh) (d : D), shOk s d = true → nod d = true
  | .int, d, h1 => by cases d <;> simp [shOk] at h1; simp [nod]
  | .str, d, h1 => by cases d <;> simp [shOk] at h1; simp [nod]
  | .bool, d, h1 => by cases d <;> simp [shOk] at h1; simp [nod]
  | .tup l, d, h1 => by
    cases d <;> simp [shOk] at h1
    have := shAll_nod l _ h1
    simpa [nod] using this
theorem shAll_nod : ∀ (s : List Sh) (d : List D), shAll s d = true → nods d = true
  | [], d, h1 => by cases d <;> simp [shAll] at h1; simp [nods]
  | s :: l, d, h1 => by
    cases d <;> simp [shAll] at h1
    have a := sh_nod s _ h1.1
    have b := shAll_nod l _ h1.2
    simp only [nods, Bool.and_eq_true]
    exact ⟨a, b⟩
end
def shTop : Sh → Bool
  | .tup [] => false
  | _ => true
theorem so_sh {ds : List D} (s : Sh) (h : ∀ d ∈ ds, shOk s d = true) (ht : shTop s = true := by rfl) (hd : shDep s ≤ 8 := by decide) : SortOk ds where
  al d hd e he := sh_alike s d e (h d hd) (h e he)
  so := by
    cases s with
    | tup l =>
      refine .inl fun d hd => ?_
      have := h d hd
      cases d <;> simp [shOk] at this
      rename_i xs
      cases l with
      | nil => cases ht
      | cons a l =>
        cases xs with
        | nil => simp [shAll] at this
        | cons x xs => exact ⟨x, xs, rfl⟩
    | _ =>
      refine .inr fun d hd => ?_
      have := h d hd
      cases d <;> simp [shOk] at this <;> exact ⟨by simp, by simp⟩
  dp d hd' := Nat.le_trans (sh_dep s d (h d hd')) hd
  nd d hd := sh_nod s d (h d hd)
theorem so_map {α : Type} {l : List α} {f : α → D} (s : Sh) (h : ∀ a ∈ l, shOk s (f a) = true := by intros; rfl) (ht : shTop s = true := by rfl) (hd : shDep s ≤ 8 := by decide) : SortOk (l.map f) :=
  so_sh s (fun d hd => by obtain ⟨a, ha, rfl⟩ := List.mem_map.mp hd; exact h a ha) ht hd
section
variable {X : Cx}
theorem EachIs.zipV {K : PySem.W.Frag} {H : Hp} : ∀ {xs : List V} {ds : List D} {us : List Value}, RpAll K H xs ds → Vals xs us → PySem.W.EachIs (fun (u : Value) (p : V × D) => RelV p.1 u) us (xs.zip ds)
  | [], _, us, r, v => by cases r; cases v; exact .nil
  | x :: xs, _, us, r, v => by
    cases r with
    | cons r1 r2 =>
      cases v with
      | cons v1 v2 => exact .cons v1 (EachIs.zipV r2 v2)
theorem each_fst {K : PySem.W.Frag} {H : Hp} : ∀ {us : List Value} {ps : List (V × D)}, PySem.W.EachIs (fun (u : Value) (p : V × D) => RelV p.1 u) us ps → Vals (ps.map (·.1)) us
  | _, _, .nil => .nil
  | _, _, .cons h t => .cons h (each_fst (K := K) (H := H) t)
theorem RpAll.of_mem {K : PySem.W.Frag} {H : Hp} : ∀ {ps : List (V × D)}, (∀ p ∈ ps, Rp K H p.1 p.2) → RpAll K H (ps.map (·.1)) (ps.map (·.2))
  | [], _ => .nil
  | p :: ps, h => .cons (h p (by simp)) (RpAll.of_mem fun q hq => h q (by simp [hq]))
theorem RpAll.mem_zip {K : PySem.W.Frag} {H : Hp} : ∀ {xs : List V} {ds : List D}, RpAll K H xs ds → ∀ p ∈ xs.zip ds, Rp K H p.1 p.2
  | _, _, .nil, p, hp => nomatch hp
  | _, _, .cons h t, p, hp => by
    rw [List.zip_cons_cons] at hp
    rcases List.mem_cons.mp hp with rfl | hp
    · exact h
    · exact RpAll.mem_zip t p hp
theorem RpAll.len {K : PySem.W.Frag} {H : Hp} : ∀ {xs : List V} {ds : List D}, RpAll K H xs ds → xs.length = ds.length
  | _, _, .nil => rfl
  | _, _, .cons _ t => congrArg (· + 1) (RpAll.len t)
theorem call_sortedD (hu : X.A.units + 12 < cLine) : CallR X (.builtin "sorted") (fun vs H Q => ∃ a xs ds, vs = [.ref a] ∧ SqL X.K H a xs ∧ RpAll X.K H xs ds ∧ SortOk ds ∧
    ∀ ys p, H p = none → RpAll X.K H ys (sortD ds) → Q (.ref p) (upd H p (.lst ys))) := by
  intro pins s σ H vs us Q I r h
  obtain ⟨a, xs, ds, rfl, hs, hr, ok, q⟩ := h
  obtain ⟨its, rv, hl, hz⟩ := I.list hs
  rw [Vals.ref1 r]
  have hlen := rv.length
  have e0 : PySem.W.EachIs (fun v d => ∃ as, Reads s.heap v d as) its ds := by
    have go : ∀ {xs : List V} {ds : List D} {us : List Value}, RpAll X.K H xs ds → Vals xs us → (∀ d ∈ ds, nod d = true) → PySem.W.EachIs (fun v d => ∃ as, Reads s.heap v d as) us ds := by
      intro xs
      induction xs with
      | nil => intro ds us r v _; cases r; cases v; exact .nil
      | cons x xs ih =>
        intro ds us r v n
        cases r with
        | cons r1 r2 =>
          cases v with
          | cons v1 v2 => exact .cons (Dp.reads I _ _ _ ((Rq.of r1).dp (n _ (by simp))) v1) (ih r2 v2 fun d hd => n d (by simp [hd]))
    exact go hr rv ok.nd
  have e1 : PySem.W.EachIs (fun v d => ∃ as, Reads (PySem.W.sortingHeap (PySem.W.copyHeap s.heap its) (s.heap.objs.size + 1) its) v d as) its ds :=
    e0.mono fun v d ⟨as, h⟩ => ⟨as, PyProof.Rows.Reads.keeps (fun b o e => PySem.W.sorting_copy_old e) h⟩
  have hu2 : X.A.in1.in1.units ≤ X.A.units + 2 := by simp [Around.in1, Around.units]; try omega
  refine PySem.W.sorted_vals hl.isList (PySem.W.SortsAt.data e1 ok.al ok.so fun d hd => by have := ok.dp d hd; omega) (by omega) ?_
  have key : PySem.W.EachIs (fun (v : Value) (p : V × D) => (PySem.W.dataKind (PySem.W.sortingHeap (PySem.W.copyHeap s.heap its) (s.heap.objs.size + 1) its) ds).keyOf v = some (PySem.W.keyToks p.2)) its (xs.zip ds) := by
    have go : ∀ {xs : List V} {es : List D} {us : List Value}, RpAll X.K H xs es → Vals xs us → (∀ d ∈ es, d ∈ ds) → PySem.W.EachIs (fun v d => ∃ as, Reads (PySem.W.sortingHeap (PySem.W.copyHeap s.heap its) (s.heap.objs.size + 1) its) v d as) us es →
        PySem.W.EachIs (fun (v : Value) (p : V × D) => (PySem.W.dataKind (PySem.W.sortingHeap (PySem.W.copyHeap s.heap its) (s.heap.objs.size + 1) its) ds).keyOf v = some (PySem.W.keyToks p.2)) us (xs.zip es) := by
      intro xs
      induction xs with
      | nil => intro es us r v _ _; cases r; cases v; exact .nil
      | cons x xs ih =>
        intro es us r v n e
        cases r with
        | cons r1 r2 =>
          cases v with
          | cons v1 v2 =>
            cases e with
            | cons e1 e2 =>
              obtain ⟨as, e1⟩ := e1
              exact .cons (PySem.W.dataKind_some ok.al (n _ (by simp)) e1) (ih r2 v2 (fun d hd => n d (by simp [hd])) e2)
    exact go hr rv (fun _ h => h) e1
  have srt := PySem.W.sortVals_each (rev := false) (κ := PySem.W.dataKind (PySem.W.sortingHeap (PySem.W.copyHeap s.heap its) (s.heap.objs.size + 1) its) ds) (fun p : V × D => PySem.W.keyToks p.2) (EachIs.zipV hr rv) key
  generalize hps : (xs.zip ds).mergeSort (PySem.W.sortLe (PySem.W.dataKind (PySem.W.sortingHeap (PySem.W.copyHeap s.heap its) (s.heap.objs.size + 1) its) ds).toKeyOrd false fun p : V × D => PySem.W.keyToks p.2) = ps at srt
  have perm : ps.Perm (xs.zip ds) := by rw [← hps]; exact List.mergeSort_perm _ _
  have snd : ps.map (·.2) = sortD ds := by
    rw [← hps]
    have := PySem.W.sort_maps (r := PySem.W.sortLe (PySem.W.dataKind (PySem.W.sortingHeap (PySem.W.copyHeap s.heap its) (s.heap.objs.size + 1) its) ds).toKeyOrd false fun p : V × D => PySem.W.keyToks p.2) (s := fun a b => !PySem.W.dataLt b a) (fun p : V × D => p.2) (l := xs.zip ds) (fun a _ b _ => rfl)
    refine this.trans ?_
    unfold sortD
    congr 1
    rw [List.map_snd_zip]
    have := hr.len
    omega
  have rp : RpAll X.K H (ps.map (·.1)) (sortD ds) := by
    rw [← snd]
    exact RpAll.of_mem fun p hp => hr.mem_zip p (perm.mem_iff.mp hp)
  obtain ⟨ep, he'⟩ := PyProof.Rows.sortedAll_at s.heap its (PySem.W.sortVals (PySem.W.dataKind (PySem.W.sortingHeap (PySem.W.copyHeap s.heap its) (s.heap.objs.size + 1) its) ds) false its its).toArray
  have hl2 : (ps.map (·.1)).length ≤ sizeLine := by
    rw [List.length_map, perm.length_eq, List.length_zip]
    omega
  have vv := each_fst (K := X.K) (H := H) srt
  exact ⟨.ref _, upd H (s.heap.objs.size + 1) (.lst (ps.map (·.1))), I.laid (t' := s.toks) (fun _ _ => PyProof.Rows.sortedAll_old) (Nat.le_succ _) ⟨hl2, _, ep, vv, he'⟩, rfl, q _ _ (I.hok.fresh (Nat.le_succ _)) rp⟩
theorem c_sorted {ds : List D} (hu : X.A.units + 12 < cLine) (ok : SortOk ds) : CallV X (.builtin "sorted") [.list ds] (.new (sortD ds)) := fun H vs Q r q => by
  obtain ⟨v, rfl, r0⟩ := paired1 r
  obtain ⟨a, xs, rfl, hs, hr⟩ := r0.lst
  exact ⟨_, call_sortedD hu, a, xs, ds, rfl, hs, hr, ok, fun ys p hp hy => q _ _ ⟨same_new hp, p, _, rfl, hp, upd_same, hy.mono (stb_new hp)⟩⟩
end
end DL


namespace DL
open PySem PySem.Spec PyProof.Rows L2 HT
/-! ### t[::-1] -/
section
variable {prog : Program} {w : World} {A : Around} {E : Value → Shared → Prop} {s : Shared}
theorem sliceApplied_rev {sl : Addr} {vl vu vs : Value} {n : Nat} {Q : Int × Int × Nat → Shared → Prop} (hs : s.heap.IsSliceOf sl vl vu vs) (pl : IsPart vl none) (pu : IsPart vu none) (ps : IsPart vs (some (-1)))
    (h : Q ((n : Int) - 1, -1, n) s) : wpAny (model prog w) A (Builtin.Slice.sliceApplied (.ref sl) (pure (n : Int))) Q E s := by
  obtain ⟨os, hos, hcs, hds⟩ := id hs
  unfold Builtin.Slice.sliceApplied Builtin.Slice.sliceFields
  refine wpAny_bind (wpAny_bind (wpAny_field hos hds (x := vl) rfl (wpAny_bind (wpAny_field hos hds (x := vu) rfl (wpAny_bind (wpAny_field hos hds (x := vs) rfl (wpAny_pure ?_)))))))
  refine wpAny_bind (slicePart_ ps ?_)
  show wpAny _ _ (if ((-1 : Int) == 0) = true then _ else _) _ _ s
  rw [if_neg (by decide)]
  refine wpAny_bind (slicePart_ pl (wpAny_bind (slicePart_ pu (wpAny_bind (wpAny_pure ?_)))))
  show wpAny _ _ (pure ((n : Int) - 1, (-1 : Int), Builtin.Slice.slicePlaces ((n : Int) - 1) (-1) (-1))) _ _ s
  have e : Builtin.Slice.slicePlaces ((n : Int) - 1) (-1) (-1) = n := by
    unfold Builtin.Slice.slicePlaces
    rw [if_neg (by decide)]
    by_cases h0 : (n : Int) - 1 > -1
    · rw [if_pos h0]
      have : (-(-1 : Int)) = 1 := by decide
      rw [this, Int.ediv_one]
      omega
    · rw [if_neg h0]; omega
  rw [e]
  exact wpAny_pure h
theorem fm_congr {α β : Type} {f g : α → Option β} : ∀ {l : List α}, (∀ a ∈ l, f a = g a) → l.filterMap f = l.filterMap g
  | [], _ => rfl
  | a :: l, h => by rw [List.filterMap_cons, List.filterMap_cons, h a (by simp), fm_congr fun b hb => h b (by simp [hb])]
theorem pick_rev (xs : Array Value) : ((List.range xs.size).filterMap fun (m : Nat) => xs[(((xs.size : Int) - 1) + (m : Int) * (-1)).toNat]?).toArray = xs.toList.reverse.toArray := by
  have e : ((List.range xs.size).filterMap fun (m : Nat) => xs[(((xs.size : Int) - 1) + (m : Int) * (-1)).toNat]?) = ((List.range xs.size).map fun k => xs.size - 1 - k).filterMap (xs[·]?) := by
    rw [List.filterMap_map]
    apply fm_congr
    intro k hk
    have := List.mem_range.mp hk
    have e : (((xs.size : Int) - 1) + (k : Int) * (-1)).toNat = xs.size - 1 - k := by omega
    rw [e]; rfl
  rw [e, PySem.W.krv_range, List.filterMap_reverse, PySem.W.krv_all]
theorem getItem_tuple_rev {t sl : Addr} {items : Array Value} {vl vu vs : Value} {Q : Value → Shared → Prop} (ht : IsTup s.heap t items) (hs : s.heap.IsSliceOf sl vl vu vs) (pl : IsPart vl none) (pu : IsPart vu none) (ps : IsPart vs (some (-1)))
    (h : Q (.ref s.heap.objs.size) { s with heap := s.heap.push { cls := .type "tuple", data := .seq items.toList.reverse.toArray } })
    (hsz : items.size ≤ sizeLine) : wpAny (model prog w) A (getItem (.ref t) (.ref sl)) Q E s := by
  have htake : sizeOk (.seq items.toList.reverse.toArray) := by
    show items.toList.reverse.toArray.size ≤ sizeLine
    rw [List.size_toArray, List.length_reverse, Array.length_toList]
    omega
  obtain ⟨os, hos, hcs, hds⟩ := id hs
  have hTs : s.TypeIs (.ref sl) "slice" := ⟨os, hos, hcs⟩
  unfold getItem
  try with_reducible refine wpAny_holding ?_
  first | refine wpAny_bind (wpAny_pure ?_) | skip
  refine wpAny_bind (wpAny_sequenceKey ht.typeIs (by decide) ?_)
  refine wpAny_bind (wpAny_callSpecial?_slot (name := Str.ofString "__getitem__") ht.typeIs PyProof.Rows.slot_tuple_getitem
    (wpAny_call_entry PyProof.Rows.slot_tuple_getitem ht.typeIs entry_tuple_getitem ?_ (args_tuple_getitem _ _)))
  show wpAny _ _ (Builtin.Tuple.tupleItemsOf (.ref t) >>= _) _ _ s
  refine wpAny_bind (tupleItemsOf_ ht ?_)
  refine wpAny_bind (wpAny_typeOf hTs ?_)
  rw [if_pos (by decide)]
  refine wpAny_bind (sliceApplied_rev hs pl pu ps ?_)
  have hno : ¬ ((((items.size : Int) - 1) == 0 && (-1 : Int) == 1 && items.size == items.size) = true) := by
    intro q
    rw [Bool.and_eq_true, Bool.and_eq_true] at q
    exact absurd q.1.2 (by decide)
  show wpAny _ _ (if (((items.size : Int) - 1) == 0 && (-1 : Int) == 1 && items.size == items.size) = true then _ else _) _ _ s
  rw [if_neg hno, pick_rev]
  first
    | exact wpAny_bind (m := Builtin.Tuple.tupleExact _) (wpAny_newObj_type (wpAny_pure ⟨_, rfl, wpAny_pure h⟩) htake)
    | exact wpAny_bind (m := Builtin.Tuple.tupleExact _) (wpAny_newObj_type (wpAny_bind (wpAny_pure (wpAny_pure ⟨_, rfl, wpAny_pure h⟩))) htake)
    | exact wpAny_bind (wpAny_bind (m := Builtin.Tuple.tupleExact _) (wpAny_newObj_type (wpAny_pure (wpAny_pure ⟨_, rfl, wpAny_pure h⟩)) htake))
    | exact wpAny_bind (wpAny_bind (m := Builtin.Tuple.tupleExact _) (wpAny_newObj_type (wpAny_pure ⟨_, rfl, wpAny_pure h⟩) htake))
end
section
variable {X : Cx} {ρ : Rho} {ds : List D}
theorem pe_revT {e : Expr} {te : TE} {k : Nat} {p1 p2 p3 pos : Pos} (he : PE X e te) : PE X (.Subscript e (.Slice none none (some (.UnaryOp .USub (.Constant (.int 1) k p1) p2)) p3) pos) (fun σ H Q => te σ H fun x H1 => ∃ a xs, x = .ref a ∧ SqT X.K H1 a xs ∧ ∀ p o, H1 p = none → o.dict = none → Q (.ref p) (upd H1 p (.frz o (.tup xs.reverse)))) := by
  refine ⟨fun pins s σ H Q I h => ?_⟩
  refine Subscript_ (thn (he.run pins s σ H _ I h) fun v s1 ⟨x, H1, I1, r1, q1⟩ => ?_)
  obtain ⟨a, xs, ex, hx, q⟩ := q1
  subst ex
  cases r1
  have hst : PO X (some (.UnaryOp .USub (.Constant (.int 1) k p1) p2)) (tPart (tUn (rU fun i => .int (-i)) (tC (.int 1)))) := po_some (pe_un un_neg pe_int)
  refine wpAny_Slice (thn (po_none.run pins s1 σ H1 (fun o H2 => o = none ∧ H2 = H1) I1 ⟨rfl, rfl⟩) fun vl s2 ⟨l, H2, I2, pl, el, e2⟩ => ?_)
  subst el e2
  refine thn (po_none.run pins s2 σ H2 (fun o H3 => o = none ∧ H3 = H2) I2 ⟨rfl, rfl⟩) fun vu s3 ⟨u, H3, I3, pu, eu, e3⟩ => ?_
  subst eu e3
  refine thn (hst.run pins s3 σ H3 (fun o H4 => o = some (-1) ∧ H4 = H3) I3 ⟨1, rfl, -1, rfl, rfl, rfl⟩) fun vs s4 ⟨o, H4, I4, ps, eo, e4⟩ => ?_
  subst eo e4
  have I5 : Inv X pins σ H4 { s4 with heap := s4.heap.push { cls := .type "slice", data := .fields #[vl, vu, vs] } } := I4.kept (t' := s4.toks) fun b ob q => Heap.get?_push_of_some _ q
  obtain ⟨its, r, ht, hz⟩ := I5.tuple hx
  have hlen := r.length
  show wpAny (model X.prog X.w) X.A (subscriptTail e (.Slice none none (some (.UnaryOp .USub (.Constant (.int 1) k p1) p2)) p3) (.ref a) (.ref s4.heap.objs.size)) (EP X pins σ Q) X.xe { s4 with heap := s4.heap.push { cls := .type "slice", data := .fields #[vl, vu, vs] } }
  refine tail_any (ops := [.ref a, .ref s4.heap.objs.size]) ht.typeIs (PyProof.Rows.slot_tuple_getitem.lookup) ?_ (by with_unfolding_all rfl)
  refine getItem_tuple_rev ht (Heap.IsSliceOf.new _ vl vu vs) pl pu ps ?_ (by rw [List.size_toArray]; omega)
  exact ⟨.ref _, _, inv_tup (t' := s4.toks) I5 (fun b u e => Heap.get?_push_of_some _ e) (Nat.le_refl _) (Heap.get?_push_size _ rfl) rfl rfl r.reverse (by rw [List.length_reverse]; exact hz), rfl, q _ _ (I5.hok.fresh (Nat.le_refl _)) rfl⟩
theorem ev_revT {e : Expr} {k : Nat} {p1 p2 p3 pos : Pos} (h : Ev X e ρ (.qua (.tuple ds))) : Ev X (.Subscript e (.Slice none none (some (.UnaryOp .USub (.Constant (.int 1) k p1) p2)) p3) pos) ρ (.val (.tuple ds.reverse)) := fun σ H Q S q =>
  ⟨_, pe_revT pe_c, h σ H _ S fun v H1 ⟨s1, r1⟩ => by
    obtain ⟨a, xs, rfl, hs, hr⟩ := r1.tup
    exact ⟨a, xs, rfl, hs, fun p o hp ho => q _ _ ⟨s1.trans (same_new hp), rp_tupNew hp ho hr.reverse⟩⟩⟩
theorem ev_revL {e : Expr} {k : Nat} {p1 p2 p3 pos : Pos} (h : Ev X e ρ (.qua (.list ds))) : Ev X (.Subscript e (.Slice none none (some (.UnaryOp .USub (.Constant (.int 1) k p1) p2)) p3) pos) ρ (.new ds.reverse) := fun σ H Q S q =>
  ⟨_, pe_revL pe_c, h σ H _ S fun v H1 ⟨s1, r1⟩ => by
    obtain ⟨a, xs, rfl, hs, hr⟩ := r1.lst
    exact ⟨a, xs, rfl, hs, fun p hp => q _ _ ⟨s1.trans (same_new hp), p, _, rfl, s1.free hp, upd_same, hr.reverse.mono (stb_new hp)⟩⟩⟩
/-! ### xs == [] -/
theorem eqv_nilL : PyData.eqv (.list ds) (.list []) = ds.isEmpty := by cases ds <;> simp [PyData.eqv, PyData.eqvAll]
theorem eqv_nilT : PyData.eqv (.tuple ds) (.tuple []) = ds.isEmpty := by cases ds <;> simp [PyData.eqv, PyData.eqvAll]
theorem o_eqNil {n : Nat} (hx : PlAll n ds) (hu : X.A.units + 64 < cLine) (hn : n + 1 ≤ 64 := by decide) : OpV X (compareOp .Eq) (.list ds) (.list []) (.val (.bool ds.isEmpty)) := by
  rw [← eqv_nilL]; exact o_eqD (pl_lst hx) (pl_lst (n := 0) pla_nil) hu hn
theorem o_neNil {n : Nat} (hx : PlAll n ds) (hu : X.A.units + 64 < cLine) (hn : n + 1 ≤ 64 := by decide) : OpV X (compareOp .NotEq) (.list ds) (.list []) (.val (.bool (!ds.isEmpty))) := by
  rw [← eqv_nilL]; exact o_neD (pl_lst hx) (pl_lst (n := 0) pla_nil) hu hn
theorem o_eqNilT {n : Nat} (hx : PlAll n ds) (hu : X.A.units + 64 < cLine) (hn : n + 1 ≤ 64 := by decide) : OpV X (compareOp .Eq) (.tuple ds) (.tuple []) (.val (.bool ds.isEmpty)) := by
  rw [← eqv_nilT]; exact o_eqD (pl_tup hx) (pl_tup (n := 0) pla_nil) hu hn
theorem o_neNilT {n : Nat} (hx : PlAll n ds) (hu : X.A.units + 64 < cLine) (hn : n + 1 ≤ 64 := by decide) : OpV X (compareOp .NotEq) (.tuple ds) (.tuple []) (.val (.bool (!ds.isEmpty))) := by
  rw [← eqv_nilT]; exact o_neD (pl_tup hx) (pl_tup (n := 0) pla_nil) hu hn
/-- equality of strings or numbers, deep -/
theorem eqv_strs (l m : List Str) : PyData.eqvAll (l.map .str) (m.map .str) = decide (l = m) := by
  induction l generalizing m with
  | nil => cases m <;> simp [PyData.eqvAll]
  | cons a l ih =>
    cases m with
    | nil => simp [PyData.eqvAll]
    | cons b m =>
      simp only [List.map_cons, PyData.eqvAll, PyData.eqv, ih]
      by_cases h : a = b <;> by_cases h2 : l = m <;> simp [h, h2]
end
end DL


/-! Who stands, by the laws. -/
namespace DL
open PySem L2
def lawGive (p : Part) (w : Want) : Bool := !(p.faces.filter fun f => decide (f.1 = w.face) && (decide (w.low ≤ f.2) && decide (f.2 ≤ w.high))).isEmpty
def lawOthers (ps : List Part) (n : Str) (w : Want) : List Part := ps.filter fun q => !decide (q.name = n) && lawGive q w
def lawGood (ps : List Part) (p : Part) (ws : List Want) : Bool := ws.all fun w => !(lawOthers ps p.name w).isEmpty || !w.must
def lawStep (ps : List Part) : List Part := ps.filter fun p => lawGood ps p p.wants
theorem lawStep_len (ps : List Part) : (lawStep ps).length ≤ ps.length := List.length_filter_le _ _
def lawIt : Nat → List Part → List Part
  | 0, ps => ps
  | n + 1, ps => lawIt n (lawStep ps)
def lawStand (h : List Part) : List Part := lawIt 7 h
def standIt : Nat → List Part → List Part
  | 0, ps => ps
  | n + 1, ps => if (stands ps).length < ps.length then standIt n (stands ps) else ps
theorem stands_len (ps : List Part) : (stands ps).length ≤ ps.length := List.length_filter_le _ _
theorem standIt_ge : ∀ {n m : Nat} {ps : List Part}, ps.length ≤ n → ps.length ≤ m → standIt n ps = standIt m ps
  | 0, 0, _, _, _ => rfl
  | 0, m + 1, ps, h, _ => by rw [standIt, standIt, if_neg (by omega)]
  | n + 1, 0, ps, _, h => by rw [standIt, standIt, if_neg (by omega)]
  | n + 1, m + 1, ps, h1, h2 => by
    rw [standIt, standIt]
    by_cases h : (stands ps).length < ps.length
    · rw [if_pos h, if_pos h, standIt_ge (n := n) (m := m) (by omega) (by omega)]
    · rw [if_neg h, if_neg h]
/-- who stands -/
def st (h : List Part) : List Part := standIt h.length h
/-- what is asked of a house that is walked -/
structure WfH (h : List Part) : Prop where
  ok : OkH h
  len : h.length ≤ 64
  wl : ∀ p ∈ h, p.wants.length ≤ 64
theorem WfH.filter {h : List Part} {f : Part → Bool} (w : WfH h) : WfH (h.filter f) := ⟨w.ok.filter, Nat.le_trans (List.length_filter_le _ _) w.len, fun p hp => w.wl p (List.mem_filter.mp hp).1⟩
theorem standIt_sub : ∀ (n : Nat) (h : List Part), ∀ p ∈ standIt n h, p ∈ h
  | 0, _, _, hp => hp
  | n + 1, h, p, hp => by
    rw [standIt] at hp
    split at hp
    · exact (List.mem_filter.mp (standIt_sub n _ p hp)).1
    · exact hp
theorem st_sub (h : List Part) : ∀ p ∈ st h, p ∈ h := standIt_sub _ _
theorem WfH.st {h : List Part} (w : WfH h) : OkH (st h) := w.ok.sub (st_sub h)
def encSS (q : Str × Str) : D := .tuple [.str q.1, .str q.2]
def notIn (ps : List Part) (p : Part) : Bool := !((ps.map encP).any fun z => PyData.eqv z (encP p))
def lackOf (h ps : List Part) : List (Str × Str) := h.flatMap fun p => if notIn ps p then (lacksL ps p).map fun f => (p.name, f) else []
theorem lackOf_len (h ps : List Part) (hw : ∀ p ∈ h, p.wants.length ≤ 64) : (lackOf h ps).length ≤ h.length * 64 := by
  induction h with
  | nil => simp [lackOf]
  | cons p h ih =>
    have := ih fun q hq => hw q (by simp [hq])
    unfold lackOf at *
    rw [List.flatMap_cons, List.length_append, List.length_cons]
    have e : (if notIn ps p then (lacksL ps p).map fun f => (p.name, f) else []).length ≤ 64 := by
      split
      · rw [List.length_map]
        unfold lacksL
        rw [List.length_map]
        exact Nat.le_trans (List.length_filter_le _ _) (hw p (by simp))
      · simp
    omega
def encIS (q : Int × Str) : D := .tuple [.int q.1, .str q.2]
def sortIS (l : List (Int × Str)) : List (Int × Str) := l.mergeSort fun a b => !PySem.W.dataLt (encIS b) (encIS a)
def optS : Option Str → D
  | none => .none
  | some s => .str s
theorem sortIS_map (l : List (Int × Str)) : sortD (l.map encIS) = (sortIS l).map encIS := by
  unfold sortD sortIS
  exact (PySem.W.sort_maps encIS fun a _ b _ => rfl).symm
def lawSome (ps : List Part) (n : Str) (w : Want) : List (Int × Str) := (lawOthers ps n w).map fun p => (0 - makeOf p w.face, p.name)
theorem lawSome_len (ps : List Part) (n : Str) (w : Want) : (lawSome ps n w).length ≤ ps.length := by
  unfold lawSome lawOthers
  rw [List.length_map]
  exact List.length_filter_le _ _
theorem sortD_len (l : List D) : (sortD l).length = l.length := by unfold sortD; rw [List.length_mergeSort]
theorem atI_zero (d : D) (l : List D) : atI (d :: l) 0 = some d := by unfold atI ixN; simp
theorem atI_head {α : Type} {l : List α} {f : α → D} {a : α} (h : l.head? = some a) : atI (l.map f) 0 = some (f a) := by
  cases l with
  | nil => simp at h
  | cons b l => simp at h; subst h; exact atI_zero _ _
def lawGiver (ps : List Part) (n : Str) (w : Want) : Option Str := (sortIS (lawSome ps n w)).head?.map (·.2)
def better (x : Str) (b : Option Part) (p : Part) : Option Part := match b with
  | none => some p
  | some q => if makeOf q x < makeOf p x then some p else some q
def bestOf (x : Str) (l : List Part) : Option Part := l.foldl (better x) none
def giverAmong (ps : List Part) (n : Str) (w : Want) : Option Str := (bestOf w.face (giversFor ps n w)).map (·.name)
def optP : Option Part → D
  | none => .none
  | some p => encP p
theorem lookF_some {fs : List (Str × Int)} {x : Str} (h : ∃ f ∈ fs, f.1 = x) : ∃ k, lookF fs x = some k := by
  unfold lookF
  have : ∀ (l : List (Str × Int)) (a : Option Int), ((∃ f ∈ l, f.1 = x) ∨ a.isSome = true) → ∃ k, l.foldl (fun acc f => if x = f.1 then some f.2 else acc) a = some k := by
    intro l
    induction l with
    | nil =>
      intro a h
      rcases h with ⟨f, hf, _⟩ | h
      · cases hf
      · exact Option.isSome_iff_exists.mp h
    | cons f l ih =>
      intro a h
      rw [List.foldl_cons]
      refine ih _ ?_
      by_cases e : x = f.1
      · rw [if_pos e]; exact .inr rfl
      · rw [if_neg e]
        rcases h with ⟨g, hg, e2⟩ | h
        · rcases List.mem_cons.mp hg with rfl | hg
          · exact absurd e2.symm e
          · exact .inl ⟨g, hg, e2⟩
        · exact .inr h
  exact this fs none (.inl h)
theorem lawGive_look {p : Part} {w : Want} (h : lawGive p w = true) : lookD (mergeD [] (facesK p.faces)) (.inr w.face) = some (.int (makeOf p w.face)) := by
  unfold lawGive at h
  have : ∃ f ∈ p.faces, f.1 = w.face := by
    cases hl : (p.faces.filter fun f => decide (f.1 = w.face) && (decide (w.low ≤ f.2) && decide (f.2 ≤ w.high))) with
    | nil => rw [hl] at h; simp at h
    | cons f l =>
      have : f ∈ p.faces.filter fun f => decide (f.1 = w.face) && (decide (w.low ≤ f.2) && decide (f.2 ≤ w.high)) := by rw [hl]; simp
      have := List.mem_filter.mp this
      simp only [Bool.and_eq_true, decide_eq_true_eq] at this
      exact ⟨f, this.1, this.2.1⟩
  obtain ⟨k, hk⟩ := lookF_some this
  rw [look_faces]
  unfold makeOf
  rw [hk]
  rfl
end DL


/-! Who stands: the program's way and the laws' way come to the same. -/
namespace DL
open PySem L2
structure GoodP (p : Part) : Prop where
  fs : (p.faces.map (·.1)).Nodup
  ws : (p.wants.map (·.face)).Nodup
  lo : ∀ w ∈ p.wants, 1 ≤ w.low
structure GoodH (h : List Part) : Prop where
  wf : WfH h
  gp : ∀ p ∈ h, GoodP p
  nm : h.Pairwise fun p q => p.name.cps.toList < q.name.cps.toList
  len : h.length ≤ 7
theorem look_none {x : Str} : ∀ (l : List (Str × Int)) (a : Option Int), (∀ f ∈ l, f.1 ≠ x) → l.foldl (fun acc f => if x = f.1 then some f.2 else acc) a = a
  | [], _, _ => rfl
  | f :: l, a, h => by
    rw [List.foldl_cons, if_neg fun e => h f (by simp) e.symm]
    exact look_none l a fun g hg => h g (by simp [hg])
theorem look_one {x : Str} : ∀ (l : List (Str × Int)) (a : Option Int), (l.map (·.1)).Nodup → ∀ f ∈ l, f.1 = x → l.foldl (fun acc f => if x = f.1 then some f.2 else acc) a = some f.2
  | [], _, _, _, h, _ => nomatch h
  | g :: l, a, n, f, h, e => by
    rw [List.foldl_cons]
    rw [List.map_cons, List.nodup_cons] at n
    rcases List.mem_cons.mp h with rfl | h
    · rw [if_pos e.symm, look_none]
      rintro k hk rfl
      exact n.1 (List.mem_map.mpr ⟨k, hk, e.symm⟩)
    · exact look_one l _ n.2 f h e
theorem gives_eq {p : Part} {w : Want} (g : (p.faces.map (·.1)).Nodup) (lo : 1 ≤ w.low) : gives p w = lawGive p w := by
  unfold gives lawGive makeOf lookF
  by_cases h : ∃ f ∈ p.faces, f.1 = w.face
  · obtain ⟨f, hf, e⟩ := h
    rw [look_one _ _ g f hf e, Option.getD_some]
    rw [Bool.eq_iff_iff]
    simp only [Bool.and_eq_true, decide_eq_true_eq, Bool.not_eq_true', List.isEmpty_eq_false_iff, ne_eq, List.filter_eq_nil_iff]
    constructor
    · intro z hall; exact hall f hf ⟨e, z⟩
    · intro hall
      obtain ⟨k, hk, ek, z⟩ : ∃ k ∈ p.faces, k.1 = w.face ∧ w.low ≤ k.2 ∧ k.2 ≤ w.high := Classical.byContradiction fun no => hall fun a ha z => no ⟨a, ha, z⟩
      have e1 := look_one _ none g f hf e
      rw [look_one _ none g k hk ek] at e1
      rw [← Option.some.inj e1]; exact z
  · rw [look_none _ _ fun f hf e => h ⟨f, hf, e⟩]
    have : (p.faces.filter fun f => decide (f.1 = w.face) && (decide (w.low ≤ f.2) && decide (f.2 ≤ w.high))) = [] := by
      rw [List.filter_eq_nil_iff]
      intro f hf
      simp only [Bool.and_eq_true, decide_eq_true_eq]
      exact fun z => h ⟨f, hf, z.1⟩
    rw [this]
    simp
    intro z; omega
theorem GoodH.filter {h : List Part} {f : Part → Bool} (g : GoodH h) : GoodH (h.filter f) := ⟨g.wf.filter, fun p hp => g.gp p (List.mem_filter.mp hp).1, g.nm.filter f, Nat.le_trans (List.length_filter_le _ _) g.len⟩
theorem others_eq {ps : List Part} (g : ∀ p ∈ ps, GoodP p) {n : Str} {w : Want} (lo : 1 ≤ w.low) : giversFor ps n w = lawOthers ps n w := by
  unfold giversFor lawOthers
  apply List.filter_congr
  intro p hp
  rw [gives_eq (g p hp).fs lo]
  rfl
theorem step_eq {ps : List Part} (g : ∀ p ∈ ps, GoodP p) : stands ps = lawStep ps := by
  unfold stands lawStep
  apply List.filter_congr
  intro p hp
  unfold lacksL lawGood
  rw [isE_map, Bool.eq_iff_iff, List.isEmpty_iff, List.filter_eq_nil_iff, List.all_eq_true]
  constructor
  · intro h w hw
    have := h w hw
    rw [others_eq g ((g p hp).lo w hw)] at this
    cases hm : w.must <;> cases he : (lawOthers ps p.name w).isEmpty <;> simp_all
  · intro h w hw
    have := h w hw
    rw [others_eq g ((g p hp).lo w hw)]
    cases hm : w.must <;> cases he : (lawOthers ps p.name w).isEmpty <;> simp_all
theorem standIt_eq : ∀ {n m : Nat} {ps : List Part}, (∀ p ∈ ps, GoodP p) → ps.length ≤ n → ps.length ≤ m → lawIt n ps = standIt m ps
  | 0, 0, _, _, _, _ => rfl
  | 0, m + 1, ps, _, h, _ => by rw [lawIt, standIt, if_neg (by omega)]
  | n + 1, m, ps, g, h1, h2 => by
    rw [lawIt, ← step_eq g]
    by_cases h : (stands ps).length < ps.length
    · cases m with
      | zero => omega
      | succ m =>
        rw [standIt, if_pos h]
        exact standIt_eq (fun p hp => g p (List.mem_filter.mp hp).1) (by omega) (by omega)
    · have e : stands ps = ps := by
        unfold stands at h ⊢
        rw [List.filter_eq_self]
        intro p hp
        exact Classical.byContradiction fun z => h (by
          rw [List.length_filter_lt_length_iff_exists]
          exact ⟨p, hp, z⟩)
      rw [e]
      have e2 : standIt m ps = ps := by
        cases m with
        | zero => rfl
        | succ m => rw [standIt, if_neg h]
      rw [e2]
      clear h1 h2 h e2
      induction n with
      | zero => rfl
      | succ n ih => rw [lawIt, ← step_eq g, e]; exact ih
theorem GoodH.stand {h : List Part} (g : GoodH h) : lawStand h = DL.st h := standIt_eq g.gp g.len (Nat.le_refl _)
theorem standIt_sublist : ∀ (n : Nat) (h : List Part), (standIt n h).Sublist h
  | 0, _ => .refl _
  | n + 1, h => by
    rw [standIt]
    split
    · exact (standIt_sublist n _).trans List.filter_sublist
    · exact .refl _
theorem GoodH.st {h : List Part} (g : GoodH h) : GoodH (DL.st h) :=
  ⟨⟨g.wf.st, Nat.le_trans (standIt_sublist _ h).length_le g.wf.len, fun p hp => g.wf.wl p (st_sub h p hp)⟩, fun p hp => g.gp p (st_sub h p hp), g.nm.sublist (standIt_sublist _ h), Nat.le_trans (standIt_sublist _ h).length_le g.len⟩
theorem name_inj {h : List Part} (g : GoodH h) {p q : Part} (hp : p ∈ h) (hq : q ∈ h) (e : p.name = q.name) : p = q := by
  have := g.nm
  clear g
  induction h with
  | nil => cases hp
  | cons a h ih =>
    rw [List.pairwise_cons] at this
    rcases List.mem_cons.mp hp with e1 | h1 <;> rcases List.mem_cons.mp hq with e2 | h2
    · rw [e1, e2]
    · have z := this.1 q h2; rw [← e1, e] at z; exact absurd z (List.lt_irrefl _)
    · have z := this.1 p h1; rw [← e2, e] at z; exact absurd z (List.lt_irrefl _)
    · exact ih h1 h2 this.2
theorem head_name {h : List Part} (g : GoodH h) {p : Part} (hp : p ∈ h) : (h.filter fun q => decide (q.name = p.name)).head? = some p := by
  cases e : (h.filter fun q => decide (q.name = p.name)) with
  | nil =>
    rw [List.filter_eq_nil_iff] at e
    exact absurd (e p hp) (by simp)
  | cons q l =>
    have : q ∈ h.filter fun q => decide (q.name = p.name) := by rw [e]; simp
    have := List.mem_filter.mp this
    rw [name_inj g this.1 hp (by simpa using this.2)]; rfl
theorem head_want {p : Part} (n : (p.wants.map (·.face)).Nodup) {w : Want} (hw : w ∈ p.wants) : (p.wants.filter fun v => decide (v.face = w.face)).head? = some w := by
  have inj : ∀ (l : List Want), (l.map (·.face)).Nodup → ∀ v ∈ l, ∀ u ∈ l, v.face = u.face → v = u := by
    intro l
    induction l with
    | nil => intro _ v hv; cases hv
    | cons a l ih =>
      intro n v hv u hu e
      rw [List.map_cons, List.nodup_cons] at n
      rcases List.mem_cons.mp hv with e1 | h1 <;> rcases List.mem_cons.mp hu with e2 | h2
      · rw [e1, e2]
      · exact absurd (List.mem_map.mpr ⟨u, h2, by rw [← e, e1]⟩) n.1
      · exact absurd (List.mem_map.mpr ⟨v, h1, by rw [e, e2]⟩) n.1
      · exact ih n.2 v h1 u h2 e
  cases e : (p.wants.filter fun v => decide (v.face = w.face)) with
  | nil =>
    rw [List.filter_eq_nil_iff] at e
    exact absurd (e w hw) (by simp)
  | cons q l =>
    have : q ∈ p.wants.filter fun v => decide (v.face = w.face) := by rw [e]; simp
    have := List.mem_filter.mp this
    rw [inj _ n q this.1 w hw (by simpa using this.2)]; rfl
end DL


/-! The giver: the first of the greatest make is the least by (minus make, name). -/
namespace DL
open PySem L2
/-- q is ahead of p -/
def Beats (x : Str) (p q : Part) : Prop := makeOf p x < makeOf q x ∨ (makeOf p x = makeOf q x ∧ q.name.cps.toList < p.name.cps.toList)
theorem Beats.trans {x : Str} {p q r : Part} (h1 : Beats x p q) (h2 : Beats x q r) : Beats x p r := by
  rcases h1 with h1 | ⟨h1, n1⟩ <;> rcases h2 with h2 | ⟨h2, n2⟩
  · exact .inl (by omega)
  · exact .inl (by omega)
  · exact .inl (by omega)
  · exact .inr ⟨by omega, List.lt_trans n2 n1⟩
theorem best_inv (x : Str) : ∀ (l : List Part) (b q : Part), (b :: l).Pairwise (fun p q => p.name.cps.toList < q.name.cps.toList) → l.foldl (better x) (some b) = some q → q ∈ b :: l ∧ ∀ p ∈ b :: l, p = q ∨ Beats x p q
  | [], b, q, _, h => by
    cases h
    exact ⟨by simp, fun p hp => .inl (by simpa using hp)⟩
  | a :: l, b, q, n, h => by
    rw [List.foldl_cons] at h
    rw [List.pairwise_cons] at n
    have nb := n.1 a (by simp)
    by_cases e : makeOf b x < makeOf a x
    · rw [show better x (some b) a = some a from if_pos e] at h
      obtain ⟨m, k⟩ := best_inv x l a q n.2 h
      refine ⟨by simp only [List.mem_cons] at m ⊢; exact .inr m, fun p hp => ?_⟩
      rcases List.mem_cons.mp hp with rfl | hp
      · have ba : Beats x p a := .inl e
        rcases k a (by simp) with rfl | z
        · exact .inr ba
        · exact .inr (ba.trans z)
      · exact k p hp
    · rw [show better x (some b) a = some b from if_neg e] at h
      have n2 : (b :: l).Pairwise (fun p q => p.name.cps.toList < q.name.cps.toList) := List.pairwise_cons.mpr ⟨fun p hp => n.1 p (by simp [hp]), (List.pairwise_cons.mp n.2).2⟩
      obtain ⟨m, k⟩ := best_inv x l b q n2 h
      refine ⟨by simp only [List.mem_cons] at m ⊢; rcases m with m | m; exact .inl m; exact .inr (.inr m), fun p hp => ?_⟩
      rcases List.mem_cons.mp hp with rfl | hp
      · exact k p (by simp)
      · rcases List.mem_cons.mp hp with rfl | hp
        · have ab : Beats x p b := by
            by_cases z : makeOf p x < makeOf b x
            · exact .inl z
            · exact .inr ⟨by omega, nb⟩
          rcases k b (by simp) with rfl | z
          · exact .inr ab
          · exact .inr (ab.trans z)
        · exact k p (by simp [hp])
theorem best_some (x : Str) : ∀ (l : List Part) (b : Part), ∃ q, l.foldl (better x) (some b) = some q
  | [], b => ⟨b, rfl⟩
  | a :: l, b => by
    rw [List.foldl_cons]
    unfold better
    simp only
    split
    · exact best_some x l a
    · exact best_some x l b
theorem dataLt_IS (a b : Int) (s t : Str) : PySem.W.dataLt (encIS (a, s)) (encIS (b, t)) = (decide (a < b) || (decide (a = b) && decide (s.cps.toList < t.cps.toList))) := by
  unfold encIS
  rw [PySem.W.dataLt_tuple]
  by_cases e : a = b
  · subst e
    rw [PySem.W.dataLt_all_yes (by simp [PySem.W.alike]) (by simp [PyData.eqv])]
    by_cases f : s = t
    · subst f
      rw [PySem.W.dataLt_all_yes (by simp [PySem.W.alike]) (by simp [PyData.eqv])]
      have e1 : PyProof.Rows.lexLt PyProof.Rows.itemOrd (PySem.W.keyToksAll []) (PySem.W.keyToksAll []) = false := by
        first | exact PyProof.Rows.lex_irrefl _ | exact PySem.W.lex_irrefl _ | exact PySem.lex_irrefl _
      rw [e1]
      simp [List.lt_irrefl]
    · rw [PySem.W.dataLt_all_no (by simp [PySem.W.alike]) (by simp [PyData.eqv, f]), PySem.W.dataLt_str]
      simp
  · rw [PySem.W.dataLt_all_no (by simp [PySem.W.alike]) (by simp [PyData.eqv, e]), PySem.W.dataLt_int]
    simp [e]
theorem sortIS_head {l : List (Int × Str)} {q : Int × Str} {r : List (Int × Str)} (h : sortIS l = q :: r) : q ∈ l ∧ ∀ p ∈ l, PySem.W.dataLt (encIS p) (encIS q) = false := by
  have perm : (sortIS l).Perm l := List.mergeSort_perm _ _
  have pw : (sortIS l).Pairwise fun a b => (!PySem.W.dataLt (encIS b) (encIS a)) = true := PySem.W.sort_pairwise (PySem.W.sortLe_total (PyProof.Rows.listOrd PyProof.Rows.itemOrd) false fun a => PySem.W.keyToks (encIS a)) l
  refine ⟨perm.mem_iff.mp (by rw [h]; simp), fun p hp => ?_⟩
  have hp : p ∈ sortIS l := perm.mem_iff.mpr hp
  rw [h] at hp pw
  rcases List.mem_cons.mp hp with rfl | hp
  · obtain ⟨a, s⟩ := p
    rw [dataLt_IS]; simp [List.lt_irrefl]
  · have := (List.pairwise_cons.mp pw).1 p hp
    simpa using this
theorem giver_eq {ps : List Part} (g : GoodH ps) {n : Str} {w : Want} (lo : 1 ≤ w.low) : giverAmong ps n w = lawGiver ps n w := by
  unfold giverAmong lawGiver lawSome
  rw [others_eq g.gp lo]
  have nm : (lawOthers ps n w).Pairwise (fun p q => p.name.cps.toList < q.name.cps.toList) := g.nm.filter _
  generalize lawOthers ps n w = l at nm
  cases l with
  | nil => simp [sortIS, bestOf]
  | cons b l =>
    obtain ⟨q, hq⟩ := best_some w.face l b
    have hb : bestOf w.face (b :: l) = some q := hq
    rw [hb]
    obtain ⟨m, k⟩ := best_inv w.face l b q nm hq
    cases hs : sortIS ((b :: l).map fun p => (0 - makeOf p w.face, p.name)) with
    | nil =>
      have perm : (sortIS ((b :: l).map fun p => (0 - makeOf p w.face, p.name))).Perm _ := List.mergeSort_perm _ _
      rw [hs] at perm
      exact absurd perm.length_eq (by simp)
    | cons z r =>
      obtain ⟨hz, ht⟩ := sortIS_head hs
      obtain ⟨p, hp, rfl⟩ := List.mem_map.mp hz
      have t := ht _ (List.mem_map.mpr ⟨q, m, rfl⟩)
      rcases k p hp with rfl | e
      · rfl
      · rw [dataLt_IS] at t
        simp only [Bool.or_eq_false_iff, Bool.and_eq_false_iff, decide_eq_false_iff_not] at t
        rcases e with e | ⟨e, f⟩
        · exact absurd (show 0 - makeOf q w.face < 0 - makeOf p w.face by omega) t.1
        · rcases t.2 with t2 | t2
          · exact absurd (show 0 - makeOf q w.face = 0 - makeOf p w.face by omega) t2
          · exact absurd f t2
theorem giver_none {ps : List Part} {n : Str} {w : Want} : (lawGiver ps n w).isNone = (lawOthers ps n w).isEmpty := by
  unfold lawGiver lawSome
  have perm : (sortIS ((lawOthers ps n w).map fun p => (0 - makeOf p w.face, p.name))).Perm _ := List.mergeSort_perm _ _
  cases h : lawOthers ps n w with
  | nil => simp [sortIS]
  | cons a l =>
    rw [h] at perm
    cases hs : sortIS ((a :: l).map fun p => (0 - makeOf p w.face, p.name)) with
    | nil => rw [hs] at perm; exact absurd perm.length_eq (by simp)
    | cons z r => rfl
/-- what is due by the law k10 -/
def dueOf (ps : List Part) (p : Part) : List (Str × Str) := (p.wants.filter fun w => w.must && ((lawGiver ps p.name w).isNone && notIn ps p)).map fun w => (p.name, w.face)
def dueAll (h ps : List Part) : List (Str × Str) := h.flatMap (dueOf ps)
theorem due_eq {ps : List Part} (g : ∀ p ∈ ps, GoodP p) : ∀ {h : List Part}, (∀ p ∈ h, GoodP p) → dueAll h ps = lackOf h ps
  | [], _ => rfl
  | p :: h, gh => by
    have ih := due_eq g (h := h) fun q hq => gh q (by simp [hq])
    unfold dueAll lackOf at *
    rw [List.flatMap_cons, List.flatMap_cons, ih]
    congr 1
    unfold dueOf
    by_cases e : notIn ps p = true
    · rw [if_pos e]
      unfold lacksL
      rw [List.map_map]
      congr 1
      apply List.filter_congr
      intro w hw
      rw [giver_none, e, Bool.and_true, others_eq g ((gh p (by simp)).lo w hw)]
    · rw [if_neg e, List.map_eq_nil_iff, List.filter_eq_nil_iff]
      intro w _ z
      simp only [Bool.and_eq_true] at z
      exact e z.2.2
end DL


/-! The drawn houses are good ones. -/
namespace DL
open PySem L2
theorem pw_app {α : Type} {R : α → α → Prop} {A B : List α} (h : A.length ≤ 1) (hB : B.Pairwise R) (hR : ∀ a ∈ A, ∀ b ∈ B, R a b) : (A ++ B).Pairwise R := by
  rw [List.pairwise_append]
  refine ⟨?_, hB, hR⟩
  match A, h with
  | [], _ => exact .nil
  | [a], _ => exact List.pairwise_singleton _ _
  | a :: b :: l, h => simp at h
theorem pw_short {α : Type} {R : α → α → Prop} {A : List α} (h : A.length ≤ 1) : A.Pairwise R := by
  match A, h with
  | [], _ => exact .nil
  | [a], _ => exact List.pairwise_singleton _ _
  | a :: b :: l, h => simp at h
theorem faceOf_mem {n k : Int} {f : Str} {x : Str × Int} (h : x ∈ faceOf n k f) : x.1 = f := by
  unfold faceOf at h
  split at h
  · simp at h; rw [h]
  · cases h
theorem wantOf_mem {n k : Int} {f : Str} {x : Want} (h : x ∈ wantOf n k f) : x.face = f ∧ 1 ≤ x.low := by
  unfold wantOf at h
  split at h
  · simp at h
    rw [h]
    exact ⟨rfl, by show 1 ≤ 1 + drawn n k / 4 / 4 % 3; omega⟩
  · cases h
theorem partAt_mem {n k : Int} {f : Str} {x : Part} (h : x ∈ partAt n k f) : ∃ m, x = partOf m f := by
  unfold partAt at h
  split at h
  · simp at h; exact ⟨_, h⟩
  · cases h
theorem facesOf_mem {n : Int} {x : Str × Int} (h : x ∈ facesOf n) : x.1 = "f" ∨ x.1 = "g" ∨ x.1 = "h" := by
  unfold facesOf at h
  simp only [List.mem_append] at h
  rcases h with h | h | h
  · exact .inl (faceOf_mem h)
  · exact .inr (.inl (faceOf_mem h))
  · exact .inr (.inr (faceOf_mem h))
theorem wantsOf_mem {n : Int} {x : Want} (h : x ∈ wantsOf n) : (x.face = "f" ∨ x.face = "g" ∨ x.face = "h") ∧ 1 ≤ x.low := by
  unfold wantsOf at h
  simp only [List.mem_append] at h
  rcases h with h | h | h
  · exact ⟨.inl (wantOf_mem h).1, (wantOf_mem h).2⟩
  · exact ⟨.inr (.inl (wantOf_mem h).1), (wantOf_mem h).2⟩
  · exact ⟨.inr (.inr (wantOf_mem h).1), (wantOf_mem h).2⟩
theorem ne_fg : ("f" : Str) ≠ "g" := by decide
theorem ne_fh : ("f" : Str) ≠ "h" := by decide
theorem ne_gh : ("g" : Str) ≠ "h" := by decide
theorem facesOf_nodup (n : Int) : ((facesOf n).map (·.1)).Nodup := by
  unfold facesOf
  rw [List.map_append, List.map_append]
  refine pw_app (by rw [List.length_map]; exact faceOf_len _ _ _) (pw_app (by rw [List.length_map]; exact faceOf_len _ _ _) (pw_short (by rw [List.length_map]; exact faceOf_len _ _ _)) ?_) ?_
  · intro a ha b hb
    obtain ⟨x, hx, rfl⟩ := List.mem_map.mp ha
    obtain ⟨y, hy, rfl⟩ := List.mem_map.mp hb
    rw [faceOf_mem hx, faceOf_mem hy]; exact ne_gh
  · intro a ha b hb
    obtain ⟨x, hx, rfl⟩ := List.mem_map.mp ha
    rw [← List.map_append] at hb
    obtain ⟨y, hy, rfl⟩ := List.mem_map.mp hb
    rw [faceOf_mem hx]
    rcases List.mem_append.mp hy with hy | hy <;> rw [faceOf_mem hy]
    · exact ne_fg
    · exact ne_fh
theorem wantsOf_nodup (n : Int) : ((wantsOf n).map (·.face)).Nodup := by
  unfold wantsOf
  rw [List.map_append, List.map_append]
  refine pw_app (by rw [List.length_map]; exact wantOf_len _ _ _) (pw_app (by rw [List.length_map]; exact wantOf_len _ _ _) (pw_short (by rw [List.length_map]; exact wantOf_len _ _ _)) ?_) ?_
  · intro a ha b hb
    obtain ⟨x, hx, rfl⟩ := List.mem_map.mp ha
    obtain ⟨y, hy, rfl⟩ := List.mem_map.mp hb
    rw [(wantOf_mem hx).1, (wantOf_mem hy).1]; exact ne_gh
  · intro a ha b hb
    obtain ⟨x, hx, rfl⟩ := List.mem_map.mp ha
    rw [← List.map_append] at hb
    obtain ⟨y, hy, rfl⟩ := List.mem_map.mp hb
    rw [(wantOf_mem hx).1]
    rcases List.mem_append.mp hy with hy | hy <;> rw [(wantOf_mem hy).1]
    · exact ne_fg
    · exact ne_fh
theorem ok_fgh {s : Str} (h : s = "f" ∨ s = "g" ∨ s = "h") : PyData.strOk s = true := by
  rcases h with rfl | rfl | rfl <;> decide +kernel
theorem ok_hookNm (r : Int) : PyData.strOk (hookNm r) = true := by unfold hookNm; split <;> decide +kernel
theorem ok_word (r : Int) : PyData.strOk (wordOf r) = true := by
  unfold wordOf
  repeat' split
  all_goals decide +kernel
theorem partOf_ok {n : Int} {nm : Str} (h : PyData.strOk nm = true) : OkP (partOf n nm) where
  nm := h
  fs f hf := ok_fgh (facesOf_mem hf)
  ws w hw := ok_fgh (wantsOf_mem (List.mem_of_mem_drop hw)).1
  ks k hk := by
    obtain ⟨j, _, rfl⟩ := List.mem_map.mp hk
    exact ⟨ok_hookNm _, ok_word _⟩
theorem partOf_good (n : Int) (nm : Str) : GoodP (partOf n nm) where
  fs := facesOf_nodup n
  ws := by
    show (((wantsOf n).drop _).map (·.face)).Nodup
    rw [List.map_drop]
    exact (wantsOf_nodup n).sublist (List.drop_sublist _ _)
  lo w hw := (wantsOf_mem (List.mem_of_mem_drop hw)).2
def names6 : List Str := ["a", "b", "c", "d", "e", "log"]
theorem houseOf_mem {n : Int} {p : Part} (h : p ∈ houseOf n) : ∃ m nm, p = partOf m nm ∧ nm ∈ names6 := by
  unfold houseOf at h
  simp only [List.mem_append] at h
  rcases h with h | h | h | h | h | h <;> obtain ⟨m, rfl⟩ := partAt_mem h <;> exact ⟨m, _, rfl, by decide⟩
theorem names6_ok {nm : Str} (h : nm ∈ names6) : PyData.strOk nm = true := by
  simp only [names6, List.mem_cons, List.not_mem_nil, or_false] at h
  rcases h with rfl | rfl | rfl | rfl | rfl | rfl <;> decide +kernel
theorem partOf_lt {m k : Int} {a b : Str} (h : a.cps.toList < b.cps.toList) : (partOf m a).name.cps.toList < (partOf k b).name.cps.toList := h
theorem houseOf_names (n : Int) : (houseOf n).Pairwise fun p q => p.name.cps.toList < q.name.cps.toList := by
  unfold houseOf
  refine pw_app (partAt_len _ _ _) (pw_app (partAt_len _ _ _) (pw_app (partAt_len _ _ _) (pw_app (partAt_len _ _ _) (pw_app (partAt_len _ _ _) (pw_short (partAt_len _ _ _)) ?_) ?_) ?_) ?_) ?_ <;>
    (intro a ha b hb
     obtain ⟨m, rfl⟩ := partAt_mem ha
     try simp only [List.mem_append] at hb
     first
     | (rcases hb with hb | hb | hb | hb | hb <;> obtain ⟨k, rfl⟩ := partAt_mem hb <;> exact partOf_lt (by decide +kernel))
     | (rcases hb with hb | hb | hb | hb <;> obtain ⟨k, rfl⟩ := partAt_mem hb <;> exact partOf_lt (by decide +kernel))
     | (rcases hb with hb | hb | hb <;> obtain ⟨k, rfl⟩ := partAt_mem hb <;> exact partOf_lt (by decide +kernel))
     | (rcases hb with hb | hb <;> obtain ⟨k, rfl⟩ := partAt_mem hb <;> exact partOf_lt (by decide +kernel))
     | (obtain ⟨k, rfl⟩ := partAt_mem hb; exact partOf_lt (by decide +kernel)))
theorem partOf_wl (n : Int) (nm : Str) : (partOf n nm).wants.length ≤ 3 := by
  show ((wantsOf n).drop _).length ≤ 3
  rw [List.length_drop]
  have := wantsOf_len n
  omega
theorem houseOf_good (n : Int) : GoodH (houseOf n) where
  wf := ⟨fun p hp => by obtain ⟨m, nm, rfl, k⟩ := houseOf_mem hp; exact partOf_ok (names6_ok k), by have := houseOf_len n; omega, fun p hp => by
    obtain ⟨m, nm, rfl, k⟩ := houseOf_mem hp
    have := partOf_wl m nm; omega⟩
  gp p hp := by obtain ⟨m, nm, rfl, k⟩ := houseOf_mem hp; exact partOf_good _ _
  nm := houseOf_names n
  len := by have := houseOf_len n; omega
/-- its wants the other way round -/
def revP (p : Part) : Part := { p with wants := p.wants.reverse }
theorem revP_good {h : List Part} (g : GoodH h) : GoodH (h.map revP) where
  wf := ⟨fun p hp => by
    obtain ⟨q, hq, rfl⟩ := List.mem_map.mp hp
    have k := g.wf.ok q hq
    exact ⟨k.nm, k.fs, fun w hw => k.ws w (List.mem_reverse.mp hw), k.ks⟩, by rw [List.length_map]; exact g.wf.len, fun p hp => by
    obtain ⟨q, hq, rfl⟩ := List.mem_map.mp hp
    show q.wants.reverse.length ≤ 64
    rw [List.length_reverse]; exact g.wf.wl q hq⟩
  gp p hp := by
    obtain ⟨q, hq, rfl⟩ := List.mem_map.mp hp
    have k := g.gp q hq
    refine ⟨k.fs, ?_, fun w hw => k.lo w (List.mem_reverse.mp hw)⟩
    show (q.wants.reverse.map (·.face)).Nodup
    rw [List.map_reverse]
    exact List.pairwise_reverse.mpr (k.ws.imp Ne.symm)
  nm := by
    rw [List.pairwise_map]
    exact g.nm
  len := by rw [List.length_map]; exact g.len
def lawH10 (ns : List Int) : List Part := if mixed ns 1 % 2 = 1 then (houseOf (mixed ns 0)).map revP else houseOf (mixed ns 0)
theorem lawH10_good (ns : List Int) : GoodH (lawH10 ns) := by
  unfold lawH10
  split
  · exact revP_good (houseOf_good _)
  · exact houseOf_good _
end DL


namespace DL
open PySem PySem.Spec PyProof.Rows L2
section
variable {X : Cx} {ρ : Rho} {e a b c : Expr} {d x y z : D} {ds es : List D} {k : Kd} {Φ : DL.Fin} {pos : Pos}
/-! ### all(bools) -/
theorem rp_bools {K : PySem.W.Frag} {H : Hp} : ∀ {bs : List Bool} {xs : List V}, RpAll K H xs (bs.map .bool) → xs = bs.map V.bl
  | [], _, r => by cases r; rfl
  | b :: bs, _, r => by
    cases r with
    | cons h t => rw [(Rq.of h).bl, rp_bools t]; rfl
theorem c_all {bs : List Bool} (hc : X.calm = true := by rfl) : CallV X (.builtin "all") [.list (bs.map .bool)] (.val (.bool (bs.all id))) := fun H vs Q r q => by
  obtain ⟨v, rfl, r0⟩ := paired1 r
  obtain ⟨a, xs, rfl, hs, hr⟩ := r0.lst
  rw [rp_bools hr] at hs
  exact ⟨_, cr_all hc, a, bs, rfl, hs, q _ H ⟨.refl H, .bl _⟩⟩
/-! ### list(d), len(d), sorted(d) of a dict -/
theorem rpKV_keysAll {K : PySem.W.Frag} {H : Hp} : ∀ {kvs : List (Key × V)} {es : List (D × D)}, RpKV K H kvs es → RpAll K H (kvs.map fun kv => kV kv.1) (es.map (·.1))
  | [], _, r => by cases r; exact .nil
  | (k, v) :: kvs, es, r => by
    obtain ⟨d, es', rfl, _, t⟩ := r.uncons
    refine .cons ?_ (rpKV_keysAll t)
    cases k with
    | inl i => exact .int i
    | inr s => exact .str s
theorem c_listD {es : List (D × D)} (hc : X.calm = true := by rfl) : CallV X (.type "list") [.dict es] (.new (es.map (·.1))) := fun H vs Q r q => by
  obtain ⟨v, rfl, r0⟩ := paired1 r
  obtain ⟨a, kvs, rfl, hs, hr⟩ := r0.dctR
  exact ⟨_, call_listD hc, a, kvs, rfl, hs, fun p hp => q _ _ ⟨same_new hp, p, _, rfl, hp, upd_same, (rpKV_keysAll hr).mono (stb_new hp)⟩⟩
theorem sortedS_pw : ∀ {l : List Str}, sortedS l = true → l.Pairwise fun a b => ltCps b.cps.toList a.cps.toList = false
  | [], _ => .nil
  | [a], _ => List.pairwise_singleton _ _
  | a :: b :: l, h => by
    have h : (!ltCps b.cps.toList a.cps.toList && risingS b l) = true := h
    rw [Bool.and_eq_true, Bool.not_eq_true'] at h
    have ih := sortedS_pw (l := b :: l) h.2
    refine List.pairwise_cons.mpr ⟨fun c hc => ?_, ih⟩
    rcases List.mem_cons.mp hc with rfl | hc
    · exact h.1
    · have h2 := (List.pairwise_cons.mp ih).1 c hc
      have h1 := h.1
      simp only [ltCps_eq] at *
      simp only [decide_eq_false_iff_not, List.not_lt] at *
      exact List.le_trans h1 h2
theorem perm_sorted {α : Type} {R : α → α → Prop} (anti : ∀ a b, R a b → R b a → a = b) : ∀ {l m : List α}, l.Perm m → l.Pairwise R → m.Pairwise R → l = m
  | [], m, p, _, _ => (List.nil_perm.mp p).symm
  | a :: l, [], p, _, _ => absurd p.length_eq (by simp)
  | a :: l, b :: m, p, h1, h2 => by
    have e : a = b := by
      have ha : a ∈ b :: m := p.mem_iff.mp (by simp)
      have hb : b ∈ a :: l := p.mem_iff.mpr (by simp)
      rcases List.mem_cons.mp ha with e | ha
      · exact e
      · rcases List.mem_cons.mp hb with e | hb
        · exact e.symm
        · exact anti a b ((List.pairwise_cons.mp h1).1 b hb) ((List.pairwise_cons.mp h2).1 a ha)
    subst e
    rw [perm_sorted anti (List.Perm.cons_inv p) (List.pairwise_cons.mp h1).2 (List.pairwise_cons.mp h2).2]
def sortS (l : List Str) : List Str := l.mergeSort fun a b => !PySem.W.dataLt (.str b) (.str a)
theorem sortS_map (l : List Str) : sortD (l.map .str) = (sortS l).map .str := by
  unfold sortD sortS
  exact (PySem.W.sort_maps PyData.str fun a _ b _ => rfl).symm
theorem sortS_perm (l : List Str) : (sortS l).Perm l := List.mergeSort_perm _ _
theorem sortS_pw (l : List Str) : (sortS l).Pairwise fun a b => ltCps b.cps.toList a.cps.toList = false := by
  have pw : (sortS l).Pairwise fun a b => (!PySem.W.dataLt (.str b) (.str a)) = true := PySem.W.sort_pairwise (PySem.W.sortLe_total (PyProof.Rows.listOrd PyProof.Rows.itemOrd) false fun a : Str => PySem.W.keyToks (.str a)) l
  refine pw.imp fun {a b} h => ?_
  rw [PySem.W.dataLt_str] at h
  rw [ltCps_eq]
  simpa using h
theorem strs_anti (a b : Str) (h1 : ltCps b.cps.toList a.cps.toList = false) (h2 : ltCps a.cps.toList b.cps.toList = false) : a = b := by
  rw [ltCps_eq, decide_eq_false_iff_not, List.not_lt] at h1 h2
  exact PySem.W.str_of_cps (List.le_antisymm h1 h2)
theorem sortS_uniq {l m : List Str} (p : m.Perm l) (h : sortedS m = true) : m = sortS l := perm_sorted strs_anti (p.trans (sortS_perm l).symm) (sortedS_pw h) (sortS_pw l)
theorem rp_strs {K : PySem.W.Frag} {H : Hp} : ∀ (l : List Str), RpAll K H (l.map V.str) (l.map .str)
  | [] => .nil
  | s :: l => .cons (.str s) (rp_strs l)
theorem kv_strs {K : PySem.W.Frag} {H : Hp} : ∀ {ks : List Str} {kvs : List (Key × V)} {es : List (D × D)}, RpKV K H kvs es → es.map (·.1) = ks.map .str → kvs.map (·.1) = ks.map Sum.inr
  | [], kvs, es, r, h => by
    cases es with
    | nil => cases r; rfl
    | cons _ _ => simp at h
  | s :: ks, [], es, r, h => by cases r; simp at h
  | s :: ks, (k, v) :: kvs, es, r, h => by
    obtain ⟨d, es', rfl, _, t⟩ := r.uncons
    rw [List.map_cons, List.map_cons] at h
    injection h with h1 h2
    rw [List.map_cons, List.map_cons, kv_strs t h2]
    congr 1
    cases k with
    | inl i => cases h1
    | inr s' => injection h1 with h1; rw [h1]
theorem c_sortedD {es : List (D × D)} {ks : List Str} (hk : es.map (·.1) = ks.map .str) (hl : ks.length < 64) (hc : X.calm = true := by rfl) : CallV X (.builtin "sorted") [.dict es] (.new ((sortS ks).map .str)) := fun H vs Q r q => by
  obtain ⟨v, rfl, r0⟩ := paired1 r
  obtain ⟨a, kvs, rfl, hs, hr⟩ := r0.dctR
  exact ⟨_, L2.call_sortedD hc, a, kvs, ks, rfl, hs, kv_strs hr hk, hl, fun ys p py sy hp => q _ _ ⟨same_new hp, p, _, rfl, hp, upd_same, by rw [sortS_uniq py sy]; exact rp_strs _⟩⟩
/-! ### xs.extend(value), x = xs.pop() -/
theorem list_extendW (l : Addr) (items : Array Value) (n : Nat) (b : Addr) (items2 : Array Value) (n2 : Nat) (dd2 : Option Addr) (sl2 : Array (Option Value)) (hc0 : ¬(!items.isEmpty && Builtin.List.listTooLong (items.size + items2.size)) = true) (hc1 : items.size ≤ sizeLine) (hs2 : items.size + items2.size ≤ sizeLine + 1) :
    Meets (Builtin.«list.extend» ⟨[.ref l, .ref b], []⟩) (fun _ R s => s.heap.get? l = some { cls := .type "list", dict := none, data := .seq items n, slots := #[] } ∧ s.heap.get? b = some { cls := .type "list", dict := dd2, data := .seq items2 n2, slots := sl2 } ∧ R (.ok (.ret Value.none)) { s with heap := s.heap.update l (Obj.mapSeq fun x => x ++ items2), toks := s.toks }) :=
  .of_wp fun prog w A R st h => by
    obtain ⟨hp, g, d, tk, os⟩ := st
    obtain ⟨hl, hb, h⟩ := h
    have f1 := AutoSeq1.idx_int; have f2 := AutoSeq1.sub_tuple_tuple; have f3 := AutoSeq1.sub_list_list; have f4 := AutoSeq1.sub_tuple_list; have f5 := AutoSeq1.sub_list_tuple
    have hz2 : (items ++ items2).size ≤ sizeLine + 1 := by rw [Array.size_append]; exact hs2
    wp_walk using (wpAny_updateSeq hl rfl (hz := hc1) (_hz' := hz2)), wpAny_loadPart' hl, wpAny_loadPart' hb
    exact ⟨_, rfl, h⟩
theorem mt_extendF : MtM X "list.extend" (fun x vs H Q => ∃ l b xs zs, x = .ref l ∧ vs = [.ref b] ∧ H l = some (.lst xs) ∧ SqL X.K H b zs ∧ xs.length + zs.length ≤ sizeLine ∧ Q .non (upd H l (.lst (xs ++ zs)))) := by
  intro pins s σ H x vs v us Q I rx rv h
  obtain ⟨l, b, xs, zs, rfl, rfl, hH, hB, hz, q⟩ := h
  cases rx
  obtain ⟨u, rfl, ru⟩ := rv.one
  cases ru
  obtain ⟨z, its, n, r, hl, e⟩ := I.lstM hH
  obtain ⟨its2, r2, p2, _⟩ := I.list hB
  have l2 := r2.length
  obtain ⟨⟨cls2, dd2, data2, sl2⟩, ho2, hc2, n2, hd2⟩ := p2.isList
  simp only at hc2 hd2
  subst hc2 hd2
  have hsz : its.toArray.size + its2.toArray.size ≤ sizeLine := by simp only [List.size_toArray]; omega
  have hlong : ¬ (!its.toArray.isEmpty && Builtin.List.listTooLong (its.toArray.size + its2.toArray.size)) = true := by rw [notLongL hsz, Bool.and_false]; exact Bool.false_ne_true
  refine call_meets F.slot_list_extend ⟨_, e, rfl⟩ F.entry_list_extend (F.args_list_extend_2 _ _) (list_extendW l its.toArray n b its2.toArray n2 dd2 sl2 hlong (by simp only [List.size_toArray]; omega) (by omega)) ⟨e, ho2, ?_⟩
  exact ⟨.non, _, I.lset (its' := its ++ its2) hH e (by simp) (r.append r2) (by rw [List.length_append]; omega), rfl, q⟩
theorem sx_extendV (j : Nat) {y : Str} {p2 apos cpos : Pos} {es : List D} (hj : ρ[j]? = some (.own ds)) (he : Ev X e ρ (.val (.list es))) (hz : ds.length + es.length ≤ sizeLine) (h : Φ.nx (ρ.set j (.own (ds ++ es)))) (hNj : X.N[j]? = some y := by rfl) (hv : Vis X.env.scope y := by first | exact Or.inl rfl | exact Or.inr (Or.inl rfl) | exact Or.inr (Or.inr rfl)) (hd : (y == ("__debug__" : Str)) = false := by decide)
    (hcd : (y == ("__classdict__" : Str)) = false := by decide) (hbase : attributeBase (.Name y p2) "extend" X.env (eval (.Name y p2) X.env) = eval (.Name y p2) X.env := by rfl)
    (hfew : ((backTo cpos (starEach [e] X.env)).all (fun x => !x.1) && (backToKw cpos (keywordEach [] X.env)).all (fun x => x.1.isSome)
      && decide ([e].length + ([] : List Keyword).length + (if ([] : List Keyword).isEmpty then 0 else 1) < 30)) = true := by rfl)
    (hline : (apos.endLine == cpos.line) = true := by rfl) (hs : starEach [e] X.env = (false, eval e X.env) :: starEach [] X.env := by rfl) (hplain : (backTo cpos (starEach [] X.env)).any (·.1) = false := by rfl)
    (hsw : swapsWith (.Call (.Attribute (.Name y p2) "extend" apos) [e] [] cpos) none pos.line X.env = pure false := by rfl) :
    Sx X (.Expr (.Call (.Attribute (.Name y p2) "extend" apos) [e] [] cpos) pos) ρ Φ := fun H0 H1 σ H E S F => by
  obtain ⟨a, xs, e1, e2, r⟩ := S.ok.own j ds hj
  refine ⟨_, ps_expr (pe_bm PySem.F.plainAttrs_list PySem.F.slot_list_extend PySem.F.type_list_extend mt_extendF (pe_var hNj hv hd hcd) (pa_cons pe_c pa_nil hs) hbase hfew hline hs hplain) hsw, _, e1, .inl ⟨rfl, xs, .of e2⟩, he σ H _ S.ok fun v H2 ⟨s2, r2⟩ => ?_⟩
  obtain ⟨b, zs, rfl, hs2, hr2⟩ := (Rq.of r2).lst
  refine ⟨a, b, xs, zs, rfl, rfl, s2 _ _ e2, hs2, by rw [r.length, hr2.length]; exact hz, F.nx _ _ _ ((S.mono s2).write hj e1 (.own (s2 _ _ e2) (r.mono (.of s2))) (s2 _ _ e2) trivial ?_) h⟩
  have st : Stb H2 (upd H2 a (.lst (xs ++ zs))) := stb_upd (s2 _ _ e2) trivial
  exact .own upd_same (((r.mono (.of s2)).mono st).append (hr2.mono st))
theorem RpAll.snoc {K : PySem.W.Frag} {H : Hp} : ∀ {xs : List V} {ds : List D} {d : D}, RpAll K H xs (ds ++ [d]) → ∃ ys v, xs = ys ++ [v] ∧ RpAll K H ys ds ∧ Rp K H v d
  | xs, [], d, r => by
    cases r with
    | cons h t => cases t; exact ⟨[], _, rfl, .nil, h⟩
  | xs, d0 :: ds, d, r => by
    cases r with
    | cons h t =>
      obtain ⟨ys, v, rfl, h1, h2⟩ := RpAll.snoc t
      exact ⟨_ :: ys, v, rfl, .cons h h1, h2⟩
theorem sx_pop (i j : Nat) {x y : Str} {pos' p2 apos cpos : Pos} (hN : X.N.Nodup) (hj : ρ[j]? = some (.own (ds ++ [d]))) (h : Φ.nx ((ρ.set j (.own ds)).set i (.val d))) (hi : X.N[i]? = some x := by rfl) (hx : Loc X.env.scope x := by first | exact Or.inl rfl | exact Or.inr rfl) (hNj : X.N[j]? = some y := by rfl) (hv : Vis X.env.scope y := by first | exact Or.inl rfl | exact Or.inr (Or.inl rfl) | exact Or.inr (Or.inr rfl)) (hd : (y == ("__debug__" : Str)) = false := by decide)
    (hcd : (y == ("__classdict__" : Str)) = false := by decide) (hbase : attributeBase (.Name y p2) "pop" X.env (eval (.Name y p2) X.env) = eval (.Name y p2) X.env := by rfl)
    (hline : (apos.endLine == cpos.line) = true := by rfl)
    (hs : swapsWith (.Call (.Attribute (.Name y p2) "pop" apos) [] [] cpos) (some (.Name x pos')) pos.line X.env = pure false := by rfl) (hf : X.fn x = true ∨ X.env.scope.names.lookup x = some .local := by first | exact .inl rfl | exact .inr rfl | assumption) :
    Sx X (.Assign [.Name x pos'] (.Call (.Attribute (.Name y p2) "pop" apos) [] [] cpos) pos) ρ Φ := fun H0 H1 σ H E S F => by
  obtain ⟨a, xs, e1, e2, r⟩ := S.ok.own j _ hj
  obtain ⟨ys, v, rfl, r1, r2⟩ := RpAll.snoc r
  refine ⟨_, ps_set hN hi hx (pe_bm0 PySem.F.plainAttrs_list PySem.F.slot_list_pop PySem.F.type_list_pop mt_pop (pe_var hNj hv hd hcd) hbase hline) hs hf, _, e1, .inl ⟨rfl, _, .of e2⟩, a, ys ++ [v], v, rfl, rfl, e2, by simp, ?_⟩
  have st : Stb H (upd H a (.lst (ys ++ [v]).dropLast)) := stb_upd e2 trivial
  have S2 := S.write (b1 := .own ds) hj e1 (.own e2 r) e2 trivial (o := .lst (ys ++ [v]).dropLast) (by
    refine .own upd_same ?_
    rw [List.dropLast_concat] at st ⊢
    exact r1.mono st)
  exact F.nx _ _ _ (S2.set (.refl _) (r2.mono st)) h
end
end DL


/-! The givers' book, the order, who is stuck, who leans on whom. -/
namespace DL
open PySem PySem.Spec PyProof.Rows L2
abbrev Book := List (Str × List Str)
def encB (b : Book) : List (D × D) := b.map fun q => (.str q.1, .list (q.2.map .str))
def keys (b : Book) : List Str := b.map (·.1)
def bget (b : Book) (n : Str) : List Str := ((b.find? fun q => decide (q.1 = n)).map (·.2)).getD []
theorem encB_keys (b : Book) : (encB b).map (·.1) = (keys b).map .str := by unfold encB keys; rw [List.map_map, List.map_map]; rfl
theorem look_book {b : Book} {n : Str} (h : n ∈ keys b) : lookD (encB b) (.inr n) = some (.list ((bget b n).map .str)) := by
  unfold keys at h
  obtain ⟨q, hq, rfl⟩ := List.mem_map.mp h
  induction b with
  | nil => cases hq
  | cons r b ih =>
    unfold lookD bget encB at *
    rw [List.map_cons, List.find?_cons, List.find?_cons]
    by_cases e : r.1 = q.1
    · simp [kd, e]
    · have e1 : decide (kd (PyData.str r.1) = some (Sum.inr q.1)) = false := by simpa [kd] using e
      have e2 : decide (r.1 = q.1) = false := by simpa using e
      simp only [e1, e2]
      rcases List.mem_cons.mp hq with rfl | hq
      · exact absurd rfl e
      · exact ih hq (List.mem_map.mpr ⟨q, hq, rfl⟩)
theorem put_book {b : Book} {n : Str} (l : List Str) (h : n ∉ keys b) : putD (encB b) (.inr n) (.list (l.map .str)) = encB (b ++ [(n, l)]) := by
  unfold putD
  rw [if_neg]
  · unfold encB; rw [List.map_append]; rfl
  · intro e
    obtain ⟨x, hx, e⟩ := List.any_eq_true.mp e
    unfold encB at hx
    obtain ⟨q, hq, rfl⟩ := List.mem_map.mp hx
    refine h (List.mem_map.mpr ⟨q, hq, ?_⟩)
    simpa [kd] using e
theorem any_str (b : List Str) (n : Str) : ((b.map PyData.str).any fun z => PyData.eqv z (.str n)) = decide (n ∈ b) := by
  induction b with
  | nil => simp
  | cons a b ih =>
    rw [List.map_cons, List.any_cons, ih]
    by_cases e : a = n
    · subst e; simp [PyData.eqv]
    · have : ¬ n = a := fun z => e z.symm
      simp [PyData.eqv, e, this]
theorem isNone_opt (x : Option Str) : isNon (optS x) = x.isNone := by cases x <;> rfl
def isNoneD (x : Option Str) : Bool := !isNon (optS x)
theorem opts_eq {α : Type} (g : α → Option Str) (l : List α) : ((l.filter fun w => !isNon (optS (g w))).map fun w => optS (g w)) = (l.filterMap g).map .str := by
  induction l with
  | nil => rfl
  | cons a l ih =>
    rw [List.filter_cons, List.filterMap_cons]
    cases h : g a with
    | none => rw [if_neg (by rw [isNone_opt]; simp)]; exact ih
    | some s =>
      rw [if_pos (by rw [isNone_opt]; simp), List.map_cons, ih, h]
      rfl
/-- the givers' book of a house -/
def bk (h : List Part) : Book := (st h).map fun p => (p.name, p.wants.filterMap (lawGiver (st h) p.name))
theorem bk_nodup {h : List Part} (G : GoodH h) : (keys (bk h)).Nodup := by
  unfold keys bk
  rw [List.map_map]
  have := G.st.nm
  rw [List.Nodup, List.pairwise_map]
  exact this.imp fun {p q} h e => by
    have e : p.name = q.name := e
    rw [e] at h
    exact absurd h (List.lt_irrefl _)
theorem fresh_key {h : List Part} (G : GoodH h) {b : Book} {p : Part} {l : List Part} (hb : b ++ (p :: l).map (fun p => (p.name, p.wants.filterMap (lawGiver (st h) p.name))) = bk h) : p.name ∉ keys b := by
  have n := bk_nodup G
  rw [← hb] at n
  unfold keys at *
  rw [List.map_append, List.map_cons, List.map_cons, List.nodup_append] at n
  exact fun hm => n.2.2 p.name hm p.name (by simp) rfl
/-! ### texts that can be laid -/
def OkS (l : List Str) : Prop := ∀ s ∈ l, PyData.strOk s = true
theorem OkS.filter {l : List Str} {f : Str → Bool} (h : OkS l) : OkS (l.filter f) := fun s hs => h s (List.mem_filter.mp hs).1
theorem pl_strs {n : Nat} {l : List Str} (h : OkS l) : PlAll n (l.map .str) := pla_map fun s hs => pl_str (h s hs)
theorem OkS.sort {l : List Str} (h : OkS l) : OkS (sortS l) := fun s hs => h s ((sortS_perm l).mem_iff.mp hs)
structure OkB (b : Book) : Prop where
  ks : OkS (keys b)
  vs : ∀ q ∈ b, OkS q.2
  len : b.length < 64
  sub : ∀ q ∈ b, ∀ n ∈ q.2, n ∈ keys b
  nd : (keys b).Nodup
theorem bget_mem {b : Book} {n : Str} : bget b n = [] ∨ ∃ q ∈ b, q.2 = bget b n := by
  unfold bget
  cases h : b.find? fun q => decide (q.1 = n) with
  | none => exact .inl rfl
  | some q => exact .inr ⟨q, List.mem_of_find?_eq_some h, rfl⟩
theorem OkB.get {b : Book} (h : OkB b) {n : Str} : OkS (bget b n) := by
  rcases bget_mem (b := b) (n := n) with e | ⟨q, hq, e⟩
  · rw [e]; exact fun _ z => nomatch z
  · rw [← e]; exact h.vs q hq
theorem OkB.subs {b : Book} (h : OkB b) {n m : Str} (hm : m ∈ bget b n) : m ∈ keys b := by
  rcases bget_mem (b := b) (n := n) with e | ⟨q, hq, e⟩
  · rw [e] at hm; cases hm
  · rw [← e] at hm; exact h.sub q hq m hm
theorem lawGiver_mem {ps : List Part} {n : Str} {w : Want} {m : Str} (h : lawGiver ps n w = some m) : ∃ p ∈ ps, p.name = m := by
  unfold lawGiver at h
  cases hs : sortIS (lawSome ps n w) with
  | nil => rw [hs] at h; cases h
  | cons q r =>
    rw [hs] at h
    have e : q.2 = m := Option.some.inj h
    have := (sortIS_head hs).1
    unfold lawSome lawOthers at this
    obtain ⟨p, hp, rfl⟩ := List.mem_map.mp this
    exact ⟨p, (List.mem_filter.mp hp).1, e⟩
theorem bk_ok {h : List Part} (G : GoodH h) : OkB (bk h) where
  ks s hs := by
    unfold keys bk at hs
    rw [List.map_map] at hs
    obtain ⟨p, hp, rfl⟩ := List.mem_map.mp hs
    exact (G.st.wf.ok p hp).nm
  vs q hq s hs := by
    obtain ⟨p, hp, rfl⟩ := List.mem_map.mp hq
    obtain ⟨w, hw, e⟩ := List.mem_filterMap.mp hs
    obtain ⟨r, hr, rfl⟩ := lawGiver_mem e
    exact (G.st.wf.ok r hr).nm
  len := by
    unfold bk
    rw [List.length_map]
    have := G.st.len
    omega
  sub q hq s hs := by
    obtain ⟨p, hp, rfl⟩ := List.mem_map.mp hq
    obtain ⟨w, hw, e⟩ := List.mem_filterMap.mp hs
    obtain ⟨r, hr, rfl⟩ := lawGiver_mem e
    unfold keys bk
    rw [List.map_map]
    exact List.mem_map.mpr ⟨r, hr, rfl⟩
  nd := bk_nodup G
def SubK (l : List Str) (b : Book) : Prop := ∀ n ∈ l, n ∈ keys b
theorem SubK.get {l : List Str} {b : Book} (h : SubK l b) {n : Str} (hn : n ∈ l) : n ∈ keys b := h n hn
theorem SubK.filter {l : List Str} {b : Book} {f : Str → Bool} (h : SubK l b) : SubK (l.filter f) b := fun n hn => h n (List.mem_filter.mp hn).1
theorem SubK.ok {l : List Str} {b : Book} (h : SubK l b) (o : OkB b) : OkS l := fun n hn => o.ks n (h n hn)
/-! ### the order, by the laws -/
def readyL (b : Book) (found left : List Str) : List Str := left.filter fun n => ((bget b n).filter fun o => !decide (o ∈ found)).isEmpty
def lawOrdIt : Nat → Book → List Str → List Str → List Str
  | 0, _, f, _ => f
  | m + 1, b, f, left => match readyL b f left with
    | [] => f
    | n :: _ => lawOrdIt m b (f ++ [n]) (left.filter fun x => !decide (x = n))
def lawOrd (b : Book) : List Str := lawOrdIt b.length b [] (sortS (keys b))
/-! ### the order, by the program -/
def readyP (b : Book) (f : List Str) : List Str := (keys b).filter fun n => !decide (n ∈ f) && (bget b n).all fun o => decide (o ∈ f)
def ordStep (b : Book) (f : List Str) : List Str := match readyP b f with
  | [] => f
  | n :: _ => f ++ [n]
def ordIt (b : Book) : Nat → List Str → List Str
  | 0, f => f
  | m + 1, f => ordIt b m (ordStep b f)
def ordP (b : Book) : List Str := ordIt b (keys b).length []
theorem SubK.keys (b : Book) : SubK (DL.keys b) b := fun _ h => h
section
variable {X : Cx} {ρ : Rho} {e a b c : Expr} {d x y z : D} {ds es : List D} {k : Kd}
theorem ei_book {tg it : Expr} {b : Book} (h : Ev X it ρ (.val (.dict (encB b)))) : EvI X tg it ρ false ((keys b).map .str) := by rw [← encB_keys]; exact ei_keys h
theorem ev_bget {pos : Pos} {n : Str} {bo : Book} (hu : X.A.units + 1 < cLine) (ha : Ev X a ρ (.qua (.dict (encB bo)))) (hb : Ev X b ρ (.val (.str n))) (h : n ∈ keys bo) (hs : NoSl b := by exact fun _ _ => rfl) : Ev X (.Subscript a b pos) ρ (.val (.list ((bget bo n).map .str))) := ev_dget (kk := .inr n) hu ha hb (look_book h) hs
theorem c_listB {b : Book} (hc : X.calm = true := by rfl) : CallV X (.type "list") [.dict (encB b)] (.new ((keys b).map .str)) := by rw [← encB_keys]; exact c_listD hc
theorem c_allM {α : Type} {l : List α} {f : α → Bool} (hc : X.calm = true := by rfl) : CallV X (.builtin "all") [.list (l.map fun p => .bool (f p))] (.val (.bool (l.all f))) := by
  have e1 : (l.map fun p => PyData.bool (f p)) = (l.map f).map .bool := by rw [List.map_map]; rfl
  have e2 : l.all f = (l.map f).all id := by rw [List.all_map]; rfl
  rw [e1, e2]
  exact c_all hc
end
end DL


/-! The order by the program is that of the laws; who leans on whom. -/
namespace DL
open PySem L2 PyProof.Rows
theorem ready_eq (b : Book) (f : List Str) : readyL b f ((keys b).filter fun n => !decide (n ∈ f)) = readyP b f := by
  unfold readyL readyP
  rw [List.filter_filter]
  apply List.filter_congr
  intro n _
  rw [Bool.and_comm]
  congr 1
  rw [Bool.eq_iff_iff, List.isEmpty_iff, List.filter_eq_nil_iff, List.all_eq_true]
  constructor
  · intro h o ho; simpa using h o ho
  · intro h o ho; simpa using h o ho
theorem ordIt_stop {b : Book} {f : List Str} (h : readyP b f = []) : ∀ m, ordIt b m f = f
  | 0 => rfl
  | m + 1 => by rw [ordIt, ordStep, h]; exact ordIt_stop h m
theorem ord_it (b : Book) : ∀ (m : Nat) (f : List Str), lawOrdIt m b f ((keys b).filter fun n => !decide (n ∈ f)) = ordIt b m f
  | 0, _ => rfl
  | m + 1, f => by
    rw [lawOrdIt, ready_eq, ordIt, ordStep]
    cases h : readyP b f with
    | nil => exact (ordIt_stop h m).symm
    | cons n r =>
      simp only
      rw [← ord_it b m (f ++ [n]), List.filter_filter]
      congr 1
      apply List.filter_congr
      intro x _
      by_cases e1 : x = n <;> by_cases e2 : x ∈ f <;> simp [e1, e2]
theorem sortS_rising {l : List Str} (h : l.Pairwise fun a b => a.cps.toList < b.cps.toList) : sortS l = l := by
  refine perm_sorted strs_anti (sortS_perm l) (sortS_pw l) (h.imp fun {a b} z => ?_)
  rw [ltCps_eq, decide_eq_false_iff_not]
  exact fun y => List.lt_irrefl _ (List.lt_trans z y)
theorem keys_rising {h : List Part} (G : GoodH h) : (keys (bk h)).Pairwise fun a b => a.cps.toList < b.cps.toList := by
  unfold keys bk
  rw [List.map_map, List.pairwise_map]
  exact G.st.nm
theorem ord_eq {h : List Part} (G : GoodH h) : lawOrd (bk h) = ordP (bk h) := by
  unfold lawOrd ordP
  rw [sortS_rising (keys_rising G)]
  have e := ord_it (bk h) (bk h).length []
  have e0 : ((keys (bk h)).filter fun n => !decide (n ∈ ([] : List Str))) = keys (bk h) := by simp
  rw [e0] at e
  rw [e]
  unfold keys
  rw [List.length_map]
/-! ### leaning -/
inductive Reach (b : Book) (n : Str) : Str → Prop
  | one {x : Str} : x ∈ bget b n → Reach b n x
  | more {x y : Str} : Reach b n y → x ∈ bget b y → Reach b n x
open Classical in
noncomputable def leansOf (b : Book) (n : Str) : List Str := sortS ((keys b).filter fun x => decide (Reach b n x))
theorem Reach.key {b : Book} (O : OkB b) {n x : Str} (h : Reach b n x) : x ∈ keys b := by
  cases h with
  | one h => exact O.subs h
  | more _ h => exact O.subs h
theorem sortS_congr {l m : List Str} (p : l.Perm m) : sortS l = sortS m := perm_sorted strs_anti (((sortS_perm l).trans p).trans (sortS_perm m).symm) (sortS_pw l) (sortS_pw m)
theorem leans_is {b : Book} (O : OkB b) {n : Str} {f : List Str} (nd : f.Nodup) (h : ∀ x, x ∈ f ↔ Reach b n x) : sortS f = leansOf b n := by
  unfold leansOf
  apply sortS_congr
  rw [List.perm_ext_iff_of_nodup nd (O.nd.filter _)]
  intro x
  classical
  rw [h, List.mem_filter]
  simp only [decide_eq_true_eq]
  exact ⟨fun z => ⟨z.key O, z⟩, fun z => z.2⟩
/-- what the loop over todo keeps -/
structure LeanInv (b : Book) (n : Str) (f todo : List Str) : Prop where
  nd : f.Nodup
  fr : ∀ x ∈ f, Reach b n x
  tr : ∀ x ∈ todo, Reach b n x
  st : ∀ x ∈ bget b n, x ∈ f ∨ x ∈ todo
  cl : ∀ x ∈ f, ∀ y ∈ bget b x, y ∈ f ∨ y ∈ todo
theorem LeanInv.start (b : Book) (n : Str) : LeanInv b n [] (bget b n) := ⟨.nil, fun _ h => (nomatch h), fun _ h => .one h, fun _ h => .inr h, fun _ h => (nomatch h)⟩
theorem LeanInv.old {b : Book} {n : Str} {f t : List Str} {x : Str} (h : LeanInv b n f (t ++ [x])) (hx : x ∈ f) : LeanInv b n f t := by
  have go : ∀ y, y ∈ f ∨ y ∈ t ++ [x] → y ∈ f ∨ y ∈ t := by
    intro y hy
    rcases hy with hy | hy
    · exact .inl hy
    · rcases List.mem_append.mp hy with hy | hy
      · exact .inr hy
      · simp at hy; subst hy; exact .inl hx
  exact ⟨h.nd, h.fr, fun y hy => h.tr y (by simp [hy]), fun y hy => go y (h.st y hy), fun z hz y hy => go y (h.cl z hz y hy)⟩
theorem LeanInv.new {b : Book} {n : Str} {f t : List Str} {x : Str} (h : LeanInv b n f (t ++ [x])) (hx : x ∉ f) : LeanInv b n (f ++ [x]) (t ++ bget b x) := by
  have rx : Reach b n x := h.tr x (by simp)
  have go : ∀ y, y ∈ f ∨ y ∈ t ++ [x] → y ∈ f ++ [x] ∨ y ∈ t ++ bget b x := by
    intro y hy
    rcases hy with hy | hy
    · exact .inl (by simp [hy])
    · rcases List.mem_append.mp hy with hy | hy
      · exact .inr (by simp [hy])
      · exact .inl (by simp at hy; simp [hy])
  refine ⟨?_, ?_, ?_, fun y hy => go y (h.st y hy), ?_⟩
  · rw [List.nodup_append]
    exact ⟨h.nd, by simp, fun a ha c hc e => by simp at hc; subst hc; exact hx (e ▸ ha)⟩
  · intro y hy
    rcases List.mem_append.mp hy with hy | hy
    · exact h.fr y hy
    · simp at hy; subst hy; exact rx
  · intro y hy
    rcases List.mem_append.mp hy with hy | hy
    · exact h.tr y (by simp [hy])
    · exact .more rx hy
  · intro z hz y hy
    rcases List.mem_append.mp hz with hz | hz
    · exact go y (h.cl z hz y hy)
    · simp at hz; subst hz; exact .inr (by simp [hy])
theorem LeanInv.done {b : Book} {n : Str} {f : List Str} (h : LeanInv b n f []) : ∀ x, x ∈ f ↔ Reach b n x := by
  intro x
  refine ⟨h.fr x, fun r => ?_⟩
  induction r with
  | one hx => exact (h.st _ hx).elim id (fun z => nomatch z)
  | more _ hx ih => exact (h.cl _ ih _ hx).elim id (fun z => nomatch z)
/-- how many turns are left at most -/
def mu (b : Book) (f todo : List Str) : Nat := todo.length + (((keys b).filter fun x => !decide (x ∈ f)).map fun x => (bget b x).length).sum
theorem sum_drop (g : Str → Nat) {x : Str} {f : List Str} (hx : x ∉ f) : ∀ {l : List Str}, l.Nodup → x ∈ l → ((l.filter fun y => !decide (y ∈ f)).map g).sum = g x + ((l.filter fun y => !decide (y ∈ f ++ [x])).map g).sum
  | [], _, h => nomatch h
  | a :: l, n, h => by
    rw [List.nodup_cons] at n
    by_cases e : a = x
    · subst e
      have e1 : (l.filter fun y => !decide (y ∈ f ++ [a])) = l.filter fun y => !decide (y ∈ f) := by
        apply List.filter_congr
        intro y hy
        have : y ≠ a := fun z => n.1 (z ▸ hy)
        simp [this]
      rw [List.filter_cons, if_pos (by simpa using hx), List.filter_cons, if_neg (by simp), e1]
      simp
    · have hl : x ∈ l := (List.mem_cons.mp h).resolve_left fun z => e z.symm
      have ih := sum_drop g hx n.2 hl
      by_cases ha : a ∈ f
      · rw [List.filter_cons, if_neg (by simpa using ha), List.filter_cons, if_neg (by simp [ha])]; exact ih
      · rw [List.filter_cons, if_pos (by simpa using ha), List.filter_cons, if_pos (by simp [ha, e])]
        simp only [List.map_cons, List.sum_cons]
        omega
theorem mu_old {b : Book} {f t : List Str} {x : Str} : mu b f (t ++ [x]) = mu b f t + 1 := by unfold mu; simp; omega
theorem mu_new {b : Book} (O : OkB b) {f t : List Str} {x : Str} (hx : x ∉ f) (hk : x ∈ keys b) : mu b f (t ++ [x]) = mu b (f ++ [x]) (t ++ bget b x) + 1 := by
  unfold mu
  rw [sum_drop (fun x => (bget b x).length) hx O.nd hk]
  simp only [List.length_append, List.length_cons, List.length_nil]
  omega
end DL


namespace DL
open PySem PySem.Spec PyProof.Rows L2
theorem law_in {K : PySem.W.Frag} {H : Hp} {a : Addr} {ns : List Int} {g : List D → D → Prop} {E : XK} (hO : Only H) (hS : SqL K H a (ns.map V.int)) (hg : g [.list (ns.map .int)] (.bool true)) : SpD K g [.ref a] H (fun v _ => v = .bl true) E := by
  have hf : FzL K H a (ns.map V.int) := by
    rcases hS with (h | ⟨o, h⟩) | h
    · rcases hO a with q | ⟨o, xs, q⟩ <;> (rw [h] at q; cases q)
    · exact .inl ⟨o, h⟩
    · exact .inr h
  have hr : RpAll K H (ns.map V.int) (ns.map PyData.int) := by
    clear hS hf hg
    induction ns with
    | nil => exact .nil
    | cons n ns ih => exact .cons (.int n) ih
  exact ⟨_, _, .cons (.lst hf hr) .nil, hg, fun v H' _ r => (Rq.of r).bl⟩
theorem eqv_int (i j : Int) : PyData.eqv (.int i) (.int j) = decide (i = j) := by simp [PyData.eqv, Bool.beq_eq_decide_eq]
theorem eqv_str (i j : Str) : PyData.eqv (.str i) (.str j) = decide (i = j) := by simp [PyData.eqv, Bool.beq_eq_decide_eq]
theorem eqv_opt (x y : Option Str) : PyData.eqv (optS x) (optS y) = decide (x = y) := by
  cases x <;> cases y <;> simp [optS, PyData.eqv, Bool.beq_eq_decide_eq]
theorem sc_opt (x y : Option Str) : scD (optS x) (optS y) = true := by cases x <;> cases y <;> rfl
theorem o_neOpt {X : Cx} {x y : Option Str} : OpV X (compareOp .NotEq) (optS x) (optS y) (.val (.bool (!decide (x = y)))) := by rw [← eqv_opt]; exact o_ne (sc_opt x y)
theorem o_eqOpt {X : Cx} {x y : Option Str} : OpV X (compareOp .Eq) (optS x) (optS y) (.val (.bool (decide (x = y)))) := by rw [← eqv_opt]; exact o_eq (sc_opt x y)
theorem isNon_opt (x : Option Str) : isNon (optS x) = x.isNone := by cases x <;> rfl
mutual
theorem eqv_self : ∀ d : D, nod d = true → PyData.eqv d d = true
  | .none, _ => by simp [PyData.eqv]
  | .bool _, _ => by simp [PyData.eqv]
  | .int _, _ => by simp [PyData.eqv]
  | .str _, _ => by simp [PyData.eqv]
  | .list xs, h => by rw [PyData.eqv]; exact eqvAll_self xs (by simpa [nod] using h)
  | .tuple xs, h => by rw [PyData.eqv]; exact eqvAll_self xs (by simpa [nod] using h)
  | .dict _, h => by simp [nod] at h
theorem eqvAll_self : ∀ ds : List D, nods ds = true → PyData.eqvAll ds ds = true
  | [], _ => by simp [PyData.eqvAll]
  | d :: ds, h => by
    simp only [nods, Bool.and_eq_true] at h
    rw [PyData.eqvAll, eqv_self d h.1, eqvAll_self ds h.2]; rfl
end
theorem Pl.self {n : Nat} {d : D} (h : Pl n d) : PyData.eqv d d = true := eqv_self d (lay_nod h.lay)
theorem pl_sort {n : Nat} {ds : List D} (h : PlAll n ds) : PlAll n (sortD ds) := fun d hd => h d ((List.mergeSort_perm _ _).mem_iff.mp hd)
theorem pl_SS {n : Nat} {l : List (Str × Str)} (h : ∀ q ∈ l, PyData.strOk q.1 = true ∧ PyData.strOk q.2 = true) : PlAll (n + 1) (l.map encSS) := pla_map fun q hq => pl_tup (pla_cons (pl_str (h q hq).1) (pla_cons (pl_str (h q hq).2) pla_nil))
theorem lack_ok {h ps : List Part} (k : OkH h) : ∀ q ∈ lackOf h ps, PyData.strOk q.1 = true ∧ PyData.strOk q.2 = true := by
  intro q hq
  unfold lackOf at hq
  obtain ⟨p, hp, hq⟩ := List.mem_flatMap.mp hq
  split at hq
  · obtain ⟨f, hf, rfl⟩ := List.mem_map.mp hq
    unfold lacksL at hf
    obtain ⟨w, hw, rfl⟩ := List.mem_map.mp hf
    exact ⟨(k p hp).nm, (k p hp).ws w (List.mem_filter.mp hw).1⟩
  · cases hq
theorem r65 {k : Nat} {A : Around} (hr : Room k A) : A.units + 65 < cLine := by have := hr.un; omega
theorem r64 {k : Nat} {A : Around} (hr : Room k A) : A.units + 64 < cLine := by have := hr.un; omega
theorem r12 {k : Nat} {A : Around} (hr : Room k A) : A.units + 12 < cLine := by have := hr.un; omega
theorem r1 {k : Nat} {A : Around} (hr : Room k A) : A.units + 1 < cLine := by have := hr.un; omega
section
variable {X : Cx} {ρ : Rho} {e a b c : Expr} {d x y z : D} {ds es : List D} {k : Kd}
theorem atI_g {i : Int} (h0 : 0 ≤ i) (h1 : i < ds.length) : atI ds i = some (ds.getD i.toNat .none) := by
  unfold atI ixN
  rw [if_pos h0, if_pos h1]
  show ds[i.toNat]? = _
  rw [List.getElem?_eq_getElem (by omega), List.getD_eq_getElem?_getD, List.getElem?_eq_getElem (by omega)]
  rfl
theorem ix_tupG {i : Int} (h0 : 0 ≤ i) (h1 : i < ds.length) : IxV X (.tuple ds) (.int i) (.val (ds.getD i.toNat .none)) := ix_tupD (atI_g h0 h1)
theorem ix_lstG {i : Int} (h0 : 0 ≤ i) (h1 : i < ds.length) : IxV X (.list ds) (.int i) (.val (ds.getD i.toNat .none)) := ix_lstD (atI_g h0 h1)
theorem ix_2 {x y : D} {i : Int} (h0 : 0 ≤ i) (h1 : i < 2) : atI [x, y] i = some (if i = 0 then x else y) := by
  rcases (by omega : i = 0 ∨ i = 1) with rfl | rfl <;> rfl
theorem ix_3 {x y z : D} {i : Int} (h0 : 0 ≤ i) (h1 : i < 3) : atI [x, y, z] i = some (if i = 0 then x else if i = 1 then y else z) := by
  rcases (by omega : i = 0 ∨ i = 1 ∨ i = 2) with rfl | rfl | rfl <;> rfl
theorem ix_4 {x y z u : D} {i : Int} (h0 : 0 ≤ i) (h1 : i < 4) : atI [x, y, z, u] i = some (if i = 0 then x else if i = 1 then y else if i = 2 then z else u) := by
  rcases (by omega : i = 0 ∨ i = 1 ∨ i = 2 ∨ i = 3) with rfl | rfl | rfl | rfl <;> rfl
theorem ix_6 {x y z u v w : D} {i : Int} (h0 : 0 ≤ i) (h1 : i < 6) : atI [x, y, z, u, v, w] i = some (if i = 0 then x else if i = 1 then y else if i = 2 then z else if i = 3 then u else if i = 4 then v else w) := by
  rcases (by omega : i = 0 ∨ i = 1 ∨ i = 2 ∨ i = 3 ∨ i = 4 ∨ i = 5) with rfl | rfl | rfl | rfl | rfl | rfl <;> rfl
theorem ite_i (c : Prop) [Decidable c] (a b : Int) : (if c then PyData.int a else .int b) = .int (if c then a else b) := by split <;> rfl
theorem ite_s (c : Prop) [Decidable c] (a b : Str) : (if c then PyData.str a else .str b) = .str (if c then a else b) := by split <;> rfl
theorem ix_int2 {p q i : Int} (h0 : 0 ≤ i) (h1 : i < 2) : IxV X (.tuple [.int p, .int q]) (.int i) (.val (.int (if i = 0 then p else q))) := ix_tupD (by rw [ix_2 h0 h1, ite_i])
theorem ix_str2 {p q : Str} {i : Int} (h0 : 0 ≤ i) (h1 : i < 2) : IxV X (.tuple [.str p, .str q]) (.int i) (.val (.str (if i = 0 then p else q))) := ix_tupD (by rw [ix_2 h0 h1, ite_s])
theorem ix_str3 {p q r : Str} {i : Int} (h0 : 0 ≤ i) (h1 : i < 3) : IxV X (.tuple [.str p, .str q, .str r]) (.int i) (.val (.str (if i = 0 then p else if i = 1 then q else r))) := ix_tupD (by rw [ix_3 h0 h1, ite_s, ite_s])
theorem ix_int4 {p q r t i : Int} (h0 : 0 ≤ i) (h1 : i < 4) : IxV X (.tuple [.int p, .int q, .int r, .int t]) (.int i) (.val (.int (if i = 0 then p else if i = 1 then q else if i = 2 then r else t))) := ix_tupD (by rw [ix_4 h0 h1, ite_i, ite_i, ite_i])
theorem ix_str4 {p q r t : Str} {i : Int} (h0 : 0 ≤ i) (h1 : i < 4) : IxV X (.tuple [.str p, .str q, .str r, .str t]) (.int i) (.val (.str (if i = 0 then p else if i = 1 then q else if i = 2 then r else t))) := ix_tupD (by rw [ix_4 h0 h1, ite_s, ite_s, ite_s])
theorem ix_str6 {p q r t u v : Str} {i : Int} (h0 : 0 ≤ i) (h1 : i < 6) : IxV X (.tuple [.str p, .str q, .str r, .str t, .str u, .str v]) (.int i) (.val (.str (if i = 0 then p else if i = 1 then q else if i = 2 then r else if i = 3 then t else if i = 4 then u else v))) := ix_tupD (by rw [ix_6 h0 h1, ite_s, ite_s, ite_s, ite_s, ite_s])
/-- flat data -/
def flD : D → Bool
  | .none => true
  | .bool _ => true
  | .int _ => true
  | .str _ => true
  | _ => false
theorem fl_ok {K : PySem.W.Frag} {H : Hp} {u v : V} (h1 : flD x = true) (h2 : flD y = true) (ru : Rp K H u x) (rv : Rp K H v y) : flatV u = true ∧ flatV v = true ∧ eqV u v = PyData.eqv x y := by
  cases ru <;> simp [flD] at h1 <;> cases rv <;> simp [flD] at h2 <;> refine ⟨rfl, rfl, ?_⟩ <;> first
    | rfl
    | (simp [eqV, PyData.eqv]; done)
    | (simp only [eqV, PyData.eqv]; rfl)
theorem fl_all {K : PySem.W.Frag} {H : Hp} {u : V} (h1 : flD x = true) (ru : Rp K H u x) : ∀ {xs : List V} {ds : List D}, RpAll K H xs ds → ds.all flD = true → xs.all flatV = true ∧ inV u xs = ds.any fun z => PyData.eqv z x
  | _, _, .nil, _ => ⟨rfl, rfl⟩
  | _, _, .cons r t, h => by
    rw [List.all_cons, Bool.and_eq_true] at h
    obtain ⟨a1, a2⟩ := fl_all h1 ru t h.2
    obtain ⟨b1, b2, b3⟩ := fl_ok h.1 h1 r ru
    refine ⟨by rw [List.all_cons, b1, a1]; rfl, ?_⟩
    unfold inV at a2 ⊢
    rw [List.any_cons, List.any_cons, b3, a2]
theorem Rq.flat {K : PySem.W.Frag} {H : Hp} {u : V} (h : flD x = true) (r : Rq K H u x) : Rp K H u x := by
  cases r with
  | of r => exact r
  | own => simp [flD] at h
  | dct => simp [flD] at h
theorem o_inS (hx : flD x = true := by rfl) (hy : ds.all flD = true := by rfl) : OpV X (compareOp .In) x (.list ds) (.val (.bool (ds.any fun z => PyData.eqv z x))) := fun H u v Q ru rv q => by
  have ru := ru.flat hx
  obtain ⟨a, xs, rfl, hs, hr⟩ := rv.lst
  obtain ⟨a1, a2⟩ := fl_all hx ru hr hy
  have f1 := (fl_ok hx hx ru ru).1
  exact ⟨_, op_in_seq, a, xs, rfl, .inl hs, f1, a1, by rw [if_neg (by decide), a2]; exact q _ H ⟨.refl H, .bl _⟩⟩
theorem o_ninS (hx : flD x = true := by rfl) (hy : ds.all flD = true := by rfl) : OpV X (compareOp .NotIn) x (.list ds) (.val (.bool (!ds.any fun z => PyData.eqv z x))) := fun H u v Q ru rv q => by
  have ru := ru.flat hx
  obtain ⟨a, xs, rfl, hs, hr⟩ := rv.lst
  obtain ⟨a1, a2⟩ := fl_all hx ru hr hy
  have f1 := (fl_ok hx hx ru ru).1
  exact ⟨_, op_notIn_seq, a, xs, rfl, .inl hs, f1, a1, by rw [if_pos rfl, a2]; exact q _ H ⟨.refl H, .bl _⟩⟩
theorem o_inST (hx : flD x = true := by rfl) (hy : ds.all flD = true := by rfl) : OpV X (compareOp .In) x (.tuple ds) (.val (.bool (ds.any fun z => PyData.eqv z x))) := fun H u v Q ru rv q => by
  have ru := ru.flat hx
  obtain ⟨a, xs, rfl, hs, hr⟩ := rv.tup
  obtain ⟨a1, a2⟩ := fl_all hx ru hr hy
  have f1 := (fl_ok hx hx ru ru).1
  exact ⟨_, op_in_seq, a, xs, rfl, .inr hs, f1, a1, by rw [if_neg (by decide), a2]; exact q _ H ⟨.refl H, .bl _⟩⟩
theorem o_ninST (hx : flD x = true := by rfl) (hy : ds.all flD = true := by rfl) : OpV X (compareOp .NotIn) x (.tuple ds) (.val (.bool (!ds.any fun z => PyData.eqv z x))) := fun H u v Q ru rv q => by
  have ru := ru.flat hx
  obtain ⟨a, xs, rfl, hs, hr⟩ := rv.tup
  obtain ⟨a1, a2⟩ := fl_all hx ru hr hy
  have f1 := (fl_ok hx hx ru ru).1
  exact ⟨_, op_notIn_seq, a, xs, rfl, .inr hs, f1, a1, by rw [if_pos rfl, a2]; exact q _ H ⟨.refl H, .bl _⟩⟩
theorem fl_strs {α : Type} {l : List α} {f : α → Str} : (l.map fun a => PyData.str (f a)).all flD = true := by
  rw [List.all_map]; exact List.all_eq_true.mpr fun _ _ => rfl
/-- the own names of a comprehension's block by their slots -/
def ownOf (N : List Str) (scope : Scope) : List (Str × Nat) := scope.names.filterMap fun y => match y.2 with
  | .local => if y.1 ∈ N then some (y.1, N.idxOf y.1) else none
  | .cell => if y.1 ∈ N then some (y.1, N.idxOf y.1) else none
  | _ => none
theorem ev_lcA {elt tg iter : Expr} {ifs : List Expr} {scope : Scope} {pos : Pos} {α : Type} {ps : List α} {en : α → D} {ρ' : α → Rho} {keep : α → Bool} {f : α → D} {is : List Nat} {yl : Bool}
    (hN : X.N.Nodup) (ok : blkC X.N X.env.scope scope (ownOf X.N scope) = true)
    (hi : EvIq X tg iter ρ yl (ps.map en)) (hg : ∀ p ∈ ps, Blk X scope fun Y => EvG Y yl tg (wipeB ρ ((ownOf X.N scope).map (·.2))) (en p) (ρ' p) is)
    (ht : ∀ p ∈ ps, Blk X scope fun Y => EvTs Y ifs (ρ' p) (keep p)) (he : ∀ p ∈ ps, keep p = true → Blk X scope fun Y => Ev Y elt (ρ' p) (.val (f p)))
    (hw : (is.all fun i => ((ownOf X.N scope).map (·.2)).contains i) = true) (hc : X.calm = true := by rfl) (hs : ∀ x, foldedSetIterable iter X.env x = pure x := by intro _; rfl) :
    Ev X (.ListComp elt [⟨tg, iter, ifs, 0⟩] scope pos) ρ (.new ((ps.filter keep).map f)) :=
  ev_lc hN (blkOk_by ok) hi hg ht he (fun i h => by simpa using List.all_eq_true.mp hw i h) hc hs
theorem sx_setLcA {Φ : DL.Fin} (i : Nat) {y : Str} {py : Pos} {elt tg iter : Expr} {ifs : List Expr} {scope : Scope} {pos spos : Pos} {α : Type} {ps : List α} {en : α → D} {ρ' : α → Rho} {keep : α → Bool} {f : α → D} {is : List Nat} {yl : Bool}
    (hN : X.N.Nodup) (ok : blkC X.N X.env.scope scope (ownOf X.N scope) = true)
    (hi : EvIq X tg iter ρ yl (ps.map en)) (hg : ∀ p ∈ ps, Blk X scope fun Y => EvG Y yl tg (wipeB ρ ((ownOf X.N scope).map (·.2))) (en p) (ρ' p) is)
    (ht : ∀ p ∈ ps, Blk X scope fun Y => EvTs Y ifs (ρ' p) (keep p)) (he : ∀ p ∈ ps, keep p = true → Blk X scope fun Y => Ev Y elt (ρ' p) (.val (f p)))
    (hw : (is.all fun i => ((ownOf X.N scope).map (·.2)).contains i) = true) (hsw : swapsWith (.ListComp elt [⟨tg, iter, ifs, 0⟩] scope pos) (some (.Name y py)) spos.line X.env = pure true)
    (h : Φ.nx (ρ.set i (.val (.list ((ps.filter keep).map f)))))
    (hy : X.N[i]? = some y := by rfl) (hyl : X.env.scope.names.lookup y = some .local := by rfl) (hc : X.calm = true := by rfl) (hs : ∀ x, foldedSetIterable iter X.env x = pure x := by intro _; rfl) :
    Sx X (.Assign [.Name y py] (.ListComp elt [⟨tg, iter, ifs, 0⟩] scope pos) spos) ρ Φ :=
  sx_setLc i hN (blkOk_by ok) hsw hi hg ht he h (fun i h => by simpa using List.all_eq_true.mp hw i h) hy hyl hc hs
/-! ### facts by names -/
structure Sl (N : List Str) (s : String) (i : Nat) : Prop where
  h : N[i]? = some (Str.ofString s)
  d : (Str.ofString s == ("__debug__" : Str)) = false
  c : (Str.ofString s == ("__classdict__" : Str)) = false
structure Cl (P : Program) (w : World) (K : PySem.W.Frag) (mg : Str → Option Value) (base : Heap) (s : String) (kk : Nat) (g : List D → D → Prop) : Prop where
  h : ∃ f fd ps, FnD P w K mg base kk f fd ps g ∧ mg (Str.ofString s) = some (.ref f) ∧ PySem.W.keepIn K (.ref f) = true ∧ Binds K fd ps []
structure Nb (mg : Str → Option Value) (s : String) (v : Value) : Prop where
  h : mg (Str.ofString s) = none
  v : bootBuiltins (Str.ofString s) = some v
  n : Str.ofString s ≠ "__name__"
  d : (Str.ofString s == ("__debug__" : Str)) = false
/-- what came, as a datum -/
inductive KV' : Kd → D → Prop
  | val {d : D} : KV' (.val d) d
  | new {ds : List D} : KV' (.new ds) (.list ds)
  | newD {es : List (D × D)} : KV' (.newD es) (.dict es)
theorem Ev.toV (h : Ev X e ρ k) (q : KV' k d) : Ev X e ρ (.val d) := by
  cases q with
  | val => exact h
  | new => exact h.fz
  | newD => exact h.fzD
theorem ev_vn {s : String} {i : Nat} {pos : Pos} (hs : Sl X.N s i) (h : ρ[i]? = some (.val d)) (hv : Vis X.env.scope (Str.ofString s)) : Ev X (.Name (Str.ofString s) pos) ρ (.val d) := ev_var i h hs.h hv hs.d hs.c
theorem ev_vo {s : String} {i : Nat} {pos : Pos} (hs : Sl X.N s i) (h : ρ[i]? = some (.own ds)) (hv : Vis X.env.scope (Str.ofString s)) : Ev X (.Name (Str.ofString s) pos) ρ (.qua (.list ds)) := ev_own i h hs.h hv hs.d hs.c
theorem ev_vd {s : String} {i : Nat} {pos : Pos} {es : List (D × D)} (hs : Sl X.N s i) (h : ρ[i]? = some (.dic es)) (hv : Vis X.env.scope (Str.ofString s)) : Ev X (.Name (Str.ofString s) pos) ρ (.qua (.dict es)) := ev_dic i h hs.h hv hs.d hs.c
theorem eg_vn {s : String} {i : Nat} {pos : Pos} (hs : Sl X.N s i) (hN : X.N.Nodup) (hx : Loc X.env.scope (Str.ofString s)) (hf : X.fn (Str.ofString s) = true ∨ X.env.scope.names.lookup (Str.ofString s) = some .local) : EvG X false (.Name (Str.ofString s) pos) ρ d (ρ.set i (.val d)) [i] := eg_name i hN hs.h hx hf
theorem ev_cl {s : String} {kk : Nat} {g : List D → D → Prop} {es : List Expr} {p pos : Pos} (C : Cl X.prog X.w X.K X.mg X.base s kk g) (hr : Room kk X.A) (ha : EvA X (e :: es) ρ ds) (hg' : g ds d) (hg : Gl X (Str.ofString s)) (hdb : (Str.ofString s == ("__debug__" : Str)) = false) (he : starEach (e :: es) X.env = (false, eval e X.env) :: starEach es X.env) (hpl : (backTo pos (starEach es X.env)).any (·.1) = false) :
    Ev X (.Call (.Name (Str.ofString s) p) (e :: es) [] pos) ρ (.val d) := by
  obtain ⟨f, fd, ps, F, hm, hk, hb⟩ := C.h
  exact ev_call F hr hm hk hb ha hg' hg hdb he hpl
theorem ev_nb {s id : String} {es : List Expr} {p pos : Pos} (hm : Nb X.mg s (.builtin id)) (ha : EvAq X (e :: es) ρ ds) (hc : CallV X (.builtin id) ds k) (hg : Gl X (Str.ofString s))
    (he : starEach (e :: es) X.env = (false, eval e X.env) :: starEach es X.env) (hpl : (backTo pos (starEach es X.env)).any (·.1) = false) : Ev X (.Call (.Name (Str.ofString s) p) (e :: es) [] pos) ρ k := ev_b hc hm.h ha hm.v hg hm.n hm.d he hpl
theorem ev_nt {s T : String} {es : List Expr} {p pos : Pos} (hm : Nb X.mg s (.type T)) (ha : EvAq X (e :: es) ρ ds) (hc : CallV X (.type T) ds k) (hg : Gl X (Str.ofString s))
    (he : starEach (e :: es) X.env = (false, eval e X.env) :: starEach es X.env) (hpl : (backTo pos (starEach es X.env)).any (·.1) = false) : Ev X (.Call (.Name (Str.ofString s) p) (e :: es) [] pos) ρ k := ev_ty hc hm.h ha hm.v hg hm.n hm.d he hpl
/-! ### guards -/
theorem gd_name {x : Str} {pos : Pos} (h : Ev X (.Name x pos) ρ k) : Ev X (.Name x pos) ρ k := h
theorem gd_bin {op : Operator} {pos : Pos} (h : Ev X (.BinOp a op b pos) ρ k) : Ev X (.BinOp a op b pos) ρ k := h
theorem gd_cmp {op : CmpOp} {pos : Pos} (h : Ev X (.Compare a [op] [b] pos) ρ k) : Ev X (.Compare a [op] [b] pos) ρ k := h
theorem gd_cmp2 {op op' : CmpOp} {pos : Pos} (h : Ev X (.Compare a [op, op'] [b, c] pos) ρ k) : Ev X (.Compare a [op, op'] [b, c] pos) ρ k := h
theorem gd_tup {l : List Expr} {n : Nat} {pos : Pos} (h : Ev X (.Tuple l n pos) ρ k) : Ev X (.Tuple l n pos) ρ k := h
theorem gd_lst {l : List Expr} {pos : Pos} (h : Ev X (.List l pos) ρ k) : Ev X (.List l pos) ρ k := h
theorem gd_call {x : Str} {l : List Expr} {p pos : Pos} (h : Ev X (.Call (.Name x p) l [] pos) ρ k) : Ev X (.Call (.Name x p) l [] pos) ρ k := h
theorem gd_meth {x : Str} {l : List Expr} {p pos : Pos} (h : Ev X (.Call (.Attribute a x p) l [] pos) ρ k) : Ev X (.Call (.Attribute a x p) l [] pos) ρ k := h
theorem gd_sub {pos : Pos} (h : Ev X (.Subscript a b pos) ρ k) : Ev X (.Subscript a b pos) ρ k := h
theorem gd_rev {k2 : Nat} {p1 p2 p3 pos : Pos} (h : Ev X (.Subscript a (.Slice none none (some (.UnaryOp .USub (.Constant (.int 1) k2 p1) p2)) p3) pos) ρ k) : Ev X (.Subscript a (.Slice none none (some (.UnaryOp .USub (.Constant (.int 1) k2 p1) p2)) p3) pos) ρ k := h
theorem gd_sl {lo hi : Option Expr} {p pos : Pos} (h : Ev X (.Subscript a (.Slice lo hi none p) pos) ρ k) : Ev X (.Subscript a (.Slice lo hi none p) pos) ρ k := h
theorem gd_bool {op : BoolOp} {l : List Expr} {pos : Pos} (h : Ev X (.BoolOp op l pos) ρ k) : Ev X (.BoolOp op l pos) ρ k := h
theorem gd_un {op : UnaryOp} {pos : Pos} (h : Ev X (.UnaryOp op a pos) ρ k) : Ev X (.UnaryOp op a pos) ρ k := h
theorem gd_lc {l : List Comprehension} {sc : Scope} {pos : Pos} (h : Ev X (.ListComp a l sc pos) ρ k) : Ev X (.ListComp a l sc pos) ρ k := h
theorem gd_if {pos : Pos} (h : Ev X (.IfExp a b c pos) ρ k) : Ev X (.IfExp a b c pos) ρ k := h
theorem gt_cmp {t : Bool} {op : CmpOp} {pos : Pos} (h : EvT X (.Compare a [op] [b] pos) ρ t) : EvT X (.Compare a [op] [b] pos) ρ t := h
theorem gt_cmp2 {t : Bool} {op op' : CmpOp} {pos : Pos} (h : EvT X (.Compare a [op, op'] [b, c] pos) ρ t) : EvT X (.Compare a [op, op'] [b, c] pos) ρ t := h
theorem gt_bool {t : Bool} {op : BoolOp} {l : List Expr} {pos : Pos} (h : EvT X (.BoolOp op l pos) ρ t) : EvT X (.BoolOp op l pos) ρ t := h
theorem gt_not {t : Bool} {pos : Pos} (h : EvT X (.UnaryOp .Not a pos) ρ t) : EvT X (.UnaryOp .Not a pos) ρ t := h
end
end DL


/-! More built-ins: sorted(tuple), texts compared. -/
namespace PySem.W
open PySem PySem.SeqAt PyProof.Rows
section
variable {prog : Program} {w : World} {A : Around} {E : Value → Shared → Prop} {s : Shared} {κ : PyProof.Rows.KeyKind}
theorem dl_collect_tuple {l : Addr} {vs : List Value} {Q : List Value → Shared → Prop} (hl : s.heap.IsTuple l vs.toArray)
    (h : Q vs { s with heap := (s.heap.push (seqObj "list" #[] 0)).update s.heap.objs.size (Obj.mapSeq (· ++ vs.toArray)) }) (hsz : vs.length ≤ sizeLine) :
    wpAny (model prog w) A (collect (.ref l)) Q E s := by
  obtain ⟨o, ho, hc, n, hd⟩ := id hl
  unfold collect
  refine wpAny_bind (wpAny_runValue (codeAny_builtin entry_proto_collect' ?_))
  show wpAny _ _ (do again (.builtin "list.__iadd__" ⟨[← newList [], .ref l], []⟩)) _ _ s
  refine wpAny_bind (wpAny_newList (wpAny_pure ⟨Code.quiet_builtin _ (by decide +kernel), codeAny_builtin entry_list_iadd' ?_⟩))
  show wpAny _ _ (Builtin.List.listExtendWith (.ref s.heap.objs.size) (.ref l) (.ref s.heap.objs.size)) _ _ { s with heap := s.heap.push (seqObj "list" #[] 0) }
  unfold Builtin.List.listExtendWith
  have ho' : (s.heap.push (seqObj "list" #[] 0)).get? l = some o := Heap.get?_push_of_some _ ho
  refine wpAny_bind (wpAny_typeOf (T := "tuple") ⟨o, ho', hc⟩ ?_)
  have ht : (Value.type "tuple" == Value.type "tuple") = true := by rfl
  rw [if_pos (by rw [ht]; simp)]
  refine wpAny_bind (listItems_at ho' hd ?_)
  refine wpAny_bind (listItems_at (xs := #[]) (n := 0) (Heap.get?_push_size _ rfl) rfl ?_)
  rw [if_neg (by simp)]
  refine wpAny_bind (listUpdate_at (xs := #[]) (n := 0) (Heap.get?_push_size _ rfl) rfl ?_ (Nat.zero_le _) (by show (#[] ++ vs.toArray).size ≤ sizeLine + 1; simp only [Array.size_append, List.size_toArray, List.length_nil]; omega))
  refine wpAny_pure ?_
  show wpAny (model prog w) A (do
      let o ← load s.heap.objs.size
      match o.data with
      | .seq xs _ => pure xs.toList
      | _ => unsupported "internal:collect") Q E { s with heap := (s.heap.push (seqObj "list" #[] 0)).update s.heap.objs.size (Obj.mapSeq (· ++ vs.toArray)) }
  refine wpAny_bind (wpAny_load (get?_update_seq (Heap.get?_push_size _ rfl) _) ?_)
  show wpAny _ _ (pure ((#[] : Array Value) ++ vs.toArray).toList) Q E _
  rw [show ((#[] : Array Value) ++ vs.toArray).toList = vs by simp]
  exact wpAny_pure h
theorem dl_sorted_tuple {l : Addr} {vs : List Value} {Q : Value → Shared → Prop} (hl : s.heap.IsTuple l vs.toArray) (S : SortsAt prog w A.in1.in1 { s with heap := sortingHeap (copyHeap s.heap vs) (s.heap.objs.size + 1) vs } κ vs) (hL : vs.length ≤ sizeLine)
    (h : Q (.ref (s.heap.objs.size + 1)) { s with heap := sortedAll s.heap vs (sortVals κ false vs vs).toArray }) : wpAny (model prog w) A (call (.builtin "sorted") [.ref l]) Q E s := by
  refine call_function_entry_kw kind_sorted plain_sorted entry_sorted (args_sorted1 _) ?_
  unfold Builtin.«sorted»
  refine wpAny_bind (m := checkCount "sorted" 1 1 _) (wpAny_pure ?_)
  refine wpAny_bind (dl_collect_tuple hl ?_ hL)
  refine wpAny_bind (wpAny_newList ?_ hL)
  have hsz : ((s.heap.push (seqObj "list" #[] 0)).update s.heap.objs.size (Obj.mapSeq (· ++ vs.toArray))).objs.size = s.heap.objs.size + 1 := by
    rw [Heap.size_update, size_push']
  show wpAny _ _ _ _ _ { s with heap := copyHeap s.heap vs }
  rw [hsz]
  refine wpAny_bind (wpAny_holding (wpAny_call_entry_kw slot_list_sort ⟨_, copyHeap_at s.heap vs, rfl⟩ entry_list_sort ?body (args_list_sort _)))
  case body =>
    show wpAny (model prog w) A.in1.in1 (Builtin.«list.sort» ⟨[.ref (s.heap.objs.size + 1)], []⟩) _ _ _
    refine wpAny_mono (list_sort_vals (P := fun f s' => f = .done (.ret .none) ∧ Q (.ref (s.heap.objs.size + 1)) s') (s := { s with heap := copyHeap s.heap vs }) (copyHeap_at s.heap vs) S hL ⟨rfl, h⟩) (fun f s' hf => ?_) fun _ _ e => e
    obtain ⟨rfl, hq⟩ := hf
    exact ⟨_, rfl, wpAny_pure ⟨_, rfl, hq⟩⟩
end
end PySem.W

namespace DL
open PySem PySem.Spec PyProof.Rows L2
section
variable {X : Cx} {ρ : Rho} {e a b c : Expr} {d x y z : D} {ds es : List D} {k : Kd} {Φ : DL.Fin} {pos : Pos}
theorem call_sortedDT (hu : X.A.units + 12 < cLine) : CallR X (.builtin "sorted") (fun vs H Q => ∃ a xs ds, vs = [.ref a] ∧ SqT X.K H a xs ∧ RpAll X.K H xs ds ∧ SortOk ds ∧
    ∀ ys p, H p = none → RpAll X.K H ys (sortD ds) → Q (.ref p) (upd H p (.lst ys))) := by
  intro pins s σ H vs us Q I r h
  obtain ⟨a, xs, ds, rfl, hs, hr, ok, q⟩ := h
  obtain ⟨its, rv, hl, hz⟩ := I.tuple hs
  rw [Vals.ref1 r]
  have hlen := rv.length
  have e0 : PySem.W.EachIs (fun v d => ∃ as, Reads s.heap v d as) its ds := by
    have go : ∀ {xs : List V} {ds : List D} {us : List Value}, RpAll X.K H xs ds → Vals xs us → (∀ d ∈ ds, nod d = true) → PySem.W.EachIs (fun v d => ∃ as, Reads s.heap v d as) us ds := by
      intro xs
      induction xs with
      | nil => intro ds us r v _; cases r; cases v; exact .nil
      | cons x xs ih =>
        intro ds us r v n
        cases r with
        | cons r1 r2 =>
          cases v with
          | cons v1 v2 => exact .cons (Dp.reads I _ _ _ ((Rq.of r1).dp (n _ (by simp))) v1) (ih r2 v2 fun d hd => n d (by simp [hd]))
    exact go hr rv ok.nd
  have e1 : PySem.W.EachIs (fun v d => ∃ as, Reads (PySem.W.sortingHeap (PySem.W.copyHeap s.heap its) (s.heap.objs.size + 1) its) v d as) its ds :=
    e0.mono fun v d ⟨as, h⟩ => ⟨as, PyProof.Rows.Reads.keeps (fun b o e => PySem.W.sorting_copy_old e) h⟩
  have hu2 : X.A.in1.in1.units ≤ X.A.units + 2 := by simp [Around.in1, Around.units]; try omega
  refine PySem.W.dl_sorted_tuple hl (PySem.W.SortsAt.data e1 ok.al ok.so fun d hd => by have := ok.dp d hd; omega) (by omega) ?_
  have key : PySem.W.EachIs (fun (v : Value) (p : V × D) => (PySem.W.dataKind (PySem.W.sortingHeap (PySem.W.copyHeap s.heap its) (s.heap.objs.size + 1) its) ds).keyOf v = some (PySem.W.keyToks p.2)) its (xs.zip ds) := by
    have go : ∀ {xs : List V} {es : List D} {us : List Value}, RpAll X.K H xs es → Vals xs us → (∀ d ∈ es, d ∈ ds) → PySem.W.EachIs (fun v d => ∃ as, Reads (PySem.W.sortingHeap (PySem.W.copyHeap s.heap its) (s.heap.objs.size + 1) its) v d as) us es →
        PySem.W.EachIs (fun (v : Value) (p : V × D) => (PySem.W.dataKind (PySem.W.sortingHeap (PySem.W.copyHeap s.heap its) (s.heap.objs.size + 1) its) ds).keyOf v = some (PySem.W.keyToks p.2)) us (xs.zip es) := by
      intro xs
      induction xs with
      | nil => intro es us r v _ _; cases r; cases v; exact .nil
      | cons x xs ih =>
        intro es us r v n e
        cases r with
        | cons r1 r2 =>
          cases v with
          | cons v1 v2 =>
            cases e with
            | cons e1 e2 =>
              obtain ⟨as, e1⟩ := e1
              exact .cons (PySem.W.dataKind_some ok.al (n _ (by simp)) e1) (ih r2 v2 (fun d hd => n d (by simp [hd])) e2)
    exact go hr rv (fun _ h => h) e1
  have srt := PySem.W.sortVals_each (rev := false) (κ := PySem.W.dataKind (PySem.W.sortingHeap (PySem.W.copyHeap s.heap its) (s.heap.objs.size + 1) its) ds) (fun p : V × D => PySem.W.keyToks p.2) (EachIs.zipV hr rv) key
  generalize hps : (xs.zip ds).mergeSort (PySem.W.sortLe (PySem.W.dataKind (PySem.W.sortingHeap (PySem.W.copyHeap s.heap its) (s.heap.objs.size + 1) its) ds).toKeyOrd false fun p : V × D => PySem.W.keyToks p.2) = ps at srt
  have perm : ps.Perm (xs.zip ds) := by rw [← hps]; exact List.mergeSort_perm _ _
  have snd : ps.map (·.2) = sortD ds := by
    rw [← hps]
    have := PySem.W.sort_maps (r := PySem.W.sortLe (PySem.W.dataKind (PySem.W.sortingHeap (PySem.W.copyHeap s.heap its) (s.heap.objs.size + 1) its) ds).toKeyOrd false fun p : V × D => PySem.W.keyToks p.2) (s := fun a b => !PySem.W.dataLt b a) (fun p : V × D => p.2) (l := xs.zip ds) (fun a _ b _ => rfl)
    refine this.trans ?_
    unfold sortD
    congr 1
    rw [List.map_snd_zip]
    have := hr.len
    omega
  have rp : RpAll X.K H (ps.map (·.1)) (sortD ds) := by
    rw [← snd]
    exact RpAll.of_mem fun p hp => hr.mem_zip p (perm.mem_iff.mp hp)
  obtain ⟨ep, he'⟩ := PyProof.Rows.sortedAll_at s.heap its (PySem.W.sortVals (PySem.W.dataKind (PySem.W.sortingHeap (PySem.W.copyHeap s.heap its) (s.heap.objs.size + 1) its) ds) false its its).toArray
  have hl2 : (ps.map (·.1)).length ≤ sizeLine := by
    rw [List.length_map, perm.length_eq, List.length_zip]
    omega
  have vv := each_fst (K := X.K) (H := H) srt
  exact ⟨.ref _, upd H (s.heap.objs.size + 1) (.lst (ps.map (·.1))), I.laid (t' := s.toks) (fun _ _ => PyProof.Rows.sortedAll_old) (Nat.le_succ _) ⟨hl2, _, ep, vv, he'⟩, rfl, q _ _ (I.hok.fresh (Nat.le_succ _)) rp⟩
theorem c_sortedT {ds : List D} (hu : X.A.units + 12 < cLine) (ok : SortOk ds) : CallV X (.builtin "sorted") [.tuple ds] (.new (sortD ds)) := fun H vs Q r q => by
  obtain ⟨v, rfl, r0⟩ := paired1 r
  obtain ⟨a, xs, rfl, hs, hr⟩ := r0.tup
  exact ⟨_, call_sortedDT hu, a, xs, ds, rfl, hs, hr, ok, fun ys p hp hy => q _ _ ⟨same_new hp, p, _, rfl, hp, upd_same, hy.mono (stb_new hp)⟩⟩
/-! ### <, >, <=, >= of alike data -/
def cmpOk (x y : D) : Bool := PySem.W.alike x y && (!isNon x && (nod x && (nod y && decide (x.depth ≤ 40))))
theorem op_ltDD (hu : X.A.units + 65 < cLine) : OpR X (compareOp .Lt) (fun x y H Q => ∃ d e, Dp X.K H x d ∧ Dp X.K H y e ∧ PySem.W.alike d e = true ∧ d ≠ .none ∧ d.depth ≤ 40 ∧ Q (.bl (PySem.W.dataLt d e)) H) := by
  intro pins s σ H x y v u Q I rx ry h
  obtain ⟨d, e, hd, he, al, nn, dp, q⟩ := h
  obtain ⟨as, r1⟩ := Dp.reads I d x v hd rx
  obtain ⟨bs, r2⟩ := Dp.reads I e y u he ry
  exact PySem.W.lt_data r1 r2 al nn (by have := Nat.min_le_left d.depth e.depth; omega) ⟨.bl _, H, I, rfl, q⟩
theorem op_gtDD (hu : X.A.units + 65 < cLine) : OpR X (compareOp .Gt) (fun x y H Q => ∃ d e, Dp X.K H x d ∧ Dp X.K H y e ∧ PySem.W.alike d e = true ∧ d ≠ .none ∧ d.depth ≤ 40 ∧ Q (.bl (PySem.W.dataLt e d)) H) := by
  intro pins s σ H x y v u Q I rx ry h
  obtain ⟨d, e, hd, he, al, nn, dp, q⟩ := h
  obtain ⟨as, r1⟩ := Dp.reads I d x v hd rx
  obtain ⟨bs, r2⟩ := Dp.reads I e y u he ry
  exact PySem.W.gt_data r1 r2 al nn (by have := Nat.min_le_left d.depth e.depth; omega) ⟨.bl _, H, I, rfl, q⟩
theorem cmpOk_inv (h : cmpOk x y = true) : PySem.W.alike x y = true ∧ x ≠ .none ∧ nod x = true ∧ nod y = true ∧ x.depth ≤ 40 := by
  unfold cmpOk at h
  simp only [Bool.and_eq_true, decide_eq_true_eq, Bool.not_eq_true'] at h
  refine ⟨h.1, fun e => ?_, h.2.2.1, h.2.2.2.1, h.2.2.2.2⟩
  rw [e] at h
  cases h.2.1
theorem o_ltDD (hu : X.A.units + 65 < cLine) (h : cmpOk x y = true) : OpV X (compareOp .Lt) x y (.val (.bool (PySem.W.dataLt x y))) := fun H u v Q ru rv q => by
  obtain ⟨h1, h2, h3, h4, h5⟩ := cmpOk_inv h
  exact ⟨_, op_ltDD hu, x, y, ru.dp h3, rv.dp h4, h1, h2, h5, q _ H ⟨.refl H, .bl _⟩⟩
theorem o_gtDD (hu : X.A.units + 65 < cLine) (h : cmpOk x y = true) : OpV X (compareOp .Gt) x y (.val (.bool (PySem.W.dataLt y x))) := fun H u v Q ru rv q => by
  obtain ⟨h1, h2, h3, h4, h5⟩ := cmpOk_inv h
  exact ⟨_, op_gtDD hu, x, y, ru.dp h3, rv.dp h4, h1, h2, h5, q _ H ⟨.refl H, .bl _⟩⟩
theorem o_gts {i j : Str} : OpV X (compareOp .Gt) (.str i) (.str j) (.val (.bool (decide (j.cps.toList < i.cps.toList)))) := fun H u v Q ru rv q => ⟨_, op_gt_str, i, j, ru.str, rv.str, q _ H ⟨.refl H, .bl _⟩⟩
/-! ### max(ints), index -/
theorem rp_ints {K : PySem.W.Frag} {H : Hp} : ∀ {bs : List Int} {xs : List V}, RpAll K H xs (bs.map .int) → xs = bs.map V.int
  | [], _, r => by cases r; rfl
  | b :: bs, _, r => by
    cases r with
    | cons h t => rw [(Rq.of h).int, rp_ints t]; rfl
def maxL : Int → List Int → Int
  | m, [] => m
  | m, a :: l => maxL (if a > m then a else m) l
theorem maxL_ge : ∀ (l : List Int) (m : Int), m ≤ maxL m l ∧ ∀ y ∈ l, y ≤ maxL m l
  | [], m => ⟨Int.le_refl _, fun _ h => nomatch h⟩
  | a :: l, m => by
    obtain ⟨h1, h2⟩ := maxL_ge l (if a > m then a else m)
    unfold maxL
    have h3 : m ≤ (if a > m then a else m) ∧ a ≤ (if a > m then a else m) := by split <;> omega
    generalize (if a > m then a else m) = z at h1 h2 h3
    refine ⟨by omega, fun y hy => ?_⟩
    rcases List.mem_cons.mp hy with rfl | hy
    · omega
    · exact h2 y hy
theorem maxL_mem : ∀ (l : List Int) (m : Int), maxL m l ∈ m :: l
  | [], m => by simp [maxL]
  | a :: l, m => by
    have := maxL_mem l (if a > m then a else m)
    unfold maxL
    rcases List.mem_cons.mp this with e | h
    · rw [e]; split <;> simp
    · simp only [List.mem_cons]; exact .inr (.inr h)
theorem c_maxL {m : Int} {l : List Int} (hc : X.calm = true := by rfl) : CallV X (.builtin "max") [.list ((m :: l).map .int)] (.val (.int (maxL m l))) := fun H vs Q r q => by
  obtain ⟨v, rfl, r0⟩ := paired1 r
  obtain ⟨a, xs, rfl, hs, hr⟩ := r0.lst
  rw [rp_ints hr] at hs
  refine ⟨_, cr_max hc, a, m :: l, rfl, hs, by simp, fun k hk hy => ?_⟩
  obtain ⟨g1, g2⟩ := maxL_ge l m
  have h1 := hy _ (maxL_mem l m)
  have h2 : k ≤ maxL m l := by
    rcases List.mem_cons.mp hk with rfl | hk
    · exact g1
    · exact g2 k hk
  rw [show k = maxL m l by omega]
  exact q _ H ⟨.refl H, .int _⟩
end
end DL


/-! Plain reckoning with data: what the program's text comes to, as Lean functions that may be stuck (none). -/
namespace DL
open PySem PySem.Spec PyProof.Rows L2
def bnd {α β : Type} : Option α → (α → Option β) → Option β
  | none, _ => none
  | some a, g => g a
@[simp] theorem bnd_some {α β : Type} (a : α) (g : α → Option β) : bnd (some a) g = g a := rfl
@[simp] theorem bnd_none {α β : Type} (g : α → Option β) : bnd none g = none := rfl
theorem bnd_inv {α β : Type} {f : Option α} {g : α → Option β} {r : β} (h : bnd f g = some r) : ∃ a, f = some a ∧ g a = some r := by
  cases f with
  | none => cases h
  | some a => exact ⟨a, rfl, h⟩
section
variable {α β : Type}
def op1 (h : D → Option α) (f : Option D) : Option α := bnd f h
def op2 (h : D → D → Option α) (f g : Option D) : Option α := bnd f fun x => bnd g fun y => h x y
def op3 (h : D → D → D → Option α) (f g k : Option D) : Option α := bnd f fun x => bnd g fun y => bnd k fun z => h x y z
def op4 (h : D → D → D → D → Option α) (f g k l : Option D) : Option α := bnd f fun x => bnd g fun y => bnd k fun z => bnd l fun u => h x y z u
@[simp] theorem op1_some (h : D → Option α) (x : D) : op1 h (some x) = h x := rfl
@[simp] theorem op2_some (h : D → D → Option α) (x y : D) : op2 h (some x) (some y) = h x y := rfl
@[simp] theorem op3_some (h : D → D → D → Option α) (x y z : D) : op3 h (some x) (some y) (some z) = h x y z := rfl
@[simp] theorem op4_some (h : D → D → D → D → Option α) (x y z u : D) : op4 h (some x) (some y) (some z) (some u) = h x y z u := rfl
end
def boV (f : Option Bool) : Option D := bnd f fun b => some (.bool b)
def tB (f : Option D) : Option Bool := bnd f fun d => match d with
  | .bool b => some b
  | _ => none
def lsV (f : Option (List D)) : Option D := bnd f fun ds => some (.list ds)
def dcV (f : Option (List (D × D))) : Option D := bnd f fun ds => some (.dict ds)
@[simp] theorem boV_some (b : Bool) : boV (some b) = some (.bool b) := rfl
@[simp] theorem tB_some (b : Bool) : tB (some (.bool b)) = some b := rfl
@[simp] theorem lsV_some (b : List D) : lsV (some b) = some (.list b) := rfl
@[simp] theorem dcV_some (b : List (D × D)) : dcV (some b) = some (.dict b) := rfl
def toI : D → Option Int
  | .int i => some i
  | _ => none
/-! ### operators -/
def addD : D → D → Option D
  | .int i, .int j => some (.int (i + j))
  | .str i, .str j => if i.length + j.length ≤ sizeLine then some (.str (i ++ j)) else none
  | .tuple a, .tuple b => if a.length + b.length ≤ sizeLine then some (.tuple (a ++ b)) else none
  | .list a, .list b => if a.length + b.length ≤ sizeLine then some (.list (a ++ b)) else none
  | _, _ => none
def addN : D → D → Option (List D)
  | .list a, .list b => if a.length + b.length ≤ sizeLine then some (a ++ b) else none
  | _, _ => none
def subD : D → D → Option D
  | .int i, .int j => some (.int (i - j))
  | _, _ => none
def mulD : D → D → Option D
  | .int i, .int j => if (-(2 ^ 64) < i ∧ i < 2 ^ 64) ∨ (-(2 ^ 64) < j ∧ j < 2 ^ 64) then some (.int (i * j)) else none
  | .tuple (a :: l), .int k => if k = 0 then some (.tuple []) else if k = 1 then some (.tuple (a :: l)) else none
  | _, _ => none
def divD : D → D → Option D
  | .int i, .int j => if 0 < j ∧ j < 1073741824 then some (.int (i / j)) else none
  | _, _ => none
def modD : D → D → Option D
  | .int i, .int j => if 0 < j then some (.int (i % j)) else none
  | _, _ => none
def negD : D → Option D
  | .int i => some (.int (-i))
  | _ => none
/-! ### comparisons -/
def ltB : D → D → Option Bool
  | .int i, .int j => some (decide (i < j))
  | .str i, .str j => some (decide (i.cps.toList < j.cps.toList))
  | x, y => if cmpOk x y = true then some (PySem.W.dataLt x y) else none
def leB : D → D → Option Bool
  | .int i, .int j => some (decide (i ≤ j))
  | .str i, .str j => some (!decide (j.cps.toList < i.cps.toList))
  | _, _ => none
def gtB : D → D → Option Bool
  | .int i, .int j => some (decide (j < i))
  | .str i, .str j => some (decide (j.cps.toList < i.cps.toList))
  | x, y => if cmpOk x y = true then some (PySem.W.dataLt y x) else none
def geB : D → D → Option Bool
  | .int i, .int j => some (decide (j ≤ i))
  | _, _ => none
def plB (d : D) : Bool := d.canLay0 && decide (d.depth ≤ 64)
def plBs (ds : List D) : Bool := PyData.canLayAll0 ds && decide (PyData.depthAll ds ≤ 63)
def eqB (x y : D) : Option Bool := if (scD x y || (plB x && plB y)) = true then some (PyData.eqv x y) else none
def neB (x y : D) : Option Bool := if (scD x y || (plB x && plB y)) = true then some (!PyData.eqv x y) else none
def inB (x : D) : D → Option Bool
  | .list ds => if ((flD x && ds.all flD) || (plB x && plBs ds)) = true then some (ds.any fun z => PyData.eqv z x) else none
  | .tuple ds => if ((flD x && ds.all flD) || (plB x && plBs ds)) = true then some (ds.any fun z => PyData.eqv z x) else none
  | _ => none
def notT (f : Option Bool) : Option Bool := bnd f fun b => some (!b)
def ninB (x y : D) : Option Bool := notT (inB x y)
def isNB (x : D) : Option Bool := some (isNon x)
def isNNB (x : D) : Option Bool := some (!isNon x)
def andT (f g : Option Bool) : Option Bool := bnd f fun b => match b with
  | true => g
  | false => some false
def orT (f g : Option Bool) : Option Bool := bnd f fun b => match b with
  | true => some true
  | false => g
def chT (p q : D → D → Option Bool) (f g h : Option D) : Option Bool := bnd f fun x => bnd g fun y => bnd (p x y) fun t => match t with
  | true => bnd h fun z => q y z
  | false => some false
@[simp] theorem notT_some (b : Bool) : notT (some b) = some (!b) := rfl
@[simp] theorem andT_some (a b : Bool) : andT (some a) (some b) = some (a && b) := by cases a <;> rfl
@[simp] theorem orT_some (a b : Bool) : orT (some a) (some b) = some (a || b) := by cases a <;> rfl
@[simp] theorem andT_false (f : Option Bool) : andT (some false) f = some false := rfl
@[simp] theorem orT_true (f : Option Bool) : orT (some true) f = some true := rfl
@[simp] theorem andT_true (f : Option Bool) : andT (some true) f = f := rfl
@[simp] theorem orT_false (f : Option Bool) : orT (some false) f = f := rfl
@[simp] theorem chT_some (p q : D → D → Option Bool) (x y z : D) {t u : Bool} (h : p x y = some t) (k : q y z = some u) : chT p q (some x) (some y) (some z) = some (t && u) := by
  unfold chT; simp only [bnd_some, h, k]; cases t <;> rfl
/-! ### places, cuts, built-ins -/
def ixD : D → D → Option D
  | .tuple ds, .int i => atI ds i
  | .list ds, .int i => atI ds i
  | .dict es, k => bnd (kd k) (lookD es)
  | .str s, .int i => if s.length ≤ sizeLine then bnd (atI s.cps.toList i) fun c => some (.str ⟨#[c]⟩) else none
  | _, _ => none
def getD3 : D → D → D → Option D
  | .dict es, k, x => bnd (kd k) fun kk => some ((lookD es kk).getD x)
  | _, _, _ => none
def cutF : D → Option Int → Option Int → Option D
  | .tuple ds, lo, hi => some (.tuple (cutD ds lo hi))
  | .list ds, lo, hi => some (.list (cutD ds lo hi))
  | _, _, _ => none
def cutN : D → Option Int → Option Int → Option (List D)
  | .list ds, lo, hi => some (cutD ds lo hi)
  | _, _, _ => none
def op3s {α : Type} (h : D → Option Int → Option Int → Option α) (f : Option D) (lo hi : Option (Option Int)) : Option α := bnd f fun x => bnd lo fun l => bnd hi fun u => h x l u
@[simp] theorem op3s_some {α : Type} (h : D → Option Int → Option Int → Option α) (x : D) (l u : Option Int) : op3s h (some x) (some l) (some u) = h x l u := rfl
def slP (f : Option D) : Option (Option Int) := bnd (op1 toI f) fun i => some (some i)
@[simp] theorem slP_int (i : Int) : slP (some (.int i)) = some (some i) := rfl
def revD : D → Option D
  | .tuple ds => some (.tuple ds.reverse)
  | .list ds => some (.list ds.reverse)
  | _ => none
def lenD : D → Option D
  | .list ds => some (.int (ds.length : Nat))
  | .tuple ds => some (.int (ds.length : Nat))
  | .str s => if s.length ≤ sizeLine then some (.int (s.length : Nat)) else none
  | _ => none
def listN : D → Option (List D)
  | .list ds => some ds
  | .tuple ds => some ds
  | .dict es => some (es.map (·.1))
  | _ => none
def tupD : D → Option D
  | .list ds => some (.tuple ds)
  | _ => none
def pairK : D → Option (Key × D)
  | .tuple [k, v] => bnd (kd k) fun kk => some (kk, v)
  | _ => none
def pairsK : List D → Option (List (Key × D))
  | [] => some []
  | d :: ds => bnd (pairK d) fun q => bnd (pairsK ds) fun r => some (q :: r)
def dictN : D → Option (List (D × D))
  | .tuple ds => bnd (pairsK ds) fun md => some (mergeD [] md)
  | .list ds => bnd (pairsK ds) fun md => some (mergeD [] md)
  | _ => none
mutual
def shOf : D → Option Sh
  | .int _ => some .int
  | .str _ => some .str
  | .bool _ => some .bool
  | .tuple ds => bnd (shOfAll ds) fun l => some (.tup l)
  | _ => none
def shOfAll : List D → Option (List Sh)
  | [] => some []
  | d :: ds => bnd (shOf d) fun s => bnd (shOfAll ds) fun l => some (s :: l)
end
def isTup1 : D → Bool
  | .tuple (_ :: _) => true
  | _ => false
def soG (ds : List D) : Bool := (ds.all fun d => ds.all fun e => PySem.W.alike d e) && (ds.all isTup1 && ds.all fun d => nod d && decide (d.depth ≤ 8))
def soS : List D → Bool
  | [] => true
  | d :: ds => match shOf d with
    | some s => (d :: ds).all (shOk s) && (shTop s && decide (shDep s ≤ 8))
    | none => false
def soB (ds : List D) : Bool := soS ds || soG ds
def allStr : List D → Option (List Str)
  | [] => some []
  | .str s :: ds => bnd (allStr ds) fun l => some (s :: l)
  | _ :: _ => none
def sortN : D → Option (List D)
  | .list ds => if soB ds = true then some (sortD ds) else none
  | .tuple ds => if soB ds = true then some (sortD ds) else none
  | .dict es => bnd (allStr (es.map (·.1))) fun ks => if ks.length < 64 then some ((sortS ks).map .str) else none
  | _ => none
def intD : D → Option D
  | .int i => some (.int i)
  | .bool b => some (.int (if b then 1 else 0))
  | _ => none
def allI : List D → Option (List Int)
  | [] => some []
  | .int s :: ds => bnd (allI ds) fun l => some (s :: l)
  | _ :: _ => none
def maxD1 : D → Option D
  | .list ds => bnd (allI ds) fun l => match l with
    | m :: r => some (.int (maxL m r))
    | [] => none
  | _ => none
def minD : D → D → Option D
  | .int i, .int j => some (.int (if j < i then j else i))
  | _, _ => none
def maxD : D → D → Option D
  | .int i, .int j => some (.int (if j > i then j else i))
  | _, _ => none
def allB : List D → Option (List Bool)
  | [] => some []
  | .bool s :: ds => bnd (allB ds) fun l => some (s :: l)
  | _ :: _ => none
def allD : D → Option D
  | .list ds => bnd (allB ds) fun l => some (.bool (l.all id))
  | _ => none
/-! ### walks -/
def itD : D → Option (List D)
  | .list ds => some ds
  | .tuple ds => some ds
  | .dict es => some (es.map (·.1))
  | .str s => if s.length ≤ sizeLine then some (s.cps.toList.map fun c => .str ⟨#[c]⟩) else none
  | _ => none
def rangeI : D → Option (List D)
  | .int n => if n ≤ 100000 ∧ -100000 ≤ n then some ((List.range n.toNat).map fun i => .int ((i : Nat) : Int)) else none
  | _ => none
def rangeI2 : D → D → Option (List D)
  | .int m, .int n => if -100000 ≤ m ∧ m ≤ 100000 ∧ -100000 ≤ n ∧ n ≤ 100000 then some ((List.range (n - m).toNat).map fun i => .int (m + ((i : Nat) : Int))) else none
  | _, _ => none
def enumI : D → Option (List D)
  | .tuple ds => some (enumD 0 ds)
  | _ => none
def zipI : D → D → Option (List D)
  | .tuple xs, .tuple ys => if xs.length = ys.length then some ((xs.zip ys).map fun q => .tuple [q.1, q.2]) else none
  | _, _ => none
/-! ### targets -/
def dec1 (d : D) : Option D := some d
def dec2 : D → Option (D × D)
  | .tuple [a, b] => some (a, b)
  | _ => none
def dec3 : D → Option (D × D × D)
  | .tuple [a, b, c] => some (a, b, c)
  | _ => none
def dec4 : D → Option (D × D × D × D)
  | .tuple [a, b, c, d] => some (a, b, c, d)
  | _ => none
def dec5 : D → Option (D × D × D × D × D)
  | .tuple [a, b, c, d, e] => some (a, b, c, d, e)
  | _ => none
@[simp] theorem dec1_eq (d : D) : dec1 d = some d := rfl
@[simp] theorem dec2_eq (a b : D) : dec2 (.tuple [a, b]) = some (a, b) := rfl
@[simp] theorem dec3_eq (a b c : D) : dec3 (.tuple [a, b, c]) = some (a, b, c) := rfl
@[simp] theorem dec4_eq (a b c d : D) : dec4 (.tuple [a, b, c, d]) = some (a, b, c, d) := rfl
@[simp] theorem dec5_eq (a b c d e : D) : dec5 (.tuple [a, b, c, d, e]) = some (a, b, c, d, e) := rfl
theorem dec1_inv {x v : D} (h : dec1 x = some v) : x = v := Option.some.inj h
theorem dec2_inv {x : D} {v : D × D} (h : dec2 x = some v) : x = .tuple [v.1, v.2] := by
  unfold dec2 at h; split at h
  · cases h; rfl
  · cases h
theorem dec3_inv {x : D} {v : D × D × D} (h : dec3 x = some v) : x = .tuple [v.1, v.2.1, v.2.2] := by
  unfold dec3 at h; split at h
  · cases h; rfl
  · cases h
theorem dec4_inv {x : D} {v : D × D × D × D} (h : dec4 x = some v) : x = .tuple [v.1, v.2.1, v.2.2.1, v.2.2.2] := by
  unfold dec4 at h; split at h
  · cases h; rfl
  · cases h
theorem dec5_inv {x : D} {v : D × D × D × D × D} (h : dec5 x = some v) : x = .tuple [v.1, v.2.1, v.2.2.1, v.2.2.2.1, v.2.2.2.2] := by
  unfold dec5 at h; split at h
  · cases h; rfl
  · cases h
/-! ### comprehensions -/
def keepE (t : Option Bool) (e : Option D) : Option (Option D) := bnd t fun b => match b with
  | true => bnd e fun d => some (some d)
  | false => some none
@[simp] theorem keepE_true (d : D) : keepE (some true) (some d) = some (some d) := rfl
@[simp] theorem keepE_false (e : Option D) : keepE (some false) e = some none := rfl
def lcL (F : D → Option (Option D)) : List D → Option (List D)
  | [] => some []
  | x :: xs => bnd (F x) fun o => bnd (lcL F xs) fun r => some (match o with
    | some d => d :: r
    | none => r)
def lcD (it : Option (List D)) (F : D → Option (Option D)) : Option (List D) := bnd it (lcL F)
@[simp] theorem lcD_some (xs : List D) (F : D → Option (Option D)) : lcD (some xs) F = lcL F xs := rfl
theorem lcL_map {α : Type} {en : α → D} {F : D → Option (Option D)} (keep : α → Bool) (f : α → D) : ∀ {l : List α}, (∀ a ∈ l, F (en a) = some (if keep a = true then some (f a) else none)) → lcL F (l.map en) = some ((l.filter keep).map f)
  | [], _ => rfl
  | a :: l, h => by
    rw [List.map_cons, lcL, h a List.mem_cons_self, bnd_some, lcL_map keep f fun b hb => h b (List.mem_cons_of_mem _ hb), bnd_some, List.filter_cons]
    cases keep a <;> rfl
theorem lcL_all {α : Type} {en : α → D} {F : D → Option (Option D)} (f : α → D) {l : List α} (h : ∀ a ∈ l, F (en a) = some (some (f a))) : lcL F (l.map en) = some (l.map f) := by
  rw [lcL_map (fun _ => true) f fun a ha => by rw [h a ha]; rfl]
  congr 2
  simp
/-! ### loops -/
inductive Lp (S R : Type) where
  | go (s : S) | brk (s : S) | out (r : R)
inductive Nx (S R : Type) where
  | nx (s : S) | rt (r : R)
section
variable {S R : Type}
def forD (step : S → D → Option (Lp S R)) : List D → S → Option (Nx S R)
  | [], s => some (.nx s)
  | x :: xs, s => bnd (step s x) fun o => match o with
    | .go s' => forD step xs s'
    | .brk s' => some (.nx s')
    | .out r => some (.rt r)
def whileD (c : S → Option Bool) (step : S → Option (Lp S R)) : Nat → S → Option (Nx S R)
  | 0, _ => none
  | n + 1, s => bnd (c s) fun b => match b with
    | false => some (.nx s)
    | true => bnd (step s) fun o => match o with
      | .go s' => whileD c step n s'
      | .brk s' => some (.nx s')
      | .out r => some (.rt r)
def jn (G : S → Option R) : Nx S R → Option R
  | .nx s => G s
  | .rt r => some r
@[simp] theorem jn_nx (G : S → Option R) (s : S) : jn G (.nx s) = G s := rfl
@[simp] theorem jn_rt (G : S → Option R) (r : R) : jn G (.rt r) = some r := rfl
def iteT {α : Type} (c : Option Bool) (a b : Option α) : Option α := bnd c fun t => match t with
  | true => a
  | false => b
@[simp] theorem iteT_true {α : Type} (a b : Option α) : iteT (some true) a b = a := rfl
@[simp] theorem iteT_false {α : Type} (a b : Option α) : iteT (some false) a b = b := rfl
theorem iteT_some {α : Type} (t : Bool) (a b : Option α) : iteT (some t) a b = if t = true then a else b := by cases t <;> rfl
theorem ifF {α : Type} {c : Option Bool} {a b r : Option α} (h : c = some false) (k : b = r) : iteT c a b = r := by rw [h]; exact k
theorem ifT {α : Type} {c : Option Bool} {a b r : Option α} (h : c = some true) (k : a = r) : iteT c a b = r := by rw [h]; exact k
def lim {α : Type} (n : Nat) (k : Option α) : Option α := if n ≤ sizeLine then k else none
theorem lim_ok {α : Type} {n : Nat} {k : Option α} (h : n ≤ 1000000) : lim n k = k := if_pos (by rw [sizeLine_eq]; omega)
def apL (ds : List D) (d : D) : Option (List D) := lim (ds.length + 1) (some (ds ++ [d]))
def exL (ds es : List D) : Option (List D) := lim (ds.length + es.length) (some (ds ++ es))
theorem apL_ok {ds : List D} {d : D} (h : ds.length ≤ 100000) : apL ds d = some (ds ++ [d]) := lim_ok (by omega)
theorem exL_ok {ds es : List D} (h : ds.length + es.length ≤ 1000000) : exL ds es = some (ds ++ es) := lim_ok h
def popL : List D → Option (List D × D)
  | [] => none
  | x :: xs => some ((x :: xs).dropLast, (x :: xs).getLast (by simp))
@[simp] theorem popL_snoc (xs : List D) (x : D) : popL (xs ++ [x]) = some (xs, x) := by
  cases h : xs ++ [x] with
  | nil => simp at h
  | cons a l =>
    show some ((a :: l).dropLast, (a :: l).getLast _) = _
    simp only [← h]
    simp
theorem popL_inv {ds : List D} {q : List D × D} (h : popL ds = some q) : ds = q.1 ++ [q.2] := by
  cases ds with
  | nil => cases h
  | cons a l => cases h; exact (List.dropLast_concat_getLast _).symm
def putN (es : List (D × D)) (k v : D) : Option (List (D × D)) := bnd (kd k) fun kk => if es.length < sizeLine then some (putD es kk v) else none
/-- a for over typed items, no way out -/
theorem forD_go {α β : Type} {step : S → D → Option (Lp S R)} (en : α → D) (st : β → S) (f : β → α → β) : ∀ (l : List α) (b : β), (∀ (pre : List α) (a : α) (post : List α), l = pre ++ a :: post → step (st (pre.foldl f b)) (en a) = some (.go (st (f (pre.foldl f b) a)))) → forD step (l.map en) (st b) = some (.nx (st (l.foldl f b)))
  | [], b, _ => rfl
  | a :: l, b, h => by
    rw [List.map_cons, forD, show step (st b) (en a) = _ from h [] a l rfl, bnd_some]
    exact forD_go en st f l (f b a) fun pre x post e => h (a :: pre) x post (by rw [e]; rfl)
/-- .. by what holds of the state -/
theorem forD_inv {α β : Type} {step : S → D → Option (Lp S R)} (en : α → D) (st : β → S) (f : β → α → β) (I : List α → β → Prop) (hs : ∀ a rest b, I (a :: rest) b → step (st b) (en a) = some (.go (st (f b a))) ∧ I rest (f b a)) : ∀ (l : List α) (b : β), I l b → forD step (l.map en) (st b) = some (.nx (st (l.foldl f b)))
  | [], b, _ => rfl
  | a :: l, b, h => by
    obtain ⟨h1, h2⟩ := hs a l b h
    rw [List.map_cons, forD, h1, bnd_some]
    exact forD_inv en st f I hs l (f b a) h2
theorem forD_iv {α β : Type} {step : S → D → Option (Lp S R)} {xs : List D} {s0 : S} (en : α → D) (st : β → S) (f : β → α → β) (I : List α → β → Prop) (l : List α) (b0 : β) (hI : I l b0) (hs : ∀ a rest b, I (a :: rest) b → step (st b) (en a) = some (.go (st (f b a))) ∧ I rest (f b a)) (hl : xs = l.map en := by rfl) (h0 : s0 = st b0 := by rfl) : forD step xs s0 = some (.nx (st (l.foldl f b0))) := by
  subst hl h0
  exact forD_inv en st f I hs l b0 hI
theorem forD_iv1 {α β : Type} {step : S → D → Option (Lp S R)} {xs : List D} {s0 : S} (en : α → D) (st : β → S) (f : β → α → β) (l : List α) (b0 : β) (hs : ∀ a b, a ∈ l → step (st b) (en a) = some (.go (st (f b a)))) (hl : xs = l.map en := by rfl) (h0 : s0 = st b0 := by rfl) : forD step xs s0 = some (.nx (st (l.foldl f b0))) := by
  refine forD_iv en st f (fun r _ => ∀ a ∈ r, a ∈ l) l b0 (fun _ h => h) (fun a rest b h => ⟨hs a b (h a List.mem_cons_self), fun x hx => h x (List.mem_cons_of_mem _ hx)⟩) hl h0
theorem forD_no {α : Type} {step : S → D → Option (Lp S R)} {xs : List D} {s : S} (en : α → D) (l : List α) (h : ∀ a ∈ l, step s (en a) = some (.go s)) (hl : xs = l.map en := by rfl) : forD step xs s = some (.nx s) := by
  subst hl
  induction l with
  | nil => rfl
  | cons a l ih =>
    rw [List.map_cons, forD, h a List.mem_cons_self, bnd_some]
    exact ih fun b hb => h b (List.mem_cons_of_mem _ hb)
theorem lcD_iv {α : Type} {F : D → Option (Option D)} {xs : List D} (en : α → D) (keep : α → Bool) (f : α → D) (l : List α) (h : ∀ a ∈ l, F (en a) = some (if keep a = true then some (f a) else none)) (hl : xs = l.map en := by rfl) : lcL F xs = some ((l.filter keep).map f) := by
  subst hl
  exact lcL_map keep f h
theorem lcD_all {α : Type} {F : D → Option (Option D)} {xs : List D} (en : α → D) (f : α → D) (l : List α) (h : ∀ a ∈ l, F (en a) = some (some (f a))) (hl : xs = l.map en := by rfl) : lcL F xs = some (l.map f) := by
  subst hl
  exact lcL_all f h
theorem bnd_to {α β : Type} {f : Option α} {g : α → Option β} {r : Option β} (a : α) (h : f = some a) (k : g a = r) : bnd f g = r := by rw [h]; exact k
theorem lcV_iv {α : Type} {F : D → Option (Option D)} {it : Option (List D)} (en : α → D) (keep : α → Bool) (f : α → D) (l : List α) (hl : it = some (l.map en)) (h : ∀ a ∈ l, F (en a) = some (if keep a = true then some (f a) else none)) : lsV (lcD it F) = some (.list ((l.filter keep).map f)) := by
  rw [hl, lcD, bnd_some, lcL_map keep f h]; rfl
theorem lcV_all {α : Type} {F : D → Option (Option D)} {it : Option (List D)} (en : α → D) (f : α → D) (l : List α) (hl : it = some (l.map en)) (h : ∀ a ∈ l, F (en a) = some (some (f a))) : lsV (lcD it F) = some (.list (l.map f)) := by
  rw [hl, lcD, bnd_some, lcL_all f h]; rfl
theorem for_to {α β : Type} {step : S → D → Option (Lp S R)} {xs : List D} {s0 : S} {G : S → Option R} {r : Option R} (en : α → D) (st : β → S) (f : β → α → β) (I : List α → β → Prop) (l : List α) (b0 : β) (hI : I l b0) (hs : ∀ a rest b, I (a :: rest) b → step (st b) (en a) = some (.go (st (f b a))) ∧ I rest (f b a)) (k : ∀ b, I [] b → b = l.foldl f b0 → G (st b) = r) (hl : xs = l.map en := by rfl) (h0 : s0 = st b0 := by rfl) : bnd (forD step xs s0) (jn G) = r := by
  rw [forD_iv en st f I l b0 hI hs hl h0]
  refine k _ ?_ rfl
  clear hl h0 k
  induction l generalizing b0 with
  | nil => exact hI
  | cons a l ih => exact ih (f b0 a) (hs a l b0 hI).2
theorem while_to {β : Type} {C : S → Option Bool} {B : S → Option (Lp S R)} {n : Nat} {s0 : S} {G : S → Option R} {r : Option R} (st : β → S) (go : β → Bool) (f : β → β) (μ : β → Nat) (I : β → Prop) (b0 : β) (hI : I b0) (hn : μ b0 < n) (hc : ∀ b, I b → C (st b) = some (go b)) (hb : ∀ b, I b → go b = true → B (st b) = some (.go (st (f b))) ∧ I (f b) ∧ μ (f b) < μ b) (k : ∀ b, I b → go b = false → G (st b) = r) (h0 : s0 = st b0 := by rfl) : bnd (whileD C B n s0) (jn G) = r := by
  subst h0
  induction n generalizing b0 with
  | zero => omega
  | succ n ih =>
    rw [whileD, hc b0 hI, bnd_some]
    cases hg : go b0 with
    | false => exact k b0 hI hg
    | true =>
      obtain ⟨h1, h2, h3⟩ := hb b0 hI hg
      simp only [h1, bnd_some]
      exact ih (f b0) h2 (by omega)
theorem while_to2 {β : Type} {C : S → Option Bool} {B : S → Option (Lp S R)} {n : Nat} {s0 : S} {G : S → Option R} {r : Option R} (st : β → S) (go : β → Bool) (μ : β → Nat) (I J : β → Prop) (b0 : β) (hI : I b0) (hn : μ b0 < n) (hc : ∀ b, I b → C (st b) = some (go b)) (hb : ∀ b, I b → go b = true → (∃ b', B (st b) = some (.go (st b')) ∧ I b' ∧ μ b' < μ b) ∨ (∃ b', B (st b) = some (.brk (st b')) ∧ J b')) (hj : ∀ b, I b → go b = false → J b) (k : ∀ b, J b → G (st b) = r) (h0 : s0 = st b0 := by rfl) : bnd (whileD C B n s0) (jn G) = r := by
  subst h0
  induction n generalizing b0 with
  | zero => omega
  | succ n ih =>
    rw [whileD, hc b0 hI, bnd_some]
    cases hg : go b0 with
    | false => exact k b0 (hj b0 hI hg)
    | true =>
      rcases hb b0 hI hg with ⟨b', h1, h2, h3⟩ | ⟨b', h1, h2⟩
      · simp only [h1, bnd_some]
        exact ih b' h2 (by omega)
      · simp only [h1, bnd_some]
        exact k b' h2
theorem for_toU {α : Type} {step : Unit → D → Option (Lp Unit R)} {xs : List D} {G : Unit → Option R} {r : Option R} (en : α → D) (l : List α) (hs : ∀ a ∈ l, step () (en a) = some (.go ())) (k : G () = r) (hl : xs = l.map en := by rfl) : bnd (forD step xs ()) (jn G) = r := by
  rw [forD_no en l hs hl]; exact k
/-- nothing happens -/
theorem forD_id {α : Type} {step : S → D → Option (Lp S R)} {en : α → D} {s : S} : ∀ {l : List α}, (∀ a ∈ l, step s (en a) = some (.go s)) → forD step (l.map en) s = some (.nx s)
  | [], _ => rfl
  | a :: l, h => by
    rw [List.map_cons, forD, h a List.mem_cons_self, bnd_some]
    exact forD_id fun b hb => h b (List.mem_cons_of_mem _ hb)
end
end DL


/-! The rules: an expression, a statement comes to what the plain reckoning says. -/
namespace DL
open PySem PySem.Spec PyProof.Rows L2
section
variable {X : Cx} {ρ : Rho} {e a b c : Expr} {k : Kd}
def Eo (X : Cx) (e : Expr) (ρ : Rho) (f : Option D) : Prop := ∀ d, f = some d → Ev X e ρ (.val d)
def Eu (X : Cx) (e : Expr) (ρ : Rho) (f : Option D) : Prop := ∀ d, f = some d → Ev X e ρ (.qua d)
def En (X : Cx) (e : Expr) (ρ : Rho) (f : Option (List D)) : Prop := ∀ d, f = some d → Ev X e ρ (.new d)
def Ed (X : Cx) (e : Expr) (ρ : Rho) (f : Option (List (D × D))) : Prop := ∀ d, f = some d → Ev X e ρ (.newD d)
def Et (X : Cx) (e : Expr) (ρ : Rho) (f : Option Bool) : Prop := ∀ d, f = some d → EvT X e ρ d
def Ew (X : Cx) (e : Expr) (ρ : Rho) (f : Option Bool) : Prop := ∀ d, f = some d → EvW X e ρ d
def Ao (X : Cx) (es : List Expr) (ρ : Rho) (f : Option (List D)) : Prop := ∀ d, f = some d → EvA X es ρ d
def Ao' (X : Cx) (es : List Expr) (ρ : Rho) (ds : List D) : Prop := EvA X es ρ ds
def Io (X : Cx) (tg it : Expr) (ρ : Rho) (yl : Bool) (f : Option (List D)) : Prop := ∀ d, f = some d → EvI X tg it ρ yl d
def Iq (X : Cx) (tg it : Expr) (ρ : Rho) (yl : Bool) (f : Option (List D)) : Prop := ∀ d, f = some d → EvIq X tg it ρ yl d
def Tso (X : Cx) (es : List Expr) (ρ : Rho) (f : Option Bool) : Prop := ∀ d, f = some d → EvTs X es ρ d
def A65 (A : Around) : Prop := A.units + 65 < cLine
abbrev Ru (X : Cx) : Prop := A65 X.A
theorem A65.of {k : Nat} {A : Around} (h : Room k A) : A65 A := r65 h
variable {f g h : Option D}
theorem Eo.u (h : Eo X e ρ f) : Eu X e ρ f := fun d q => (h d q).q
theorem En.o {f : Option (List D)} (h : En X e ρ f) : Eo X e ρ (lsV f) := fun d q => by
  obtain ⟨ds, h1, h2⟩ := bnd_inv q
  cases h2
  exact (h ds h1).fz
theorem Ed.o {f : Option (List (D × D))} (h : Ed X e ρ f) : Eo X e ρ (dcV f) := fun d q => by
  obtain ⟨ds, h1, h2⟩ := bnd_inv q
  cases h2
  exact (h ds h1).fzD
theorem Io.q {tg it : Expr} {yl : Bool} {f : Option (List D)} (h : Io X tg it ρ yl f) : Iq X tg it ρ yl f := fun d q => (h d q).q
/-! ### names, constants -/
theorem eo_v {s : String} {i : Nat} {pos : Pos} {d : D} (hs : Sl X.N s i) (h : ρ[i]? = some (.val d) := by rfl) (hv : Vis X.env.scope (Str.ofString s) := by first | exact Or.inl rfl | exact Or.inr (Or.inl rfl) | exact Or.inr (Or.inr rfl)) : Eo X (.Name (Str.ofString s) pos) ρ (some d) := fun d' q => by
  cases q; exact ev_vn hs h hv
theorem eu_vo {s : String} {i : Nat} {pos : Pos} {ds : List D} (hs : Sl X.N s i) (h : ρ[i]? = some (.own ds) := by rfl) (hv : Vis X.env.scope (Str.ofString s) := by first | exact Or.inl rfl | exact Or.inr (Or.inl rfl) | exact Or.inr (Or.inr rfl)) : Eu X (.Name (Str.ofString s) pos) ρ (some (.list ds)) := fun d' q => by
  cases q; exact ev_vo hs h hv
theorem eu_vd {s : String} {i : Nat} {pos : Pos} {es : List (D × D)} (hs : Sl X.N s i) (h : ρ[i]? = some (.dic es) := by rfl) (hv : Vis X.env.scope (Str.ofString s) := by first | exact Or.inl rfl | exact Or.inr (Or.inl rfl) | exact Or.inr (Or.inr rfl)) : Eu X (.Name (Str.ofString s) pos) ρ (some (.dict es)) := fun d' q => by
  cases q; exact ev_vd hs h hv
theorem eo_int {i : Int} {j : Nat} {pos : Pos} : Eo X (.Constant (.int i) j pos) ρ (some (.int i)) := fun d q => by cases q; exact ev_int
theorem eo_bl {i : Bool} {j : Nat} {pos : Pos} : Eo X (.Constant (.bool i) j pos) ρ (some (.bool i)) := fun d q => by cases q; exact ev_bl
theorem eo_str {i : Str} {j : Nat} {pos : Pos} : Eo X (.Constant (.str i) j pos) ρ (some (.str i)) := fun d q => by cases q; exact ev_str
theorem eo_non {j : Nat} {pos : Pos} : Eo X (.Constant .none j pos) ρ (some .none) := fun d q => by cases q; exact ev_non
theorem eo_gint {x : Str} {i : Int} {pos : Pos} (hm : ∃ t, X.mg x = some (.int i t)) (hg : Gl X x := by rfl) (hd : (x == ("__debug__" : Str)) = false := by decide) : Eo X (.Name x pos) ρ (some (.int i)) := fun d q => by
  cases q; obtain ⟨t, hm⟩ := hm; exact ev_gint hm hg hd
theorem eo_gstr {x : Str} {i : Str} {pos : Pos} (hm : ∃ t, X.mg x = some (.str i t)) (hg : Gl X x := by rfl) (hd : (x == ("__debug__" : Str)) = false := by decide) : Eo X (.Name x pos) ρ (some (.str i)) := fun d q => by
  cases q; obtain ⟨t, hm⟩ := hm; exact ev_gstr hm hg hd
/-! ### operators -/
def OpF (X : Cx) (p : Value → Value → Sem Value) (F : D → D → Option D) : Prop := ∀ x y d, F x y = some d → ∃ k, OpV X p x y k ∧ KV' k d
def CmF (X : Cx) (p : Value → Value → Sem Value) (F : D → D → Option Bool) : Prop := ∀ x y b, F x y = some b → OpV X p x y (.val (.bool b))
theorem op2_inv {α : Type} {F : D → D → Option α} {r : α} (q : op2 F f g = some r) : ∃ x y, f = some x ∧ g = some y ∧ F x y = some r := by
  obtain ⟨x, h1, h2⟩ := bnd_inv q
  obtain ⟨y, h3, h4⟩ := bnd_inv h2
  exact ⟨x, y, h1, h3, h4⟩
theorem eo_bin {op : Operator} {pos : Pos} {F : D → D → Option D} (o : OpF X (binaryOp op) F) (ha : Eu X a ρ f) (hb : Eu X b ρ g) : Eo X (.BinOp a op b pos) ρ (op2 F f g) := fun d q => by
  obtain ⟨x, y, h1, h2, h3⟩ := op2_inv q
  obtain ⟨k, h4, h5⟩ := o x y d h3
  exact (ev_bin h4 (ha x h1) (hb y h2)).toV h5
theorem of_add : OpF X (binaryOp .Add) addD := fun x y d h => by
  unfold addD at h
  split at h
  · cases h; exact ⟨_, o_add, .val⟩
  · split at h
    · cases h; exact ⟨_, o_adds (by assumption), .val⟩
    · cases h
  · split at h
    · cases h; exact ⟨_, o_addT (by assumption), .val⟩
    · cases h
  · split at h
    · cases h; exact ⟨_, o_addL (by assumption), .new⟩
    · cases h
  · cases h
theorem of_sub : OpF X (binaryOp .Sub) subD := fun x y d h => by
  unfold subD at h
  split at h
  · cases h; exact ⟨_, o_sub, .val⟩
  · cases h
theorem of_mul : OpF X (binaryOp .Mult) mulD := fun x y d h => by
  unfold mulD at h
  split at h
  · split at h
    · cases h; exact ⟨_, o_mul (by assumption), .val⟩
    · cases h
  · split at h
    · rename_i e
      cases h; subst e
      exact ⟨_, o_rep01 (t := false) (by simp), .val⟩
    · split at h
      · rename_i e
        cases h; subst e
        exact ⟨_, o_rep01 (t := true) (by simp), .val⟩
      · cases h
  · cases h
theorem of_div : OpF X (binaryOp .FloorDiv) divD := fun x y d h => by
  unfold divD at h
  split at h
  · split at h
    · cases h; exact ⟨_, o_div (by assumption), .val⟩
    · cases h
  · cases h
theorem of_mod : OpF X (binaryOp .Mod) modD := fun x y d h => by
  unfold modD at h
  split at h
  · split at h
    · cases h; exact ⟨_, o_mod (by assumption), .val⟩
    · cases h
  · cases h
theorem en_addL {pos : Pos} (ha : Eu X a ρ f) (hb : Eu X b ρ g) : En X (.BinOp a .Add b pos) ρ (op2 addN f g) := fun d q => by
  obtain ⟨x, y, h1, h2, h3⟩ := op2_inv q
  unfold addN at h3
  split at h3
  · split at h3
    · cases h3; exact ev_bin (o_addL (by assumption)) (ha _ h1) (hb _ h2)
    · cases h3
  · cases h3
theorem eo_neg {pos : Pos} (ha : Eo X a ρ f) : Eo X (.UnaryOp .USub a pos) ρ (op1 negD f) := fun d q => by
  obtain ⟨x, h1, h2⟩ := bnd_inv q
  unfold negD at h2
  split at h2
  · cases h2; exact ev_neg (ha _ h1)
  · cases h2
/-! ### comparisons -/
theorem plB_pl {d : D} (h : plB d = true) : Pl 64 d := by
  unfold plB at h
  rw [Bool.and_eq_true, decide_eq_true_eq] at h
  exact ⟨h.1, h.2⟩
theorem mem_lay : ∀ {ds : List D} {d : D}, PyData.canLayAll0 ds = true → d ∈ ds → d.canLay0 = true
  | x :: ds, d, h, m => by
    rw [PyData.canLayAll0, Bool.and_eq_true] at h
    rcases List.mem_cons.mp m with rfl | m
    · exact h.1
    · exact mem_lay h.2 m
theorem mem_dep : ∀ {ds : List D} {d : D}, d ∈ ds → d.depth ≤ PyData.depthAll ds
  | x :: ds, d, m => by
    rw [PyData.depthAll]
    rcases List.mem_cons.mp m with rfl | m
    · exact Nat.le_max_left _ _
    · exact Nat.le_trans (mem_dep m) (Nat.le_max_right _ _)
theorem plBs_pl {ds : List D} (h : plBs ds = true) : PlAll 63 ds := by
  unfold plBs at h
  rw [Bool.and_eq_true, decide_eq_true_eq] at h
  exact fun d hd => ⟨mem_lay h.1 hd, Nat.le_trans (mem_dep hd) h.2⟩
theorem cm_lt (r : Ru X) : CmF X (compareOp .Lt) ltB := fun x y b h => by
  unfold ltB at h
  split at h
  · cases h; exact o_lt
  · cases h; exact o_lts
  · split at h
    · cases h; exact o_ltDD r (by assumption)
    · cases h
theorem cm_le : CmF X (compareOp .LtE) leB := fun x y b h => by
  unfold leB at h
  split at h
  · cases h; exact o_le
  · cases h; exact o_les
  · cases h
theorem cm_gt (r : Ru X) : CmF X (compareOp .Gt) gtB := fun x y b h => by
  unfold gtB at h
  split at h
  · cases h; exact o_gt
  · cases h; exact o_gts
  · split at h
    · cases h; exact o_gtDD r (by assumption)
    · cases h
theorem cm_ge : CmF X (compareOp .GtE) geB := fun x y b h => by
  unfold geB at h
  split at h
  · cases h; exact o_ge
  · cases h
theorem cm_eq (r : Ru X) : CmF X (compareOp .Eq) eqB := fun x y b h => by
  unfold eqB at h
  split at h
  · rename_i c
    cases h
    rw [Bool.or_eq_true, Bool.and_eq_true] at c
    rcases c with c | ⟨c1, c2⟩
    · exact o_eq c
    · exact o_eqD (plB_pl c1) (plB_pl c2) (by have : _ + 65 < _ := r; omega)
  · cases h
theorem cm_ne (r : Ru X) : CmF X (compareOp .NotEq) neB := fun x y b h => by
  unfold neB at h
  split at h
  · rename_i c
    cases h
    rw [Bool.or_eq_true, Bool.and_eq_true] at c
    rcases c with c | ⟨c1, c2⟩
    · exact o_ne c
    · exact o_neD (plB_pl c1) (plB_pl c2) (by have : _ + 65 < _ := r; omega)
  · cases h
theorem cm_in (r : Ru X) : CmF X (compareOp .In) inB := fun x y b h => by
  unfold inB at h
  split at h
  · split at h
    · rename_i c
      cases h
      rw [Bool.or_eq_true, Bool.and_eq_true, Bool.and_eq_true] at c
      rcases c with c | ⟨c1, c2⟩
      · exact o_inS c.1 c.2
      · exact o_in (plB_pl c1) (plBs_pl c2) r
    · cases h
  · split at h
    · rename_i c
      cases h
      rw [Bool.or_eq_true, Bool.and_eq_true, Bool.and_eq_true] at c
      rcases c with c | ⟨c1, c2⟩
      · exact o_inST c.1 c.2
      · exact o_inT (plB_pl c1) (plBs_pl c2) r
    · cases h
  · cases h
theorem cm_nin (r : Ru X) : CmF X (compareOp .NotIn) ninB := fun x y b h => by
  obtain ⟨t, h1, h2⟩ := bnd_inv h
  cases h2
  unfold inB at h1
  split at h1
  · split at h1
    · rename_i c
      cases h1
      rw [Bool.or_eq_true, Bool.and_eq_true, Bool.and_eq_true] at c
      rcases c with c | ⟨c1, c2⟩
      · exact o_ninS c.1 c.2
      · exact o_nin (plB_pl c1) (plBs_pl c2) r
    · cases h1
  · split at h1
    · rename_i c
      cases h1
      rw [Bool.or_eq_true, Bool.and_eq_true, Bool.and_eq_true] at c
      rcases c with c | ⟨c1, c2⟩
      · exact o_ninST c.1 c.2
      · exact o_ninT (plB_pl c1) (plBs_pl c2) r
    · cases h1
  · cases h1
theorem eo_cmp {op : CmpOp} {pos : Pos} {F : D → D → Option Bool} (o : CmF X (compareOp op) F) (ha : Eu X a ρ f) (hb : Eu X b ρ g) (hm : behindInMarks op b = false := by first | exact nomark _ | rfl) : Eo X (.Compare a [op] [b] pos) ρ (boV (op2 F f g)) := fun d q => by
  obtain ⟨t, q1, q2⟩ := bnd_inv q
  cases q2
  obtain ⟨x, y, h1, h2, h3⟩ := op2_inv q1
  exact ev_cmp (o x y t h3) (ha x h1) (hb y h2) hm
theorem et_cmpF {op : CmpOp} {pos : Pos} {F : D → D → Option Bool} (o : CmF X (compareOp op) F) (ha : Eu X a ρ f) (hb : Eu X b ρ g) (hm : behindInMarks op b = false := by first | exact nomark _ | rfl) : Et X (.Compare a [op] [b] pos) ρ (op2 F f g) := fun t q1 => by
  obtain ⟨x, y, h1, h2, h3⟩ := op2_inv q1
  exact et_cmp (o x y t h3) (ha x h1) (hb y h2) hm
theorem eo_isN {pos p : Pos} {j : Nat} (ha : Eu X a ρ f) (hm : behindInMarks .Is (.Constant .none j p) = false := by first | exact nomark _ | rfl) : Eo X (.Compare a [.Is] [.Constant .none j p] pos) ρ (boV (op1 isNB f)) := fun d q => by
  obtain ⟨t, q1, q2⟩ := bnd_inv q
  cases q2
  obtain ⟨x, h1, h2⟩ := bnd_inv q1
  cases h2
  exact ev_cmp o_isN (ha x h1) ev_non.q hm
theorem et_isN {pos p : Pos} {j : Nat} (ha : Eu X a ρ f) (hm : behindInMarks .Is (.Constant .none j p) = false := by first | exact nomark _ | rfl) : Et X (.Compare a [.Is] [.Constant .none j p] pos) ρ (op1 isNB f) := fun t q1 => by
  obtain ⟨x, h1, h2⟩ := bnd_inv q1
  cases h2
  exact et_cmp o_isN (ha x h1) ev_non.q hm
theorem eo_isNN {pos p : Pos} {j : Nat} (ha : Eu X a ρ f) (hm : behindInMarks .IsNot (.Constant .none j p) = false := by first | exact nomark _ | rfl) : Eo X (.Compare a [.IsNot] [.Constant .none j p] pos) ρ (boV (op1 isNNB f)) := fun d q => by
  obtain ⟨t, q1, q2⟩ := bnd_inv q
  cases q2
  obtain ⟨x, h1, h2⟩ := bnd_inv q1
  cases h2
  exact ev_cmp o_notN (ha x h1) ev_non.q hm
theorem et_isNN {pos p : Pos} {j : Nat} (ha : Eu X a ρ f) (hm : behindInMarks .IsNot (.Constant .none j p) = false := by first | exact nomark _ | rfl) : Et X (.Compare a [.IsNot] [.Constant .none j p] pos) ρ (op1 isNNB f) := fun t q1 => by
  obtain ⟨x, h1, h2⟩ := bnd_inv q1
  cases h2
  exact et_cmp o_notN (ha x h1) ev_non.q hm
theorem chT_inv {p q : D → D → Option Bool} {r : Bool} (z : chT p q f g h = some r) : ∃ x y t u, f = some x ∧ g = some y ∧ p x y = some t ∧ (t = true → ∃ w, h = some w ∧ q y w = some u) ∧ r = (t && u) := by
  obtain ⟨x, h1, z⟩ := bnd_inv z
  obtain ⟨y, h2, z⟩ := bnd_inv z
  obtain ⟨t, h3, z⟩ := bnd_inv z
  cases t with
  | false => cases z; exact ⟨x, y, false, false, h1, h2, h3, (fun e => nomatch e), rfl⟩
  | true =>
    obtain ⟨w, h4, h5⟩ := bnd_inv z
    exact ⟨x, y, true, r, h1, h2, h3, fun _ => ⟨w, h4, h5⟩, by simp⟩
theorem eo_chain {op op' : CmpOp} {pos : Pos} {F F' : D → D → Option Bool} (o : CmF X (compareOp op) F) (o' : CmF X (compareOp op') F') (ha : Eo X a ρ f) (hb : Eo X b ρ g) (hc : Eo X c ρ h) (hm : lastMarks [op, op'] [b, c] = false := by with_unfolding_all rfl) : Eo X (.Compare a [op, op'] [b, c] pos) ρ (boV (chT F F' f g h)) := fun d q => by
  obtain ⟨r, q1, q2⟩ := bnd_inv q
  cases q2
  obtain ⟨x, y, t, u, h1, h2, h3, h4, rfl⟩ := chT_inv q1
  by_cases e : t = true
  · obtain ⟨w, h5, h6⟩ := h4 e
    exact ev_chain (o x y t h3) (ha x h1) (hb y h2) (fun _ => o' y w u h6) (fun _ => hc w h5) hm
  · exact ev_chain (z := .none) (o x y t h3) (ha x h1) (hb y h2) (fun e' => absurd e' e) (fun e' => absurd e' e) hm
theorem et_chainF {op op' : CmpOp} {pos : Pos} {F F' : D → D → Option Bool} (o : CmF X (compareOp op) F) (o' : CmF X (compareOp op') F') (ha : Eo X a ρ f) (hb : Eo X b ρ g) (hc : Eo X c ρ h) (hm : lastMarks [op, op'] [b, c] = false := by with_unfolding_all rfl) : Et X (.Compare a [op, op'] [b, c] pos) ρ (chT F F' f g h) := fun r q1 => by
  obtain ⟨x, y, t, u, h1, h2, h3, h4, rfl⟩ := chT_inv q1
  by_cases e : t = true
  · obtain ⟨w, h5, h6⟩ := h4 e
    exact et_chain (o x y t h3) (ha x h1) (hb y h2) (fun _ => o' y w u h6) (fun _ => hc w h5) hm
  · exact et_chain (z := .none) (o x y t h3) (ha x h1) (hb y h2) (fun e' => absurd e' e) (fun e' => absurd e' e) hm
/-! ### tests -/
theorem tB_inv {r : Bool} (q : tB f = some r) : f = some (.bool r) := by
  obtain ⟨d, h1, h2⟩ := bnd_inv q
  cases d with
  | bool b => cases h2; exact h1
  | _ => cases h2
theorem et_v (ha : Eo X a ρ f) (he : ∀ whole, isTrue a X.env whole = (do let v ← whole; standAt a.pos; holding [v] (truthy v)) := by intro _; rfl) : Et X a ρ (tB f) := fun r q => et_val (ha _ (tB_inv q)) he
theorem eo_tb (ha : Eo X a ρ f) : Eo X a ρ (boV (tB f)) := fun d q => by
  obtain ⟨t, q1, q2⟩ := bnd_inv q
  cases q2
  exact ha _ (tB_inv q1)
variable {s t u : Option Bool}
theorem andT_inv {r : Bool} (q : andT s t = some r) : ∃ x y, s = some x ∧ (x = true → t = some y) ∧ r = (x && y) := by
  obtain ⟨x, h1, h2⟩ := bnd_inv q
  cases x with
  | false => cases h2; exact ⟨false, false, h1, (fun e => nomatch e), rfl⟩
  | true => exact ⟨true, r, h1, fun _ => h2, by simp⟩
theorem orT_inv {r : Bool} (q : orT s t = some r) : ∃ x y, s = some x ∧ (x = false → t = some y) ∧ r = (x || y) := by
  obtain ⟨x, h1, h2⟩ := bnd_inv q
  cases x with
  | true => cases h2; exact ⟨true, false, h1, (fun e => nomatch e), rfl⟩
  | false => exact ⟨false, r, h1, fun _ => h2, by simp⟩
theorem et_w (h : Ew X e ρ s) : Et X e ρ s := fun r q => (h r q).t
theorem ew_a1 {pos : Pos} (h : Et X a ρ s) : Ew X (.BoolOp .And [a] pos) ρ s := fun r q => ew_and1 (h r q)
theorem ew_o1 {pos : Pos} (h : Et X a ρ s) : Ew X (.BoolOp .Or [a] pos) ρ s := fun r q => ew_or1 (h r q)
theorem ew_a {pos : Pos} {rest : List Expr} (h : Et X a ρ s) (h' : Ew X (.BoolOp .And (b :: rest) pos) ρ t) : Ew X (.BoolOp .And (a :: b :: rest) pos) ρ (andT s t) := fun r q => by
  obtain ⟨x, y, h1, h2, rfl⟩ := andT_inv q
  exact ew_and (h x h1) fun e => h' y (h2 e)
theorem ew_o {pos : Pos} {rest : List Expr} (h : Et X a ρ s) (h' : Ew X (.BoolOp .Or (b :: rest) pos) ρ t) : Ew X (.BoolOp .Or (a :: b :: rest) pos) ρ (orT s t) := fun r q => by
  obtain ⟨x, y, h1, h2, rfl⟩ := orT_inv q
  exact ew_or (h x h1) fun e => h' y (h2 e)
theorem et_n {pos : Pos} (h : Et X a ρ s) : Et X (.UnaryOp .Not a pos) ρ (notT s) := fun r q => by
  obtain ⟨x, h1, h2⟩ := bnd_inv q
  cases h2
  exact et_not (h x h1)
theorem eo_n {pos : Pos} (h : Eo X a ρ (boV s)) : Eo X (.UnaryOp .Not a pos) ρ (boV (notT s)) := fun r q => by
  obtain ⟨x, h1, h2⟩ := bnd_inv q
  cases h2
  obtain ⟨y, h3, h4⟩ := bnd_inv h1
  cases h4
  exact ev_not (h _ (by rw [h3]; rfl))
theorem eo_1 {op : BoolOp} {pos : Pos} (h : Eo X a ρ f) : Eo X (.BoolOp op [a] pos) ρ f := fun r q => ev_one (h r q)
theorem eo_a {pos : Pos} {rest : List Expr} (h : Eo X a ρ (boV s)) (h' : Eo X (.BoolOp .And (b :: rest) pos) ρ (boV t)) : Eo X (.BoolOp .And (a :: b :: rest) pos) ρ (boV (andT s t)) := fun r q => by
  obtain ⟨z, q1, q2⟩ := bnd_inv q
  cases q2
  obtain ⟨x, y, h1, h2, rfl⟩ := andT_inv q1
  exact ev_and (h _ (by rw [h1]; rfl)) fun e => h' _ (by rw [h2 e]; rfl)
theorem eo_r {pos : Pos} {rest : List Expr} (h : Eo X a ρ (boV s)) (h' : Eo X (.BoolOp .Or (b :: rest) pos) ρ (boV t)) : Eo X (.BoolOp .Or (a :: b :: rest) pos) ρ (boV (orT s t)) := fun r q => by
  obtain ⟨z, q1, q2⟩ := bnd_inv q
  cases q2
  obtain ⟨x, y, h1, h2, rfl⟩ := orT_inv q1
  exact ev_or (h _ (by rw [h1]; rfl)) fun e => h' _ (by rw [h2 e]; rfl)
/-! ### displays -/
def arg1 (f : Option D) (r : Option (List D)) : Option (List D) := bnd f fun d => bnd r fun ds => some (d :: ds)
@[simp] theorem arg1_some (d : D) (ds : List D) : arg1 (some d) (some ds) = some (d :: ds) := rfl
theorem ao_nil : Ao X [] ρ (some []) := fun d q => by cases q; exact ea_nil
theorem ao_cons {es : List Expr} {r : Option (List D)} (h : Eo X e ρ f) (t : Ao X es ρ r) (hs : starEach (e :: es) X.env = (false, eval e X.env) :: starEach es X.env := by rfl) : Ao X (e :: es) ρ (arg1 f r) := fun d q => by
  obtain ⟨x, h1, q⟩ := bnd_inv q
  obtain ⟨y, h2, q⟩ := bnd_inv q
  cases q
  exact ea_cons (h x h1) (t y h2) hs
def tupV (r : Option (List D)) : Option D := bnd r fun ds => if ds.length ≤ 1000 then some (.tuple ds) else none
def lstV (r : Option (List D)) : Option (List D) := bnd r fun ds => if ds.length ≤ 1000 then some ds else none
theorem eo_tup {es : List Expr} {n : Nat} {pos : Pos} {r : Option (List D)} (h : Ao X es ρ r) : Eo X (.Tuple es n pos) ρ (tupV r) := fun d q => by
  obtain ⟨x, h1, q⟩ := bnd_inv q
  split at q
  · cases q; exact ev_tup (h x h1) (by assumption)
  · cases q
theorem en_lst {es : List Expr} {pos : Pos} {r : Option (List D)} (h : Ao X es ρ r) : En X (.List es pos) ρ (lstV r) := fun d q => by
  obtain ⟨x, h1, q⟩ := bnd_inv q
  split at q
  · injection q with q; subst q; exact ev_lst (h _ h1) (by assumption)
  · cases q
/-! ### calls of defs -/
def g1 (m : D → Option D) : List D → D → Prop := fun ds d => ∃ a, ds = [a] ∧ m a = some d
def g2 (m : D → D → Option D) : List D → D → Prop := fun ds d => ∃ a b, ds = [a, b] ∧ m a b = some d
def g3 (m : D → D → D → Option D) : List D → D → Prop := fun ds d => ∃ a b c, ds = [a, b, c] ∧ m a b c = some d
def g4 (m : D → D → D → D → Option D) : List D → D → Prop := fun ds d => ∃ a b c e, ds = [a, b, c, e] ∧ m a b c e = some d
section
variable {st : String} {kk : Nat} {p pos : Pos} {e1 e2 e3 e4 : Expr} {k l : Option D}
theorem eo_c1 {m : D → Option D} (C : Cl X.prog X.w X.K X.mg X.base st kk (g1 m)) (hr : Room kk X.A) (h1 : Eo X e1 ρ f) (hg : Gl X (Str.ofString st) := by rfl) (hdb : (Str.ofString st == ("__debug__" : Str)) = false := by decide) (s1 : starEach [e1] X.env = (false, eval e1 X.env) :: starEach [] X.env := by rfl) (hpl : (backTo pos (starEach [] X.env)).any (·.1) = false := by rfl) :
    Eo X (.Call (.Name (Str.ofString st) p) [e1] [] pos) ρ (op1 m f) := fun d q => by
  obtain ⟨x, q1, q⟩ := bnd_inv q
  exact ev_cl C hr (ea_cons (h1 x q1) ea_nil s1) ⟨x, rfl, q⟩ hg hdb s1 hpl
theorem eo_c2 {m : D → D → Option D} (C : Cl X.prog X.w X.K X.mg X.base st kk (g2 m)) (hr : Room kk X.A) (h1 : Eo X e1 ρ f) (h2 : Eo X e2 ρ g) (hg : Gl X (Str.ofString st) := by rfl) (hdb : (Str.ofString st == ("__debug__" : Str)) = false := by decide) (s1 : starEach [e1, e2] X.env = (false, eval e1 X.env) :: starEach [e2] X.env := by rfl) (s2 : starEach [e2] X.env = (false, eval e2 X.env) :: starEach [] X.env := by rfl) (hpl : (backTo pos (starEach [e2] X.env)).any (·.1) = false := by rfl) :
    Eo X (.Call (.Name (Str.ofString st) p) [e1, e2] [] pos) ρ (op2 m f g) := fun d q => by
  obtain ⟨x, y, q1, q2, q⟩ := op2_inv q
  exact ev_cl C hr (ea_cons (h1 x q1) (ea_cons (h2 y q2) ea_nil s2) s1) ⟨x, y, rfl, q⟩ hg hdb s1 hpl
theorem eo_c3 {m : D → D → D → Option D} (C : Cl X.prog X.w X.K X.mg X.base st kk (g3 m)) (hr : Room kk X.A) (h1 : Eo X e1 ρ f) (h2 : Eo X e2 ρ g) (h3 : Eo X e3 ρ k) (hg : Gl X (Str.ofString st) := by rfl) (hdb : (Str.ofString st == ("__debug__" : Str)) = false := by decide) (s1 : starEach [e1, e2, e3] X.env = (false, eval e1 X.env) :: starEach [e2, e3] X.env := by rfl) (s2 : starEach [e2, e3] X.env = (false, eval e2 X.env) :: starEach [e3] X.env := by rfl) (s3 : starEach [e3] X.env = (false, eval e3 X.env) :: starEach [] X.env := by rfl) (hpl : (backTo pos (starEach [e2, e3] X.env)).any (·.1) = false := by rfl) :
    Eo X (.Call (.Name (Str.ofString st) p) [e1, e2, e3] [] pos) ρ (op3 m f g k) := fun d q => by
  obtain ⟨x, q1, q⟩ := bnd_inv q
  obtain ⟨y, z, q2, q3, q⟩ := op2_inv (f := g) (g := k) (F := fun y z => m x y z) q
  exact ev_cl C hr (ea_cons (h1 x q1) (ea_cons (h2 y q2) (ea_cons (h3 z q3) ea_nil s3) s2) s1) ⟨x, y, z, rfl, q⟩ hg hdb s1 hpl
theorem eo_c4 {m : D → D → D → D → Option D} (C : Cl X.prog X.w X.K X.mg X.base st kk (g4 m)) (hr : Room kk X.A) (h1 : Eo X e1 ρ f) (h2 : Eo X e2 ρ g) (h3 : Eo X e3 ρ k) (h4 : Eo X e4 ρ l) (hg : Gl X (Str.ofString st) := by rfl) (hdb : (Str.ofString st == ("__debug__" : Str)) = false := by decide) (s1 : starEach [e1, e2, e3, e4] X.env = (false, eval e1 X.env) :: starEach [e2, e3, e4] X.env := by rfl) (s2 : starEach [e2, e3, e4] X.env = (false, eval e2 X.env) :: starEach [e3, e4] X.env := by rfl) (s3 : starEach [e3, e4] X.env = (false, eval e3 X.env) :: starEach [e4] X.env := by rfl) (s4 : starEach [e4] X.env = (false, eval e4 X.env) :: starEach [] X.env := by rfl) (hpl : (backTo pos (starEach [e2, e3, e4] X.env)).any (·.1) = false := by rfl) :
    Eo X (.Call (.Name (Str.ofString st) p) [e1, e2, e3, e4] [] pos) ρ (op4 m f g k l) := fun d q => by
  obtain ⟨x, q1, q⟩ := bnd_inv q
  obtain ⟨x2, q2, q⟩ := bnd_inv q
  obtain ⟨y, z, q3, q4, q⟩ := op2_inv (f := k) (g := l) (F := fun y z => m x x2 y z) q
  exact ev_cl C hr (ea_cons (h1 x q1) (ea_cons (h2 x2 q2) (ea_cons (h3 y q3) (ea_cons (h4 z q4) ea_nil s4) s3) s2) s1) ⟨x, x2, y, z, rfl, q⟩ hg hdb s1 hpl
/-! ### built-ins -/
def CaF (X : Cx) (v : Value) (F : D → Option D) : Prop := ∀ x d, F x = some d → ∃ k, CallV X v [x] k ∧ KV' k d
def CnF (X : Cx) (v : Value) (F : D → Option (List D)) : Prop := ∀ x d, F x = some d → CallV X v [x] (.new d)
def CdF (X : Cx) (v : Value) (F : D → Option (List (D × D))) : Prop := ∀ x d, F x = some d → CallV X v [x] (.newD d)
variable {id T : String}
theorem eo_b1 {F : D → Option D} (o : CaF X (.builtin id) F) (hm : Nb X.mg st (.builtin id)) (h1 : Eu X e1 ρ f) (hg : Gl X (Str.ofString st) := by rfl) (s1 : starEach [e1] X.env = (false, eval e1 X.env) :: starEach [] X.env := by rfl) (hpl : (backTo pos (starEach [] X.env)).any (·.1) = false := by rfl) :
    Eo X (.Call (.Name (Str.ofString st) p) [e1] [] pos) ρ (op1 F f) := fun d q => by
  obtain ⟨x, q1, q⟩ := bnd_inv q
  obtain ⟨k, o1, o2⟩ := o x d q
  exact (ev_nb hm (eq_cons (h1 x q1) eq_nil s1) o1 hg s1 hpl).toV o2
theorem eo_t1 {F : D → Option D} (o : CaF X (.type T) F) (hm : Nb X.mg st (.type T)) (h1 : Eu X e1 ρ f) (hg : Gl X (Str.ofString st) := by rfl) (s1 : starEach [e1] X.env = (false, eval e1 X.env) :: starEach [] X.env := by rfl) (hpl : (backTo pos (starEach [] X.env)).any (·.1) = false := by rfl) :
    Eo X (.Call (.Name (Str.ofString st) p) [e1] [] pos) ρ (op1 F f) := fun d q => by
  obtain ⟨x, q1, q⟩ := bnd_inv q
  obtain ⟨k, o1, o2⟩ := o x d q
  exact (ev_nt hm (eq_cons (h1 x q1) eq_nil s1) o1 hg s1 hpl).toV o2
theorem en_b1 {F : D → Option (List D)} (o : CnF X (.builtin id) F) (hm : Nb X.mg st (.builtin id)) (h1 : Eu X e1 ρ f) (hg : Gl X (Str.ofString st) := by rfl) (s1 : starEach [e1] X.env = (false, eval e1 X.env) :: starEach [] X.env := by rfl) (hpl : (backTo pos (starEach [] X.env)).any (·.1) = false := by rfl) :
    En X (.Call (.Name (Str.ofString st) p) [e1] [] pos) ρ (op1 F f) := fun d q => by
  obtain ⟨x, q1, q⟩ := bnd_inv q
  exact ev_nb hm (eq_cons (h1 x q1) eq_nil s1) (o x d q) hg s1 hpl
theorem en_t1 {F : D → Option (List D)} (o : CnF X (.type T) F) (hm : Nb X.mg st (.type T)) (h1 : Eu X e1 ρ f) (hg : Gl X (Str.ofString st) := by rfl) (s1 : starEach [e1] X.env = (false, eval e1 X.env) :: starEach [] X.env := by rfl) (hpl : (backTo pos (starEach [] X.env)).any (·.1) = false := by rfl) :
    En X (.Call (.Name (Str.ofString st) p) [e1] [] pos) ρ (op1 F f) := fun d q => by
  obtain ⟨x, q1, q⟩ := bnd_inv q
  exact ev_nt hm (eq_cons (h1 x q1) eq_nil s1) (o x d q) hg s1 hpl
theorem ed_t1 {F : D → Option (List (D × D))} (o : CdF X (.type T) F) (hm : Nb X.mg st (.type T)) (h1 : Eu X e1 ρ f) (hg : Gl X (Str.ofString st) := by rfl) (s1 : starEach [e1] X.env = (false, eval e1 X.env) :: starEach [] X.env := by rfl) (hpl : (backTo pos (starEach [] X.env)).any (·.1) = false := by rfl) :
    Ed X (.Call (.Name (Str.ofString st) p) [e1] [] pos) ρ (op1 F f) := fun d q => by
  obtain ⟨x, q1, q⟩ := bnd_inv q
  exact ev_nt hm (eq_cons (h1 x q1) eq_nil s1) (o x d q) hg s1 hpl
theorem eo_b2 {F : D → D → Option D} (o : ∀ x y d, F x y = some d → CallV X (.builtin id) [x, y] (.val d)) (hm : Nb X.mg st (.builtin id)) (h1 : Eu X e1 ρ f) (h2 : Eu X e2 ρ g) (hg : Gl X (Str.ofString st) := by rfl) (s1 : starEach [e1, e2] X.env = (false, eval e1 X.env) :: starEach [e2] X.env := by rfl) (s2 : starEach [e2] X.env = (false, eval e2 X.env) :: starEach [] X.env := by rfl) (hpl : (backTo pos (starEach [e2] X.env)).any (·.1) = false := by rfl) :
    Eo X (.Call (.Name (Str.ofString st) p) [e1, e2] [] pos) ρ (op2 F f g) := fun d q => by
  obtain ⟨x, y, q1, q2, q⟩ := op2_inv q
  exact ev_nb hm (eq_cons (h1 x q1) (eq_cons (h2 y q2) eq_nil s2) s1) (o x y d q) hg s1 hpl
end
theorem ca_len : CaF X (.builtin "len") lenD := fun x d h => by
  unfold lenD at h
  split at h
  · cases h; exact ⟨_, c_lenL, .val⟩
  · cases h; exact ⟨_, c_lenT, .val⟩
  · split at h
    · cases h; exact ⟨_, c_lenS (by assumption), .val⟩
    · cases h
  · cases h
theorem cn_list (hc : X.calm = true := by rfl) : CnF X (.type "list") listN := fun x d h => by
  unfold listN at h
  split at h
  · cases h; exact c_listL
  · cases h; exact c_listT
  · cases h; exact c_listD hc
  · cases h
theorem ca_tup : CaF X (.type "tuple") tupD := fun x d h => by
  unfold tupD at h
  split at h
  · cases h; exact ⟨_, c_tupleL, .val⟩
  · cases h
theorem pairK_inv {d : D} {q : Key × D} (h : pairK d = some q) : d = .tuple [keyD q.1, q.2] := by
  unfold pairK at h
  split at h
  · obtain ⟨kk, h1, h2⟩ := bnd_inv h
    cases h2
    rw [kd_eq h1]
  · cases h
theorem pairsK_inv : ∀ {ds : List D} {md : List (Key × D)}, pairsK ds = some md → ds = md.map fun q => .tuple [keyD q.1, q.2]
  | [], _, h => by cases h; rfl
  | d :: ds, _, h => by
    obtain ⟨q, h1, h⟩ := bnd_inv h
    obtain ⟨r, h2, h⟩ := bnd_inv h
    cases h
    rw [List.map_cons, ← pairsK_inv h2, ← pairK_inv h1]
theorem cd_dict (hc : X.calm = true := by rfl) : CdF X (.type "dict") dictN := fun x d h => by
  unfold dictN at h
  split at h
  · obtain ⟨md, h1, h2⟩ := bnd_inv h
    cases h2
    rw [pairsK_inv h1]; exact c_dictT hc
  · obtain ⟨md, h1, h2⟩ := bnd_inv h
    cases h2
    rw [pairsK_inv h1]; exact c_dictL hc
  · cases h
theorem soG_ok {ds : List D} (h : soG ds = true) : SortOk ds := by
  unfold soG at h
  rw [Bool.and_eq_true, Bool.and_eq_true] at h
  obtain ⟨h1, h2, h3⟩ := h
  refine ⟨fun d hd e he => List.all_eq_true.mp (List.all_eq_true.mp h1 d hd) e he, .inl fun d hd => ?_, fun d hd => ?_, fun d hd => ?_⟩
  · have := List.all_eq_true.mp h2 d hd
    unfold isTup1 at this
    split at this
    · exact ⟨_, _, rfl⟩
    · cases this
  · have := List.all_eq_true.mp h3 d hd
    rw [Bool.and_eq_true, decide_eq_true_eq] at this
    exact this.2
  · have := List.all_eq_true.mp h3 d hd
    rw [Bool.and_eq_true] at this
    exact this.1
theorem soS_ok {ds : List D} (h : soS ds = true) : SortOk ds := by
  cases ds with
  | nil => exact so_sh .int fun _ z => nomatch z
  | cons d ds =>
    rw [soS] at h
    cases e : shOf d with
    | some s =>
      rw [e] at h
      simp only at h
      rw [Bool.and_eq_true, Bool.and_eq_true, decide_eq_true_eq] at h
      exact so_sh s (List.all_eq_true.mp h.1) h.2.1 h.2.2
    | none => rw [e] at h; cases h
theorem soB_ok {ds : List D} (h : soB ds = true) : SortOk ds := by
  unfold soB at h
  rw [Bool.or_eq_true] at h
  exact h.elim soS_ok soG_ok
theorem allI_inv : ∀ {ds : List D} {l : List Int}, allI ds = some l → ds = l.map .int
  | [], _, h => by cases h; rfl
  | d :: ds, _, h => by
    unfold allI at h
    split at h
    · rename_i e; cases e
    · rename_i s ds' e
      cases e
      obtain ⟨r, h1, h2⟩ := bnd_inv h
      cases h2
      rw [List.map_cons, ← allI_inv h1]
    · cases h
theorem ca_max1 (hc : X.calm = true := by rfl) : CaF X (.builtin "max") maxD1 := fun x d h => by
  unfold maxD1 at h
  split at h
  · obtain ⟨l, h1, h2⟩ := bnd_inv h
    rw [allI_inv h1]
    cases l with
    | nil => cases h2
    | cons m r => cases h2; exact ⟨_, c_maxL hc, .val⟩
  · cases h
theorem allStr_inv : ∀ {ds : List D} {l : List Str}, allStr ds = some l → ds = l.map .str
  | [], _, h => by cases h; rfl
  | d :: ds, _, h => by
    unfold allStr at h
    split at h
    · rename_i e; cases e
    · rename_i s ds' e
      cases e
      obtain ⟨r, h1, h2⟩ := bnd_inv h
      cases h2
      rw [List.map_cons, ← allStr_inv h1]
    · cases h
theorem allB_inv : ∀ {ds : List D} {l : List Bool}, allB ds = some l → ds = l.map .bool
  | [], _, h => by cases h; rfl
  | d :: ds, _, h => by
    unfold allB at h
    split at h
    · rename_i e; cases e
    · rename_i s ds' e
      cases e
      obtain ⟨r, h1, h2⟩ := bnd_inv h
      cases h2
      rw [List.map_cons, ← allB_inv h1]
    · cases h
theorem cn_sort (r : Ru X) (hc : X.calm = true := by rfl) : CnF X (.builtin "sorted") sortN := fun x d h => by
  unfold sortN at h
  split at h
  · split at h
    · cases h; exact c_sorted (by have : _ + 65 < _ := r; omega) (soB_ok (by assumption))
    · cases h
  · split at h
    · cases h; exact c_sortedT (by have : _ + 65 < _ := r; omega) (soB_ok (by assumption))
    · cases h
  · obtain ⟨ks, h1, h2⟩ := bnd_inv h
    split at h2
    · cases h2; exact c_sortedD (allStr_inv h1) (by assumption) hc
    · cases h2
  · cases h
theorem ca_int : CaF X (.type "int") intD := fun x d h => by
  unfold intD at h
  split at h
  · cases h; exact ⟨_, c_int, .val⟩
  · cases h; exact ⟨_, c_intB, .val⟩
  · cases h
theorem ca_all (hc : X.calm = true := by rfl) : CaF X (.builtin "all") allD := fun x d h => by
  unfold allD at h
  split at h
  · obtain ⟨l, h1, h2⟩ := bnd_inv h
    cases h2
    rw [allB_inv h1]
    exact ⟨_, c_all hc, .val⟩
  · cases h
theorem cb_min (hc : X.calm = true := by rfl) : ∀ x y d, minD x y = some d → CallV X (.builtin "min") [x, y] (.val d) := fun x y d h => by
  unfold minD at h
  split at h
  · cases h; exact c_min hc
  · cases h
theorem cb_max (hc : X.calm = true := by rfl) : ∀ x y d, maxD x y = some d → CallV X (.builtin "max") [x, y] (.val d) := fun x y d h => by
  unfold maxD at h
  split at h
  · cases h; exact c_max hc
  · cases h
/-! ### places, cuts -/
theorem eo_ix {pos : Pos} (r : Ru X) (ha : Eu X a ρ f) (hb : Eo X b ρ g) (hs : PlainIx b := by exact fun _ _ => rfl) (hn : NoSl b := by exact fun _ _ => rfl) : Eo X (.Subscript a b pos) ρ (op2 ixD f g) := fun d q => by
  obtain ⟨x, y, h1, h2, h3⟩ := op2_inv q
  have ea := ha x h1
  have eb := hb y h2
  unfold ixD at h3
  split at h3
  · exact ev_ix (ix_tupD h3) ea eb.q hs
  · exact ev_ix (ix_lstD h3) ea eb.q hs
  · obtain ⟨kk, h4, h5⟩ := bnd_inv h3
    rw [kd_eq h4] at eb
    exact ev_dget (by have : _ + 65 < _ := r; omega) ea eb h5 hn
  · split at h3
    · obtain ⟨cc, h4, h5⟩ := bnd_inv h3
      cases h5
      exact ev_ix (ix_strD (by assumption) h4) ea eb.q hs
    · cases h3
  · cases h3
theorem eo_get {apos cpos : Pos} (r : Ru X) (ha : Eu X a ρ f) (hb : Eo X b ρ g) (hc : Eo X c ρ h) (m : M2 X a "get" apos b c cpos := by exact ⟨rfl, rfl, rfl, rfl⟩) : Eo X (.Call (.Attribute a "get" apos) [b, c] [] cpos) ρ (op3 getD3 f g h) := fun d q => by
  obtain ⟨x, q1, q⟩ := bnd_inv q
  obtain ⟨y, z, q2, q3, q⟩ := op2_inv (f := g) (g := h) (F := fun y z => getD3 x y z) q
  have ea := ha x q1
  have eb := hb y q2
  have ec := hc z q3
  unfold getD3 at q
  split at q
  · obtain ⟨kk, h4, h5⟩ := bnd_inv q
    rw [kd_eq h4] at eb
    cases h5
    exact ev_dgetx (by have : _ + 65 < _ := r; omega) ea eb ec m
  · cases q
def Po (X : Cx) (e : Option Expr) (ρ : Rho) (f : Option (Option Int)) : Prop := ∀ o, f = some o → EvP X e ρ o
theorem po_n : Po X none ρ (some none) := fun o q => by cases q; exact ep_none
theorem po_s (h : Eo X e ρ f) : Po X (some e) ρ (slP f) := fun o q => by
  obtain ⟨i, h1, h2⟩ := bnd_inv q
  cases h2
  obtain ⟨x, h3, h4⟩ := bnd_inv h1
  unfold toI at h4
  split at h4
  · cases h4; exact ep_some (h _ h3)
  · cases h4
theorem op3s_inv {α : Type} {F : D → Option Int → Option Int → Option α} {lo hi : Option (Option Int)} {r : α} (q : op3s F f lo hi = some r) : ∃ x l u, f = some x ∧ lo = some l ∧ hi = some u ∧ F x l u = some r := by
  obtain ⟨x, h1, q⟩ := bnd_inv q
  obtain ⟨l, h2, q⟩ := bnd_inv q
  obtain ⟨u, h3, q⟩ := bnd_inv q
  exact ⟨x, l, u, h1, h2, h3, q⟩
theorem eo_cut {pos p2 : Pos} {lo hi : Option Expr} {l u : Option (Option Int)} (ha : Eu X a ρ f) (hl : Po X lo ρ l) (hh : Po X hi ρ u) : Eo X (.Subscript a (.Slice lo hi none p2) pos) ρ (op3s cutF f l u) := fun d q => by
  obtain ⟨x, l', u', h1, h2, h3, h4⟩ := op3s_inv q
  have ea := ha x h1
  unfold cutF at h4
  split at h4
  · cases h4; exact ev_sl s_tup ea (hl _ h2) (hh _ h3)
  · cases h4; exact (ev_sl s_lst ea (hl _ h2) (hh _ h3)).fz
  · cases h4
theorem en_cut {pos p2 : Pos} {lo hi : Option Expr} {l u : Option (Option Int)} (ha : Eu X a ρ f) (hl : Po X lo ρ l) (hh : Po X hi ρ u) : En X (.Subscript a (.Slice lo hi none p2) pos) ρ (op3s cutN f l u) := fun d q => by
  obtain ⟨x, l', u', h1, h2, h3, h4⟩ := op3s_inv q
  have ea := ha x h1
  unfold cutN at h4
  split at h4
  · cases h4; exact ev_sl s_lst ea (hl _ h2) (hh _ h3)
  · cases h4
theorem eo_rev {k : Nat} {p1 p2 p3 pos : Pos} (ha : Eu X a ρ f) : Eo X (.Subscript a (.Slice none none (some (.UnaryOp .USub (.Constant (.int 1) k p1) p2)) p3) pos) ρ (op1 revD f) := fun d q => by
  obtain ⟨x, h1, h2⟩ := bnd_inv q
  have ea := ha x h1
  unfold revD at h2
  split at h2
  · cases h2; exact ev_revT ea
  · cases h2; exact (ev_revL ea).fz
  · cases h2
theorem ed_new {pos : Pos} : Ed X (.Dict [] [] pos) ρ (some []) := fun d q => by cases q; exact ev_dnew
/-! ### walks -/
theorem io_v {tg it : Expr} (h : Eo X it ρ f) : Io X tg it ρ false (op1 itD f) := fun d q => by
  obtain ⟨x, h1, h2⟩ := bnd_inv q
  have e := h x h1
  unfold itD at h2
  split at h2
  · cases h2; exact ei_lst e
  · cases h2; exact ei_tup e
  · cases h2; exact ei_keys e
  · split at h2
    · cases h2; exact ei_str e (by assumption)
    · cases h2
  · cases h2
def itL : D → Option (List D)
  | .list ds => some ds
  | _ => none
@[simp] theorem itL_eq (ds : List D) : itL (.list ds) = some ds := rfl
/-- a list of one's own, in a comprehension -/
theorem iq_own {tg it : Expr} (h : Eu X it ρ f) : Iq X tg it ρ false (op1 itL f) := fun d q => by
  obtain ⟨x, h1, h2⟩ := bnd_inv q
  have e := h x h1
  unfold itL at h2
  split at h2
  · cases h2; exact ei_own e
  · cases h2
theorem io_range {tg : Expr} {p pos : Pos} (hm : Nb X.mg "range" (.type "range")) (h : Eo X a ρ f) (hg : Gl X "range" := by rfl) (hs : starEach [a] X.env = [(false, eval a X.env)] := by rfl) : Io X tg (.Call (.Name "range" p) [a] [] pos) ρ false (op1 rangeI f) := fun d q => by
  obtain ⟨x, h1, h2⟩ := bnd_inv q
  have e := h x h1
  unfold rangeI at h2
  split at h2
  · split at h2
    · cases h2; exact ei_range hm.h e (by assumption) hg hs
    · cases h2
  · cases h2
theorem io_range2 {tg : Expr} {p pos : Pos} (hm : Nb X.mg "range" (.type "range")) (h : Eo X a ρ f) (h' : Eo X b ρ g) (hg : Gl X "range" := by rfl) (hs : starEach [a, b] X.env = [(false, eval a X.env), (false, eval b X.env)] := by rfl) (hs2 : starEach [b] X.env = [(false, eval b X.env)] := by rfl) : Io X tg (.Call (.Name "range" p) [a, b] [] pos) ρ false (op2 rangeI2 f g) := fun d q => by
  obtain ⟨x, y, h1, h2, h3⟩ := op2_inv q
  have e := h x h1
  have e' := h' y h2
  unfold rangeI2 at h3
  split at h3
  · split at h3
    · cases h3; exact ei_range2 hm.h e e' (by assumption) hg hs hs2
    · cases h3
  · cases h3
theorem io_enum {p pos tpos : Pos} {elts : List Expr} {kk : Nat} (hm : Nb X.mg "enumerate" (.type "enumerate")) (h : Eo X a ρ f) (hg : Gl X "enumerate" := by rfl) (hs : starEach [a] X.env = [(false, eval a X.env)] := by rfl) : Io X (.Tuple elts kk tpos) (.Call (.Name "enumerate" p) [a] [] pos) ρ true (op1 enumI f) := fun d q => by
  obtain ⟨x, h1, h2⟩ := bnd_inv q
  have e := h x h1
  unfold enumI at h2
  split at h2
  · cases h2; exact ei_enumT hm.h e hg hs
  · cases h2
theorem io_zip {p pos tpos : Pos} {elts : List Expr} {kk : Nat} (hm : Nb X.mg "zip" (.type "zip")) (h : Eo X a ρ f) (h' : Eo X b ρ g) (hg : Gl X "zip" := by rfl) (hs : starEach [a, b] X.env = (false, eval a X.env) :: starEach [b] X.env := by rfl) (hs2 : starEach [b] X.env = (false, eval b X.env) :: starEach [] X.env := by rfl) (hpl : (backTo pos (starEach [b] X.env)).any (·.1) = false := by rfl) : Io X (.Tuple elts kk tpos) (.Call (.Name "zip" p) [a, b] [] pos) ρ true (op2 zipI f g) := fun d q => by
  obtain ⟨x, y, h1, h2, h3⟩ := op2_inv q
  have e := h x h1
  have e' := h' y h2
  unfold zipI at h3
  split at h3
  · split at h3
    · cases h3; exact ei_zipT hm.h e e' (by assumption) hg hs hs2 hpl
    · cases h3
  · cases h3
/-! ### targets -/
def Tg (X : Cx) {α : Type} (yl : Bool) (tg : Expr) (ρ : Rho) (dec : D → Option α) (ρ2 : α → Rho) (is : List Nat) : Prop := ∀ x v, dec x = some v → EvG X yl tg ρ x (ρ2 v) is
section
variable {s1 s2 s3 s4 s5 : String} {i1 i2 i3 i4 i5 : Nat} {p1 p2 p3 p4 p5 pt : Pos} {n : Nat} {yl : Bool}
structure Tn (X : Cx) (s : String) (i : Nat) : Prop where
  sl : Sl X.N s i
  nd : X.N.Nodup
  hx : Loc X.env.scope (Str.ofString s)
  hf : X.fn (Str.ofString s) = true ∨ X.env.scope.names.lookup (Str.ofString s) = some .local
theorem Tn.mk' {s : String} {i : Nat} (sl : Sl X.N s i) (nd : X.N.Nodup) (hx : Loc X.env.scope (Str.ofString s) := by first | exact Or.inl rfl | exact Or.inr rfl) (hf : X.fn (Str.ofString s) = true ∨ X.env.scope.names.lookup (Str.ofString s) = some .local := by first | exact Or.inl rfl | exact Or.inr rfl) : Tn X s i := ⟨sl, nd, hx, hf⟩
theorem Tn.ev {s : String} {i : Nat} {p : Pos} {d : D} (h : Tn X s i) : EvG X false (.Name (Str.ofString s) p) ρ d (ρ.set i (.val d)) [i] := eg_vn h.sl h.nd h.hx h.hf
theorem tg_1 (h1 : Tn X s1 i1) : Tg X false (.Name (Str.ofString s1) p1) ρ dec1 (fun v => ρ.set i1 (.val v)) [i1] := fun x v h => by rw [dec1_inv h]; exact h1.ev
theorem tg_2 (h1 : Tn X s1 i1) (h2 : Tn X s2 i2) (hc : X.calm = true := by rfl) : Tg X yl (.Tuple [.Name (Str.ofString s1) p1, .Name (Str.ofString s2) p2] n pt) ρ dec2 (fun v => (ρ.set i1 (.val v.1)).set i2 (.val v.2)) [i1, i2] := fun x v h => by
  rw [dec2_inv h]; exact eg_tup (egs_cons h1.ev (egs_cons h2.ev egs_nil)) rfl rfl hc
theorem tg_3 (h1 : Tn X s1 i1) (h2 : Tn X s2 i2) (h3 : Tn X s3 i3) (hc : X.calm = true := by rfl) : Tg X yl (.Tuple [.Name (Str.ofString s1) p1, .Name (Str.ofString s2) p2, .Name (Str.ofString s3) p3] n pt) ρ dec3 (fun v => ((ρ.set i1 (.val v.1)).set i2 (.val v.2.1)).set i3 (.val v.2.2)) [i1, i2, i3] := fun x v h => by
  rw [dec3_inv h]; exact eg_tup (egs_cons h1.ev (egs_cons h2.ev (egs_cons h3.ev egs_nil))) rfl rfl hc
theorem tg_4 (h1 : Tn X s1 i1) (h2 : Tn X s2 i2) (h3 : Tn X s3 i3) (h4 : Tn X s4 i4) (hc : X.calm = true := by rfl) : Tg X yl (.Tuple [.Name (Str.ofString s1) p1, .Name (Str.ofString s2) p2, .Name (Str.ofString s3) p3, .Name (Str.ofString s4) p4] n pt) ρ dec4 (fun v => (((ρ.set i1 (.val v.1)).set i2 (.val v.2.1)).set i3 (.val v.2.2.1)).set i4 (.val v.2.2.2)) [i1, i2, i3, i4] := fun x v h => by
  rw [dec4_inv h]; exact eg_tup (egs_cons h1.ev (egs_cons h2.ev (egs_cons h3.ev (egs_cons h4.ev egs_nil)))) rfl rfl hc
theorem tg_5 (h1 : Tn X s1 i1) (h2 : Tn X s2 i2) (h3 : Tn X s3 i3) (h4 : Tn X s4 i4) (h5 : Tn X s5 i5) (hc : X.calm = true := by rfl) : Tg X yl (.Tuple [.Name (Str.ofString s1) p1, .Name (Str.ofString s2) p2, .Name (Str.ofString s3) p3, .Name (Str.ofString s4) p4, .Name (Str.ofString s5) p5] n pt) ρ dec5 (fun v => ((((ρ.set i1 (.val v.1)).set i2 (.val v.2.1)).set i3 (.val v.2.2.1)).set i4 (.val v.2.2.2.1)).set i5 (.val v.2.2.2.2)) [i1, i2, i3, i4, i5] := fun x v h => by
  rw [dec5_inv h]; exact eg_tup (egs_cons h1.ev (egs_cons h2.ev (egs_cons h3.ev (egs_cons h4.ev (egs_cons h5.ev egs_nil))))) rfl rfl hc
end
/-! ### comprehensions -/
theorem ts_nil : Tso X [] ρ (some true) := fun d q => by cases q; exact ets_nil
theorem ts_one (h : Et X e ρ s) : Tso X [e] ρ s := fun d q => ets_one (h d q)
theorem lcL_inv {F : D → Option (Option D)} : ∀ {xs r : List D}, lcL F xs = some r → (∀ x ∈ xs, ∃ o, F x = some o) ∧ r = xs.filterMap fun x => (F x).getD none
  | [], _, h => by cases h; exact ⟨(fun _ z => nomatch z), rfl⟩
  | x :: xs, _, h => by
    obtain ⟨o, h1, h⟩ := bnd_inv h
    obtain ⟨r, h2, h⟩ := bnd_inv h
    cases h
    obtain ⟨i1, i2⟩ := lcL_inv h2
    refine ⟨fun y hy => ?_, ?_⟩
    · rcases List.mem_cons.mp hy with rfl | hy
      · exact ⟨o, h1⟩
      · exact i1 y hy
    · rw [List.filterMap_cons, h1, i2]
      cases o <;> rfl
theorem fm_split {α β : Type} (F : α → Option β) (d0 : β) : ∀ (l : List α), l.filterMap F = (l.filter fun x => (F x).isSome).map fun x => (F x).getD d0
  | [] => rfl
  | a :: l => by
    rw [List.filterMap_cons, List.filter_cons]
    cases h : F a with
    | none => simp only [Option.isSome_none, Bool.false_eq_true, if_false]; exact fm_split F d0 l
    | some b => simp only [Option.isSome_some, if_true, List.map_cons, h, Option.getD_some]; rw [fm_split F d0 l]
theorem keepE_inv {e : Option D} {o : Option D} (h : keepE s e = some o) : ∃ t, s = some t ∧ (t = true → e = o) ∧ o.isSome = t := by
  obtain ⟨t, h1, h2⟩ := bnd_inv h
  cases t with
  | false => cases h2; exact ⟨false, h1, (fun e => nomatch e), rfl⟩
  | true =>
    obtain ⟨d, h3, h4⟩ := bnd_inv h2
    cases h4
    exact ⟨true, h1, fun _ => h3, rfl⟩
section
variable {α : Type} {elt tg iter : Expr} {ifs : List Expr} {scope : Scope} {pos spos py : Pos} {yl : Bool} {it : Option (List D)} {dec : D → Option α} {ρ2 : α → Rho} {T : α → Option Bool} {E : α → Option D} {is : List Nat}
theorem lc_parts {xs r : List D} (h2 : lcL (fun x => bnd (dec x) fun v => keepE (T v) (E v)) xs = some r) : (∀ x ∈ xs, ∃ v o, dec x = some v ∧ keepE (T v) (E v) = some o) ∧ r = (xs.filter fun x => ((bnd (dec x) fun v => keepE (T v) (E v)).getD none).isSome).map fun x => ((bnd (dec x) fun v => keepE (T v) (E v)).getD none).getD .none := by
  obtain ⟨i1, i2⟩ := lcL_inv h2
  refine ⟨fun x hx => ?_, ?_⟩
  · obtain ⟨o, h⟩ := i1 x hx
    obtain ⟨v, h3, h4⟩ := bnd_inv h
    exact ⟨v, o, h3, h4⟩
  · rw [i2]; exact fm_split _ PyData.none _
theorem lc_r2 (dec : D → Option α) (ρ2 : α → Rho) : ∃ ρ' : D → Rho, ∀ x v, dec x = some v → ρ' x = ρ2 v :=
  ⟨fun x => match dec x with | some v => ρ2 v | none => [], fun x v h => by simp only [h]⟩
theorem en_lc (hN : X.N.Nodup) (ok : blkC X.N X.env.scope scope (ownOf X.N scope) = true)
    (hi : Iq X tg iter ρ yl it) (hg : Blk X scope fun Y => Tg Y yl tg (wipeB ρ ((ownOf X.N scope).map (·.2))) dec ρ2 is)
    (ht : ∀ v, Blk X scope fun Y => Tso Y ifs (ρ2 v) (T v)) (he : ∀ v, Blk X scope fun Y => Eo Y elt (ρ2 v) (E v))
    (hw : (is.all fun i => ((ownOf X.N scope).map (·.2)).contains i) = true) (hc : X.calm = true := by rfl) (hs : ∀ x, foldedSetIterable iter X.env x = pure x := by intro _; rfl) :
    En X (.ListComp elt [⟨tg, iter, ifs, 0⟩] scope pos) ρ (lcD it fun x => bnd (dec x) fun v => keepE (T v) (E v)) := fun r q => by
  obtain ⟨xs, h1, h2⟩ := bnd_inv q
  obtain ⟨i1, rfl⟩ := lc_parts h2
  obtain ⟨ρ', hρ⟩ := lc_r2 dec ρ2
  refine ev_lcA (en := fun x => x) (ps := xs) (ρ' := ρ') hN ok (by rw [List.map_id']; exact hi xs h1) (fun x hx s H C cl fp => ?_) (fun x hx s H C cl fp => ?_) (fun x hx hk s H C cl fp => ?_) hw hc hs
  · obtain ⟨v, o, h3, h4⟩ := i1 x hx
    rw [hρ x v h3]
    exact hg s H C cl fp x v h3
  · obtain ⟨v, o, h3, h4⟩ := i1 x hx
    rw [hρ x v h3, h3, bnd_some, h4]
    obtain ⟨t, z1, z2, z3⟩ := keepE_inv h4
    show EvTs _ ifs (ρ2 v) o.isSome
    rw [z3]
    exact ht v s H C cl fp t z1
  · obtain ⟨v, o, h3, h4⟩ := i1 x hx
    rw [h3, bnd_some, h4] at hk
    rw [hρ x v h3, h3, bnd_some, h4]
    obtain ⟨t, z1, z2, z3⟩ := keepE_inv h4
    have ht : t = true := by rw [← z3]; exact hk
    have e := z2 ht
    cases o with
    | none => cases hk
    | some d => exact he v s H C cl fp d e
end
end
end DL


/-! The rules of statements. -/
namespace DL
open PySem PySem.Spec PyProof.Rows L2
/-- a block comes to what f says -/
def So {R : Type} (X : Cx) (sts : List Stmt) (ρ : Rho) (Φ : R → DL.Fin) (f : Option R) : Prop := ∀ r, f = some r → Sxs X sts ρ (Φ r)
def FnΦ : D → DL.Fin := fun d => { nx := fun _ => d = .none, rt := fun r _ => r = d }
def NoΦ {R : Type} (Φ : R → DL.Fin) : R → DL.Fin := fun r => { Φ r with nx := fun _ => False }
def JΦ {J R : Type} (Φ : R → DL.Fin) (enc : J → Rho) : Nx J R → DL.Fin
  | .nx j => { nx := fun ρ => Le ρ (enc j), rt := fun _ _ => False }
  | .rt r => { Φ r with nx := fun _ => False }
def LΦ {S R : Type} (Φ : R → DL.Fin) (enc : S → Rho) : Lp S R → DL.Fin
  | .go s => { nx := fun ρ => Le ρ (enc s), rt := fun _ _ => False, ct := fun ρ => Le ρ (enc s) }
  | .brk s => { nx := fun _ => False, rt := fun _ _ => False, bk := fun ρ => Le ρ (enc s) }
  | .out r => { nx := fun _ => False, rt := (Φ r).rt, ro := (Φ r).ro, ex := (Φ r).ex }
section
variable {R S J α : Type} {X : Cx} {ρ : Rho} {Φ : R → DL.Fin} {e a b c : Expr} {st : Stmt} {rest : List Stmt} {pos : Pos} {f : Option D}
theorem Le.trans {ρ1 ρ2 ρ3 : Rho} (h : Le ρ1 ρ2) (k : Le ρ2 ρ3) : Le ρ1 ρ3 := ⟨k.1.trans h.1, fun i b e n => h.2 i b (k.2 i b e n) n⟩
theorem Sx.cast {Φ Ψ : DL.Fin} (h : Sx X st ρ Ψ) (n : ∀ ρ, Ψ.nx ρ → Φ.nx ρ) (r : ∀ d ρ, Ψ.rt d ρ → Φ.rt d ρ) (bk : ∀ ρ, Ψ.bk ρ → Φ.bk ρ) (ct : ∀ ρ, Ψ.ct ρ → Φ.ct ρ) (ro : ∀ q ρ, Ψ.ro q ρ → Φ.ro q ρ) (ex : ∀ W, Ψ.ex = some W → Φ.ex = some W) : Sx X st ρ Φ := h.imp n r bk ct ro ex
theorem so_nil {r : R} (h : (Φ r).nx ρ) : So X [] ρ Φ (some r) := fun r' q => by cases q; exact xs_nil h
theorem so_pass {r : Option R} (h : So X rest ρ Φ r) : So X (.Pass pos :: rest) ρ Φ r := fun r' q => xs_cons (sx_pass (h r' q))
theorem so_brk {r : R} (h : (Φ r).bk ρ) : So X [.Break pos] ρ Φ (some r) := fun r' q => by cases q; exact xs_one (sx_break h)
theorem so_cont {r : R} (h : (Φ r).ct ρ) : So X [.Continue pos] ρ Φ (some r) := fun r' q => by cases q; exact xs_one (sx_cont h)
theorem so_ret (w : D → R) (he : Eo X e ρ f) (hw : ∀ d ρ', (Φ (w d)).rt d ρ' := by intro _ _; rfl) : So X [.Return (some e) pos] ρ Φ (bnd f fun d => some (w d)) := fun r q => by
  obtain ⟨d, h1, h2⟩ := bnd_inv q
  cases h2
  exact xs_one (sx_ret (he d h1) (hw d _))
theorem so_retOwn (w : D → R) (i : Nat) {x : String} {p : Pos} {ds : List D} (hs : Sl X.N x i) (hi : ρ[i]? = some (.own ds) := by rfl) (hv : Vis X.env.scope (Str.ofString x) := by first | exact Or.inl rfl | exact Or.inr (Or.inl rfl) | exact Or.inr (Or.inr rfl)) (hw : ∀ d ρ', (Φ (w d)).rt d ρ' := by intro _ _; rfl) : So X [.Return (some (.Name (Str.ofString x) p)) pos] ρ Φ (some (w (.list ds))) := fun r q => by
  cases q
  exact xs_one (sx_retOwn i hi (hw _ _) hs.h hv hs.d hs.c)
theorem so_retDic (w : D → R) (i : Nat) {x : String} {p : Pos} {ds : List (D × D)} (hs : Sl X.N x i) (hi : ρ[i]? = some (.dic ds) := by rfl) (hv : Vis X.env.scope (Str.ofString x) := by first | exact Or.inl rfl | exact Or.inr (Or.inl rfl) | exact Or.inr (Or.inr rfl)) (hw : ∀ d ρ', (Φ (w d)).rt d ρ' := by intro _ _; rfl) : So X [.Return (some (.Name (Str.ofString x) p)) pos] ρ Φ (some (w (.dict ds))) := fun r q => by
  cases q
  exact xs_one (sx_retDic i hi (hw _ _) hs.h hv hs.d hs.c)
/-! ### name = value -/
theorem so_set (i : Nat) {x : Str} {pos' : Pos} {G : D → Option R} (hN : X.N.Nodup) (he : Eo X e ρ f) (h : ∀ d, So X rest (ρ.set i (.val d)) Φ (G d)) (hi : X.N[i]? = some x := by rfl) (hx : Loc X.env.scope x := by first | exact Or.inl rfl | exact Or.inr rfl) (hs : swapsWith e (some (.Name x pos')) pos.line X.env = pure false := by rfl) (hf : X.fn x = true ∨ X.env.scope.names.lookup x = some .local := by first | exact .inl rfl | exact .inr rfl | assumption) :
    So X (.Assign [.Name x pos'] e pos :: rest) ρ Φ (bnd f G) := fun r q => by
  obtain ⟨d, h1, h2⟩ := bnd_inv q
  exact xs_cons (sx_set i hN (he d h1) (h d r h2) hi hx hs hf)
theorem so_new (i : Nat) {x : Str} {pos' : Pos} {f : Option (List D)} {G : List D → Option R} (hN : X.N.Nodup) (he : En X e ρ f) (h : ∀ d, So X rest (ρ.set i (.own d)) Φ (G d)) (hi : X.N[i]? = some x := by rfl) (hx : Loc X.env.scope x := by first | exact Or.inl rfl | exact Or.inr rfl) (hs : swapsWith e (some (.Name x pos')) pos.line X.env = pure false := by rfl) (hf : X.fn x = true ∨ X.env.scope.names.lookup x = some .local := by first | exact .inl rfl | exact .inr rfl | assumption) :
    So X (.Assign [.Name x pos'] e pos :: rest) ρ Φ (bnd f G) := fun r q => by
  obtain ⟨d, h1, h2⟩ := bnd_inv q
  exact xs_cons (sx_new i hN (he d h1) (h d r h2) hi hx hs hf)
theorem so_newD (i : Nat) {x : Str} {pos' : Pos} {f : Option (List (D × D))} {G : List (D × D) → Option R} (hN : X.N.Nodup) (he : Ed X e ρ f) (h : ∀ d, So X rest (ρ.set i (.dic d)) Φ (G d)) (hi : X.N[i]? = some x := by rfl) (hx : Loc X.env.scope x := by first | exact Or.inl rfl | exact Or.inr rfl) (hs : swapsWith e (some (.Name x pos')) pos.line X.env = pure false := by rfl) (hf : X.fn x = true ∨ X.env.scope.names.lookup x = some .local := by first | exact .inl rfl | exact .inr rfl | assumption) :
    So X (.Assign [.Name x pos'] e pos :: rest) ρ Φ (bnd f G) := fun r q => by
  obtain ⟨d, h1, h2⟩ := bnd_inv q
  exact xs_cons (sx_newD i hN (he d h1) (h d r h2) hi hx hs hf)
section
variable {elt tg iter : Expr} {ifs : List Expr} {scope : Scope} {spos py : Pos} {yl : Bool} {it : Option (List D)} {dec : D → Option α} {ρ2 : α → Rho} {T : α → Option Bool} {E : α → Option D} {is : List Nat}
/-- name = [..], the stores exchanged -/
theorem so_lc (i : Nat) {y : Str} {G : D → Option R} (hN : X.N.Nodup) (ok : blkC X.N X.env.scope scope (ownOf X.N scope) = true)
    (hi : Iq X tg iter ρ yl it) (hg : Blk X scope fun Y => Tg Y yl tg (wipeB ρ ((ownOf X.N scope).map (·.2))) dec ρ2 is)
    (ht : ∀ v, Blk X scope fun Y => Tso Y ifs (ρ2 v) (T v)) (he : ∀ v, Blk X scope fun Y => Eo Y elt (ρ2 v) (E v))
    (hw : (is.all fun i => ((ownOf X.N scope).map (·.2)).contains i) = true) (hsw : swapsWith (.ListComp elt [⟨tg, iter, ifs, 0⟩] scope pos) (some (.Name y py)) spos.line X.env = pure true)
    (h : ∀ d, So X rest (ρ.set i (.val d)) Φ (G d))
    (hy : X.N[i]? = some y := by rfl) (hyl : X.env.scope.names.lookup y = some .local := by rfl) (hc : X.calm = true := by rfl) (hs : ∀ x, foldedSetIterable iter X.env x = pure x := by intro _; rfl) :
    So X (.Assign [.Name y py] (.ListComp elt [⟨tg, iter, ifs, 0⟩] scope pos) spos :: rest) ρ Φ (bnd (lsV (lcD it fun x => bnd (dec x) fun v => keepE (T v) (E v))) G) := fun r q => by
  obtain ⟨d, q1, q2⟩ := bnd_inv q
  obtain ⟨ds, q3, q4⟩ := bnd_inv q1
  cases q4
  obtain ⟨xs, h1, h2⟩ := bnd_inv q3
  obtain ⟨i1, rfl⟩ := lc_parts h2
  obtain ⟨ρ', hρ⟩ := lc_r2 dec ρ2
  refine xs_cons (sx_setLcA i (en := fun x => x) (ps := xs) (ρ' := ρ') hN ok (by rw [List.map_id']; exact hi xs h1) (fun x hx s H C cl fp => ?_) (fun x hx s H C cl fp => ?_) (fun x hx hk s H C cl fp => ?_) hw hsw (h _ r q2) hy hyl hc hs)
  · obtain ⟨v, o, h3, h4⟩ := i1 x hx
    rw [hρ x v h3]
    exact hg s H C cl fp x v h3
  · obtain ⟨v, o, h3, h4⟩ := i1 x hx
    rw [hρ x v h3, h3, bnd_some, h4]
    obtain ⟨t, z1, z2, z3⟩ := keepE_inv h4
    show EvTs _ ifs (ρ2 v) o.isSome
    rw [z3]
    exact ht v s H C cl fp t z1
  · obtain ⟨v, o, h3, h4⟩ := i1 x hx
    rw [h3, bnd_some, h4] at hk
    rw [hρ x v h3, h3, bnd_some, h4]
    obtain ⟨t, z1, z2, z3⟩ := keepE_inv h4
    have ht : t = true := by rw [← z3]; exact hk
    have e := z2 ht
    cases o with
    | none => cases hk
    | some d => exact he v s H C cl fp d e
theorem so_lcN (i : Nat) {y : Str} {G : List D → Option R} (hN : X.N.Nodup) (ok : blkC X.N X.env.scope scope (ownOf X.N scope) = true)
    (hi : Iq X tg iter ρ yl it) (hg : Blk X scope fun Y => Tg Y yl tg (wipeB ρ ((ownOf X.N scope).map (·.2))) dec ρ2 is)
    (ht : ∀ v, Blk X scope fun Y => Tso Y ifs (ρ2 v) (T v)) (he : ∀ v, Blk X scope fun Y => Eo Y elt (ρ2 v) (E v))
    (hw : (is.all fun i => ((ownOf X.N scope).map (·.2)).contains i) = true) (hsw : swapsWith (.ListComp elt [⟨tg, iter, ifs, 0⟩] scope pos) (some (.Name y py)) spos.line X.env = pure true)
    (h : ∀ d, So X rest (ρ.set i (.own d)) Φ (G d))
    (hy : X.N[i]? = some y := by rfl) (hyl : X.env.scope.names.lookup y = some .local := by rfl) (hc : X.calm = true := by rfl) (hs : ∀ x, foldedSetIterable iter X.env x = pure x := by intro _; rfl) :
    So X (.Assign [.Name y py] (.ListComp elt [⟨tg, iter, ifs, 0⟩] scope pos) spos :: rest) ρ Φ (bnd (lcD it fun x => bnd (dec x) fun v => keepE (T v) (E v)) G) := fun r q => by
  obtain ⟨ds, q3, q2⟩ := bnd_inv q
  obtain ⟨xs, h1, h2⟩ := bnd_inv q3
  obtain ⟨i1, rfl⟩ := lc_parts h2
  obtain ⟨ρ', hρ⟩ := lc_r2 dec ρ2
  refine xs_cons (sx_newLc i (en := fun x => x) (ps := xs) (ρ' := ρ') hN (blkOk_by ok) hsw (by rw [List.map_id']; exact hi xs h1) (fun x hx s H C cl fp => ?_) (fun x hx s H C cl fp => ?_) (fun x hx hk s H C cl fp => ?_) (h _ r q2) (fun i h => by simpa using List.all_eq_true.mp hw i h) hy hyl hc hs)
  · obtain ⟨v, o, h3, h4⟩ := i1 x hx
    rw [hρ x v h3]
    exact hg s H C cl fp x v h3
  · obtain ⟨v, o, h3, h4⟩ := i1 x hx
    rw [hρ x v h3, h3, bnd_some, h4]
    obtain ⟨t, z1, z2, z3⟩ := keepE_inv h4
    show EvTs _ ifs (ρ2 v) o.isSome
    rw [z3]
    exact ht v s H C cl fp t z1
  · obtain ⟨v, o, h3, h4⟩ := i1 x hx
    rw [h3, bnd_some, h4] at hk
    rw [hρ x v h3, h3, bnd_some, h4]
    obtain ⟨t, z1, z2, z3⟩ := keepE_inv h4
    have ht : t = true := by rw [← z3]; exact hk
    have e := z2 ht
    cases o with
    | none => cases hk
    | some d => exact he v s H C cl fp d e
end
theorem so_move (i j : Nat) {x : Str} {y : String} {pos' p : Pos} {ds : List D} {G : Option R} (hN : X.N.Nodup) (hs : Sl X.N y j) (hj : ρ[j]? = some (.own ds)) (hv : Vis X.env.scope (Str.ofString y)) (h : So X rest ((ρ.set j (.val (.list ds))).set i (.val (.list ds))) Φ G) (hi : X.N[i]? = some x := by rfl) (hx : Loc X.env.scope x := by first | exact Or.inl rfl | exact Or.inr rfl)
    (hsw : swapsWith (.Name (Str.ofString y) p) (some (.Name x pos')) pos.line X.env = pure false := by rfl) (hf : X.fn x = true ∨ X.env.scope.names.lookup x = some .local := by first | exact .inl rfl | exact .inr rfl | assumption) :
    So X (.Assign [.Name x pos'] (.Name (Str.ofString y) p) pos :: rest) ρ Φ G := fun r q =>
  xs_cons (sx_move i j hN hj (h r q) hi hx hs.h hv hs.d hs.c hsw hf)
theorem so_unpack {es : List Expr} {n : Nat} {pt : Pos} {dec : D → Option α} {ρ2 : α → Rho} {is : List Nat} {G : α → Option R} (he : Eo X e ρ f) (hg : Tg X false (.Tuple es n pt) ρ dec ρ2 is) (h : ∀ v, So X rest (ρ2 v) Φ (G v)) (hs : swapsWithSole [.Tuple es n pt] e pos.line X.env = pure false := by rfl) (hw : swappedStores [.Tuple es n pt] e X.env = pure none := by rfl)
    (h1 : (assignEach [.Tuple es n pt] X.env).map (·.2) = [assign (.Tuple es n pt) X.env] := by rfl) : So X (.Assign [.Tuple es n pt] e pos :: rest) ρ Φ (bnd f fun x => bnd (dec x) G) := fun r q => by
  obtain ⟨x, q1, q⟩ := bnd_inv q
  obtain ⟨v, q2, q⟩ := bnd_inv q
  exact xs_cons (sx_unpack (he x q1) (hg x v q2) (h v r q) hs hw h1)
/-! ### if -/
variable {s : Option Bool}
theorem iteT_inv {β : Type} {A B : Option β} {r : β} (h : iteT s A B = some r) : ∃ t, s = some t ∧ (t = true → A = some r) ∧ (t = false → B = some r) := by
  obtain ⟨t, h1, h2⟩ := bnd_inv h
  cases t with
  | true => exact ⟨true, h1, fun _ => h2, fun e => nomatch e⟩
  | false => exact ⟨false, h1, (fun e => nomatch e), fun _ => h2⟩
theorem so_ifT {as : List Stmt} {A B : Option R} (hc : Et X c ρ s) (ha : So X as ρ (NoΦ Φ) A) (hb : So X rest ρ Φ B) : So X (.If c as [] pos :: rest) ρ Φ (iteT s A B) := fun r q => by
  obtain ⟨t, h1, h2, h3⟩ := iteT_inv q
  refine xs_cons (sx_if (hc t h1) (fun e => ?_) (fun e => ?_))
  · exact (ha r (h2 e)).imp (fun _ z => z.elim) (fun _ _ z => z) (fun _ z => z) (fun _ z => z)
  · exact xs_nil (hb r (h3 e))
theorem so_ifTT {as bs : List Stmt} {A B : Option R} (hc : Et X c ρ s) (ha : So X as ρ (NoΦ Φ) A) (hb : So X bs ρ (NoΦ Φ) B) : So X (.If c as bs pos :: rest) ρ Φ (iteT s A B) := fun r q => by
  obtain ⟨t, h1, h2, h3⟩ := iteT_inv q
  refine xs_cons (sx_if (hc t h1) (fun e => ?_) (fun e => ?_))
  · exact (ha r (h2 e)).imp (fun _ z => z.elim) (fun _ _ z => z) (fun _ z => z) (fun _ z => z)
  · exact (hb r (h3 e)).imp (fun _ z => z.elim) (fun _ _ z => z) (fun _ z => z) (fun _ z => z)
/-- the last if of a block -/
theorem so_ifE {as bs : List Stmt} {A B : Option R} (hc : Et X c ρ s) (ha : So X as ρ Φ A) (hb : So X bs ρ Φ B) : So X [.If c as bs pos] ρ Φ (iteT s A B) := fun r q => by
  obtain ⟨t, h1, h2, h3⟩ := iteT_inv q
  exact xs_one (sx_if (hc t h1) (fun e => ha r (h2 e)) (fun e => hb r (h3 e)))
theorem so_join (enc : J → Rho) {as bs : List Stmt} {A B : Option (Nx J R)} {G : J → Option R} (hc : Et X c ρ s) (ha : So X as ρ (JΦ Φ enc) A) (hb : So X bs ρ (JΦ Φ enc) B) (hr : ∀ j, So X rest (enc j) Φ (G j)) : So X (.If c as bs pos :: rest) ρ Φ (bnd (iteT s A B) (jn G)) := fun r q => by
  obtain ⟨n, q1, q2⟩ := bnd_inv q
  obtain ⟨t, h1, h2, h3⟩ := iteT_inv q1
  cases n with
  | nx j =>
    have hn := hr j r q2
    refine xs_cons (sx_weak (enc j) (sx_if (hc t h1) (fun e => ?_) (fun e => ?_)) hn)
    · exact (ha _ (h2 e)).imp (fun _ z => z) (fun _ _ z => z.elim) (fun _ z => z.elim) (fun _ z => z.elim)
    · exact (hb _ (h3 e)).imp (fun _ z => z) (fun _ _ z => z.elim) (fun _ z => z.elim) (fun _ z => z.elim)
  | rt r' =>
    cases q2
    refine xs_cons (sx_if (hc t h1) (fun e => ?_) (fun e => ?_))
    · exact (ha _ (h2 e)).imp (fun _ z => z.elim) (fun _ _ z => z) (fun _ z => z) (fun _ z => z)
    · exact (hb _ (h3 e)).imp (fun _ z => z.elim) (fun _ _ z => z) (fun _ z => z) (fun _ z => z)
theorem so_jn {J : Type} {enc : J → Rho} {j : J} (h : Le ρ (enc j)) : So X [] ρ (JΦ Φ enc) (some (.nx j)) := so_nil h
/-! ### loops -/
theorem so_for (enc : S → Rho) {yl : Bool} {tg it : Expr} {body : List Stmt} {xs : Option (List D)} {dec : D → Option α} {ρ2 : S → α → Rho} {is : List Nat} {s0 : S} {B : S → α → Option (Lp S R)} {G : S → Option R} (h0 : Le ρ (enc s0)) (hi : Io X tg it ρ yl xs)
    (hg : ∀ s, Tg X yl tg (enc s) dec (ρ2 s) is) (hb : ∀ s v, So X body (ρ2 s v) (LΦ Φ enc) (B s v)) (hr : ∀ s, So X rest (enc s) Φ (G s))
    (hp : PassesOwn (model X.prog X.w) X.A X.env X.xe := by exact PassesOwn.never) (hc : X.calm = true := by rfl) (hs : ∀ x, foldedSetIterable it X.env x = pure x := by intro _; rfl) :
    So X (.For tg it body [] pos :: rest) ρ Φ (bnd xs fun l => bnd (forD (fun s x => bnd (dec x) (B s)) l s0) (jn G)) := fun r q => by
  obtain ⟨l, q1, q⟩ := bnd_inv q
  refine xs_cons (sx_for' (fun _ => True) (hi l q1) ?_ hp hc hs)
  clear hi q1
  have key : ∀ (l : List D) (s : S), (bnd (forD (fun s x => bnd (dec x) (B s)) l s) (jn G)) = some r → ForW X yl tg body l (enc s) { nx := fun ρ' => ∃ ρ2, Le ρ' ρ2 ∧ Sxs X rest ρ2 (Φ r), rt := (Φ r).rt, bk := (Φ r).bk, ct := (Φ r).ct, ro := (Φ r).ro, ex := (Φ r).ex } := by
    intro l
    induction l with
    | nil =>
      intro s q
      exact ⟨_, .refl _, hr s r q⟩
    | cons x xs ih =>
      intro s q
      obtain ⟨n, q1, q2⟩ := bnd_inv q
      obtain ⟨o, q3, q4⟩ := bnd_inv (show bnd (bnd (dec x) (B s)) _ = some n from q1)
      obtain ⟨v, q5, q6⟩ := bnd_inv q3
      refine ⟨ρ2 s v, is, hg s x v q5, ?_⟩
      have hb' := hb s v o q6
      have next : ∀ (s' : S) (ρ' : Rho), (bnd (forD (fun s x => bnd (dec x) (B s)) xs s') (jn G)) = some r → Le ρ' (enc s') → ForW X yl tg body xs ρ' { nx := fun ρ' => ∃ ρ2, Le ρ' ρ2 ∧ Sxs X rest ρ2 (Φ r), rt := (Φ r).rt, bk := (Φ r).bk, ct := (Φ r).ct, ro := (Φ r).ro, ex := (Φ r).ex } := fun s' ρ' qq l' =>
        forW_le (fun r1 r2 q h3 => by
          obtain ⟨r3, l3, q3⟩ := h3
          exact ⟨r3, q.trans l3, q3⟩) l' (ih s' qq)
      cases o with
      | go s' =>
        have q4' : (bnd (forD (fun s x => bnd (dec x) (B s)) xs s') (jn G)) = some r := by rw [show forD (fun s x => bnd (dec x) (B s)) xs s' = some n from q4]; exact q2
        exact hb'.imp (fun ρ' z => next s' ρ' q4' z) (fun _ _ z => z.elim) (fun _ z => z.elim) (fun ρ' z => next s' ρ' q4' z)
      | brk s' =>
        cases q4
        exact hb'.imp (fun _ z => z.elim) (fun _ _ z => z.elim) (fun ρ' z => ⟨_, z, hr s' r q2⟩) (fun _ z => z.elim)
      | out r' =>
        cases q4
        cases q2
        exact hb'.imp (fun _ z => z.elim) (fun _ _ z => z) (fun _ z => z.elim) (fun _ z => z.elim)
  exact forW_le (fun r1 r2 q h3 => by
    obtain ⟨r3, l3, q3⟩ := h3
    exact ⟨r3, q.trans l3, q3⟩) h0 (key l s0 q)
theorem EvT.le {t : Bool} {ρ2 : Rho} (h : EvT X c ρ2 t) (l : Le ρ ρ2) : EvT X c ρ t := fun σ H Q S q => h σ H Q (S.weak (by rw [l.1]; exact S.len) fun i b e n => ⟨l.2 i b e n, rfl⟩) q
theorem so_while (enc : S → Rho) (n : Nat) {body : List Stmt} {s0 : S} {C : S → Option Bool} {B : S → Option (Lp S R)} {G : S → Option R} (h0 : Le ρ (enc s0)) (hc : ∀ s, Et X c (enc s) (C s)) (hb : ∀ s, So X body (enc s) (LΦ Φ enc) (B s)) (hr : ∀ s, So X rest (enc s) Φ (G s))
    (hp : PassesOwn (model X.prog X.w) X.A X.env X.xe := by exact PassesOwn.never) : So X (.While c body [] pos :: rest) ρ Φ (bnd (whileD C B n s0) (jn G)) := fun r q => by
  refine xs_cons (sx_while (fun m ρ' => ∃ s, Le ρ' (enc s) ∧ bnd (whileD C B m s) (jn G) = some r) n ⟨s0, h0, q⟩ (fun m ρ' ⟨s, l, q⟩ => ?_) hp)
  cases m with
  | zero => cases q
  | succ m =>
    obtain ⟨nn, q1, q2⟩ := bnd_inv q
    obtain ⟨t, q3, q4⟩ := bnd_inv (show bnd (C s) _ = some nn from q1)
    refine ⟨t, (hc s t q3).le l, fun e => ?_, fun e => ?_⟩
    · subst e
      obtain ⟨o, q5, q6⟩ := bnd_inv q4
      refine xs_le l ?_
      have hb' := hb s o q5
      cases o with
      | go s' =>
        have q4' : bnd (whileD C B m s') (jn G) = some r := by rw [show whileD C B m s' = some nn from q6]; exact q2
        exact hb'.imp (fun ρ' z => ⟨m, Nat.lt_succ_self m, s', z, q4'⟩) (fun _ _ z => z.elim) (fun _ z => z.elim) (fun ρ' z => ⟨m, Nat.lt_succ_self m, s', z, q4'⟩)
      | brk s' =>
        cases q6
        exact hb'.imp (fun _ z => z.elim) (fun _ _ z => z.elim) (fun ρ' z => xs_le z (hr s' r q2)) (fun _ z => z.elim)
      | out r' =>
        cases q6
        cases q2
        exact hb'.imp (fun _ z => z.elim) (fun _ _ z => z) (fun _ z => z.elim) (fun _ z => z.elim)
    · subst e
      cases q4
      exact xs_le l (hr s r q2)
theorem so_go {enc : S → Rho} {s : S} (h : Le ρ (enc s)) : So X [] ρ (LΦ Φ enc) (some (.go s)) := so_nil h
/-! ### a list, a dict of one's own is changed -/
theorem lim_inv {β : Type} {n : Nat} {k : Option β} {r : β} (h : lim n k = some r) : n ≤ sizeLine ∧ k = some r := by
  unfold lim at h
  split at h
  · exact ⟨by assumption, h⟩
  · cases h
theorem so_append (j : Nat) {y : String} {p2 apos cpos : Pos} {ds : List D} {G : List D → Option R} (hsl : Sl X.N y j) (hj : ρ[j]? = some (.own ds)) (hv : Vis X.env.scope (Str.ofString y)) (he : Eo X e ρ f) (h : ∀ d, So X rest (ρ.set j (.own d)) Φ (G d)) (hbase : attributeBase (.Name (Str.ofString y) p2) "append" X.env (eval (.Name (Str.ofString y) p2) X.env) = eval (.Name (Str.ofString y) p2) X.env := by rfl)
    (hfew : ((backTo cpos (starEach [e] X.env)).all (fun x => !x.1) && (backToKw cpos (keywordEach [] X.env)).all (fun x => x.1.isSome)
      && decide ([e].length + ([] : List Keyword).length + (if ([] : List Keyword).isEmpty then 0 else 1) < 30)) = true := by rfl)
    (hline : (apos.endLine == cpos.line) = true := by rfl) (hs : starEach [e] X.env = (false, eval e X.env) :: starEach [] X.env := by rfl) (hplain : (backTo cpos (starEach [] X.env)).any (·.1) = false := by rfl)
    (hsw : swapsWith (.Call (.Attribute (.Name (Str.ofString y) p2) "append" apos) [e] [] cpos) none pos.line X.env = pure false := by rfl) :
    So X (.Expr (.Call (.Attribute (.Name (Str.ofString y) p2) "append" apos) [e] [] cpos) pos :: rest) ρ Φ (bnd (op1 (apL ds) f) G) := fun r q => by
  obtain ⟨l, q1, q⟩ := bnd_inv q
  obtain ⟨d, q1', q2⟩ := bnd_inv q1
  clear q1
  obtain ⟨q2', q3⟩ := lim_inv q2
  cases q3
  exact xs_cons (sx_append j hj (he d q1') q2' (h _ r q) hsl.h hv hsl.d hsl.c hbase hfew hline hs hplain hsw)
theorem so_extend (j : Nat) {y : String} {p2 apos cpos : Pos} {ds : List D} {f : Option (List D)} {G : List D → Option R} (hsl : Sl X.N y j) (hj : ρ[j]? = some (.own ds)) (hv : Vis X.env.scope (Str.ofString y)) (he : En X e ρ f) (h : ∀ d, So X rest (ρ.set j (.own d)) Φ (G d)) (hbase : attributeBase (.Name (Str.ofString y) p2) "extend" X.env (eval (.Name (Str.ofString y) p2) X.env) = eval (.Name (Str.ofString y) p2) X.env := by rfl)
    (hfew : ((backTo cpos (starEach [e] X.env)).all (fun x => !x.1) && (backToKw cpos (keywordEach [] X.env)).all (fun x => x.1.isSome)
      && decide ([e].length + ([] : List Keyword).length + (if ([] : List Keyword).isEmpty then 0 else 1) < 30)) = true := by rfl)
    (hline : (apos.endLine == cpos.line) = true := by rfl) (hs : starEach [e] X.env = (false, eval e X.env) :: starEach [] X.env := by rfl) (hplain : (backTo cpos (starEach [] X.env)).any (·.1) = false := by rfl)
    (hsw : swapsWith (.Call (.Attribute (.Name (Str.ofString y) p2) "extend" apos) [e] [] cpos) none pos.line X.env = pure false := by rfl) :
    So X (.Expr (.Call (.Attribute (.Name (Str.ofString y) p2) "extend" apos) [e] [] cpos) pos :: rest) ρ Φ (bnd (bnd f (exL ds)) G) := fun r q => by
  obtain ⟨l, q1, q⟩ := bnd_inv q
  obtain ⟨d, q1', q2⟩ := bnd_inv q1
  clear q1
  obtain ⟨q2', q3⟩ := lim_inv q2
  cases q3
  exact xs_cons (sx_extend j hj (he d q1') q2' (h _ r q) hsl.h hv hsl.d hsl.c hbase hfew hline hs hplain hsw)
theorem so_extendV (j : Nat) {y : String} {p2 apos cpos : Pos} {ds : List D} {G : List D → Option R} (hsl : Sl X.N y j) (hj : ρ[j]? = some (.own ds)) (hv : Vis X.env.scope (Str.ofString y)) (he : Eo X e ρ f) (h : ∀ d, So X rest (ρ.set j (.own d)) Φ (G d)) (hbase : attributeBase (.Name (Str.ofString y) p2) "extend" X.env (eval (.Name (Str.ofString y) p2) X.env) = eval (.Name (Str.ofString y) p2) X.env := by rfl)
    (hfew : ((backTo cpos (starEach [e] X.env)).all (fun x => !x.1) && (backToKw cpos (keywordEach [] X.env)).all (fun x => x.1.isSome)
      && decide ([e].length + ([] : List Keyword).length + (if ([] : List Keyword).isEmpty then 0 else 1) < 30)) = true := by rfl)
    (hline : (apos.endLine == cpos.line) = true := by rfl) (hs : starEach [e] X.env = (false, eval e X.env) :: starEach [] X.env := by rfl) (hplain : (backTo cpos (starEach [] X.env)).any (·.1) = false := by rfl)
    (hsw : swapsWith (.Call (.Attribute (.Name (Str.ofString y) p2) "extend" apos) [e] [] cpos) none pos.line X.env = pure false := by rfl) :
    So X (.Expr (.Call (.Attribute (.Name (Str.ofString y) p2) "extend" apos) [e] [] cpos) pos :: rest) ρ Φ (bnd (bnd (op1 itL f) (exL ds)) G) := fun r q => by
  obtain ⟨l, q1, q⟩ := bnd_inv q
  obtain ⟨d, q1', q2⟩ := bnd_inv q1
  clear q1
  obtain ⟨q2', q3⟩ := lim_inv q2
  cases q3
  obtain ⟨x, q4, q5⟩ := bnd_inv q1'
  unfold itL at q5
  split at q5
  · cases q5
    exact xs_cons (sx_extendV j hj (he _ q4) q2' (h _ r q) hsl.h hv hsl.d hsl.c hbase hfew hline hs hplain hsw)
  · cases q5
theorem so_pop (i j : Nat) {x : Str} {y : String} {pos' p2 apos cpos : Pos} {ds : List D} {G : List D × D → Option R} (hN : X.N.Nodup) (hsl : Sl X.N y j) (hj : ρ[j]? = some (.own ds)) (hv : Vis X.env.scope (Str.ofString y)) (h : ∀ q, So X rest ((ρ.set j (.own q.1)).set i (.val q.2)) Φ (G q)) (hi : X.N[i]? = some x := by rfl) (hx : Loc X.env.scope x := by first | exact Or.inl rfl | exact Or.inr rfl) (hbase : attributeBase (.Name (Str.ofString y) p2) "pop" X.env (eval (.Name (Str.ofString y) p2) X.env) = eval (.Name (Str.ofString y) p2) X.env := by rfl)
    (hline : (apos.endLine == cpos.line) = true := by rfl)
    (hs : swapsWith (.Call (.Attribute (.Name (Str.ofString y) p2) "pop" apos) [] [] cpos) (some (.Name x pos')) pos.line X.env = pure false := by rfl) (hf : X.fn x = true ∨ X.env.scope.names.lookup x = some .local := by first | exact .inl rfl | exact .inr rfl | assumption) :
    So X (.Assign [.Name x pos'] (.Call (.Attribute (.Name (Str.ofString y) p2) "pop" apos) [] [] cpos) pos :: rest) ρ Φ (bnd (popL ds) G) := fun r q => by
  obtain ⟨d, q1, q⟩ := bnd_inv q
  rw [popL_inv q1] at hj
  exact xs_cons (sx_pop i j hN hj (h d r q) hi hx hsl.h hv hsl.d hsl.c hbase hline hs hf)
theorem so_dput (j : Nat) {y : String} {p2 tpos : Pos} {es : List (D × D)} {g : Option D} {G : List (D × D) → Option R} (r : Ru X) (hsl : Sl X.N y j) (hj : ρ[j]? = some (.dic es)) (hv : Vis X.env.scope (Str.ofString y)) (hb : Eo X b ρ f) (he : Eo X e ρ g) (h : ∀ es', So X rest (ρ.set j (.dic es')) Φ (G es')) (hs : swapsWith e (some (.Subscript (.Name (Str.ofString y) p2) b tpos)) pos.line X.env = pure false := by rfl) :
    So X (.Assign [.Subscript (.Name (Str.ofString y) p2) b tpos] e pos :: rest) ρ Φ (bnd (op2 (putN es) f g) G) := fun r' q => by
  obtain ⟨es', q1, q⟩ := bnd_inv q
  obtain ⟨x, v, q2, q3, q4⟩ := op2_inv q1
  obtain ⟨kk, q5, q6⟩ := bnd_inv q4
  split at q6
  · cases q6
    have eb := hb x q2
    rw [kd_eq q5] at eb
    exact xs_cons (sx_dput j hj (by have : _ + 65 < _ := r; omega) eb (he v q3) (by assumption) (h _ r' q) hsl.h hv hsl.d hsl.c hs)
  · cases q6
end
/-! ### a def by its body -/
section
variable {P : Program} {w : World} {K : PySem.W.Frag} {mg : Str → Option Value} {base : Heap} {x qual : Str} {params : Arguments} {body : List Stmt} {scope : Scope} {kws : List (Str × V)} {f : Addr} {fd : FuncData} {N ps : List Str} {k : Nat}
abbrev BodyO (P : Program) (w : World) (K : PySem.W.Frag) (mg : Str → Option Value) (base : Heap) (N : List Str) (qual : Str) (scope : Scope) (f : Addr) (k : Nat) (body : List Stmt) (ds : List D) (r : Option D) : Prop :=
  ∀ (cdv : Value) (A : Around) (outer : List Env) (s : Shared) (H : Hp) (E : XK), Room k (A.deeper (envOfC qual scope s.heap.objs.size f cdv)) → So (cxOf CX0 P w K mg base N qual scope f cdv A outer s H E).nox body (startB N.length ds) FnΦ r
theorem fn_1 {m : D → Option D} (F : FunD K x qual params body scope [] kws f fd) (S : FnScope N ps scope) (hl : ps.length = 1) (h : ∀ a, BodyO P w K mg base N qual scope f k body [a] (m a)) : FnD P w K mg base (k + 1) f fd ps (g1 m) :=
  fn_d F S (fun ds d ⟨a, e, _⟩ => by rw [e, hl]; rfl) fun cdv A outer s H E ds d hr ⟨a, e, q⟩ => by subst e; exact h a cdv A outer s H E hr d q
theorem fn_2 {m : D → D → Option D} (F : FunD K x qual params body scope [] kws f fd) (S : FnScope N ps scope) (hl : ps.length = 2) (h : ∀ a b, BodyO P w K mg base N qual scope f k body [a, b] (m a b)) : FnD P w K mg base (k + 1) f fd ps (g2 m) :=
  fn_d F S (fun ds d ⟨a, b, e, _⟩ => by rw [e, hl]; rfl) fun cdv A outer s H E ds d hr ⟨a, b, e, q⟩ => by subst e; exact h a b cdv A outer s H E hr d q
theorem fn_3 {m : D → D → D → Option D} (F : FunD K x qual params body scope [] kws f fd) (S : FnScope N ps scope) (hl : ps.length = 3) (h : ∀ a b c, BodyO P w K mg base N qual scope f k body [a, b, c] (m a b c)) : FnD P w K mg base (k + 1) f fd ps (g3 m) :=
  fn_d F S (fun ds d ⟨a, b, c, e, _⟩ => by rw [e, hl]; rfl) fun cdv A outer s H E ds d hr ⟨a, b, c, e, q⟩ => by subst e; exact h a b c cdv A outer s H E hr d q
theorem fn_4 {m : D → D → D → D → Option D} (F : FunD K x qual params body scope [] kws f fd) (S : FnScope N ps scope) (hl : ps.length = 4) (h : ∀ a b c e, BodyO P w K mg base N qual scope f k body [a, b, c, e] (m a b c e)) : FnD P w K mg base (k + 1) f fd ps (g4 m) :=
  fn_d F S (fun ds d ⟨a, b, c, e', e, _⟩ => by rw [e, hl]; rfl) fun cdv A outer s H E ds d hr ⟨a, b, c, e', e, q⟩ => by subst e; exact h a b c e' cdv A outer s H E hr d q
end
end DL


/-! Dict displays, tuple.index, targets in targets. -/
namespace DL
open PySem PySem.Spec PyProof.Rows L2
section
variable {X : Cx} {ρ : Rho} {e a b c : Expr} {f g h : Option D}
/-! ### {k: v, ..} -/
def Pd (X : Cx) (pos : Pos) (ks : List (Option Expr)) (vs : List Expr) (ρ : Rho) (f : Option (List (Key × D))) : Prop := ∀ md, f = some md → ∃ trs, PPs X pos ks vs trs ∧ ∀ σ H Q, SOk X.K ρ σ H →
  (∀ ps H', Same H H' → (∃ kvs : List (Key × V), ps = kvs.map (fun kv => (kV kv.1, kv.2)) ∧ Paired (fun (p : Key × V) (q : Key × D) => p.1 = q.1 ∧ Rp X.K H' p.2 q.2) kvs md) → Q ps H') → tPairs trs σ H Q
theorem pd_nil {pos : Pos} : Pd X pos [] [] ρ (some []) := fun md q => by
  cases q
  exact ⟨[], pps_nil, fun σ H Q S q => q [] H (.refl H) ⟨[], rfl, .nil⟩⟩
def dp1 (f g : Option D) (r : Option (List (Key × D))) : Option (List (Key × D)) := bnd f fun k => bnd (kd k) fun kk => bnd g fun d => bnd r fun md => some ((kk, d) :: md)
theorem paired_kv {K : PySem.W.Frag} {H H' : Hp} (s : Same H H') : ∀ {kvs : List (Key × V)} {md : List (Key × D)}, Paired (fun (p : Key × V) (q : Key × D) => p.1 = q.1 ∧ Rp K H p.2 q.2) kvs md → Paired (fun (p : Key × V) (q : Key × D) => p.1 = q.1 ∧ Rp K H' p.2 q.2) kvs md
  | _, _, .nil => .nil
  | _, _, .cons h t => .cons ⟨h.1, h.2.mono (.of s)⟩ (paired_kv s t)
theorem pd_cons {pos : Pos} {k v : Expr} {ks : List (Option Expr)} {vs : List Expr} {r : Option (List (Key × D))} (hk : Eo X k ρ f) (hv : Eo X v ρ g) (hr : Pd X pos ks vs ρ r) : Pd X pos (some k :: ks) (v :: vs) ρ (dp1 f g r) := fun md q => by
  obtain ⟨x, q1, q⟩ := bnd_inv q
  obtain ⟨kk, q2, q⟩ := bnd_inv q
  obtain ⟨d, q3, q⟩ := bnd_inv q
  obtain ⟨md', q4, q⟩ := bnd_inv q
  cases q
  obtain ⟨trs, h1, h2⟩ := hr md' q4
  have ek := hk x q1
  rw [kd_eq q2] at ek
  refine ⟨_, pps_cons pe_c pe_c h1, fun σ H Q S q => ?_⟩
  refine ek σ H _ S fun u H1 ⟨s1, r1⟩ => hv d q3 σ H1 _ (S.mono s1) fun w H2 ⟨s2, r2⟩ => h2 σ H2 _ (S.mono (s1.trans s2)) fun ps H3 s3 ⟨kvs, e, p⟩ => ?_
  have e1 := (Rq.of r1).key
  subst e1 e
  exact q _ H3 ((s1.trans s2).trans s3) ⟨(kk, w) :: kvs, rfl, .cons ⟨rfl, r2.mono (.of s3)⟩ p⟩
def dspV (f : Option (List (Key × D))) : Option (List (D × D)) := bnd f fun md => if md.length ≤ 15 then some (mergeD [] md) else none
theorem paired_len {α β : Type} {R : α → β → Prop} : ∀ {l : List α} {m : List β}, Paired R l m → l.length = m.length
  | _, _, .nil => rfl
  | _, _, .cons _ t => congrArg (· + 1) (paired_len t)
theorem ed_disp {pos : Pos} {ks : List (Option Expr)} {vs : List Expr} {f : Option (List (Key × D))} (h : Pd X pos ks vs ρ f) (hall : ks.all (·.isSome) = true := by rfl) (hl : ks.length = vs.length := by rfl) (h0 : ks ≠ [] := by simp) (h15 : ks.length ≤ 15 := by decide) : Ed X (.Dict ks vs pos) ρ (dspV f) := fun d q => by
  obtain ⟨md, q1, q2⟩ := bnd_inv q
  split at q2
  · rename_i hmd
    cases q2
    obtain ⟨trs, h1, h2⟩ := h md q1
    intro σ H Q S q
    refine ⟨_, pe_disp h1 hall hl h0 h15, fun p hp => h2 σ _ _ (S.mono (same_new hp)) fun ps H2 s2 ⟨kvs, e, pr⟩ => ?_⟩
    have e2 : H2 p = some (.dK []) := s2 _ _ upd_same
    refine ⟨e2, kvs, e, by rw [paired_len pr]; exact hmd, q _ _ ?_⟩
    have sm : Same H H2 := (same_new hp).trans s2
    have hn : ∀ b u, H b = some u → b ≠ p := fun b u hb e => by subst e; rw [hp] at hb; cases hb
    refine ⟨fun b u hb => ?_, p, _, rfl, hp, upd_same, (RpKV.merge pr .nil).mono (stb_upd e2 trivial)⟩
    rw [upd_ne (hn b u hb)]
    exact sm b u hb
  · cases q2
/-! ### t.index(x), t a tuple of texts -/
def idxL (l : List Str) (x : Str) : Option Nat := if x ∈ l then some (l.idxOf x) else none
def idxD : D → D → Option D
  | .tuple ds, .str x => bnd (allStr ds) fun l => bnd (idxL l x) fun j => some (.int (j : Nat))
  | _, _ => none
theorem rp_strs' {K : PySem.W.Frag} {H : Hp} : ∀ {bs : List Str} {xs : List V}, RpAll K H xs (bs.map .str) → xs = bs.map V.str
  | [], _, r => by cases r; rfl
  | b :: bs, _, r => by
    cases r with
    | cons h t => rw [(Rq.of h).str, rp_strs' t]; rfl
theorem pe_bmP {o : Expr} {es : List Expr} {to : TE} {t : TA} {name : Str} {apos cpos : Pos} {id : String} {r : V → List V → Hp → VK → Prop} (slot : Slot "tuple" name id) (hty : typeOf (.builtin id) = pure (.type "method_descriptor")) (hm : MtR X id r) (ho : PE X o to) (ha : PA X (e :: es) t)
    (hbase : attributeBase o name X.env (eval o X.env) = eval o X.env)
    (hfew : ((backTo cpos (starEach (e :: es) X.env)).all (fun x => !x.1) && (backToKw cpos (keywordEach [] X.env)).all (fun x => x.1.isSome)
      && decide ((e :: es).length + ([] : List Keyword).length + (if ([] : List Keyword).isEmpty then 0 else 1) < 30)) = true)
    (hline : (apos.endLine == cpos.line) = true) (hs : starEach (e :: es) X.env = (false, eval e X.env) :: starEach es X.env) (hplain : (backTo cpos (starEach es X.env)).any (·.1) = false) :
    PE X (.Call (.Attribute o name apos) (e :: es) [] cpos) (fun σ H Q => to σ H fun x H1 => (∃ a xs, x = .ref a ∧ PlT X.K H1 a xs) ∧ t σ H1 fun xs H2 => r x xs H2 Q) := by
  refine ⟨fun pins s σ H Q I h => ?_⟩
  refine wpAny_Call_method_late hbase hfew hline rfl (thn (ho.run pins s σ H _ I h) fun v s1 ⟨x, H1, I1, r1, ⟨a, xs, ex, pl⟩, q1⟩ => ?_)
  subst ex
  cases r1
  obtain ⟨ob, its, n, e1, e2, e3, _⟩ := inv_pl I1 pl
  refine ⟨"tuple", id, PySem.F.plainAttrs_tuple, slot, hty, ⟨ob, e1, e2⟩, fun b eb => by cases eb; exact ⟨ob, e1, e3⟩, ?_⟩
  have hA := ha.run cpos pins s1 σ H1 _ I1 q1
  rw [hs] at hA ⊢
  refine Calls.callWith_builtin (by show (false || (backTo cpos (starEach es X.env)).any (·.1)) = false; rw [hplain] <;> rfl) (Calls.evalArgs_plain ?_)
  exact thn hA fun us s2 ⟨vs, H2, I2, r2, q2⟩ => hm pins s2 σ H2 (.ref a) vs (.ref a) us Q I2 rfl r2 q2
theorem eo_idxT {apos cpos : Pos} (ha : Eo X a ρ f) (hb : Eo X b ρ g) (hbase : attributeBase a "index" X.env (eval a X.env) = eval a X.env := by rfl)
    (hfew : ((backTo cpos (starEach [b] X.env)).all (fun x => !x.1) && (backToKw cpos (keywordEach [] X.env)).all (fun x => x.1.isSome)
      && decide ([b].length + ([] : List Keyword).length + (if ([] : List Keyword).isEmpty then 0 else 1) < 30)) = true := by rfl)
    (hline : (apos.endLine == cpos.line) = true := by rfl) (hs : starEach [b] X.env = (false, eval b X.env) :: starEach [] X.env := by rfl) (hplain : (backTo cpos (starEach [] X.env)).any (·.1) = false := by rfl) : Eo X (.Call (.Attribute a "index" apos) [b] [] cpos) ρ (op2 idxD f g) := fun d q => by
  obtain ⟨x, y, q1, q2, q3⟩ := op2_inv q
  unfold idxD at q3
  split at q3
  · rename_i ds z
    obtain ⟨l, q4, q5⟩ := bnd_inv q3
    obtain ⟨j, q6, q7⟩ := bnd_inv q5
    cases q7
    unfold idxL at q6
    split at q6
    · rename_i hm
      cases q6
      have el := allStr_inv q4
      subst el
      intro σ H Q S q
      refine ⟨_, pe_bmP PySem.F.slot_tuple_index PySem.F.type_tuple_index mt_tup_index pe_c (pa_cons pe_c pa_nil hs) hbase hfew hline hs hplain, ha _ q1 σ H _ S fun u H1 ⟨s1, r1⟩ => ?_⟩
      obtain ⟨p, xs, rfl, hpl, hr⟩ := (Rq.of r1).tupP
      have hq := hpl.sq
      have ex := rp_strs' hr
      subst ex
      refine ⟨⟨p, _, rfl, hpl⟩, hb _ q2 σ H1 _ (S.mono s1) fun v H2 ⟨s2, r2⟩ => ?_⟩
      have ev := (Rq.of r2).str
      subst ev
      refine ⟨p, l, z, l.idxOf z, rfl, rfl, sqT_stb (.of s2) hq, ?_, fun m hm' e => ?_, q _ H2 ⟨s1.trans s2, .int _⟩⟩
      · rw [List.getElem?_eq_getElem (List.idxOf_lt_length_of_mem hm)]
        simp
      · have hml : m < l.length := Nat.lt_trans hm' (List.idxOf_lt_length_of_mem hm)
        rw [List.getElem?_eq_getElem hml] at e
        have h9 := List.not_of_lt_findIdx (p := (· == z)) (xs := l) (i := m) hm'
        rw [Option.some.inj e] at h9
        simp at h9
    · cases q6
  · cases q3
/-! ### for k, (a, b, c, d, e) in .. -/
def dec15 : D → Option (D × D × D × D × D × D)
  | .tuple [k, .tuple [a, b, c, d, e]] => some (k, a, b, c, d, e)
  | _ => none
@[simp] theorem dec15_eq (k a b c d e : D) : dec15 (.tuple [k, .tuple [a, b, c, d, e]]) = some (k, a, b, c, d, e) := rfl
theorem dec15_inv {x : D} {v : D × D × D × D × D × D} (h : dec15 x = some v) : x = .tuple [v.1, .tuple [v.2.1, v.2.2.1, v.2.2.2.1, v.2.2.2.2.1, v.2.2.2.2.2]] := by
  unfold dec15 at h; split at h
  · cases h; rfl
  · cases h
theorem tg_15 {s1 s2 s3 s4 s5 s6 : String} {i1 i2 i3 i4 i5 i6 : Nat} {p1 p2 p3 p4 p5 p6 pt pu : Pos} {n m : Nat} {yl : Bool} (h1 : Tn X s1 i1) (h2 : Tn X s2 i2) (h3 : Tn X s3 i3) (h4 : Tn X s4 i4) (h5 : Tn X s5 i5) (h6 : Tn X s6 i6) (hc : X.calm = true := by rfl) :
    Tg X yl (.Tuple [.Name (Str.ofString s1) p1, .Tuple [.Name (Str.ofString s2) p2, .Name (Str.ofString s3) p3, .Name (Str.ofString s4) p4, .Name (Str.ofString s5) p5, .Name (Str.ofString s6) p6] m pu] n pt) ρ dec15 (fun v => (((((ρ.set i1 (.val v.1)).set i2 (.val v.2.1)).set i3 (.val v.2.2.1)).set i4 (.val v.2.2.2.1)).set i5 (.val v.2.2.2.2.1)).set i6 (.val v.2.2.2.2.2)) [i1, i2, i3, i4, i5, i6] := fun x v h => by
  rw [dec15_inv h]
  exact eg_tup (egs_cons h1.ev (egs_cons (eg_tup (egs_cons h2.ev (egs_cons h3.ev (egs_cons h4.ev (egs_cons h5.ev (egs_cons h6.ev egs_nil))))) rfl rfl hc) egs_nil)) rfl rfl hc
end
end DL


namespace DL
open PySem PySem.Spec PyProof.Rows L2
/-! Sets of texts: set(xs) of a list or tuple of texts, len, sorted. -/
theorem perm_of_sub {α : Type} [DecidableEq α] : ∀ {l m : List α}, l.Nodup → (∀ x ∈ l, x ∈ m) → m.length ≤ l.length → l.Perm m
  | [], m, _, _, h => by
    cases m with
    | nil => exact .nil
    | cons _ _ => simp at h
  | x :: l, m, nd, sub, h => by
    have hx := sub x List.mem_cons_self
    refine .trans (.cons x (perm_of_sub (m := m.erase x) (List.nodup_cons.mp nd).2 (fun y hy => ?_) ?_)) (List.perm_cons_erase hx).symm
    · have : y ≠ x := fun e => (List.nodup_cons.mp nd).1 (e ▸ hy)
      exact (List.mem_erase_of_ne this).mpr (sub y (List.mem_cons_of_mem _ hy))
    · rw [List.length_erase_of_mem hx]
      simp only [List.length_cons] at h
      omega
/-- the set at a has just the texts l -/
def SetT (P : Program) (w : World) (h : Heap) (a : Addr) (l : List Str) : Prop :=
  ∃ D : Froz.SD, h.get? a = some (Froz.sObj "set" D) ∧ Froz.TxOk P w D l ∧ l.Nodup ∧ Ris D.2.2.place.toList ∧ (w.params.followText "set-order" = true ∨ D.2.2.led = true)
theorem SetT.at {P : Program} {w : World} {h h' : Heap} {a : Addr} {l : List Str} (R : SetT P w h a l) (k : ∀ o, h.get? a = some o → h'.get? a = some o) : SetT P w h' a l := by
  obtain ⟨D, h1, r⟩ := R
  exact ⟨D, k _ h1, r⟩
def addL (l : List Str) (k : Str) : List Str := if k ∈ l then l else k :: l
theorem addL_len (l : List Str) (k : Str) : (addL l k).length ≤ l.length + 1 := by
  unfold addL; split <;> simp
theorem mem_addL {l : List Str} {k x : Str} : x ∈ addL l k ↔ x = k ∨ x ∈ l := by
  unfold addL
  split
  · rename_i h
    exact ⟨.inr, fun z => z.elim (fun e => e ▸ h) id⟩
  · exact List.mem_cons
theorem tail_led {ep : Nat} {es : Array (Int × Value)} {t : SetTable} {b : Bool} (r : Ris t.place.toList) : Ris (Froz.tailTx ep es t b).2.2.place.toList ∧ (Froz.tailTx ep es t b).2.2.led = t.led := by
  unfold Froz.tailTx
  split
  · exact ⟨relayAll_ris _ _ _, relayAll_led _ _ _⟩
  · exact ⟨r, rfl⟩
theorem add_led {v : Value} {i : Int} {D : Froz.SD} (r : Ris D.2.2.place.toList) : Ris (Froz.addTx i v D).2.2.place.toList ∧ (Froz.addTx i v D).2.2.led = D.2.2.led := by
  unfold Froz.addTx
  have h1 := layNew_ris D.2.2 D.1 i v r
  have h2 := layNew_led D.2.2 D.1 i v
  generalize layNew D.2.2 D.1 i v = Z at h1 h2 ⊢
  split
  · have q := tail_led (ep := D.2.1) (es := Z.1) (t := { Z.2.1 with plain := false }) (b := Z.2.2.1) h1
    exact ⟨q.1, q.2.trans h2⟩
  · have q := tail_led (ep := D.2.1) (es := Z.1) (t := Z.2.1) (b := Z.2.2.1) h1
    exact ⟨q.1, q.2.trans h2⟩
section
variable {P : Program} {w : World} {A : Around} {E : Value → Shared → Prop} {s : Shared} {a : Addr} {l : List Str}
theorem setT_add {k : Str} {u : Tok} {Q : Bool → Shared → Prop} (R : SetT P w s.heap a l) (room : l.length + 1 < scanBound)
    (hQ : ∀ b h', Heap.SameBut a s.heap h' → SetT P w h' a (addL l k) → Q b { s with heap := h' }) : wpAny (model P w) A (setAddHashed a (.str k u) (hashStr w k)) Q E s := by
  obtain ⟨D, ho, F, nd, r, ld⟩ := R
  by_cases c : k ∈ l
  · obtain ⟨es, ep, t⟩ := D
    have hd : (Froz.sObj "set" (es, ep, t)).data = .set es ep t := rfl
    have hf : t.fits es.size = true := F.fit
    have hel : ElemsOf (strKind P w) es.toList := F.el
    have hb : es.size < scanBound := by have := F.sz; dsimp only at this; omega
    unfold setAddHashed setAddHashedIn
    refine wpAny_holding (wpAny_bind (wpAny_setState_of ho hd hf ?_))
    dsimp only
    rw [byScan_of (knd := strKind P w) (show (Value.str k u).scannable = true from rfl) hb hel]
    simp only [↓reduceIte]
    unfold setAddByScan
    refine wpAny_bind (wpAny_bind (wpAny_rule (wpAny_bind (wpAny_setScan_of (knd := strKind P w) (Froz.is_str k u) ho hd hf hel ?_))))
    cases hfi : List.findIdx? (fun e => (strKind P w).is k e.2) es.toList with
    | none =>
      obtain ⟨e, he, q⟩ := (F.mem k).mp c
      have z := List.findIdx?_eq_none_iff.mp hfi e he
      rw [q] at z; cases z
    | some j =>
      dsimp only
      refine wpAny_pure (wpAny_pure ?_)
      exact hQ _ s.heap (Heap.SameBut.refl a s.heap) (by unfold addL; rw [if_pos c]; exact ⟨_, ho, F, nd, r, ld⟩)
  · refine Froz.add_x ho F c room ?_
    have q := add_led (v := .str k u) (i := hashStr w k) r
    refine hQ true _ (Heap.SameBut.update _ _ _) ?_
    unfold addL
    rw [if_neg c]
    exact ⟨_, Froz.get_upd _ ho rfl, Froz.add_ok u F, List.nodup_cons.mpr ⟨c, nd⟩, q.1, ld.imp id fun z => by rw [q.2]; exact z⟩
theorem setT_loop {I : Addr} {fp wr : List Addr} {G : Array GenState → Array GenState → Prop} {n : Nat} {Pv : Nat → Value → Prop} {St : Nat → Shared → Prop} {R : Result → Shared → Prop}
    (W : WalksS P w A.in1 I fp wr G n Pv St) (hSf : a ∉ fp) (ks : List Str) (hn : n = ks.length) (hb : ks.length + 1 < scanBound) (hval : ∀ i v, Pv i v → ∃ k t, ks[i]? = some k ∧ v = .str k t) :
    ∀ (m i : Nat) (s : Shared) (l : List Str), i + m = n → St i s → SetT P w s.heap a l → l.length ≤ i →
      (∀ s', Moved (a :: wr) G s s' → SetT P w s'.heap a ((ks.drop i).foldl addL l) → R (.ok (.ret .none)) s') → codeAny (model P w) A (.builtin "set.update.loop" ⟨[.ref a, .ref I], []⟩) R s := by
  have hSw : a ∉ wr := fun h => hSf (W.sub _ h)
  have hsub : ∀ b ∈ wr, b ∈ a :: wr := fun b hb => List.mem_cons_of_mem _ hb
  intro m
  induction m with
  | zero =>
    intro i s l hi st hS hl hR
    have e : i = n := by omega
    subst e
    refine codeAny_builtin F.entry_set_update_loop ?_
    rw [Around.under_plainId F.plain_set_update_loop _]
    show wpAny _ A.in1 (pyNext (.ref I) >>= _) _ _ s
    refine wpAny_bind (W.done s _ _ st fun s' hm => ?_)
    show wpAny _ A.in1 (ret Value.none) _ _ s'
    refine wpAny_pure (hR s' (hm.mono hsub) ?_)
    rw [List.drop_eq_nil_of_le (by omega)]
    exact hS.at fun o e => hm.heap a o hSw e
  | succ m ih =>
    intro i s l hi st hS hl hR
    refine codeAny_builtin F.entry_set_update_loop ?_
    rw [Around.under_plainId F.plain_set_update_loop _]
    show wpAny _ A.in1 (pyNext (.ref I) >>= _) _ _ s
    refine wpAny_bind (W.item i s _ _ (by omega) st fun v s' hP st' hm => ?_)
    obtain ⟨k, t, hk, rfl⟩ := hval i v hP
    show wpAny _ A.in1 (holding [Value.str k t] (setAdd a (.str k t)) >>= _) _ _ s'
    refine wpAny_bind (wpAny_holding ?_)
    unfold setAdd
    refine wpAny_holding (wpAny_bind ((strKind P w).pyHash (k := k) (Froz.is_str k t) ?_))
    refine setT_add (s := { s' with toks := s'.toks + 1 }) (hS.at fun o e => hm.heap a o hSw e) (by omega) fun b h' sb R' => ?_
    refine wpAny_pure ⟨plainId_quiet F.plain_set_update_loop _, ih (i + 1) _ (addL l k) (by omega) (W.frame _ s' _ _ st' (Nat.le_succ _) fun b hb o e => ?_) R' (by have := addL_len l k; omega) fun s'' hm'' hS'' => ?_⟩
    · rw [sb.2 b (fun h : b = a => hSf (by rw [← h]; exact hb))]; exact e
    · refine hR s'' (Moved.trans W.gtrans ((hm.mono hsub).then_heap (Nat.le_succ _) fun b o hb e => ?_) hm'') ?_
      · rw [sb.2 b (fun h : b = a => hb (by rw [h]; exact List.mem_cons_self))]; exact e
      · obtain ⟨hlt, e⟩ := List.getElem?_eq_some_iff.mp hk
        rw [List.drop_eq_getElem_cons hlt, e]
        exact hS''
end
end DL


namespace DL
open PySem PySem.Spec PyProof.Rows L2
def newSet (w : World) : Obj := Froz.sObj "set" (#[], 0, .fresh 0 0 (!w.params.followText "set-order"))
theorem newSet_is {P : Program} {w : World} {h : Heap} {a : Addr} (e : h.get? a = some (newSet w)) : SetT P w h a [] := by
  refine ⟨_, e, Froz.TxOk.nil rfl, List.nodup_nil, List.Pairwise.nil, ?_⟩
  show _ ∨ (!w.params.followText "set-order") = true
  cases w.params.followText "set-order"
  · exact .inr rfl
  · exact .inl rfl
def IsSeq (h : Heap) (l : Addr) (its : Array Value) : Prop := h.IsList l its ∨ h.IsTuple l its
section
variable {P : Program} {w : World} {A : Around} {E : Value → Shared → Prop} {s : Shared}
/-- the words of the texts, each once -/
def onceS (ks : List Str) : List Str := ks.foldl addL []
theorem init_setT {a l : Addr} {its : Array Value} {ks : List Str} {Q : PySem.Fin → Shared → Prop} (hh : A.handled = none) (hal : a ≠ l) (ho : s.heap.get? a = some (newSet w)) (hl : IsSeq s.heap l its) (hi : StrsAre its.toList ks) (hb : ks.length + 1 < scanBound)
    (h : ∀ h' tk, SetT P w h' a (onceS ks) → (∀ b o, b ≠ a → s.heap.get? b = some o → h'.get? b = some o) → Q (.done (.ret .none)) { s with heap := h', toks := tk }) :
    wpAny (model P w) A (Builtin.«set.__init__» ⟨[.ref a, .ref l], []⟩) Q E s := by
  have hlen : its.size = ks.length := by rw [← StrsAre.len_eq hi, Array.length_toList]
  have hval : ∀ (i : Nat) (v : Value), its[i]? = some v → ∃ k t, ks[i]? = some k ∧ v = .str k t := fun i v hv => by
    have hk : i < ks.length := by rw [← hlen]; exact (Array.getElem?_eq_some_iff.mp hv).1
    obtain ⟨t, e⟩ := SS.strs_at hi i v (by rw [Array.getElem?_toList]; exact hv)
    exact ⟨ks[i], t, List.getElem?_eq_getElem hk, by rw [e, List.getD_eq_getElem?_getD, List.getElem?_eq_getElem hk] <;> rfl⟩
  rcases hl with hl | hl
  · obtain ⟨ol, hol, hcl, nl, hdl⟩ := id hl
    obtain ⟨ocls, odict, odata, oslots⟩ := ol
    simp only at hcl hdl
    subst hcl; subst hdl
    have f1 := F.sub_list_set
    have f2 := F.sub_list_frozenset
    have f3 : (Value.type "list" == Value.type "dict") = false := by decide
    unfold Builtin.«set.__init__» noKeywords Builtin.Frozenset.updateFrom
    generalize hPI : pyIter = PI
    wp_walk
    subst hPI
    refine wpAny_pyIter_list hl ?_
    refine wpAny_bind (wpAny_runValue ?_)
    have hlS : l < s.heap.objs.size := Heap.lt_size hol
    have haS : a < s.heap.objs.size := Heap.lt_size ho
    refine setT_loop (a := a) ((Walks.list (A := A.in1) hh s.heap.objs.size l (Nat.ne_of_lt hlS) its).toS) (by simp only [List.mem_cons, List.mem_singleton, List.not_mem_nil, or_false, not_or]; exact ⟨Nat.ne_of_lt haS, hal⟩) ks hlen hb hval its.size 0 _ [] (Nat.zero_add _) ⟨⟨_, Heap.get?_push_size _ rfl, rfl, rfl⟩, hl.push _⟩ (newSet_is (Heap.get?_push_of_some _ ho)) (Nat.le_refl 0) fun s' hm hS' => ?_
    obtain ⟨h', g2, d', tk', os'⟩ := s'
    have eg : g2 = s.gens := hm.gens
    have ed : d' = s.drawn := hm.drawn
    have eo : os' = s.os := hm.os
    subst eg; subst ed; subst eo
    show wpAny _ _ _ _ _ _
    refine wpAny_pure ?_
    show wpAny _ _ (ret Value.none) _ _ _
    refine wpAny_pure (h h' tk' hS' fun b o hb e => hm.heap b o ?_ (Heap.get?_push_of_some _ e))
    simp only [List.mem_cons, List.mem_singleton, List.not_mem_nil, or_false, not_or]
    exact ⟨hb, Nat.ne_of_lt (Heap.lt_size e)⟩
  · obtain ⟨ol, hol, hcl, nl, hdl⟩ := id hl
    obtain ⟨ocls, odict, odata, oslots⟩ := ol
    simp only at hcl hdl
    subst hcl; subst hdl
    have f1 := F.sub_tuple_set
    have f2 := F.sub_tuple_frozenset
    have f3 : (Value.type "tuple" == Value.type "dict") = false := by decide
    unfold Builtin.«set.__init__» noKeywords Builtin.Frozenset.updateFrom
    generalize hPI : pyIter = PI
    wp_walk
    subst hPI
    refine wpAny_pyIter_tuple hl ?_
    refine wpAny_bind (wpAny_runValue ?_)
    have hlS : l < s.heap.objs.size := Heap.lt_size hol
    have haS : a < s.heap.objs.size := Heap.lt_size ho
    refine setT_loop (a := a) ((Walks.tuple (A := A.in1) hh s.heap.objs.size l (Nat.ne_of_lt hlS) its).toS) (by simp only [List.mem_cons, List.mem_singleton, List.not_mem_nil, or_false, not_or]; exact ⟨Nat.ne_of_lt haS, hal⟩) ks hlen hb hval its.size 0 _ [] (Nat.zero_add _) ⟨⟨_, Heap.get?_push_size _ rfl, rfl, rfl⟩, hl.push _⟩ (newSet_is (Heap.get?_push_of_some _ ho)) (Nat.le_refl 0) fun s' hm hS' => ?_
    obtain ⟨h', g2, d', tk', os'⟩ := s'
    have eg : g2 = s.gens := hm.gens
    have ed : d' = s.drawn := hm.drawn
    have eo : os' = s.os := hm.os
    subst eg; subst ed; subst eo
    show wpAny _ _ _ _ _ _
    refine wpAny_pure ?_
    show wpAny _ _ (ret Value.none) _ _ _
    refine wpAny_pure (h h' tk' hS' fun b o hb e => hm.heap b o ?_ (Heap.get?_push_of_some _ e))
    simp only [List.mem_cons, List.mem_singleton, List.not_mem_nil, or_false, not_or]
    exact ⟨hb, Nat.ne_of_lt (Heap.lt_size e)⟩
end
end DL


namespace DL
open PySem PySem.Spec PyProof.Rows L2
section
variable {P : Program} {w : World} {A : Around} {E : Value → Shared → Prop} {s : Shared}
/-- set(xs) of texts -/
theorem call_setT {l : Addr} {its : Array Value} {ks : List Str} {Q : Value → Shared → Prop} (hh : A.handled = none) (hl : IsSeq s.heap l its) (hi : StrsAre its.toList ks) (hb : ks.length + 1 < scanBound)
    (h : ∀ h' tk, SetT P w h' s.heap.objs.size (onceS ks) → (∀ b o, s.heap.get? b = some o → h'.get? b = some o) → Q (.ref s.heap.objs.size) { s with heap := h', toks := tk }) :
    wpAny (model P w) A (call (.type "set") [.ref l]) Q E s := by
  have hlS : l < s.heap.objs.size := by
    rcases hl with ⟨_, z, _⟩ | ⟨_, z, _⟩ <;> exact Heap.lt_size z
  obtain ⟨c, tl, hmro⟩ := F.called_set.mro
  have hmade := F.called_set.made
  have hsub := F.called_set.sub
  refine wpAny_call (codeAny_of_tree ?_)
  show wpAny _ _ (callAny (.type "set") _) _ _ _
  refine wpAny_pure ⟨Code.quiet_builtin _ (by decide +kernel), codeAny_builtin F.entry_type_call ?_⟩
  rw [Around.under_plain (weight_type_call_type "set" [.ref l] []) rfl]
  have h1 := F.called_set.notType
  have h2 := F.called_set.canCreate
  have hct := F.typeCall_set_1 (.ref l)
  repeat (any_goals (first | assumption | wp_step))
  refine codeAny_mono (code_set_led1 (.ref l) (E := E) (Q₁ := fun obj s₁ => obj = .ref s.heap.objs.size ∧ s₁ = { s with heap := s.heap.push (newSet w) }) ⟨rfl, rfl⟩) fun r s₁ hr => ?_
  cases r with
  | error e => exact hr
  | ok fl =>
    cases fl with
    | ret obj =>
      obtain ⟨rfl, rfl⟩ := hr
      have hS : (s.heap.push (newSet w)).get? s.heap.objs.size = some (newSet w) := Heap.get?_push_size _ rfl
      have hT : Shared.TypeIs { s with heap := s.heap.push (newSet w) } (.ref s.heap.objs.size) "set" := ⟨_, hS, rfl⟩
      have hli := F.called_set.init.lookup
      have hbi := F.called_set.init.bind (.ref s.heap.objs.size)
      repeat (any_goals (first | assumption | wp_step))
      refine codeAny_mono (codeAny_call_builtin (R := wants (fun r s₂ => r = .none ∧ ∃ h' tk, s₂ = { s with heap := h', toks := tk } ∧ SetT P w h' s.heap.objs.size (onceS ks) ∧ (∀ b o, s.heap.get? b = some o → h'.get? b = some o)) E) F.called_set.init.plain F.entry_set_init (check_set_init_1 hT ?_)) fun r₂ s₂ hr₂ => ?_
      · refine init_setT (s := { s with heap := s.heap.push (newSet w) }) (by simp [hh]) (Nat.ne_of_gt hlS) hS (hl.imp (fun z => z.push _) (fun z => z.push _)) hi hb fun h' tk R k => ?_
        exact ⟨rfl, h', tk, rfl, R, fun b o e => k b o (Nat.ne_of_lt (Heap.lt_size e)) (Heap.get?_push_of_some _ e)⟩
      · cases r₂ with
        | error e => exact hr₂
        | ok fl₂ =>
          cases fl₂ with
          | ret r =>
            obtain ⟨rfl, h', tk, rfl, hS', hk'⟩ := hr₂
            repeat (any_goals (first | assumption | wp_step))
            exact h _ _ hS' hk'
          | _ => exact hr₂.elim
    | _ => exact hr.elim
end
end DL


namespace DL
open PySem PySem.Spec PyProof.Rows L2
def SetTO (P : Program) (w : World) (a : Addr) (l : List Str) : HO := .ext fun h => SetT P w h a l
theorem setTO_new {P : Program} {w : World} {H : Hp} {h : Heap} {a : Addr} {l : List Str} (R : SetT P w h a l) : ObjOk P w H h a (SetTO P w a l) := by
  have ⟨D, ho, _⟩ := R
  exact ⟨R, ⟨_, ho⟩, fun h1 h2 p k => SetT.at p k⟩
theorem strs_len : ∀ {us : List Value} {ks : List Str}, StrsAre us ks → us.length = ks.length
  | _, _, .nil => rfl
  | _, _, .cons _ _ t => by rw [List.length_cons, List.length_cons, strs_len t]
def txt : Value → Str
  | .str k _ => k
  | _ => Str.empty
theorem strs_txt : ∀ (us : List Value), (∀ v ∈ us, ∃ k t, v = Value.str k t) → StrsAre us (us.map txt)
  | [], _ => .nil
  | v :: us, h => by
    obtain ⟨k, t, rfl⟩ := h v List.mem_cons_self
    exact .cons k t (strs_txt us fun u hu => h u (List.mem_cons_of_mem _ hu))
section
variable {X : Cx}
theorem cr_setT (hc : X.calm = true) : CallR X (.type "set") (fun vs H Q => ∃ (p : Addr) (ks : List Str), vs = [.ref p] ∧ (SqL X.K H p (ks.map V.str) ∨ SqT X.K H p (ks.map V.str)) ∧ ks.length ≤ 1000 ∧ ∀ q, H q = none → Q (.ref q) (upd H q (SetTO X.prog X.w q (onceS ks)))) := by
  intro pins s σ H xs us Q I r h
  obtain ⟨p, ks, rfl, hq, hl, q⟩ := h
  rw [Vals.ref1 r]
  have fin : ∀ its : Array Value, IsSeq s.heap p its → StrsAre its.toList ks → wpAny (model X.prog X.w) X.A (call (.type "set") [.ref p]) (EP X pins σ Q) X.xe s := fun its h1 h2 =>
    call_setT (I.ok.hd hc) h1 h2 (by unfold scanBound; omega) fun h' tk R k => ⟨.ref _, _, I.laid (t' := tk) k (Nat.le_refl _) (setTO_new R), rfl, q _ (I.hok.fresh (Nat.le_refl _))⟩
  rcases hq with hq | hq
  · obtain ⟨its, r, pl, hz⟩ := I.list hq
    exact fin _ (.inl pl.isList) (by simpa using strsAre_of r)
  · obtain ⟨its, r, pl, hz⟩ := I.tuple hq
    exact fin _ (.inr pl) (by simpa using strsAre_of r)
theorem cr_lenT (hc : X.calm = true) : CallR X (.builtin "len") (fun vs H Q => ∃ (a : Addr) (l : List Str), vs = [.ref a] ∧ H a = some (SetTO X.prog X.w a l) ∧ l.length ≤ 1000 ∧ Q (.int (l.length : Nat)) H) := by
  intro pins s σ H xs us Q I r h
  obtain ⟨a, l, rfl, ha, hl, q⟩ := h
  rw [Vals.ref1 r]
  obtain ⟨⟨es, ep, t⟩, ho, F, _⟩ := (I.hok a _ ha).1
  have hs : es.size = l.length := F.sz
  refine call_len_set ho ⟨rfl, rfl, rfl⟩ rfl F.fit (by dsimp only; rw [hs]; omega) ⟨.int (l.length : Nat), H, I.tok _, ⟨_, by dsimp only; rw [hs]⟩, q⟩
theorem cr_sortT (hc : X.calm = true) : CallR X (.builtin "sorted") (fun vs H Q => ∃ (a : Addr) (l : List Str), vs = [.ref a] ∧ H a = some (SetTO X.prog X.w a l) ∧ l.length < 64 ∧ ∀ p, H p = none → Q (.ref p) (upd H p (.lst ((sortS l).map V.str)))) := by
  intro pins s σ H xs us Q I r h
  obtain ⟨a, l, rfl, ha, h64, q⟩ := h
  rw [Vals.ref1 r]
  obtain ⟨⟨es, ep, t⟩, ho, F, nd, ri, ld⟩ := (I.hok a _ ha).1
  have hsz : es.size = l.length := F.sz
  refine Calls.call_function_entry PyProof.Rows.kind_sorted PyProof.Rows.plain_sorted PyProof.Rows.entry_sorted (PyProof.Rows.args_sorted1 _) ?_
  unfold Builtin.«sorted»
  refine wpAny_bind (m := checkCount "sorted" 1 1 _) (wpAny_pure ?_)
  refine wpAny_bind (collect_set (A := X.A.in1) (I.ok.hd hc) ⟨_, ho, rfl, rfl⟩ F.fit (by show es.size < 4096; omega) ri ld fun s1 vs k1 hz g1 o1 pm => ?_)
  have isS : ∀ v ∈ vs, ∃ k t, v = Value.str k t := fun v hv => by
    obtain ⟨e, he, rfl⟩ := List.mem_map.mp (pm.mem_iff.mp hv)
    obtain ⟨⟨k, hk, _⟩, _⟩ := F.el e he
    obtain ⟨t, e⟩ := Value.isStrOf_shape (x := k) hk
    exact ⟨k, t, e⟩
  have hS := strs_txt vs isS
  have hvl : vs.length = l.length := by rw [pm.length_eq, List.length_map, Array.length_toList]; exact hsz
  have pl : l.Perm (vs.map txt) := perm_of_sub nd (fun x hx => by
    obtain ⟨e, he, hk⟩ := (F.mem x).mp hx
    obtain ⟨t, ev⟩ := Value.isStrOf_shape (x := x) hk
    exact List.mem_map.mpr ⟨e.2, pm.mem_iff.mpr (List.mem_map.mpr ⟨e, he, rfl⟩), by rw [ev]; rfl⟩) (by rw [List.length_map, hvl]; exact Nat.le_refl _)
  have es : s1 = { s with heap := s1.heap, gens := s1.gens, drawn := s1.drawn, toks := s1.toks } := by
    cases s1; cases s; cases o1; rfl
  refine wpAny_bind (wpAny_newList ?_ (by rw [hvl, sizeLine_eq]; omega))
  have hoL : (s1.heap.push (seqObj "list" vs.toArray 0)).get? s1.heap.objs.size = some (seqObj "list" vs.toArray 0) := Heap.get?_push_size _ rfl
  refine wpAny_bind (wpAny_holding (wpAny_call_entry PyProof.Rows.slot_list_sort ⟨_, hoL, rfl⟩ PyProof.Rows.entry_list_sort
    (list_sort_treeK strKind_oneLt (s := { s1 with heap := s1.heap.push (seqObj "list" vs.toArray 0) }) hoL hS.keysOf (fun v₁ v₂ rest e => keyKind_strs (by rw [← e]; exact hS)) (by rw [hvl]; exact h64) fun st' hp hs => ⟨_, rfl, ?_⟩)
    (PyProof.Rows.args_list_sort _)))
  obtain ⟨ys, g1', g2, g3⟩ := sorted_out_str hS hp hs
  obtain ⟨e', he'⟩ := PyProof.Rows.sortedHeap_at (vs := vs) (out := (arrOf st').map (·.2)) hoL
  have ey : ys = sortS l := sortS_uniq (g2.trans pl.symm) g3
  subst ey
  have hlen : ((sortS l).map V.str).length ≤ sizeLine := by
    rw [List.length_map, (sortS_perm l).length_eq, sizeLine_eq]; omega
  have hn : H s1.heap.objs.size = none := I.hok.fresh hz
  have kk : ∀ b o, s.heap.get? b = some o → (PyProof.Rows.sortedHeap (s1.heap.push (seqObj "list" vs.toArray 0)) s1.heap.objs.size vs ((arrOf st').map (·.2))).get? b = some o := fun b o e => by
    have hb : b < s1.heap.objs.size := Heap.lt_size (k1 b o e)
    rw [PyProof.Rows.sortedHeap_old (Nat.ne_of_lt hb) (by rw [size_push']; exact Nat.lt_succ_of_lt hb)]
    exact Heap.get?_push_of_some _ (k1 b o e)
  have J : Inv X pins σ (upd H s1.heap.objs.size (.lst ((sortS l).map V.str))) { s with heap := PyProof.Rows.sortedHeap (s1.heap.push (seqObj "list" vs.toArray 0)) s1.heap.objs.size vs ((arrOf st').map (·.2)), gens := s1.gens, drawn := s1.drawn, toks := s1.toks } :=
    I.call (ch := []) (Un.laid kk hz hn) (I.hok.laid kk hz ⟨hlen, ((arrOf st').map (·.2)).toList, e', vals_of_strs g1', by rw [Array.toArray_toList]; exact he'⟩) (by rw [g1]; exact I.bare) (fun _ z => nomatch z)
  refine wpAny_pure ⟨_, rfl, .ref s1.heap.objs.size, _, ?_, rfl, q _ hn⟩
  rw [es]
  exact J
/-! ### sorted(set(e)), len(set(e)) -/
def sortSetN : D → Option (List D)
  | .list ds => bnd (allStr ds) fun ks => if ks.length < 64 then some ((sortS (onceS ks)).map .str) else none
  | .tuple ds => bnd (allStr ds) fun ks => if ks.length < 64 then some ((sortS (onceS ks)).map .str) else none
  | _ => none
def lenSetD : D → Option D
  | .list ds => bnd (allStr ds) fun ks => if ks.length < 64 then some (.int ((onceS ks).length : Nat)) else none
  | .tuple ds => bnd (allStr ds) fun ks => if ks.length < 64 then some (.int ((onceS ks).length : Nat)) else none
  | _ => none
theorem once_le (ks : List Str) : ∀ l : List Str, (ks.foldl addL l).length ≤ l.length + ks.length := by
  induction ks with
  | nil => intro l; simp
  | cons k ks ih =>
    intro l
    rw [List.foldl_cons, List.length_cons]
    have := ih (addL l k)
    have := addL_len l k
    omega
theorem once_len (ks : List Str) : (onceS ks).length ≤ ks.length := by
  have := once_le ks []
  rw [List.length_nil] at this
  unfold onceS; omega
variable {ρ : Rho} {e1 : Expr} {f : Option D} {p p2 pos pos2 : Pos}
/-- texts in a list or tuple -/
def Txts (x : D) (ks : List Str) : Prop := x = .list (ks.map .str) ∨ x = .tuple (ks.map .str)
theorem rp_strsV {K : PySem.W.Frag} {H : Hp} : ∀ {ks : List Str} {xs : List V}, RpAll K H xs (ks.map .str) → xs = ks.map V.str
  | [], _, r => by cases r; rfl
  | b :: bs, _, r => by
    cases r with
    | cons h t => rw [(Rq.of h).str, rp_strsV t]; rfl
theorem Txts.sq {K : PySem.W.Frag} {H : Hp} {v : V} {x : D} {ks : List Str} (h : Txts x ks) (r : Rq K H v x) : ∃ p, v = .ref p ∧ (SqL K H p (ks.map V.str) ∨ SqT K H p (ks.map V.str)) := by
  rcases h with rfl | rfl
  · obtain ⟨a, xs, rfl, hs, hr⟩ := r.lst
    rw [rp_strsV hr] at hs
    exact ⟨a, rfl, .inl hs⟩
  · obtain ⟨a, xs, rfl, hs, hr⟩ := r.tup
    rw [rp_strsV hr] at hs
    exact ⟨a, rfl, .inr hs⟩
theorem pe_setT {es : TA} (hc : X.calm = true) (hm : Nb X.mg "set" (.type "set")) (hg : Gl X (Str.ofString "set")) (s1 : starEach [e1] X.env = (false, eval e1 X.env) :: starEach [] X.env) (hpl : (backTo pos (starEach [] X.env)).any (·.1) = false) (ha : PA X [e1] es) : PE X (.Call (.Name (Str.ofString "set") p) [e1] [] pos) (fun σ H Q => es σ H fun vs H1 => (∃ (p : Addr) (ks : List Str), vs = [.ref p] ∧ (SqL X.K H1 p (ks.map V.str) ∨ SqT X.K H1 p (ks.map V.str)) ∧ ks.length ≤ 1000 ∧ ∀ q, H1 q = none → Q (.ref q) (upd H1 q (SetTO X.prog X.w q (onceS ks))))) :=
  pe_callTy (cr_setT hc) hg hm.h hm.v ha hm.n hm.d s1 hpl
end
end DL


namespace DL
open PySem PySem.Spec PyProof.Rows L2
section
variable {X : Cx} {ρ : Rho} {e1 : Expr} {f : Option D} {p p2 pos pos2 : Pos}
theorem allStr_txts {ds : List D} {ks : List Str} (h : allStr ds = some ks) : ds = ks.map .str := allStr_inv h
theorem sortSet_inv {x : D} {d : List D} (h : sortSetN x = some d) : ∃ ks, Txts x ks ∧ ks.length < 64 ∧ d = (sortS (onceS ks)).map .str := by
  unfold sortSetN at h
  split at h
  · obtain ⟨ks, h1, h2⟩ := bnd_inv h
    split at h2
    · cases h2; exact ⟨ks, .inl (by rw [allStr_txts h1]), by assumption, rfl⟩
    · cases h2
  · obtain ⟨ks, h1, h2⟩ := bnd_inv h
    split at h2
    · cases h2; exact ⟨ks, .inr (by rw [allStr_txts h1]), by assumption, rfl⟩
    · cases h2
  · cases h
theorem lenSet_inv {x d : D} (h : lenSetD x = some d) : ∃ ks, Txts x ks ∧ ks.length < 64 ∧ d = .int ((onceS ks).length : Nat) := by
  unfold lenSetD at h
  split at h
  · obtain ⟨ks, h1, h2⟩ := bnd_inv h
    split at h2
    · cases h2; exact ⟨ks, .inl (by rw [allStr_txts h1]), by assumption, rfl⟩
    · cases h2
  · obtain ⟨ks, h1, h2⟩ := bnd_inv h
    split at h2
    · cases h2; exact ⟨ks, .inr (by rw [allStr_txts h1]), by assumption, rfl⟩
    · cases h2
  · cases h
theorem en_sortset (hs : Nb X.mg "sorted" (.builtin "sorted")) (ht : Nb X.mg "set" (.type "set")) (h1 : Eu X e1 ρ f) (hc : X.calm = true := by rfl) (gs : Gl X (Str.ofString "sorted") := by rfl) (gt : Gl X (Str.ofString "set") := by rfl) (s1 : starEach [e1] X.env = (false, eval e1 X.env) :: starEach [] X.env := by rfl) (hpl : (backTo pos (starEach [] X.env)).any (·.1) = false := by rfl)
    (s2 : starEach [.Call (.Name (Str.ofString "set") p) [e1] [] pos] X.env = (false, eval (.Call (.Name (Str.ofString "set") p) [e1] [] pos) X.env) :: starEach [] X.env := by rfl) (hp2 : (backTo pos2 (starEach [] X.env)).any (·.1) = false := by rfl) :
    En X (.Call (.Name (Str.ofString "sorted") p2) [.Call (.Name (Str.ofString "set") p) [e1] [] pos] [] pos2) ρ (op1 sortSetN f) := fun d q => by
  obtain ⟨x, q1, q2⟩ := bnd_inv q
  obtain ⟨ks, tx, hl, rfl⟩ := sortSet_inv q2
  intro σ H Q S q
  refine ⟨_, pe_callB (cr_sortT hc) gs hs.h hs.v (pa_cons (pe_setT hc ht gt s1 hpl (pa_cons pe_c pa_nil s1)) pa_nil s2) hs.n hs.d s2 hp2, ?_⟩
  refine h1 x q1 σ H _ S fun v H1 ⟨sm, r⟩ => ?_
  obtain ⟨a, rfl, sq⟩ := tx.sq r
  refine ⟨a, ks, rfl, sq, by omega, fun b hb => ?_⟩
  refine ⟨b, onceS ks, rfl, upd_same, by have := once_len ks; omega, fun c hc => ?_⟩
  refine q _ _ ⟨sm.trans ((same_new hb).trans (same_new hc)), c, _, rfl, ?_, upd_same, rp_strs _⟩
  cases e : H c with
  | none => rfl
  | some o =>
    have := (sm.trans (same_new (o := SetTO X.prog X.w b (onceS ks)) hb)) c o e
    rw [hc] at this; cases this
theorem eo_lenset (hs : Nb X.mg "len" (.builtin "len")) (ht : Nb X.mg "set" (.type "set")) (h1 : Eu X e1 ρ f) (hc : X.calm = true := by rfl) (gs : Gl X (Str.ofString "len") := by rfl) (gt : Gl X (Str.ofString "set") := by rfl) (s1 : starEach [e1] X.env = (false, eval e1 X.env) :: starEach [] X.env := by rfl) (hpl : (backTo pos (starEach [] X.env)).any (·.1) = false := by rfl)
    (s2 : starEach [.Call (.Name (Str.ofString "set") p) [e1] [] pos] X.env = (false, eval (.Call (.Name (Str.ofString "set") p) [e1] [] pos) X.env) :: starEach [] X.env := by rfl) (hp2 : (backTo pos2 (starEach [] X.env)).any (·.1) = false := by rfl) :
    Eo X (.Call (.Name (Str.ofString "len") p2) [.Call (.Name (Str.ofString "set") p) [e1] [] pos] [] pos2) ρ (op1 lenSetD f) := fun d q => by
  obtain ⟨x, q1, q2⟩ := bnd_inv q
  obtain ⟨ks, tx, hl, rfl⟩ := lenSet_inv q2
  intro σ H Q S q
  refine ⟨_, pe_callB (cr_lenT hc) gs hs.h hs.v (pa_cons (pe_setT hc ht gt s1 hpl (pa_cons pe_c pa_nil s1)) pa_nil s2) hs.n hs.d s2 hp2, ?_⟩
  refine h1 x q1 σ H _ S fun v H1 ⟨sm, r⟩ => ?_
  obtain ⟨a, rfl, sq⟩ := tx.sq r
  refine ⟨a, ks, rfl, sq, by omega, fun b hb => ?_⟩
  refine ⟨b, onceS ks, rfl, upd_same, by have := once_len ks; omega, ?_⟩
  exact q _ _ ⟨sm.trans (same_new hb), .int _⟩
end
end DL


/-! list.count, list.index of texts. -/
namespace DL
open PySem PySem.Spec PyProof.Rows L2
def rCntS (K : PySem.W.Frag) : V → List V → Hp → VK → Prop := fun x xs H Q => ∃ (p : Addr) (l : List Str) (z : Str), x = .ref p ∧ xs = [.str z] ∧ SqL K H p (l.map V.str) ∧ Q (.int (l.count z : Nat)) H
theorem cnt_strs {z : Str} : ∀ {l : List Str} {us : List Value}, Vals (l.map V.str) us → us.countP (eqU (.str z)) = l.count z
  | [], _, h => by cases h; rfl
  | a :: l, _, h => by
    cases h with
    | cons r t =>
      obtain ⟨tk, rfl⟩ := r
      rw [List.countP_cons, List.count_cons, cnt_strs t]
      rfl
theorem mt_lcountS {X : Cx} : MtR X "list.count" (rCntS X.K) := by
  intro pins s σ H x xs v us Q I rx rxs h
  obtain ⟨p, l, z, rfl, rfl, hs, q⟩ := h
  cases rx
  obtain ⟨u, rfl, ru⟩ := rxs.one
  obtain ⟨t, rfl⟩ := ru
  obtain ⟨its, rv, ⟨⟨cls, dd, data, sl⟩, n, ho, hc, hdn, hd⟩, hlen⟩ := I.list hs
  simp only at hc hd
  subst hc hd
  refine call_meets PySem.F.slot_list_count ⟨_, ho, rfl⟩ PySem.F.entry_list_count (PySem.F.args_list_count_2 _ _)
    (SeqAt.list_countAt p its.toArray n dd sl (.str z t) (eqU (.str z))) ⟨ho, fun y hy => mem_eqAt (x := .str z) ⟨t, rfl⟩ rfl rv (flat_strs l) y (by simpa using hy), ?_⟩
  have ec : its.toArray.toList.countP (eqU (.str z)) = l.count z := cnt_strs rv
  refine ⟨.int (l.count z : Nat), H, I.tok _, ⟨s.toks, ?_⟩, q⟩
  show Value.int ((its.toArray.toList.countP (eqU (.str z)) : Nat) : Int) s.toks = Value.int ((l.count z : Nat) : Int) s.toks
  rw [ec]
def cntD : D → D → Option D
  | .list ds, .str x => bnd (allStr ds) fun l => some (.int (l.count x : Nat))
  | _, _ => none
def idxLD : D → D → Option D
  | .list ds, .str x => bnd (allStr ds) fun l => bnd (idxL l x) fun j => some (.int (j : Nat))
  | _, _ => none
section
variable {X : Cx} {ρ : Rho} {e a b c : Expr} {f g h : Option D}
theorem eo_cntL {apos cpos : Pos} (ha : Eu X a ρ f) (hb : Eo X b ρ g) (hbase : attributeBase a "count" X.env (eval a X.env) = eval a X.env := by rfl)
    (hfew : ((backTo cpos (starEach [b] X.env)).all (fun x => !x.1) && (backToKw cpos (keywordEach [] X.env)).all (fun x => x.1.isSome)
      && decide ([b].length + ([] : List Keyword).length + (if ([] : List Keyword).isEmpty then 0 else 1) < 30)) = true := by rfl)
    (hline : (apos.endLine == cpos.line) = true := by rfl) (hs : starEach [b] X.env = (false, eval b X.env) :: starEach [] X.env := by rfl) (hplain : (backTo cpos (starEach [] X.env)).any (·.1) = false := by rfl) : Eo X (.Call (.Attribute a "count" apos) [b] [] cpos) ρ (op2 cntD f g) := fun d q => by
  obtain ⟨x, y, q1, q2, q3⟩ := op2_inv q
  unfold cntD at q3
  split at q3
  · rename_i ds z
    obtain ⟨l, q4, q5⟩ := bnd_inv q3
    cases q5
    have el := allStr_inv q4
    subst el
    intro σ H Q S q
    refine ⟨_, pe_bm PySem.F.plainAttrs_list PySem.F.slot_list_count PySem.F.type_list_count mt_lcountS pe_c (pa_cons pe_c pa_nil hs) hbase hfew hline hs hplain, ha _ q1 σ H _ S fun u H1 ⟨s1, r1⟩ => ?_⟩
    obtain ⟨p, xs, rfl, hq, hr⟩ := r1.lst
    have ex := rp_strs' hr
    subst ex
    refine ⟨.inl ⟨rfl, _, hq⟩, hb _ q2 σ H1 _ (S.mono s1) fun v H2 ⟨s2, r2⟩ => ?_⟩
    have ev := (Rq.of r2).str
    subst ev
    exact ⟨p, l, z, rfl, rfl, s2.seq hq, q _ H2 ⟨s1.trans s2, .int _⟩⟩
  · cases q3
theorem eo_idxL {apos cpos : Pos} (ha : Eu X a ρ f) (hb : Eo X b ρ g) (hbase : attributeBase a "index" X.env (eval a X.env) = eval a X.env := by rfl)
    (hfew : ((backTo cpos (starEach [b] X.env)).all (fun x => !x.1) && (backToKw cpos (keywordEach [] X.env)).all (fun x => x.1.isSome)
      && decide ([b].length + ([] : List Keyword).length + (if ([] : List Keyword).isEmpty then 0 else 1) < 30)) = true := by rfl)
    (hline : (apos.endLine == cpos.line) = true := by rfl) (hs : starEach [b] X.env = (false, eval b X.env) :: starEach [] X.env := by rfl) (hplain : (backTo cpos (starEach [] X.env)).any (·.1) = false := by rfl) : Eo X (.Call (.Attribute a "index" apos) [b] [] cpos) ρ (op2 idxLD f g) := fun d q => by
  obtain ⟨x, y, q1, q2, q3⟩ := op2_inv q
  unfold idxLD at q3
  split at q3
  · rename_i ds z
    obtain ⟨l, q4, q5⟩ := bnd_inv q3
    obtain ⟨j, q6, q7⟩ := bnd_inv q5
    cases q7
    unfold idxL at q6
    split at q6
    · rename_i hm
      cases q6
      have el := allStr_inv q4
      subst el
      intro σ H Q S q
      refine ⟨_, pe_bm PySem.F.plainAttrs_list PySem.F.slot_list_index PySem.F.type_list_index mt_index pe_c (pa_cons pe_c pa_nil hs) hbase hfew hline hs hplain, ha _ q1 σ H _ S fun u H1 ⟨s1, r1⟩ => ?_⟩
      obtain ⟨p, xs, rfl, hq, hr⟩ := r1.lst
      have ex := rp_strs' hr
      subst ex
      refine ⟨.inl ⟨rfl, _, hq⟩, hb _ q2 σ H1 _ (S.mono s1) fun v H2 ⟨s2, r2⟩ => ?_⟩
      have ev := (Rq.of r2).str
      subst ev
      have hlt := List.idxOf_lt_length_of_mem hm
      refine ⟨p, l.map V.str, .str z, l.idxOf z, .str z, rfl, rfl, s2.seq hq, rfl, flat_strs l, ?_, ?_, fun m z' hm' e => ?_, q _ H2 ⟨s1.trans s2, .int _⟩⟩
      · rw [List.getElem?_map, List.getElem?_eq_getElem hlt]
        simp
      · show (z == z) = true
        simp
      · have hml : m < l.length := Nat.lt_trans hm' hlt
        rw [List.getElem?_map, List.getElem?_eq_getElem hml] at e
        cases e
        have h9 := List.not_of_lt_findIdx (p := (· == z)) (xs := l) (i := m) hm'
        show (l[m] == z) = false
        simpa using h9
    · cases q6
  · cases q3
end
end DL


/-! More operators: isinstance, str, tuple * n, a sign in a text, z[a:b], zip of lists, tuples of the top. -/
namespace DL
open PySem PySem.Spec PyProof.Rows L2
/-! ### isinstance -/
def tyN : D → String
  | .none => "NoneType"
  | .bool _ => "bool"
  | .int _ => "int"
  | .str _ => "str"
  | .list _ => "list"
  | .tuple _ => "tuple"
  | .dict _ => "dict"
def isiD (T : String) (d : D) : Option Bool := kitB (tyN d) T
theorem Rq.ty {K : PySem.W.Frag} {H : Hp} {v : V} {d : D} (h : Rq K H v d) : TyX K H v (.type (tyN d)) := by
  cases h with
  | of h =>
    cases h with
    | non => exact .base .non
    | bl b => exact .base (.bl b)
    | int i => exact .base (.int i)
    | str x => exact .base (.str x)
    | tup h _ =>
      rcases h with ⟨o, h, _⟩ | ⟨o, _, _, h, c, _⟩
      · exact .fTuple h
      · exact .kTuple h c
    | lst h _ =>
      rcases h with ⟨o, h⟩ | ⟨o, _, _, h, c, _⟩
      · exact .base (.frz h)
      · exact .kList h c
    | dct h _ => exact .fDict h
  | own h _ => exact .base (.lst h)
  | dct h _ => exact .base (.dK h)
section
variable {X : Cx} {ρ : Rho} {e a b c : Expr} {f g h : Option D}
theorem eo_isi {T : String} {p p2 pos : Pos} (hn : Nb X.mg "isinstance" (.builtin "isinstance")) (ht : Nb X.mg T (.type T)) (ha : Eu X a ρ f) (hg : Gl X (Str.ofString "isinstance") := by rfl) (hg2 : Gl X (Str.ofString T) := by rfl)
    (s1 : starEach [a, .Name (Str.ofString T) p2] X.env = (false, eval a X.env) :: starEach [.Name (Str.ofString T) p2] X.env := by rfl) (s2 : starEach [.Name (Str.ofString T) p2] X.env = (false, eval (.Name (Str.ofString T) p2) X.env) :: starEach [] X.env := by rfl) (hpl : (backTo pos (starEach [.Name (Str.ofString T) p2] X.env)).any (·.1) = false := by rfl) :
    Eo X (.Call (.Name (Str.ofString "isinstance") p) [a, .Name (Str.ofString T) p2] [] pos) ρ (boV (op1 (isiD T) f)) := fun d q => by
  obtain ⟨t, q1, q2⟩ := bnd_inv q
  cases q2
  obtain ⟨x, q3, q4⟩ := bnd_inv q1
  intro σ H Q S k
  refine ⟨_, pe_callB call_isi hg hn.h hn.v (pa_cons pe_c (pa_cons (pe_bltn hg2 ht.h ht.v (v := .ty T) rfl ht.n ht.d) pa_nil s2) s1) hn.n hn.d s1 hpl, ha x q3 σ H _ S fun v H1 ⟨s1', r1⟩ => ?_⟩
  exact ⟨v, .ty T, _, _, t, rfl, .ty T, r1.ty, q4, k _ H1 ⟨s1', .bl _⟩⟩
/-! ### str -/
def strD : D → Option D
  | .int i => if i.natAbs.log2 < 1920 then some (.str (toString i)) else none
  | .str s => some (.str s)
  | _ => none
theorem ca_str : CaF X (.type "str") strD := fun x d h => by
  unfold strD at h
  split at h
  · split at h
    · rename_i i hi
      cases h
      exact ⟨_, fun H vs Q r q => by
        obtain ⟨v, rfl, r0⟩ := paired1 r
        exact ⟨_, call_str_int, i, by rw [r0.int], hi, q _ H ⟨.refl H, .str _⟩⟩, .val⟩
    · cases h
  · cases h
    exact ⟨_, fun H vs Q r q => by
      obtain ⟨v, rfl, r0⟩ := paired1 r
      exact ⟨_, SkE.call_str_str, _, by rw [r0.str], q _ H ⟨.refl H, .str _⟩⟩, .val⟩
  · cases h
/-! ### tuple * n -/
theorem op_repTF : OpR X (binaryOp .Mult) (fun x y H Q => ∃ l k xs, x = .ref l ∧ y = .int k ∧ PlT X.K H l xs ∧ xs ≠ [] ∧ 2 ≤ k ∧ k ≤ 1000 ∧ xs.length ≤ 1000 ∧ ∀ p o, H p = none → o.dict = none → Q (.ref p) (upd H p (.frz o (.tup (List.replicate k.toNat xs).flatten)))) := by
  intro pins s σ H x y v u Q I rx ry h
  obtain ⟨l, k, xs, rfl, rfl, hT, hne, h1, h2, hz, q⟩ := h
  cases rx
  obtain ⟨t, rfl⟩ := ry
  obtain ⟨⟨cls, dd, data, sl⟩, its, n, ho, hc, hdn, hd, r, hz0⟩ := inv_pl I hT
  simp only at hc hd hdn
  subst hc hd hdn
  have le : its.length = xs.length := r.length.symm
  have em : its.toArray.isEmpty = false := by
    cases its with
    | nil => exact absurd ((Vals.nil_iff r).mp rfl) hne
    | cons a b => rfl
  have sz : its.toArray.size = xs.length := by rw [List.size_toArray, le]
  have few : k.toNat * xs.length ≤ 1000 * 1000 := Nat.mul_le_mul (by omega) hz
  have fl : (List.replicate k.toNat its).flatten.length ≤ sizeLine := by rw [PyProof.Rows.lm_len_rep_flat, le, sizeLine_eq]; omega
  have b0 : (decide (k < -(2 ^ 63)) || decide (k ≥ 2 ^ 63)) = false := by simp; omega
  have b1 : (its.toArray.isEmpty || k == 1) = false := by rw [em, Bool.false_or, beq_eq_false_iff_ne]; omega
  have b2 : (decide (k ≤ 0) || its.toArray.isEmpty) = false := by rw [em, Bool.or_false, decide_eq_false_iff_not]; omega
  have mk : ((xs.length : Nat) : Int) * k ≤ 1000 * k := Int.mul_le_mul_of_nonneg_right (by omega) (by omega)
  have b3 : ¬ ((its.toArray.size : Nat) : Int) * k > (2 ^ 63 - 1) / 8 := by rw [sz]; omega
  have b4 : Builtin.Tuple.tupleTooMany (((its.toArray.size : Nat) : Int) * k) = false := by
    unfold Builtin.Tuple.tupleTooMany
    rw [sizeLine_eq, sz, decide_eq_false_iff_not]
    omega
  refine wpAny_binaryOp_repeat_ref (T := "tuple") (U := "int") (by decide) ⟨_, ho, rfl⟩ (fun s1 => typeIs_int s1 k t) noFill_tuple_mul F.fills_int_mul F.slot_int_rmul repeat_tuple F.slot_int_index.lookup
    (call_meets F.slot_int_rmul (typeIs_int s k t) F.entry_int_rmul (F.args_int_rmul_2 _ _) (int_rmul_tuple k t l its.toArray n none sl)
      ⟨ho, rfl, ⟨_, ho, rfl⟩, call_meets F.slot_tuple_mul ⟨_, ho, rfl⟩ F.entry_tuple_mul (F.args_tuple_mul_2 _ _) (tuple_mulW l its.toArray n none sl k t b0 b1 b2 b3 b4 (by rw [size_rep, List.size_toArray]; exact fl)) ⟨ho, ?_⟩⟩)
  rw [size_rep]
  exact ⟨.ref s.heap.objs.size, _, inv_tup (t' := s.toks) I (fun b u e => Heap.get?_push_of_some _ e) (Nat.le_refl _) (Heap.get?_push_size _ rfl) rfl rfl (r.rep k.toNat) (by rw [PyProof.Rows.lm_len_rep_flat, sizeLine_eq]; omega), rfl, q _ _ (I.hok.fresh (Nat.le_refl _)) rfl⟩
theorem RpAll.repl {K : PySem.W.Frag} {H : Hp} {xs : List V} {ds : List D} (r : RpAll K H xs ds) : ∀ n : Nat, RpAll K H (List.replicate n xs).flatten (List.replicate n ds).flatten
  | 0 => .nil
  | n + 1 => by
    rw [List.replicate_succ, List.replicate_succ, List.flatten_cons, List.flatten_cons]
    exact r.append (r.repl n)
def mulX : D → D → Option D
  | .tuple (a :: l), .int k => if k = 0 then some (.tuple []) else if k = 1 then some (.tuple (a :: l)) else if 2 ≤ k ∧ k ≤ 1000 ∧ (a :: l).length ≤ 1000 then some (.tuple (List.replicate k.toNat (a :: l)).flatten) else none
  | x, y => mulD x y
theorem of_mulX : OpF X (binaryOp .Mult) mulX := fun x y d h => by
  unfold mulX at h
  split at h
  · split at h
    · rename_i e
      cases h; subst e
      exact ⟨_, o_rep01 (t := false) (by simp), .val⟩
    · split at h
      · rename_i e
        cases h; subst e
        exact ⟨_, o_rep01 (t := true) (by simp), .val⟩
      · split at h
        · rename_i a l k n0 n1 hk
          cases h
          exact ⟨_, fun H u v Q ru rv q => by
            obtain ⟨p, xs, rfl, hs, hr⟩ := ru.tupP
            have hx : xs ≠ [] := fun e => by subst e; cases hr
            exact ⟨_, op_repTF, p, k, xs, rfl, rv.int, hs, hx, hk.1, hk.2.1, by rw [hr.length]; exact hk.2.2, fun p' o hp ho => q _ _ ⟨same_new hp, rp_tupNew hp ho (hr.repl _)⟩⟩, .val⟩
        · cases h
  · exact of_mul x y d h
/-! ### in -/
def inX (x : D) : D → Option Bool
  | .str z => match x with
    | .str s => match s.cps.toList with
      | [c] => some (decide (c ∈ z.cps.toList))
      | _ => none
    | _ => none
  | y => inB x y
def ninX (x y : D) : Option Bool := notT (inX x y)
theorem sign_eq {s : Str} {c : Nat} (h : s.cps.toList = [c]) : s = ⟨#[c]⟩ := Str.ext' (Array.toList_inj.mp h)
theorem cm_inX (r : Ru X) : CmF X (compareOp .In) inX := fun x y b h => by
  unfold inX at h
  split at h
  · rename_i z
    split at h
    · rename_i s
      split at h
      · rename_i c hc
        cases h
        intro H v w Q rv rw q
        have e1 := rv.str
        have e2 := rw.str
        subst e1 e2
        exact ⟨_, op_in_sign, c, z, by rw [sign_eq hc], rfl, q _ _ ⟨.refl _, .bl _⟩⟩
      · cases h
    · cases h
  · exact cm_in r x _ b h
theorem cm_ninX (r : Ru X) : CmF X (compareOp .NotIn) ninX := fun x y b h => by
  unfold ninX at h
  obtain ⟨t, h1, h2⟩ := bnd_inv h
  cases h2
  unfold inX at h1
  split at h1
  · rename_i z
    split at h1
    · rename_i s
      split at h1
      · rename_i c hc
        cases h1
        intro H v w Q rv rw q
        have e1 := rv.str
        have e2 := rw.str
        subst e1 e2
        exact ⟨_, op_notIn_sign, c, z, by rw [sign_eq hc], rfl, q _ _ ⟨.refl _, .bl _⟩⟩
      · cases h1
    · cases h1
  · exact cm_nin r x _ (!t) (by unfold ninB; rw [h1]; rfl)
/-! ### z[a:b] -/
def cutX : D → Option Int → Option Int → Option D
  | .str z, lo, hi => if z.length ≤ sizeLine then some (.str (cutS z lo hi)) else none
  | x, lo, hi => cutF x lo hi
theorem s_strS {z : Str} {lo hi : Option Int} (hz : z.length ≤ sizeLine) : SlV X (.str z) lo hi (.val (.str (cutS z lo hi))) := fun H u Q ru q => by
  have e := ru.str
  subst e
  exact ⟨_, sl_str, z, rfl, hz, q _ H ⟨.refl H, .str _⟩⟩
theorem eo_cutX {pos p2 : Pos} {lo hi : Option Expr} {l u : Option (Option Int)} (ha : Eu X a ρ f) (hl : Po X lo ρ l) (hh : Po X hi ρ u) : Eo X (.Subscript a (.Slice lo hi none p2) pos) ρ (op3s cutX f l u) := fun d q => by
  obtain ⟨x, l', u', h1, h2, h3, h4⟩ := op3s_inv q
  have ea := ha x h1
  unfold cutX at h4
  split at h4
  · split at h4
    · rename_i hz
      cases h4; exact ev_sl (s_strS hz) ea (hl _ h2) (hh _ h3)
    · cases h4
  · exact eo_cut ha hl hh d (by rw [h1, h2, h3]; exact h4)
/-! ### a tuple of the top -/
theorem eo_gtup {x : Str} {p : Addr} {pos : Pos} {ds : List D} (hm : X.mg x = some (.ref p)) (hr : ∀ H, Rp X.K H (.ref p) (.tuple ds)) (hg : Gl X x := by rfl) (hd : (x == ("__debug__" : Str)) = false := by decide) : Eo X (.Name x pos) ρ (some (.tuple ds)) := fun d q => by
  cases q
  intro σ H Q S k
  exact ⟨_, pe_glob hg hm (v := .ref p) rfl hd, k _ H ⟨.refl H, hr H⟩⟩
end
/-! ### zip of lists -/
section
variable {X : Cx} {ρ : Rho} {a b : Expr} {f g : Option D}
theorem Rp.lstF {K : PySem.W.Frag} {H : Hp} {v : V} {ds : List D} (h : Rp K H v (.list ds)) : ∃ a xs, v = .ref a ∧ FzL K H a xs ∧ RpAll K H xs ds := by
  cases h with | lst h r => exact ⟨_, _, rfl, h, r⟩
theorem ei_zipL {it it2 : Expr} {xs ys : List D} {p pos tpos : Pos} {elts : List Expr} {kk : Nat} (hm : X.mg "zip" = none) (h : Ev X it ρ (.val (.list xs))) (h2 : Ev X it2 ρ (.val (.list ys))) (hl : xs.length = ys.length) (hg : Gl X "zip" := by rfl) (hs : starEach [it, it2] X.env = (false, eval it X.env) :: starEach [it2] X.env := by rfl) (hs2 : starEach [it2] X.env = (false, eval it2 X.env) :: starEach [] X.env := by rfl) (hpl : (backTo pos (starEach [it2] X.env)).any (·.1) = false := by rfl) :
    EvI X (.Tuple elts kk tpos) (.Call (.Name "zip" p) [it, it2] [] pos) ρ true ((xs.zip ys).map fun q => .tuple [q.1, q.2]) := fun σ H R S q =>
  ⟨_, RZ.pi_zipA hg hm (pa_cons (pe_know pe_c) (pa_cons pe_c pa_nil hs2) hs) hs hpl, h σ H _ S fun v H1 ⟨s1, r1⟩ kn => h2 σ H1 _ (S.mono s1) fun v' H2 ⟨s2, r2⟩ => by
    obtain ⟨a, vs, rfl, f1, hr1⟩ := r1.lstF
    have hz := kn a vs rfl (.inl f1.sq)
    have f2 := f1.stb (.of s2)
    have hr := hr1.mono (.of s2)
    obtain ⟨b, ws, rfl, f3, hr'⟩ := r2.lstF
    have l1 := hr.length
    have l2 := hr'.length
    refine ⟨a, b, vs, ws, rfl, .inl ⟨f2.sq, f3.sq, q _ H2 (s1.trans s2) (by rw [List.length_map, List.length_zip]; omega) ?_⟩⟩
    have lz : ((xs.zip ys).map fun q : D × D => (PyData.tuple [q.1, q.2])).length = vs.length := by rw [List.length_map, List.length_zip]; omega
    rw [lz]
    refine ⟨fun i H3 hi z => ⟨vs, ws, vs[i], ws[i]'(by omega), (f2.stb z).sq, (f3.stb z).sq, by simp [hi], by simp [show i < ws.length by omega]⟩, fun H3 z => ⟨vs, ws, (f2.stb z).sq, (f3.stb z).sq, .inl (Nat.le_refl _)⟩, fun i H3 x H4 hi z y => ?_⟩
    obtain ⟨T, x', y', rfl, hT, rfl, hx, hy⟩ := y
    obtain ⟨d, e1, e2⟩ := hr.got (hx vs (f2.stb z).sq)
    obtain ⟨d', e1', e2'⟩ := hr'.got (hy ws (f3.stb z).sq)
    refine ⟨same_new hT, .tuple [d, d'], ?_, .inr ⟨rfl, T, _, _, rfl, rfl, .of upd_same, .cons ((e2.mono z).mono (stb_new hT)) (.cons ((e2'.mono z).mono (stb_new hT)) .nil)⟩⟩
    have ez : (xs.zip ys)[i]? = some (d, d') := List.getElem?_zip_eq_some.mpr ⟨e1, e1'⟩
    rw [List.getElem?_map, ez]; rfl⟩
def zipX : D → D → Option (List D)
  | .list xs, .list ys => if xs.length = ys.length then some ((xs.zip ys).map fun q => .tuple [q.1, q.2]) else none
  | x, y => zipI x y
theorem io_zipX {p pos tpos : Pos} {elts : List Expr} {kk : Nat} (hm : Nb X.mg "zip" (.type "zip")) (h : Eo X a ρ f) (h' : Eo X b ρ g) (hg : Gl X "zip" := by rfl) (hs : starEach [a, b] X.env = (false, eval a X.env) :: starEach [b] X.env := by rfl) (hs2 : starEach [b] X.env = (false, eval b X.env) :: starEach [] X.env := by rfl) (hpl : (backTo pos (starEach [b] X.env)).any (·.1) = false := by rfl) : Io X (.Tuple elts kk tpos) (.Call (.Name "zip" p) [a, b] [] pos) ρ true (op2 zipX f g) := fun d q => by
  obtain ⟨x, y, h1, h2, h3⟩ := op2_inv q
  unfold zipX at h3
  split at h3
  · split at h3
    · cases h3; exact ei_zipL hm.h (h _ h1) (h' _ h2) (by assumption) hg hs hs2 hpl
    · cases h3
  · exact io_zip hm h h' hg hs hs2 hpl d (by rw [h1, h2]; exact h3)
end
/-! ### a tuple of texts at the top, as the head tells it -/
def strsIn : List Value → List Str → Bool
  | [], [] => true
  | .str y _ :: vs, x :: xs => decide (y = x) && strsIn vs xs
  | _, _ => false
def tupIn (K : PySem.W.Frag) (x : Str) (l : List Str) : Bool := match K.lookup (He.ga K x) with
  | some ⟨.type T, none, .seq its _, _⟩ => decide (T = "tuple") && (strsIn its.toList l && decide (its.size ≤ 1000))
  | _ => false
theorem strsIn_ok : ∀ {vs : List Value} {l : List Str}, strsIn vs l = true → Vals (l.map V.str) vs
  | [], [], _ => .nil
  | [], _ :: _, h => nomatch h
  | .str y t :: vs, x :: xs, h => by
    unfold strsIn at h
    rw [Bool.and_eq_true, decide_eq_true_eq] at h
    obtain ⟨rfl, h⟩ := h
    exact .cons ⟨t, rfl⟩ (strsIn_ok h)
  | .str _ _ :: _, [], h => nomatch h
theorem tupIn_ok {K : PySem.W.Frag} {x : Str} {l : List Str} (h : tupIn K x l = true) (H : Hp) : Rp K H (.ref (He.ga K x)) (.tuple (l.map .str)) := by
  unfold tupIn at h
  split at h
  · rename_i T its n sl e
    rw [Bool.and_eq_true, Bool.and_eq_true, decide_eq_true_eq, decide_eq_true_eq] at h
    obtain ⟨rfl, h1, h2⟩ := h
    exact .tup (.inr ⟨_, its, n, e, rfl, rfl, rfl, by rw [sizeLine_eq]; omega, strsIn_ok h1⟩) (rp_strs l)
  · cases h
end DL


/-! Objects of one's own: their fields read and written. -/
namespace DL
open PySem PySem.Spec PyProof.Rows L2
def fldD : Fld → D
  | .val d => d
  | .own ds => .list ds
  | .dic es => .dict es
def setF (f : Str) (x : Fld) : List (Str × Fld) → List (Str × Fld)
  | [] => [(f, x)]
  | (g, y) :: r => if g = f then (g, x) :: r else (g, y) :: setF f x r
section
variable {K : PySem.W.Frag} {H H' : Hp}
theorem FdOk.q {v : V} {f : Fld} {L : List Addr} (h : FdOk K H v f L) : Rq K H v (fldD f) := by
  cases h with
  | val r => exact .of r
  | own e r => exact .own e r
  | dic e r => exact .dct e r
theorem FdsOk.get {vs : List (Str × V)} {fs : List (Str × Fld)} {L : List Addr} {f : Str} {x : Fld} (h : FdsOk K H vs fs L) : fs.lookup f = some x → ∃ v M, vs.lookup f = some v ∧ FdOk K H v x M ∧ ∀ p ∈ M, p ∈ L := by
  induction h with
  | nil => intro e; cases e
  | @cons g v y vs fs L M h _ ih =>
    intro e
    rw [List.lookup_cons] at e ⊢
    cases hb : f == g with
    | true =>
      rw [hb] at e
      simp only at e ⊢
      cases e
      exact ⟨v, L, rfl, h, fun p hp => List.mem_append_left _ hp⟩
    | false =>
      rw [hb] at e
      simp only at e ⊢
      obtain ⟨w, N, h1, h2, h3⟩ := ih e
      exact ⟨w, N, h1, h2, fun p hp => List.mem_append_right _ (h3 p hp)⟩
theorem SOk.ins {ρ : Rho} {σ : L2.St} (h : SOk K ρ σ H) {i : Nat} {C a : Addr} {fs : List (Str × Fld)} (e : ρ[i]? = some (.obj (some C) a fs)) : ∃ dx vs L, σ[i]? = some (some (.ref a)) ∧ H a = some (.ins C dx vs) ∧ FdsOk K H vs fs L ∧ (a :: L).Nodup := by
  obtain ⟨v, L, e1, o⟩ := h.has i _ e rfl
  cases o with
  | ins e2 r n => exact ⟨_, _, _, e1, e2, r, n⟩
theorem nd_split {L M : List Addr} (h : (L ++ M).Nodup) : L.Nodup ∧ M.Nodup ∧ ∀ x ∈ L, x ∉ M := by
  rw [List.nodup_append] at h
  exact ⟨h.1, h.2.1, fun x hx hy => h.2.2 x hx x hy rfl⟩
/-- a field's thing at p is changed in its place -/
theorem FdsOk.write {vs : List (Str × V)} {fs : List (Str × Fld)} {L : List Addr} {f : Str} {x y : Fld} {p : Addr} {u o : HO} (h : FdsOk K H vs fs L) (nd : L.Nodup) (e : fs.lookup f = some x) (l : vs.lookup f = some (.ref p)) (hp : H p = some u) (mu : MutS (some u)) (hx : FdOk K H (.ref p) x [p]) (hy : FdOk K (upd H p o) (.ref p) y [p]) : FdsOk K (upd H p o) vs (setF f y fs) L := by
  have st : Stb H (upd H p o) := stb_upd hp mu
  induction h with
  | nil => cases e
  | @cons g v z vs fs L M h hr ih =>
    obtain ⟨n1, n2, n3⟩ := nd_split nd
    rw [List.lookup_cons] at e l
    cases hb : f == g with
    | true =>
      rw [hb] at e l
      simp only at e l
      cases e
      cases l
      have eg : g = f := (beq_iff_eq.mp hb).symm
      rw [setF, if_pos eg]
      have eL : L = [p] := h.det hx
      subst eL
      exact .cons hy (hr.mono st fun q hq r hr' => by
        rw [upd_ne (fun z => n3 p (by simp) (by rw [← z]; exact hq))]; exact hr')
    | false =>
      rw [hb] at e l
      simp only at e l
      have ng : ¬ g = f := fun z => by rw [z] at hb; simp at hb
      rw [setF, if_neg ng]
      obtain ⟨w, N, h1, h2, h3⟩ := hr.get e
      rw [l] at h1
      cases h1
      have eN : N = [p] := h2.det hx
      have pM : p ∈ M := h3 p (by rw [eN]; simp)
      exact .cons (h.mono st fun q hq r hr' => by
        rw [upd_ne (fun z => n3 q hq (by rw [z]; exact pM))]; exact hr') (ih n2 e l)
/-- a datum of a field is stored anew -/
theorem FdsOk.put {vs : List (Str × V)} {fs : List (Str × Fld)} {L : List Addr} {f : Str} {d d' : D} {v : V} (h : FdsOk K H vs fs L) (e : fs.lookup f = some (.val d)) (r : Rp K H v d') : FdsOk K H (putF f v vs) (setF f (.val d') fs) L := by
  induction h with
  | nil => cases e
  | @cons g w z vs fs L M h hr ih =>
    rw [List.lookup_cons] at e
    cases hb : f == g with
    | true =>
      rw [hb] at e
      simp only at e
      cases e
      have eg : g = f := (beq_iff_eq.mp hb).symm
      rw [setF, if_pos eg, putF, if_pos eg]
      have eL : L = [] := by cases h; rfl
      subst eL
      exact .cons (.val r) hr
    | false =>
      rw [hb] at e
      simp only at e
      have ng : ¬ g = f := fun z => by rw [z] at hb; simp at hb
      rw [setF, if_neg ng, putF, if_neg ng]
      exact .cons h (ih e)
/-- a new field -/
theorem FdsOk.add {vs : List (Str × V)} {fs : List (Str × Fld)} {L M : List Addr} {f : Str} {v : V} {x : Fld} (h : FdsOk K H vs fs L) (e : fs.lookup f = none) (r : FdOk K H v x M) : FdsOk K H (putF f v vs) (setF f x fs) (L ++ M) := by
  induction h with
  | nil =>
    rw [putF, setF, List.nil_append, ← List.append_nil M]
    exact .cons r .nil
  | @cons g w z vs fs L N h hr ih =>
    rw [List.lookup_cons] at e
    cases hb : f == g with
    | true => rw [hb] at e; cases e
    | false =>
      rw [hb] at e
      simp only at e
      have ng : ¬ g = f := fun z => by rw [z] at hb; simp at hb
      rw [setF, if_neg ng, putF, if_neg ng, List.append_assoc]
      exact .cons h (ih e)
end
section
variable {X : Cx} {ρ : Rho} {e a b c : Expr} {f g h : Option D}
/-! ### o.f -/
theorem eu_fld {s : String} {i : Nat} {p pos : Pos} {C q : Addr} {fs : List (Str × Fld)} {x : Str} {y : Fld} (hs : Sl X.N s i) (cl : Cls X.K C) (na : NoAttr X.K C x) (h : ρ[i]? = some (.obj (some C) q fs) := by rfl) (hf : fs.lookup x = some y := by rfl) (hv : Vis X.env.scope (Str.ofString s) := by first | exact Or.inl rfl | exact Or.inr (Or.inl rfl) | exact Or.inr (Or.inr rfl))
    (hb : attributeBase (.Name (Str.ofString s) p) x X.env (eval (.Name (Str.ofString s) p) X.env) = eval (.Name (Str.ofString s) p) X.env := by rfl) : Eu X (.Attribute (.Name (Str.ofString s) p) x pos) ρ (some (fldD y)) := fun d z => by
  cases z
  intro σ H Q S q
  obtain ⟨dx, vs, L, e1, e2, e3, e4⟩ := S.ins h
  obtain ⟨v, M, l1, l2, _⟩ := e3.get hf
  exact ⟨_, pe_fld (pe_var hs.h hv hs.d hs.c) hb, _, e1, _, C, dx, vs, v, rfl, e2, cl, na, l1, q _ H ⟨.refl H, l2.q⟩⟩
theorem eo_fld {s : String} {i : Nat} {p pos : Pos} {C q : Addr} {fs : List (Str × Fld)} {x : Str} {y : D} (hs : Sl X.N s i) (cl : Cls X.K C) (na : NoAttr X.K C x) (h : ρ[i]? = some (.obj (some C) q fs) := by rfl) (hf : fs.lookup x = some (.val y) := by rfl) (hv : Vis X.env.scope (Str.ofString s) := by first | exact Or.inl rfl | exact Or.inr (Or.inl rfl) | exact Or.inr (Or.inr rfl))
    (hb : attributeBase (.Name (Str.ofString s) p) x X.env (eval (.Name (Str.ofString s) p) X.env) = eval (.Name (Str.ofString s) p) X.env := by rfl) : Eo X (.Attribute (.Name (Str.ofString s) p) x pos) ρ (some y) := fun d z => by
  cases z
  intro σ H Q S q
  obtain ⟨dx, vs, L, e1, e2, e3, e4⟩ := S.ins h
  obtain ⟨v, M, l1, l2, _⟩ := e3.get hf
  cases l2 with
  | val r => exact ⟨_, pe_fld (pe_var hs.h hv hs.d hs.c) hb, _, e1, _, C, dx, vs, v, rfl, e2, cl, na, l1, q _ H ⟨.refl H, r⟩⟩
/-! ### x in d -/
def inKB (x : D) : D → Option Bool
  | .dict es => bnd (kd x) fun k => some (lookD es k).isSome
  | _ => none
def ninKB (x y : D) : Option Bool := notT (inKB x y)
theorem inK_inv {x y : D} {t : Bool} (h : inKB x y = some t) : ∃ es k, y = .dict es ∧ x = keyD k ∧ t = (lookD es k).isSome := by
  unfold inKB at h
  split at h
  · obtain ⟨k, h1, h2⟩ := bnd_inv h
    cases h2
    exact ⟨_, k, rfl, kd_eq h1, rfl⟩
  · cases h
theorem eo_din {pos : Pos} (ru : Ru X) (ha : Eo X a ρ f) (hb : Eu X b ρ g) (hm : behindInMarks .In b = false := by first | exact nomark _ | rfl) : Eo X (.Compare a [.In] [b] pos) ρ (boV (op2 inKB f g)) := fun d q => by
  obtain ⟨t, q1, q2⟩ := bnd_inv q
  cases q2
  obtain ⟨x, y, h1, h2, h3⟩ := op2_inv q1
  obtain ⟨es, k, rfl, rfl, rfl⟩ := inK_inv h3
  intro σ H Q S q
  refine ⟨_, pe_cmp (pc_din (by have : _ + 65 < _ := ru; omega) pe_c pe_c) hm, ?_⟩
  refine ha _ h1 σ H _ S fun y H1 ⟨s1, r1⟩ => ?_
  refine hb _ h2 σ H1 _ (S.mono s1) fun x H2 ⟨s2, r2⟩ => ?_
  obtain ⟨p, kvs, rfl, hd, hr⟩ := r2.dctR
  have ey := (Rq.of r1).key
  subst ey
  refine ⟨p, _, rfl, .inl ⟨kvs, k, hd, rfl, rfl⟩, ?_⟩
  rcases hr.look k with ⟨e1, e2⟩ | ⟨w, d', e1, e2, r⟩
  · rw [e1]; rw [e2] at q; exact q _ H2 ⟨s1.trans s2, .bl _⟩
  · rw [e1]; rw [e2] at q; exact q _ H2 ⟨s1.trans s2, .bl _⟩
theorem eo_dnin {pos : Pos} (ru : Ru X) (ha : Eo X a ρ f) (hb : Eu X b ρ g) (hm : behindInMarks .NotIn b = false := by first | exact nomark _ | rfl) : Eo X (.Compare a [.NotIn] [b] pos) ρ (boV (op2 ninKB f g)) := fun d q => by
  obtain ⟨t, q1, q2⟩ := bnd_inv q
  cases q2
  obtain ⟨x, y, h1, h2, h3⟩ := op2_inv q1
  obtain ⟨t', h4, h5⟩ := bnd_inv h3
  cases h5
  obtain ⟨es, k, rfl, rfl, rfl⟩ := inK_inv h4
  intro σ H Q S q
  refine ⟨_, pe_cmp (pc_dnotin (by have : _ + 65 < _ := ru; omega) pe_c pe_c) hm, ?_⟩
  refine ha _ h1 σ H _ S fun y H1 ⟨s1, r1⟩ => ?_
  refine hb _ h2 σ H1 _ (S.mono s1) fun x H2 ⟨s2, r2⟩ => ?_
  obtain ⟨p, kvs, rfl, hd, hr⟩ := r2.dctR
  have ey := (Rq.of r1).key
  subst ey
  refine ⟨p, _, rfl, .inl ⟨kvs, k, hd, rfl, rfl⟩, ?_⟩
  rcases hr.look k with ⟨e1, e2⟩ | ⟨w, d', e1, e2, r⟩
  · rw [e1]; rw [e2] at q; exact q _ H2 ⟨s1.trans s2, .bl _⟩
  · rw [e1]; rw [e2] at q; exact q _ H2 ⟨s1.trans s2, .bl _⟩
theorem et_din {pos : Pos} (ru : Ru X) (ha : Eo X a ρ f) (hb : Eu X b ρ g) (hm : behindInMarks .In b = false := by first | exact nomark _ | rfl) : Et X (.Compare a [.In] [b] pos) ρ (op2 inKB f g) := fun t q1 => by
  obtain ⟨x, y, h1, h2, h3⟩ := op2_inv q1
  obtain ⟨es, k, rfl, rfl, rfl⟩ := inK_inv h3
  intro σ H Q S q
  refine ⟨_, pt_cmp (pc_din (by have : _ + 65 < _ := ru; omega) pe_c pe_c) hm, ?_⟩
  refine ha _ h1 σ H _ S fun y H1 ⟨s1, r1⟩ => ?_
  refine hb _ h2 σ H1 _ (S.mono s1) fun x H2 ⟨s2, r2⟩ => ?_
  obtain ⟨p, kvs, rfl, hd, hr⟩ := r2.dctR
  have ey := (Rq.of r1).key
  subst ey
  refine ⟨p, _, rfl, .inl ⟨kvs, k, hd, rfl, rfl⟩, _, rfl, ?_⟩
  rcases hr.look k with ⟨e1, e2⟩ | ⟨w, d', e1, e2, r⟩
  · rw [e1]; rw [e2] at q; exact q H2 (s1.trans s2)
  · rw [e1]; rw [e2] at q; exact q H2 (s1.trans s2)
theorem et_dnin {pos : Pos} (ru : Ru X) (ha : Eo X a ρ f) (hb : Eu X b ρ g) (hm : behindInMarks .NotIn b = false := by first | exact nomark _ | rfl) : Et X (.Compare a [.NotIn] [b] pos) ρ (op2 ninKB f g) := fun t q1 => by
  obtain ⟨x, y, h1, h2, h3⟩ := op2_inv q1
  obtain ⟨t', h4, h5⟩ := bnd_inv h3
  cases h5
  obtain ⟨es, k, rfl, rfl, rfl⟩ := inK_inv h4
  intro σ H Q S q
  refine ⟨_, pt_cmp (pc_dnotin (by have : _ + 65 < _ := ru; omega) pe_c pe_c) hm, ?_⟩
  refine ha _ h1 σ H _ S fun y H1 ⟨s1, r1⟩ => ?_
  refine hb _ h2 σ H1 _ (S.mono s1) fun x H2 ⟨s2, r2⟩ => ?_
  obtain ⟨p, kvs, rfl, hd, hr⟩ := r2.dctR
  have ey := (Rq.of r1).key
  subst ey
  refine ⟨p, _, rfl, .inl ⟨kvs, k, hd, rfl, rfl⟩, _, rfl, ?_⟩
  rcases hr.look k with ⟨e1, e2⟩ | ⟨w, d', e1, e2, r⟩
  · rw [e1]; rw [e2] at q; exact q H2 (s1.trans s2)
  · rw [e1]; rw [e2] at q; exact q H2 (s1.trans s2)
/-! ### f(d), d a dict of one's own: it is locked for the call -/
theorem pe_lk {t : TE} (he : PE X e t) : PE X e (fun σ H Q => ∃ p u, H p = some u ∧ Mut (some u) ∧ t σ H fun v H' => ∃ od, H' p = some (.frz od u) ∧ Q v (upd H' p u)) := by
  refine ⟨fun pins s σ H Q I ⟨p, u, hp, mu, hw⟩ => ?_⟩
  have hn := I.nofrz hp mu
  exact thn (he.run pins s σ H _ I hw) fun v s1 ⟨x, H1, I1, r, od, e1, q⟩ => ⟨x, _, I1.unlock e1 hn, r, q⟩
mutual
theorem Rp.unlock {K : PySem.W.Frag} {H : Hp} {p : Addr} {od : Obj} {kvs : List (Key × V)} {u : HO} (hp : H p = some (.frz od (.dK kvs))) : ∀ {v : V} {d : D}, nod d = true → Rp K H v d → Rp K (upd H p u) v d
  | _, _, _, .non => .non
  | _, _, _, .bl b => .bl b
  | _, _, _, .int i => .int i
  | _, _, _, .str x => .str x
  | _, _, n, .tup h a => .tup (by
      rcases h with ⟨o, h, q⟩ | h
      · exact .inl ⟨o, by rw [upd_ne (fun z => by rw [z, hp] at h; cases h)]; exact h, q⟩
      · exact .inr h) (RpAll.unlock hp (by simpa [nod] using n) a)
  | _, _, n, .lst h a => .lst (by
      rcases h with ⟨o, h⟩ | h
      · exact .inl ⟨o, by rw [upd_ne (fun z => by rw [z, hp] at h; cases h)]; exact h⟩
      · exact .inr h) (RpAll.unlock hp (by simpa [nod] using n) a)
  | _, _, n, .dct _ _ => by simp [nod] at n
theorem RpAll.unlock {K : PySem.W.Frag} {H : Hp} {p : Addr} {od : Obj} {kvs : List (Key × V)} {u : HO} (hp : H p = some (.frz od (.dK kvs))) : ∀ {vs : List V} {ds : List D}, nods ds = true → RpAll K H vs ds → RpAll K (upd H p u) vs ds
  | _, _, _, .nil => .nil
  | _, _, n, .cons h t => by
    simp only [nods, Bool.and_eq_true] at n
    exact .cons (Rp.unlock hp n.1 h) (RpAll.unlock hp n.2 t)
end
def nodD (f : Option D) : Option D := bnd f fun d => if nod d = true then some d else none
theorem eo_c1D {st : String} {kk : Nat} {p pos : Pos} {s : String} {i : Nat} {p2 pos2 : Pos} {C q : Addr} {fs : List (Str × Fld)} {x : Str} {es : List (D × D)} {m : D → Option D} (Cx : Cl X.prog X.w X.K X.mg X.base st kk (g1 m)) (hr : Room kk X.A) (hs : Sl X.N s i) (cl : Cls X.K C) (na : NoAttr X.K C x) (h : ρ[i]? = some (.obj (some C) q fs) := by rfl) (hf : fs.lookup x = some (.dic es) := by rfl) (hv : Vis X.env.scope (Str.ofString s) := by first | exact Or.inl rfl | exact Or.inr (Or.inl rfl) | exact Or.inr (Or.inr rfl))
    (hb : attributeBase (.Name (Str.ofString s) p2) x X.env (eval (.Name (Str.ofString s) p2) X.env) = eval (.Name (Str.ofString s) p2) X.env := by rfl) (hg : Gl X (Str.ofString st) := by rfl) (hdb : (Str.ofString st == ("__debug__" : Str)) = false := by decide) (s1 : starEach [.Attribute (.Name (Str.ofString s) p2) x pos2] X.env = (false, eval (.Attribute (.Name (Str.ofString s) p2) x pos2) X.env) :: starEach [] X.env := by rfl) (hpl : (backTo pos (starEach [] X.env)).any (·.1) = false := by rfl) :
    Eo X (.Call (.Name (Str.ofString st) p) [.Attribute (.Name (Str.ofString s) p2) x pos2] [] pos) ρ (nodD (m (.dict es))) := fun d z => by
  obtain ⟨d', z1, z2⟩ := bnd_inv z
  split at z2
  · rename_i nd
    cases z2
    intro σ H Q S q
    obtain ⟨f, fd, ps, F, hm, hk, hbd⟩ := Cx.h
    obtain ⟨dx, vs, L, e1, e2, e3, e4⟩ := S.ins h
    obtain ⟨v, M, l1, l2, _⟩ := e3.get hf
    cases l2 with
    | @dic pd kvs _ hd rd =>
      refine ⟨_, pe_lk (pe_call F hr hg hm hk hbd .nil pass0 (pa_cons (fz_any (pe_fld (pe_var hs.h hv hs.d hs.c) hb)) pa_nil s1) hdb s1 hpl), pd, _, hd, trivial, _, e1, _, C, dx, vs, _, rfl, e2, cl, na, l1, pd, _, rfl, hd, trivial, fun od => ?_⟩
      refine ⟨[.dict es], d, .cons (rp_lockD hd rd od) .nil, ⟨_, rfl, z1⟩, fun v H' s' r' => ⟨od, s' _ _ upd_same, q _ _ ⟨fun b o hb => ?_, r'.unlock (s' _ _ upd_same) nd⟩⟩⟩
      by_cases hbp : b = pd
      · subst hbp
        rw [upd_same]
        rw [hd] at hb
        exact hb
      · rw [upd_ne hbp]
        exact s' b o (by rw [upd_ne hbp]; exact hb)
  · cases z2
end
end DL


/-! Statements about the fields of an object of one's own. -/
namespace DL
open PySem PySem.Spec PyProof.Rows L2
def dropD (es : List (D × D)) (k : Key) : List (D × D) := es.filter fun e => !decide (kd e.1 = some k)
section
variable {K : PySem.W.Frag} {H H' : Hp}
theorem RpKV.drop {k : Key} : ∀ {vs : List (Key × V)} {es : List (D × D)}, RpKV K H vs es → RpKV K H (dropK vs k) (dropD es k)
  | _, _, .nil => .nil
  | _, _, .int (i := i) h t => by
    unfold dropK dropD
    rw [List.filter_cons, List.filter_cons]
    by_cases e : (Sum.inl i : Key) = k
    · rw [if_neg (by simp [e]), if_neg (by simp [kd, e])]; exact RpKV.drop t
    · rw [if_pos (by simp [e]), if_pos (by simp [kd, e])]; exact .int h (RpKV.drop t)
  | _, _, .str (x := i) h t => by
    unfold dropK dropD
    rw [List.filter_cons, List.filter_cons]
    by_cases e : (Sum.inr i : Key) = k
    · rw [if_neg (by simp [e]), if_neg (by simp [kd, e])]; exact RpKV.drop t
    · rw [if_pos (by simp [e]), if_pos (by simp [kd, e])]; exact .str h (RpKV.drop t)
theorem drop_no {es : List (D × D)} {k : Key} (h : lookD es k = none) : dropD es k = es := by
  unfold dropD
  rw [List.filter_eq_self]
  intro e he
  unfold lookD at h
  rw [Option.map_eq_none_iff, List.find?_eq_none] at h
  have := h e he
  simpa using this
theorem setF_self {f : Str} {x : Fld} : ∀ {fs : List (Str × Fld)}, fs.lookup f = some x → setF f x fs = fs
  | [], h => by cases h
  | (g, y) :: r, h => by
    rw [List.lookup_cons] at h
    cases hb : f == g with
    | true =>
      rw [hb] at h
      simp only at h
      cases h
      rw [setF, if_pos (beq_iff_eq.mp hb).symm]
    | false =>
      rw [hb] at h
      simp only at h
      rw [setF, if_neg (fun z => by rw [z] at hb; simp at hb), setF_self h]
theorem FdsOk.length {vs : List (Str × V)} {fs : List (Str × Fld)} {L : List Addr} (h : FdsOk K H vs fs L) : vs.length = fs.length := by
  induction h with
  | nil => rfl
  | cons _ _ ih => simp [ih]
end
section
variable {X : Cx} {ρ : Rho}
theorem SK.fwrite {K : PySem.W.Frag} {H0 : Ent} {H1 H : Hp} {σ : L2.St} {i : Nat} {C q dx p : Addr} {vs : List (Str × V)} {fs : List (Str × Fld)} {L : List Addr} {f : Str} {x y : Fld} {u o : HO} (S : SK K H0 H1 ρ σ H) (h : ρ[i]? = some (.obj (some C) q fs)) (e1 : σ[i]? = some (some (.ref q))) (e2 : H q = some (.ins C dx vs)) (e3 : FdsOk K H vs fs L) (nd : (q :: L).Nodup)
    (hf : fs.lookup f = some x) (l : vs.lookup f = some (.ref p)) (hx : FdOk K H (.ref p) x [p]) (hp : H p = some u) (mu : MutS (some u)) (hy : FdOk K (upd H p o) (.ref p) y [p]) : SK K H0 H1 (ρ.set i (.obj (some C) q (setF f y fs))) σ (upd H p o) := by
  obtain ⟨v, M, l1, l2, l3⟩ := e3.get hf
  rw [l] at l1
  cases l1
  have eM : M = [p] := l2.det hx
  have pL : p ∈ L := l3 p (by rw [eM]; simp)
  have nq : q ≠ p := fun z => by rw [List.nodup_cons] at nd; exact nd.1 (by rw [z]; exact pL)
  refine S.chg h e1 (.ins e2 e3 nd) (stb_upd hp mu) (fun z w hz n => by rw [upd_ne (fun t => n (by rw [t]; exact List.mem_cons_of_mem _ pL))]; exact hz) (.ins (by rw [upd_ne nq]; exact e2) (e3.write (List.nodup_cons.mp nd).2 hf l hp mu hx hy) nd) fun z m => .inl m
end
section
variable {R : Type} {X : Cx} {ρ : Rho} {Φ : R → DL.Fin} {e a b c : Expr} {rest : List Stmt} {pos : Pos} {f : Option D} {s : String} {i : Nat} {p p2 apos cpos tpos : Pos} {C q : Addr} {fs : List (Str × Fld)} {x : Str}
/-- o.f[b] = e -/
theorem so_fput {es : List (D × D)} {g : Option D} {G : List (D × D) → Option R} (ru : Ru X) (hs : Sl X.N s i) (cl : Cls X.K C) (na : NoAttr X.K C x) (hb : Eo X b ρ f) (he : Eo X e ρ g) (h : ∀ es', So X rest (ρ.set i (.obj (some C) q (setF x (.dic es') fs))) Φ (G es')) (hi : ρ[i]? = some (.obj (some C) q fs) := by rfl) (hf : fs.lookup x = some (.dic es) := by rfl) (hv : Vis X.env.scope (Str.ofString s) := by first | exact Or.inl rfl | exact Or.inr (Or.inl rfl) | exact Or.inr (Or.inr rfl))
    (hab : attributeBase (.Name (Str.ofString s) p2) x X.env (eval (.Name (Str.ofString s) p2) X.env) = eval (.Name (Str.ofString s) p2) X.env := by rfl) (hsw : swapsWith e (some (.Subscript (.Attribute (.Name (Str.ofString s) p2) x apos) b tpos)) pos.line X.env = pure false := by rfl) :
    So X (.Assign [.Subscript (.Attribute (.Name (Str.ofString s) p2) x apos) b tpos] e pos :: rest) ρ Φ (bnd (op2 (putN es) f g) G) := fun r z => by
  obtain ⟨es', z1, z⟩ := bnd_inv z
  obtain ⟨k, v, z2, z3, z4⟩ := op2_inv z1
  obtain ⟨kk, z5, z6⟩ := bnd_inv z4
  split at z6
  · rename_i hz
    cases z6
    have eb := hb k z2
    rw [kd_eq z5] at eb
    refine xs_cons fun H0 H1 σ H E S F => ?_
    obtain ⟨dx, vs, L, e1, e2, e3, e4⟩ := S.ok.ins hi
    obtain ⟨w, M, l1, l2, _⟩ := e3.get hf
    cases l2 with
    | @dic pd kvs _ hd rd =>
      refine ⟨_, ps_dput (by have : _ + 65 < _ := ru; omega) (pe_fld (pe_var hs.h hv hs.d hs.c) hab) pe_c pe_c hsw, he v z3 σ H _ S.ok fun u H2 ⟨s2, r2⟩ => ⟨_, e1, q, C, dx, vs, _, rfl, s2 _ _ e2, cl, na, l1, eb σ H2 _ (S.mono s2).ok fun t H3 ⟨s3, r3⟩ => ?_⟩⟩
      have et := (Rq.of r3).key
      subst et
      have s23 := s2.trans s3
      have h3 : H3 pd = some (.dK kvs) := s23 _ _ hd
      refine ⟨pd, _, rfl, .k h3 (by rw [rd.length]; exact hz), F.nx _ _ _ (((S.mono s2).mono s3).fwrite hi e1 (s23 _ _ e2) (e3.mono (.of s23) fun y _ o ho => s23 y o ho) e4 hf l1 (.dic h3 (rd.mono (.of s23))) h3 trivial ?_) (h _ r z)⟩
      have st : Stb H3 (upd H3 pd (.dK (putK kvs kk u))) := stb_upd h3 trivial
      exact .dic upd_same (((rd.mono (.of s23)).mono st).put ((r2.mono (.of s3)).mono st))
  · cases z6
/-- o.f.extend(e), e a new list -/
theorem so_fext {ds : List D} {g : Option (List D)} {G : List D → Option R} (hs : Sl X.N s i) (cl : Cls X.K C) (na : NoAttr X.K C x) (he : En X e ρ g) (h : ∀ ds', So X rest (ρ.set i (.obj (some C) q (setF x (.own ds') fs))) Φ (G ds')) (hi : ρ[i]? = some (.obj (some C) q fs) := by rfl) (hf : fs.lookup x = some (.own ds) := by rfl) (hv : Vis X.env.scope (Str.ofString s) := by first | exact Or.inl rfl | exact Or.inr (Or.inl rfl) | exact Or.inr (Or.inr rfl))
    (hab : attributeBase (.Name (Str.ofString s) p2) x X.env (eval (.Name (Str.ofString s) p2) X.env) = eval (.Name (Str.ofString s) p2) X.env := by rfl)
    (hbase : attributeBase (.Attribute (.Name (Str.ofString s) p2) x p) "extend" X.env (eval (.Attribute (.Name (Str.ofString s) p2) x p) X.env) = eval (.Attribute (.Name (Str.ofString s) p2) x p) X.env := by rfl)
    (hfew : ((backTo cpos (starEach [e] X.env)).all (fun x => !x.1) && (backToKw cpos (keywordEach [] X.env)).all (fun x => x.1.isSome)
      && decide ([e].length + ([] : List Keyword).length + (if ([] : List Keyword).isEmpty then 0 else 1) < 30)) = true := by rfl)
    (hline : (apos.endLine == cpos.line) = true := by rfl) (hst : starEach [e] X.env = (false, eval e X.env) :: starEach [] X.env := by rfl) (hplain : (backTo cpos (starEach [] X.env)).any (·.1) = false := by rfl)
    (hsw : swapsWith (.Call (.Attribute (.Attribute (.Name (Str.ofString s) p2) x p) "extend" apos) [e] [] cpos) none pos.line X.env = pure false := by rfl) :
    So X (.Expr (.Call (.Attribute (.Attribute (.Name (Str.ofString s) p2) x p) "extend" apos) [e] [] cpos) pos :: rest) ρ Φ (bnd (bnd g (exL ds)) G) := fun r z => by
  obtain ⟨ds', z1, z⟩ := bnd_inv z
  obtain ⟨es, z2, z3⟩ := bnd_inv z1
  obtain ⟨z4, z5⟩ := lim_inv z3
  cases z5
  refine xs_cons fun H0 H1 σ H E S F => ?_
  obtain ⟨dx, vs, L, e1, e2, e3, e4⟩ := S.ok.ins hi
  obtain ⟨w, M, l1, l2, _⟩ := e3.get hf
  cases l2 with
  | @own pd xs _ hd rd =>
    refine ⟨_, ps_expr (pe_bm PySem.F.plainAttrs_list PySem.F.slot_list_extend PySem.F.type_list_extend mt_extend (pe_fld (pe_var hs.h hv hs.d hs.c) hab) (pa_cons pe_c pa_nil hst) hbase hfew hline hst hplain) hsw, _, e1, q, C, dx, vs, _, rfl, e2, cl, na, l1, .inl ⟨rfl, xs, .of hd⟩, he es z2 σ H _ S.ok fun u H2 ⟨s2, pn, zs, en, nn, hn, rn⟩ => ?_⟩
    subst en
    have h3 : H2 pd = some (.lst xs) := s2 _ _ hd
    refine ⟨pd, pn, xs, zs, rfl, rfl, h3, hn, by rw [rd.length, rn.length]; exact z4, F.nx _ _ _ ((S.mono s2).fwrite hi e1 (s2 _ _ e2) (e3.mono (.of s2) fun y _ o ho => s2 y o ho) e4 hf l1 (.own h3 (rd.mono (.of s2))) h3 trivial ?_) (h _ r z)⟩
    have st : Stb H2 (upd H2 pd (.lst (xs ++ zs))) := stb_upd h3 trivial
    exact .own upd_same (((rd.mono (.of s2)).mono st).append (rn.mono st))
/-- o.f.pop(b, c) -/
def popN2 (es : List (D × D)) (k : D) : Option (List (D × D)) := bnd (kd k) fun kk => some (dropD es kk)
def popN1 (es : List (D × D)) (k : D) : Option (List (D × D)) := bnd (kd k) fun kk => if (lookD es kk).isSome = true then some (dropD es kk) else none
theorem so_fpop2 {es : List (D × D)} {g : Option D} {G : List (D × D) → Option R} (hs : Sl X.N s i) (cl : Cls X.K C) (na : NoAttr X.K C x) (hb : Eo X b ρ f) (hc : Eo X c ρ g) (hg : ∃ d, g = some d) (h : ∀ es', So X rest (ρ.set i (.obj (some C) q (setF x (.dic es') fs))) Φ (G es')) (hi : ρ[i]? = some (.obj (some C) q fs) := by rfl) (hf : fs.lookup x = some (.dic es) := by rfl) (hv : Vis X.env.scope (Str.ofString s) := by first | exact Or.inl rfl | exact Or.inr (Or.inl rfl) | exact Or.inr (Or.inr rfl))
    (hab : attributeBase (.Name (Str.ofString s) p2) x X.env (eval (.Name (Str.ofString s) p2) X.env) = eval (.Name (Str.ofString s) p2) X.env := by rfl)
    (m : M2 X (.Attribute (.Name (Str.ofString s) p2) x p) "pop" apos b c cpos := by exact ⟨rfl, rfl, rfl, rfl⟩) (hsw : swapsWith (.Call (.Attribute (.Attribute (.Name (Str.ofString s) p2) x p) "pop" apos) [b, c] [] cpos) none pos.line X.env = pure false := by rfl) :
    So X (.Expr (.Call (.Attribute (.Attribute (.Name (Str.ofString s) p2) x p) "pop" apos) [b, c] [] cpos) pos :: rest) ρ Φ (bnd (op1 (popN2 es) f) G) := fun r z => by
  obtain ⟨es', z1, z⟩ := bnd_inv z
  obtain ⟨k, z2, z3⟩ := bnd_inv z1
  obtain ⟨kk, z5, z6⟩ := bnd_inv z3
  cases z6
  obtain ⟨gd, hgd⟩ := hg
  have eb := hb k z2
  rw [kd_eq z5] at eb
  refine xs_cons fun H0 H1 σ H E S F => ?_
  obtain ⟨dx, vs, L, e1, e2, e3, e4⟩ := S.ok.ins hi
  obtain ⟨w, M, l1, l2, _⟩ := e3.get hf
  cases l2 with
  | @dic pd kvs _ hd rd =>
    refine ⟨_, ps_expr (pe_dpop2 (pe_fld (pe_var hs.h hv hs.d hs.c) hab) pe_c pe_c m) hsw, _, e1, q, C, dx, vs, _, rfl, e2, cl, na, l1, pd, rfl, .inl ⟨kvs, .inl hd⟩, eb σ H _ S.ok fun t H2 ⟨s2, r2⟩ => hc gd hgd σ H2 _ (S.mono s2).ok fun u H3 ⟨s3, r3⟩ => ?_⟩
    have et := (Rq.of r2).key
    subst et
    have s23 := s2.trans s3
    have h3 : H3 pd = some (.dK kvs) := s23 _ _ hd
    refine ⟨kvs, kk, h3, rfl, fun v hv' => ?_, fun hn => ?_⟩
    · refine F.nx _ _ _ (((S.mono s2).mono s3).fwrite hi e1 (s23 _ _ e2) (e3.mono (.of s23) fun y _ o ho => s23 y o ho) e4 hf l1 (.dic h3 (rd.mono (.of s23))) h3 trivial ?_) (h _ r z)
      have st : Stb H3 (upd H3 pd (.dK (dropK kvs kk))) := stb_upd h3 trivial
      exact .dic upd_same (((rd.mono (.of s23)).mono st).drop)
    · have eno : lookD es kk = none := by
        rcases rd.look kk with ⟨_, e⟩ | ⟨_, _, e, _, _⟩
        · exact e
        · rw [e] at hn; cases hn
      have hz := h (dropD es kk) r z
      rw [drop_no eno, setF_self hf] at hz
      have eρ : ρ.set i (.obj (some C) q fs) = ρ := by
        apply List.ext_getElem?
        intro j
        by_cases hj : i = j
        · subst hj
          rw [List.getElem?_set_self (List.getElem?_eq_some_iff.mp hi).1, hi]
        · rw [List.getElem?_set_ne hj]
      rw [eρ] at hz
      exact F.nx _ _ _ ((S.mono s2).mono s3) hz
theorem so_fpop1 {es : List (D × D)} {G : List (D × D) → Option R} (hs : Sl X.N s i) (cl : Cls X.K C) (na : NoAttr X.K C x) (hb : Eo X b ρ f) (h : ∀ es', So X rest (ρ.set i (.obj (some C) q (setF x (.dic es') fs))) Φ (G es')) (hi : ρ[i]? = some (.obj (some C) q fs) := by rfl) (hf : fs.lookup x = some (.dic es) := by rfl) (hv : Vis X.env.scope (Str.ofString s) := by first | exact Or.inl rfl | exact Or.inr (Or.inl rfl) | exact Or.inr (Or.inr rfl))
    (hab : attributeBase (.Name (Str.ofString s) p2) x X.env (eval (.Name (Str.ofString s) p2) X.env) = eval (.Name (Str.ofString s) p2) X.env := by rfl)
    (m : M1 X (.Attribute (.Name (Str.ofString s) p2) x p) "pop" apos b cpos := by exact ⟨rfl, rfl, rfl, rfl⟩) (hsw : swapsWith (.Call (.Attribute (.Attribute (.Name (Str.ofString s) p2) x p) "pop" apos) [b] [] cpos) none pos.line X.env = pure false := by rfl) :
    So X (.Expr (.Call (.Attribute (.Attribute (.Name (Str.ofString s) p2) x p) "pop" apos) [b] [] cpos) pos :: rest) ρ Φ (bnd (op1 (popN1 es) f) G) := fun r z => by
  obtain ⟨es', z1, z⟩ := bnd_inv z
  obtain ⟨k, z2, z3⟩ := bnd_inv z1
  obtain ⟨kk, z5, z6⟩ := bnd_inv z3
  split at z6
  · rename_i hsome
    cases z6
    have eb := hb k z2
    rw [kd_eq z5] at eb
    refine xs_cons fun H0 H1 σ H E S F => ?_
    obtain ⟨dx, vs, L, e1, e2, e3, e4⟩ := S.ok.ins hi
    obtain ⟨w, M, l1, l2, _⟩ := e3.get hf
    cases l2 with
    | @dic pd kvs _ hd rd =>
      refine ⟨_, ps_expr (pe_dpop1 (pe_fld (pe_var hs.h hv hs.d hs.c) hab) pe_c m) hsw, _, e1, q, C, dx, vs, _, rfl, e2, cl, na, l1, pd, rfl, .inl ⟨kvs, .inl hd⟩, eb σ H _ S.ok fun t H2 ⟨s2, r2⟩ => ?_⟩
      have et := (Rq.of r2).key
      subst et
      have h3 : H2 pd = some (.dK kvs) := s2 _ _ hd
      rcases rd.look kk with ⟨_, e⟩ | ⟨w', d', ew, _, _⟩
      · rw [e] at hsome; cases hsome
      refine ⟨kvs, kk, w', h3, rfl, ew, ?_⟩
      refine F.nx _ _ _ ((S.mono s2).fwrite hi e1 (s2 _ _ e2) (e3.mono (.of s2) fun y _ o ho => s2 y o ho) e4 hf l1 (.dic h3 (rd.mono (.of s2))) h3 trivial ?_) (h _ r z)
      have st : Stb H2 (upd H2 pd (.dK (dropK kvs kk))) := stb_upd h3 trivial
      exact .dic upd_same (((rd.mono (.of s2)).mono st).drop)
  · cases z6
/-- o.f = e, a datum in the place of one -/
theorem so_fset {d0 : D} {G : D → Option R} (hs : Sl X.N s i) (cl : Cls X.K C) (na : NoAttr X.K C x) (he : Eo X e ρ f) (h : ∀ d, So X rest (ρ.set i (.obj (some C) q (setF x (.val d) fs))) Φ (G d)) (hi : ρ[i]? = some (.obj (some C) q fs) := by rfl) (hf : fs.lookup x = some (.val d0) := by rfl) (hl : decide (fs.length < 1000) = true := by rfl) (hv : Vis X.env.scope (Str.ofString s) := by first | exact Or.inl rfl | exact Or.inr (Or.inl rfl) | exact Or.inr (Or.inr rfl))
    (hsw : swapsWith e (some (.Attribute (.Name (Str.ofString s) p2) x apos)) pos.line X.env = pure false := by rfl) :
    So X (.Assign [.Attribute (.Name (Str.ofString s) p2) x apos] e pos :: rest) ρ Φ (bnd f G) := fun r z => by
  obtain ⟨d, z1, z⟩ := bnd_inv z
  refine xs_cons fun H0 H1 σ H E S F => ?_
  obtain ⟨dx, vs, L, e1, e2, e3, e4⟩ := S.ok.ins hi
  refine ⟨_, ps_fld (pe_var hs.h hv hs.d hs.c) pe_c hsw, he d z1 σ H _ S.ok fun v H2 ⟨s2, r2⟩ => ⟨_, e1, q, C, dx, vs, rfl, s2 _ _ e2, cl, na, by rw [e3.length]; exact of_decide_eq_true hl, F.nx _ _ _ ?_ (h d r z)⟩⟩
  have e2' := s2 _ _ e2
  have e3' := e3.mono (.of s2) fun y _ o ho => s2 y o ho
  have st : Stb H2 (upd H2 q (.ins C dx (putF x v vs))) := stb_upd e2' trivial
  refine (S.mono s2).chg hi e1 (.ins e2' e3' e4) st (fun z w hz n => by rw [upd_ne (fun t => n (by rw [t]; exact List.mem_cons_self))]; exact hz) (.ins upd_same ((e3'.put hf r2).mono st fun y hy o ho => ?_) e4) fun z m => .inl m
  rw [upd_ne (fun t => by rw [List.nodup_cons] at e4; exact e4.1 (by rw [← t]; exact hy))]
  exact ho
/-- o.f = e, a new field -/
theorem fnew {H0 : Ent} {H1 H H2 : Hp} {σ : L2.St} {dx : Addr} {vs : List (Str × V)} {L M : List Addr} {v : V} {y : Fld} (S : SK X.K H0 H1 ρ σ H) (hi : ρ[i]? = some (.obj (some C) q fs)) (e1 : σ[i]? = some (some (.ref q))) (e2 : H q = some (.ins C dx vs)) (e3 : FdsOk X.K H vs fs L) (e4 : (q :: L).Nodup) (hf : fs.lookup x = none) (s2 : Same H H2) (r2 : FdOk X.K H2 v y M) (fr : ∀ z ∈ M, H z = none) (nM : M.Nodup) : SK X.K H0 H1 (ρ.set i (.obj (some C) q (setF x y fs))) σ (upd H2 q (.ins C dx (putF x v vs))) := by
  have e2' := s2 _ _ e2
  have e3' := e3.mono (.of s2) fun y _ o ho => s2 y o ho
  have st : Stb H2 (upd H2 q (.ins C dx (putF x v vs))) := stb_upd e2' trivial
  have qM : q ∉ M := fun z => by rw [fr q z] at e2; cases e2
  have LM : ∀ z ∈ L, z ∉ M := fun z hz hm => by
    obtain ⟨o, ho, _⟩ := e3.stands z hz
    rw [fr z hm] at ho; cases ho
  have nd : (q :: (L ++ M)).Nodup := by
    rw [List.nodup_cons] at e4 ⊢
    refine ⟨fun z => ?_, ?_⟩
    · rcases List.mem_append.mp z with z | z
      · exact e4.1 z
      · exact qM z
    · rw [List.nodup_append]
      exact ⟨e4.2, nM, fun a ha b hb e => LM a ha (by rw [e]; exact hb)⟩
  refine S.chg hi e1 (.ins e2 e3 e4) ((Stb.of s2).trans st) (fun z w hz n => by rw [upd_ne (fun t => n (by rw [t]; exact List.mem_cons_self))]; exact s2 _ _ hz) (.ins upd_same ((e3'.add hf r2).mono st fun y hy o ho => ?_) nd) fun z m => ?_
  · rw [upd_ne (fun t => by rw [List.nodup_cons] at nd; exact nd.1 (by rw [← t]; exact hy))]
    exact ho
  · rcases List.mem_cons.mp m with rfl | m
    · exact .inl List.mem_cons_self
    · rcases List.mem_append.mp m with m | m
      · exact .inl (List.mem_cons_of_mem _ m)
      · exact .inr (fr z m)
theorem so_fadd {G : D → Option R} (hs : Sl X.N s i) (cl : Cls X.K C) (na : NoAttr X.K C x) (he : Eo X e ρ f) (h : ∀ d, So X rest (ρ.set i (.obj (some C) q (setF x (.val d) fs))) Φ (G d)) (hi : ρ[i]? = some (.obj (some C) q fs) := by rfl) (hf : fs.lookup x = none := by rfl) (hl : decide (fs.length < 1000) = true := by rfl) (hv : Vis X.env.scope (Str.ofString s) := by first | exact Or.inl rfl | exact Or.inr (Or.inl rfl) | exact Or.inr (Or.inr rfl))
    (hsw : swapsWith e (some (.Attribute (.Name (Str.ofString s) p2) x apos)) pos.line X.env = pure false := by rfl) :
    So X (.Assign [.Attribute (.Name (Str.ofString s) p2) x apos] e pos :: rest) ρ Φ (bnd f G) := fun r z => by
  obtain ⟨d, z1, z⟩ := bnd_inv z
  refine xs_cons fun H0 H1 σ H E S F => ?_
  obtain ⟨dx, vs, L, e1, e2, e3, e4⟩ := S.ok.ins hi
  exact ⟨_, ps_fld (pe_var hs.h hv hs.d hs.c) pe_c hsw, he d z1 σ H _ S.ok fun v H2 ⟨s2, r2⟩ => ⟨_, e1, q, C, dx, vs, rfl, s2 _ _ e2, cl, na, by rw [e3.length]; exact of_decide_eq_true hl, F.nx _ _ _ (fnew S hi e1 e2 e3 e4 hf s2 (.val r2) (fun _ z => nomatch z) .nil) (h d r z)⟩⟩
theorem so_faddD {g : Option (List (D × D))} {G : List (D × D) → Option R} (hs : Sl X.N s i) (cl : Cls X.K C) (na : NoAttr X.K C x) (he : Ed X e ρ g) (h : ∀ d, So X rest (ρ.set i (.obj (some C) q (setF x (.dic d) fs))) Φ (G d)) (hi : ρ[i]? = some (.obj (some C) q fs) := by rfl) (hf : fs.lookup x = none := by rfl) (hl : decide (fs.length < 1000) = true := by rfl) (hv : Vis X.env.scope (Str.ofString s) := by first | exact Or.inl rfl | exact Or.inr (Or.inl rfl) | exact Or.inr (Or.inr rfl))
    (hsw : swapsWith e (some (.Attribute (.Name (Str.ofString s) p2) x apos)) pos.line X.env = pure false := by rfl) :
    So X (.Assign [.Attribute (.Name (Str.ofString s) p2) x apos] e pos :: rest) ρ Φ (bnd g G) := fun r z => by
  obtain ⟨d, z1, z⟩ := bnd_inv z
  refine xs_cons fun H0 H1 σ H E S F => ?_
  obtain ⟨dx, vs, L, e1, e2, e3, e4⟩ := S.ok.ins hi
  refine ⟨_, ps_fld (pe_var hs.h hv hs.d hs.c) pe_c hsw, he d z1 σ H _ S.ok fun v H2 ⟨s2, pn, kvs, en, nn, hn, rn⟩ => ?_⟩
  subst en
  exact ⟨_, e1, q, C, dx, vs, rfl, s2 _ _ e2, cl, na, by rw [e3.length]; exact of_decide_eq_true hl, F.nx _ _ _ (fnew S hi e1 e2 e3 e4 hf s2 (.dic hn rn) (fun z m => by simp at m; rw [m]; exact nn) (by simp)) (h d r z)⟩
theorem so_faddL {g : Option (List D)} {G : List D → Option R} (hs : Sl X.N s i) (cl : Cls X.K C) (na : NoAttr X.K C x) (he : En X e ρ g) (h : ∀ d, So X rest (ρ.set i (.obj (some C) q (setF x (.own d) fs))) Φ (G d)) (hi : ρ[i]? = some (.obj (some C) q fs) := by rfl) (hf : fs.lookup x = none := by rfl) (hl : decide (fs.length < 1000) = true := by rfl) (hv : Vis X.env.scope (Str.ofString s) := by first | exact Or.inl rfl | exact Or.inr (Or.inl rfl) | exact Or.inr (Or.inr rfl))
    (hsw : swapsWith e (some (.Attribute (.Name (Str.ofString s) p2) x apos)) pos.line X.env = pure false := by rfl) :
    So X (.Assign [.Attribute (.Name (Str.ofString s) p2) x apos] e pos :: rest) ρ Φ (bnd g G) := fun r z => by
  obtain ⟨d, z1, z⟩ := bnd_inv z
  refine xs_cons fun H0 H1 σ H E S F => ?_
  obtain ⟨dx, vs, L, e1, e2, e3, e4⟩ := S.ok.ins hi
  refine ⟨_, ps_fld (pe_var hs.h hv hs.d hs.c) pe_c hsw, he d z1 σ H _ S.ok fun v H2 ⟨s2, pn, xs, en, nn, hn, rn⟩ => ?_⟩
  subst en
  exact ⟨_, e1, q, C, dx, vs, rfl, s2 _ _ e2, cl, na, by rw [e3.length]; exact of_decide_eq_true hl, F.nx _ _ _ (fnew S hi e1 e2 e3 e4 hf s2 (.own hn rn) (fun z m => by simp at m; rw [m]; exact nn) (by simp)) (h d r z)⟩
end
end DL


/-! Methods, expressions that change objects. -/
namespace DL
open PySem PySem.Spec PyProof.Rows L2
abbrev FL := List (Str × Fld)
/-! ### promises -/
/-- a method that changes its object -/
def SpM (K : PySem.W.Frag) (C : Addr) {S T : Type} (e0 : S → FL) (e1 : T → FL) (m : S → List D → Option (D × T)) : Sp := fun vs H Q _ => ∃ (q : Addr) (ws : List V) (s : S) (ds : List D) (d : D) (t : T) (L0 : List Addr), vs = .ref q :: ws ∧ Own K H (.ref q) (.obj (some C) q (e0 s)) L0 ∧ RpAll K H ws ds ∧ m s ds = some (d, t) ∧
  ∀ v H' L1, Stb H H' → (∀ x o, H x = some o → x ∉ L0 → H' x = some o) → Own K H' (.ref q) (.obj (some C) q (e1 t)) L1 → (∀ x ∈ L1, x ∈ L0 ∨ H x = none) → Rp K H' v d → Q v H'
/-- one that only reads it -/
def SpR (K : PySem.W.Frag) (C : Addr) {S : Type} (e0 : S → FL) (m : S → List D → Option D) : Sp := fun vs H Q _ => ∃ (q : Addr) (ws : List V) (s : S) (ds : List D) (d : D) (L0 : List Addr), vs = .ref q :: ws ∧ Own K H (.ref q) (.obj (some C) q (e0 s)) L0 ∧ RpAll K H ws ds ∧ m s ds = some d ∧
  ∀ v H', Same H H' → Rp K H' v d → Q v H'
section
variable {S T R : Type}
def a0 (m : S → Option R) : S → List D → Option R
  | s, [] => m s
  | _, _ => none
def a1 (m : S → D → Option R) : S → List D → Option R
  | s, [x] => m s x
  | _, _ => none
def a2 (m : S → D → D → Option R) : S → List D → Option R
  | s, [x, y] => m s x y
  | _, _ => none
theorem a0_inv {m : S → Option R} {s : S} {ds : List D} {r : R} (h : a0 m s ds = some r) : ds = [] ∧ m s = some r := by
  unfold a0 at h; split at h
  · exact ⟨rfl, h⟩
  · cases h
theorem a1_inv {m : S → D → Option R} {s : S} {ds : List D} {r : R} (h : a1 m s ds = some r) : ∃ x, ds = [x] ∧ m s x = some r := by
  unfold a1 at h; split at h
  · exact ⟨_, rfl, h⟩
  · cases h
theorem a2_inv {m : S → D → D → Option R} {s : S} {ds : List D} {r : R} (h : a2 m s ds = some r) : ∃ x y, ds = [x, y] ∧ m s x y = some r := by
  unfold a2 at h; split at h
  · exact ⟨_, _, rfl, h⟩
  · cases h
end
/-! ### bodies -/
def startM (b : B) (n : Nat) (ds : List D) : Rho := b :: startB (n - 1) ds
theorem SOk.cons {K : PySem.W.Frag} {ρ : Rho} {σ : L2.St} {H : Hp} {v : V} {b : B} {L : List Addr} (h : SOk K ρ σ H) (n : ∀ (i : Nat) b, ρ[i]? = some b → isOwn b = false) (o : Own K H v b L) : SOk K (b :: ρ) (some v :: σ) H := by
  refine ⟨by simp [h.len], fun i d e => ?_, fun i c e oc => ?_, fun i j c c' w w' M M' x e1 e2 s1 s2 o1 o2 m1 m2 => ?_⟩
  · cases i with
    | zero => simp at e; subst e; cases o
    | succ i => simpa using h.val i d (by simpa using e)
  · cases i with
    | zero => simp at e; subst e; exact ⟨v, L, by simp, o⟩
    | succ i => rw [n i c (by simpa using e)] at oc; cases oc
  · cases i with
    | zero =>
      cases j with
      | zero => rfl
      | succ j => have := n j c' (by simpa using e2); rw [o2.is] at this; cases this
    | succ i => have := n i c (by simpa using e1); rw [o1.is] at this; cases this
theorem startB_no (n : Nat) (ds : List D) : ∀ (i : Nat) b, (startB n ds)[i]? = some b → isOwn b = false := fun i b e => by
  unfold startB at e
  by_cases hi : i < ds.length
  · rw [List.getElem?_append_left (by simpa using hi), List.getElem?_map] at e
    cases q : ds[i]? with
    | none => rw [q] at e; cases e
    | some d => rw [q] at e; cases e; rfl
  · rw [List.getElem?_append_right (by simpa using hi), List.getElem?_replicate] at e
    split at e <;> cases e
    rfl
theorem sok_startM {K : PySem.W.Frag} {H : Hp} {N : List Str} {v : V} {vs : List V} {ds : List D} {b : B} {L : List Addr} (r : RpAll K H vs ds) (o : Own K H v b L) (hN : N ≠ []) : SOk K (startM b N.length ds) (L2.start N (v :: vs)) H := by
  cases N with
  | nil => exact absurd rfl hN
  | cons x N =>
    have e : L2.start (x :: N) (v :: vs) = some v :: L2.start N vs := by
      unfold L2.start
      simp
    rw [e]
    exact (sok_start r).cons (startB_no _ _) o
def objB (C q : Addr) {S : Type} (e : S → FL) (s : S) : B := .obj (some C) q (e s)
def FnMΦ {T : Type} (Bt : T → B) : D × T → DL.Fin := fun r => { nx := fun ρ => r.1 = .none ∧ ρ[0]? = some (Bt r.2), rt := fun d ρ => d = r.1 ∧ ρ[0]? = some (Bt r.2) }
section
variable {P : Program} {w : World} {K : PySem.W.Frag} {mg : Str → Option Value} {base : Heap} {x qual : Str} {params : Arguments} {body : List Stmt} {scope : Scope} {kws : List (Str × V)} {f : Addr} {fd : FuncData} {N ps : List Str} {k : Nat} {S T : Type} {C : Addr} {e0 : S → FL} {e1 : T → FL}
theorem fn_M {m : S → List D → Option (D × T)} (F : FunD K x qual params body scope [] kws f fd) (Sc : FnScope N ps scope) (len : ∀ s ds r, m s ds = some r → ds.length + 1 = ps.length) (hN : N ≠ [])
    (h : ∀ (q : Addr) (s : S) (ds : List D) (cdv : Value) (A : Around) (outer : List Env) (sh : Shared) (H : Hp) (E : XK), Room k (A.deeper (envOfC qual scope sh.heap.objs.size f cdv)) → (m s ds).isSome = true → So (cxOf CX0 P w K mg base N qual scope f cdv A outer sh H E).nox body (startM (objB C q e0 s) N.length ds) (FnMΦ (objB C q e1)) (m s ds)) :
    FnOk P w K mg base CX0 (k + 1) f fd ps (SpM K C e0 e1 m) := by
  refine F.ok Sc (fun vs H Q E ⟨q, ws, s, ds, d, t, L0, e, o, r, hm, _⟩ => by rw [e, List.length_cons, r.length, ← len s ds _ hm]) (fun cdv A outer s H vs Q E hr ⟨q, ws, st, ds, d, t, L0, e, o, r, hm, hq⟩ => ?_)
  subst e
  have fin : ∀ ρ σ H' v, (∃ H1, SK K ⟨H, fun y => y ∈ L0⟩ H1 ρ σ H') → Rp K H' v d → ρ[0]? = some (objB C q e1 t) → Q v H' := by
    rintro ρ σ H' v ⟨H1, S'⟩ rp e
    obtain ⟨u, L1, z1, z2⟩ := S'.ok.has 0 _ e rfl
    have zu : u = .ref q := by cases z2; rfl
    subst zu
    refine hq v H' L1 ⟨fun b xs hb => S'.same b _ hb fun z => ?_, fun b ob y hb => S'.same b _ hb fun z => ?_, fun b φ ic hb => S'.same b _ hb fun z => ?_⟩ (fun y oy hy n => S'.same y oy hy n) z2 (fun y hy => ?_) rp
    · obtain ⟨o1, h1, h2⟩ := o.stands b z
      rw [hb] at h1; cases h1; exact h2
    · obtain ⟨o1, h1, h2⟩ := o.stands b z
      rw [hb] at h1; cases h1; exact h2
    · obtain ⟨o1, h1, h2⟩ := o.stands b z
      rw [hb] at h1; cases h1; exact h2 _ ic
    · rcases S'.fr 0 _ _ L1 y e z1 z2 hy with z | z
      · exact .inr z
      · exact .inl z
  refine ⟨_, PSs.nox pss_c, h q st ds cdv A outer s H E hr (by rw [hm]; rfl) _ hm ⟨H, fun y => y ∈ L0⟩ H (L2.start N (.ref q :: ws)) H _ ⟨fun _ _ e _ => e, .refl _, sok_startM r o hN, fun i b v L y e1' es o1 hy => ?_, fun i T e1' => ?_⟩ ⟨fun ρ σ H' S' z => ?_, fun d' v ρ σ H' S' rp z => ?_, fun _ _ _ _ z => z.elim, fun _ _ _ _ z => z.elim, fun _ _ _ _ _ _ z => z.elim, fun _ z => nomatch z⟩⟩
  · cases i with
    | zero =>
      simp [startM, objB] at e1'
      subst e1'
      have eL : L = L0 := by
        have : v = .ref q := by cases o1; rfl
        subst this
        exact o1.det o
      exact .inr (by rw [← eL]; exact hy)
    | succ i =>
      have := startB_no _ _ i b (by simpa [startM] using e1')
      rw [o1.is] at this; cases this
  · cases i with
    | zero => simp [startM, objB] at e1'
    | succ i => exact absurd (startB_no _ _ i _ (by simpa [startM] using e1')) (by simp [isOwn])
  · exact fin ρ σ H' _ ⟨_, S'⟩ (by have := z.1; simp only at this; rw [this]; exact .non) z.2
  · exact fin ρ σ H' v S' (by have := z.1; simp only at this; rw [← this]; exact rp) z.2
/-- a body that is one return -/
theorem fn_R {m : S → List D → Option D} {e : Expr} {pos : Pos} (F : FunD K x qual params [.Return (some e) pos] scope [] kws f fd) (Sc : FnScope N ps scope) (len : ∀ s ds r, m s ds = some r → ds.length + 1 = ps.length) (hN : N ≠ [])
    (h : ∀ (q : Addr) (s : S) (ds : List D) (cdv : Value) (A : Around) (outer : List Env) (sh : Shared) (H : Hp) (E : XK), Room k (A.deeper (envOfC qual scope sh.heap.objs.size f cdv)) → (m s ds).isSome = true → Eo (cxOf CX0 P w K mg base N qual scope f cdv A outer sh H E).nox e (startM (objB C q e0 s) N.length ds) (m s ds)) :
    FnOk P w K mg base CX0 (k + 1) f fd ps (SpR K C e0 m) := by
  refine F.ok Sc (fun vs H Q E ⟨q, ws, s, ds, d, L0, e, o, r, hm, _⟩ => by rw [e, List.length_cons, r.length, ← len s ds _ hm]) (fun cdv A outer s H vs Q E hr ⟨q, ws, st, ds, d, L0, e, o, r, hm, hq⟩ => ?_)
  subst e
  exact ⟨_, PSs.nox (pss_one (ps_ret pe_c)), h q st ds cdv A outer s H E hr (by rw [hm]; rfl) d hm _ H _ (sok_startM r o hN) fun v H' ⟨s', r'⟩ => hq v H' s' r'⟩
end
/-! ### calls -/
structure Mr (P : Program) (w : World) (K : PySem.W.Frag) (mg : Str → Option Value) (base : Heap) (C : Addr) (x : Str) (kk : Nat) (sp : Sp) : Prop where
  h : ∃ f fd ps, FnOk P w K mg base CX0 kk f fd ps sp ∧ Meth K C x f ∧ Binds K fd ps []
/-- a def by its name, with any promise -/
structure Fr (P : Program) (w : World) (K : PySem.W.Frag) (mg : Str → Option Value) (base : Heap) (s : String) (kk : Nat) (sp : Sp) : Prop where
  h : ∃ f fd ps, FnOk P w K mg base CX0 kk f fd ps sp ∧ mg (Str.ofString s) = some (.ref f) ∧ PySem.W.keepIn K (.ref f) = true ∧ Binds K fd ps []
theorem FdsOk.no {K : PySem.W.Frag} {H : Hp} {vs : List (Str × V)} {fs : FL} {L : List Addr} {m : Str} (h : FdsOk K H vs fs L) : fs.lookup m = none → vs.lookup m = none := by
  induction h with
  | nil => exact fun _ => rfl
  | @cons g v y vs fs L M h _ ih =>
    intro e
    rw [List.lookup_cons] at e ⊢
    cases hb : m == g with
    | true => rw [hb] at e; cases e
    | false => rw [hb] at e; exact ih e
/-- an expression that may change objects -/
def EvM (X : Cx) (e : Expr) (ρ ρ' : Rho) (d : D) : Prop := ∀ H0 H1 σ H Q, SK X.K H0 H1 ρ σ H → (∀ v H', SK X.K H0 H1 ρ' σ H' → Stb H H' → Rp X.K H' v d → Q v H') → cE X e σ H Q
def EvMT (X : Cx) (e : Expr) (ρ ρ' : Rho) (t : Bool) : Prop := ∀ H0 H1 σ H Q, SK X.K H0 H1 ρ σ H → (∀ H', SK X.K H0 H1 ρ' σ H' → Q t H') → cT X e σ H Q
def EvMW (X : Cx) (e : Expr) (ρ ρ' : Rho) (t : Bool) : Prop := ∀ H0 H1 σ H Q, SK X.K H0 H1 ρ σ H → (∀ H', SK X.K H0 H1 ρ' σ H' → Q t H') → cW X e σ H Q
def Em {S : Type} (X : Cx) (e : Expr) (ρ : Rho) (enc : S → Rho) (f : Option (D × S)) : Prop := ∀ r, f = some r → EvM X e ρ (enc r.2) r.1
def EmT {S : Type} (X : Cx) (e : Expr) (ρ : Rho) (enc : S → Rho) (f : Option (Bool × S)) : Prop := ∀ r, f = some r → EvMT X e ρ (enc r.2) r.1
def EmW {S : Type} (X : Cx) (e : Expr) (ρ : Rho) (enc : S → Rho) (f : Option (Bool × S)) : Prop := ∀ r, f = some r → EvMW X e ρ (enc r.2) r.1
section
variable {X : Cx} {ρ : Rho} {e a b c : Expr} {es : List Expr} {f g : Option D} {S T U : Type} {enc : S → Rho} {enc' : T → Rho} {p pos apos : Pos} {s : String} {i : Nat} {C q : Addr} {fs : FL} {x : Str} {kk : Nat}
/-- o.m(), which only reads -/
theorem eo_meth0 {e0 : U → FL} {m : U → Option D} (st : U) (M : Mr X.prog X.w X.K X.mg X.base C x kk (SpR X.K C e0 (a0 m))) (hr : Room kk X.A) (cl : Cls X.K C) (hs : Sl X.N s i) (h : ρ[i]? = some (.obj (some C) q (e0 st)) := by rfl) (nm : (e0 st).lookup x = none := by rfl) (hv : Vis X.env.scope (Str.ofString s) := by first | exact Or.inl rfl | exact Or.inr (Or.inl rfl) | exact Or.inr (Or.inr rfl)) {pl : Sem Bool}
    (ht : eval (.Call (.Attribute (.Name (Str.ofString s) p) x apos) [] [] pos) X.env = (do
      let ov ← eval (.Name (Str.ofString s) p) X.env
      standAt apos.atName
      let (f, first) ← holding [ov] (getMethod ov x pl)
      callWith pos f first (backTo pos (starEach [] X.env)) (backToKw pos (keywordEach [] X.env))) := by rfl) : Eo X (.Call (.Attribute (.Name (Str.ofString s) p) x apos) [] [] pos) ρ (m st) := fun d z σ H Q Sk q' => by
  obtain ⟨f, fd, ps, F, hm, hb⟩ := M.h
  obtain ⟨dx, vs, L, e1, e2, e3, e4⟩ := Sk.ins h
  exact ⟨_, pe_meth0 (pe_var hs.h hv hs.d hs.c) cl hm F hr hb .nil pass0 (pl := pl) ht, _, e1, _, dx, vs, rfl, e2, e3.no nm, _, [], st, [], d, _, rfl, .ins e2 e3 e4, .nil, z, fun v H' s' r' => q' v H' ⟨s', r'⟩⟩
/-- o.m(..), which may change it -/
theorem em_meth {enc : U → Rho} {e0 : U → FL} {m : U → List D → Option (D × U)} (st : U) (M : Mr X.prog X.w X.K X.mg X.base C x kk (SpM X.K C e0 e0 m)) (hr : Room kk X.A) (cl : Cls X.K C) (hs : Sl X.N s i) {r : Option (List D)} (ha : Ao X (e :: es) ρ r) (h : ρ[i]? = some (.obj (some C) q (e0 st)) := by rfl) (henc : ∀ t, enc t = ρ.set i (.obj (some C) q (e0 t)) := by intro _; rfl) (nm : (e0 st).lookup x = none := by rfl) (hv : Vis X.env.scope (Str.ofString s) := by first | exact Or.inl rfl | exact Or.inr (Or.inl rfl) | exact Or.inr (Or.inr rfl)) {pl : Sem Bool}
    (hst : starEach (e :: es) X.env = (false, eval e X.env) :: starEach es X.env := by rfl) (hpl : (backTo pos (starEach es X.env)).any (·.1) = false := by rfl)
    (ht : eval (.Call (.Attribute (.Name (Str.ofString s) p) x apos) (e :: es) [] pos) X.env = (do
      let ov ← eval (.Name (Str.ofString s) p) X.env
      standAt apos.atName
      let (f, first) ← holding [ov] (getMethod ov x pl)
      callWith pos f first (backTo pos (starEach (e :: es) X.env)) (backToKw pos (keywordEach [] X.env))) := by rfl) : Em X (.Call (.Attribute (.Name (Str.ofString s) p) x apos) (e :: es) [] pos) ρ enc (bnd r (m st)) := fun r' z => by
  obtain ⟨ds, z1, z2⟩ := bnd_inv z
  intro H0 H1 σ H Q Sk q'
  obtain ⟨f, fd, ps, F, hm, hb⟩ := M.h
  obtain ⟨dx, vs, L, e1, e2, e3, e4⟩ := Sk.ok.ins h
  refine ⟨_, pe_meth (pe_var hs.h hv hs.d hs.c) cl hm F hr hb .nil pass0 pa_c (pl := pl) hst hpl ht, _, e1, _, dx, vs, rfl, e2, e3.no nm, ha ds z1 σ H _ Sk.ok fun us H2 s2 r2 => ?_⟩
  rw [List.append_nil]
  have o2 : Own X.K H2 (.ref q) (.obj (some C) q (e0 st)) (q :: L) := .ins (s2 _ _ e2) (e3.mono (.of s2) fun y _ o ho => s2 y o ho) e4
  exact ⟨_, us, st, ds, r'.1, r'.2, _, rfl, o2, r2, z2, fun v H' L1 st' kp o1 hL rp => q' v H' (by rw [henc]; exact (Sk.mono s2).chg h e1 o2 st' kp o1 hL) ((Stb.of s2).trans st') rp⟩
theorem em_meth0 {enc : U → Rho} {e0 : U → FL} {m : U → Option (D × U)} (st : U) (M : Mr X.prog X.w X.K X.mg X.base C x kk (SpM X.K C e0 e0 (a0 m))) (hr : Room kk X.A) (cl : Cls X.K C) (hs : Sl X.N s i) (h : ρ[i]? = some (.obj (some C) q (e0 st)) := by rfl) (henc : ∀ t, enc t = ρ.set i (.obj (some C) q (e0 t)) := by intro _; rfl) (nm : (e0 st).lookup x = none := by rfl) (hv : Vis X.env.scope (Str.ofString s) := by first | exact Or.inl rfl | exact Or.inr (Or.inl rfl) | exact Or.inr (Or.inr rfl)) {pl : Sem Bool}
    (ht : eval (.Call (.Attribute (.Name (Str.ofString s) p) x apos) [] [] pos) X.env = (do
      let ov ← eval (.Name (Str.ofString s) p) X.env
      standAt apos.atName
      let (f, first) ← holding [ov] (getMethod ov x pl)
      callWith pos f first (backTo pos (starEach [] X.env)) (backToKw pos (keywordEach [] X.env))) := by rfl) : Em X (.Call (.Attribute (.Name (Str.ofString s) p) x apos) [] [] pos) ρ enc (m st) := fun r' z => by
  intro H0 H1 σ H Q Sk q'
  obtain ⟨f, fd, ps, F, hm, hb⟩ := M.h
  obtain ⟨dx, vs, L, e1, e2, e3, e4⟩ := Sk.ok.ins h
  refine ⟨_, pe_meth0 (pe_var hs.h hv hs.d hs.c) cl hm F hr hb .nil pass0 (pl := pl) ht, _, e1, _, dx, vs, rfl, e2, e3.no nm, ?_⟩
  exact ⟨_, [], st, [], r'.1, r'.2, _, rfl, .ins e2 e3 e4, .nil, z, fun v H' L1 st' kp o1 hL rp => q' v H' (by rw [henc]; exact Sk.chg h e1 (.ins e2 e3 e4) st' kp o1 hL) st' rp⟩
/-- f(o, ..), which may change it -/
theorem em_fn {enc : U → Rho} {e0 : U → FL} {m : U → List D → Option (D × U)} {fn : String} {p2 : Pos} (st : U) (M : Fr X.prog X.w X.K X.mg X.base fn kk (SpM X.K C e0 e0 m)) (hr : Room kk X.A) (hs : Sl X.N s i) {r : Option (List D)} (ha : Ao X es ρ r) (h : ρ[i]? = some (.obj (some C) q (e0 st)) := by rfl) (henc : ∀ t, enc t = ρ.set i (.obj (some C) q (e0 t)) := by intro _; rfl) (hv : Vis X.env.scope (Str.ofString s) := by first | exact Or.inl rfl | exact Or.inr (Or.inl rfl) | exact Or.inr (Or.inr rfl))
    (hg : Gl X (Str.ofString fn) := by rfl) (hdb : (Str.ofString fn == ("__debug__" : Str)) = false := by decide) (hst : starEach (.Name (Str.ofString s) p2 :: es) X.env = (false, eval (.Name (Str.ofString s) p2) X.env) :: starEach es X.env := by rfl) (hpl : (backTo pos (starEach es X.env)).any (·.1) = false := by rfl) :
    Em X (.Call (.Name (Str.ofString fn) p) (.Name (Str.ofString s) p2 :: es) [] pos) ρ enc (bnd r (m st)) := fun r' z => by
  obtain ⟨ds, z1, z2⟩ := bnd_inv z
  intro H0 H1 σ H Q Sk q'
  obtain ⟨f, fd, ps, F, hm, hk, hb⟩ := M.h
  obtain ⟨dx, vs, L, e1, e2, e3, e4⟩ := Sk.ok.ins h
  refine ⟨_, pe_call F hr hg hm hk hb .nil pass0 (pa_cons (pe_var hs.h hv hs.d hs.c) pa_c hst) hdb hst hpl, _, e1, ha ds z1 σ H _ Sk.ok fun us H2 s2 r2 => ?_⟩
  show SpM X.K C e0 e0 m ((V.ref q :: us) ++ []) H2 Q E0
  rw [List.append_nil]
  have o2 : Own X.K H2 (.ref q) (.obj (some C) q (e0 st)) (q :: L) := .ins (s2 _ _ e2) (e3.mono (.of s2) fun y _ o ho => s2 y o ho) e4
  exact ⟨_, us, st, ds, r'.1, r'.2, _, rfl, o2, r2, z2, fun v H' L1 st' kp o1 hL rp => q' v H' (by rw [henc]; exact (Sk.mono s2).chg h e1 o2 st' kp o1 hL) ((Stb.of s2).trans st') rp⟩
/-! ### put together -/
theorem em_o (sv : S) (h : Eo X e ρ f) (l : Le ρ (enc sv)) : Em X e ρ enc (bnd f fun d => some (d, sv)) := fun r z => by
  obtain ⟨d, z1, z2⟩ := bnd_inv z
  cases z2
  intro H0 H1 σ H Q Sk q'
  exact h d z1 σ H _ Sk.ok fun v H' ⟨s', r'⟩ => q' v H' ((Sk.mono s').le l) (.of s') r'
theorem em_t {t : Option Bool} (sv : S) (h : Et X e ρ t) (l : Le ρ (enc sv)) : EmT X e ρ enc (bnd t fun d => some (d, sv)) := fun r z => by
  obtain ⟨d, z1, z2⟩ := bnd_inv z
  cases z2
  intro H0 H1 σ H Q Sk q'
  exact h d z1 σ H _ Sk.ok fun H' s' => q' H' ((Sk.mono s').le l)
theorem Em.to {F : Option (D × S)} (h : Em X e ρ enc F) (k : S → T) (l : ∀ sv, Le (enc sv) (enc' (k sv))) : Em X e ρ enc' (bnd F fun q => some (q.1, k q.2)) := fun r z => by
  obtain ⟨d, z1, z2⟩ := bnd_inv z
  cases z2
  intro H0 H1 σ H Q Sk q'
  exact h d z1 H0 H1 σ H Q Sk fun v H' S' st rp => q' v H' (S'.le (l _)) st rp
theorem em_cmp (enc : S → Rho) {op : CmpOp} {F : D → D → Option Bool} {A : Option (D × S)} {Bf : D × S → Option (D × T)} (o : CmF X (compareOp op) F) (ha : Em X a ρ enc A) (hb : ∀ q : D × S, Em X b (enc q.2) enc' (Bf q)) (hm : behindInMarks op b = false := by first | exact nomark _ | rfl) :
    Em X (.Compare a [op] [b] pos) ρ enc' (bnd A fun q => bnd (Bf q) fun r => bnd (F q.1 r.1) fun t => some (.bool t, r.2)) := fun r z => by
  obtain ⟨u, z1, z⟩ := bnd_inv z
  obtain ⟨v, z2, z⟩ := bnd_inv z
  obtain ⟨t, z3, z⟩ := bnd_inv z
  cases z
  intro H0 H1 σ H Q Sk q'
  refine ⟨_, pe_cmpR op_c pe_c pe_c hm, ?_⟩
  refine ha u z1 H0 H1 σ H _ Sk fun x Ha Sa sta ra => hb u v z2 H0 H1 σ Ha _ Sa fun y Hb Sb stb rb => o u.1 v.1 t z3 Hb x y Q (.of (ra.mono stb)) (.of rb) fun w Hc ⟨sc, rc⟩ => ?_
  exact q' w Hc (Sb.mono sc) ((sta.trans stb).trans (.of sc)) rc
theorem emT_cmp (enc : S → Rho) {op : CmpOp} {F : D → D → Option Bool} {A : Option (D × S)} {Bf : D × S → Option (D × T)} (o : CmF X (compareOp op) F) (ha : Em X a ρ enc A) (hb : ∀ q : D × S, Em X b (enc q.2) enc' (Bf q)) (hm : behindInMarks op b = false := by first | exact nomark _ | rfl) :
    EmT X (.Compare a [op] [b] pos) ρ enc' (bnd A fun q => bnd (Bf q) fun r => bnd (F q.1 r.1) fun t => some (t, r.2)) := fun r z => by
  obtain ⟨u, z1, z⟩ := bnd_inv z
  obtain ⟨v, z2, z⟩ := bnd_inv z
  obtain ⟨t, z3, z⟩ := bnd_inv z
  cases z
  intro H0 H1 σ H Q Sk q'
  refine ⟨_, pt_cmpR op_c pe_c pe_c hm, ?_⟩
  refine ha u z1 H0 H1 σ H _ Sk fun x Ha Sa sta ra => hb u v z2 H0 H1 σ Ha _ Sa fun y Hb Sb stb rb => o u.1 v.1 t z3 Hb x y _ (.of (ra.mono stb)) (.of rb) fun w Hc ⟨sc, rc⟩ => ?_
  cases rc
  exact ⟨t, rfl, q' Hc (Sb.mono sc)⟩
/-! or, and, not -/
def orM {S : Type} (A : Option (Bool × S)) (Bf : S → Option (Bool × S)) : Option (Bool × S) := bnd A fun q => match q.1 with
  | true => some (true, q.2)
  | false => Bf q.2
def andM {S : Type} (A : Option (Bool × S)) (Bf : S → Option (Bool × S)) : Option (Bool × S) := bnd A fun q => match q.1 with
  | true => Bf q.2
  | false => some (false, q.2)
theorem emT_n {A : Option (Bool × S)} (h : EmT X a ρ enc A) : EmT X (.UnaryOp .Not a pos) ρ enc (bnd A fun q => some (!q.1, q.2)) := fun r z => by
  obtain ⟨u, z1, z⟩ := bnd_inv z
  cases z
  intro H0 H1 σ H Q Sk q'
  exact ⟨_, pt_not pt_c, h u z1 H0 H1 σ H _ Sk fun H' S' => q' H' S'⟩
theorem emW_t {A : Option (Bool × S)} (h : EmW X e ρ enc A) : EmT X e ρ enc A := fun r z H0 H1 σ H Q Sk q' => ⟨_, PW.pt pw_c, h r z H0 H1 σ H Q Sk q'⟩
theorem emW_o1 {A : Option (Bool × S)} (h : EmT X a ρ enc A) : EmW X (.BoolOp .Or [a] pos) ρ enc A := fun r z H0 H1 σ H Q Sk q' => ⟨_, pw_or1 pt_c, h r z H0 H1 σ H Q Sk q'⟩
theorem emW_a1 {A : Option (Bool × S)} (h : EmT X a ρ enc A) : EmW X (.BoolOp .And [a] pos) ρ enc A := fun r z H0 H1 σ H Q Sk q' => ⟨_, pw_and1 pt_c, h r z H0 H1 σ H Q Sk q'⟩
theorem emW_o (enc : S → Rho) {rest : List Expr} {A : Option (Bool × S)} {Bf : S → Option (Bool × S)} (h : EmT X a ρ enc A) (h' : ∀ sv, EmW X (.BoolOp .Or (b :: rest) pos) (enc sv) enc (Bf sv)) : EmW X (.BoolOp .Or (a :: b :: rest) pos) ρ enc (orM A Bf) := fun r z => by
  obtain ⟨⟨t, sv⟩, z1, z⟩ := bnd_inv z
  intro H0 H1 σ H Q Sk q'
  refine ⟨_, pw_or pt_c pw_c, h _ z1 H0 H1 σ H _ Sk fun H2 S2 => ?_⟩
  cases t with
  | true => cases z; exact L2.iteT (q' H2 S2)
  | false => exact iteF (h' sv r z H0 H1 σ H2 Q S2 q')
theorem emW_a (enc : S → Rho) {rest : List Expr} {A : Option (Bool × S)} {Bf : S → Option (Bool × S)} (h : EmT X a ρ enc A) (h' : ∀ sv, EmW X (.BoolOp .And (b :: rest) pos) (enc sv) enc (Bf sv)) : EmW X (.BoolOp .And (a :: b :: rest) pos) ρ enc (andM A Bf) := fun r z => by
  obtain ⟨⟨t, sv⟩, z1, z⟩ := bnd_inv z
  intro H0 H1 σ H Q Sk q'
  refine ⟨_, pw_and pt_c pw_c, h _ z1 H0 H1 σ H _ Sk fun H2 S2 => ?_⟩
  cases t with
  | true => exact L2.iteT (h' sv r z H0 H1 σ H2 Q S2 q')
  | false => cases z; exact iteF (q' H2 S2)
/-! as values -/
def boM {S : Type} (A : Option (Bool × S)) : Option (D × S) := bnd A fun q => some (.bool q.1, q.2)
theorem boM_inv {A : Option (Bool × S)} {r : D × S} (h : boM A = some r) : ∃ t, A = some (t, r.2) ∧ r.1 = .bool t := by
  obtain ⟨q, h1, h2⟩ := bnd_inv h
  cases h2
  exact ⟨q.1, h1, rfl⟩
theorem em_1 {op : BoolOp} {A : Option (D × S)} (h : Em X a ρ enc A) : Em X (.BoolOp op [a] pos) ρ enc A := fun r z H0 H1 σ H Q Sk q' => ⟨_, pe_one pe_c, h r z H0 H1 σ H Q Sk q'⟩
theorem em_a (enc : S → Rho) {rest : List Expr} {A : Option (Bool × S)} {Bf : S → Option (Bool × S)} (h : Em X a ρ enc (boM A)) (h' : ∀ sv, Em X (.BoolOp .And (b :: rest) pos) (enc sv) enc (boM (Bf sv))) : Em X (.BoolOp .And (a :: b :: rest) pos) ρ enc (boM (andM A Bf)) := fun r z => by
  obtain ⟨t0, z0, e0⟩ := boM_inv z
  obtain ⟨⟨t, sv⟩, z1, z2⟩ := bnd_inv z0
  intro H0 H1 σ H Q Sk q'
  refine ⟨_, pe_and pe_c pe_c, h (.bool t, sv) (by rw [z1]; rfl) H0 H1 σ H _ Sk fun v H2 S2 st2 r2 => ⟨t, (Rq.of r2).bl, ?_⟩⟩
  cases t with
  | true => exact L2.iteT (h' sv r (by rw [show Bf sv = some (t0, r.2) from z2]; show some (PyData.bool t0, r.2) = some r; rw [← e0]) H0 H1 σ H2 Q S2 fun v' H3 S3 st3 r3 => q' v' H3 S3 (st2.trans st3) r3)
  | false =>
    have z2 : (false, sv) = (t0, r.2) := Option.some.inj z2
    have e1 : t0 = false := (congrArg Prod.fst z2).symm
    have e2 : r.2 = sv := (congrArg Prod.snd z2).symm
    refine iteF (q' _ H2 (by rw [e2]; exact S2) st2 ?_)
    rw [e0, e1]; exact .bl false
theorem em_bo {t : Option Bool} (sv : S) (h : Eo X e ρ (boV t)) (l : Le ρ (enc sv)) : Em X e ρ enc (boM (bnd t fun b => some (b, sv))) := fun r z => by
  obtain ⟨t0, z0, e0⟩ := boM_inv z
  obtain ⟨b, z1, z2⟩ := bnd_inv z0
  obtain ⟨d, sv'⟩ := r
  simp only at e0
  subst e0
  cases z2
  intro H0 H1 σ H Q Sk q'
  exact h (.bool t0) (by rw [z1]; rfl) σ H _ Sk.ok fun v H' ⟨s', r'⟩ => q' v H' ((Sk.mono s').le l) (.of s') r'
theorem em_cmpB (enc : S → Rho) {op : CmpOp} {F : D → D → Option Bool} {A : Option (D × S)} {Bf : D × S → Option (D × T)} (o : CmF X (compareOp op) F) (ha : Em X a ρ enc A) (hb : ∀ q : D × S, Em X b (enc q.2) enc' (Bf q)) (hm : behindInMarks op b = false := by first | exact nomark _ | rfl) :
    Em X (.Compare a [op] [b] pos) ρ enc' (boM (bnd A fun q => bnd (Bf q) fun r => bnd (F q.1 r.1) fun t => some (t, r.2))) := fun r z => by
  refine em_cmp enc o ha hb hm r ?_
  obtain ⟨t0, z0, e0⟩ := boM_inv z
  obtain ⟨u, z1, z⟩ := bnd_inv z0
  obtain ⟨v, z2, z⟩ := bnd_inv z
  obtain ⟨t, z3, z⟩ := bnd_inv z
  obtain ⟨d, sv'⟩ := r
  simp only at e0
  subst e0
  cases z
  rw [z1, bnd_some, z2, bnd_some, z3]; rfl
end
/-! ### statements -/
section
variable {R S J : Type} {X : Cx} {ρ : Rho} {Φ : R → DL.Fin} {e a b c : Expr} {rest as bs : List Stmt} {pos pos' : Pos} {enc : S → Rho}
theorem so_exprM (enc : S → Rho) {f : Option (D × S)} {G : D × S → Option R} (he : Em X e ρ enc f) (h : ∀ q : D × S, So X rest (enc q.2) Φ (G q)) (hsw : swapsWith e none pos.line X.env = pure false := by rfl) : So X (.Expr e pos :: rest) ρ Φ (bnd f G) := fun r z => by
  obtain ⟨u, z1, z⟩ := bnd_inv z
  exact xs_cons fun H0 H1 σ H E Sk F => ⟨_, ps_expr pe_c hsw, he u z1 H0 H1 σ H _ Sk fun v H' S' _ _ => F.nx _ _ _ S' (h u r z)⟩
theorem so_setM (enc : S → Rho) (i : Nat) {x : Str} {f : Option (D × S)} {G : D × S → Option R} (hN : X.N.Nodup) (he : Em X e ρ enc f) (h : ∀ q : D × S, So X rest ((enc q.2).set i (.val q.1)) Φ (G q)) (hi : X.N[i]? = some x := by rfl) (hx : Loc X.env.scope x := by first | exact Or.inl rfl | exact Or.inr rfl) (hs : swapsWith e (some (.Name x pos')) pos.line X.env = pure false := by rfl) (hf : X.fn x = true ∨ X.env.scope.names.lookup x = some .local := by first | exact .inl rfl | exact .inr rfl | assumption) :
    So X (.Assign [.Name x pos'] e pos :: rest) ρ Φ (bnd f G) := fun r z => by
  obtain ⟨u, z1, z⟩ := bnd_inv z
  exact xs_cons fun H0 H1 σ H E Sk F => ⟨_, ps_set hN hi hx pe_c hs hf, he u z1 H0 H1 σ H _ Sk fun v H' S' _ rp => F.nx _ _ _ (S'.set (.refl _) rp) (h u r z)⟩
theorem so_retM (enc : S → Rho) {f : Option (D × S)} (w : D → S → R) (he : Em X e ρ enc f) (hw : ∀ d sv, (Φ (w d sv)).rt d (enc sv) := by intro _ _; first | rfl | exact And.intro rfl rfl) : So X [.Return (some e) pos] ρ Φ (bnd f fun q => some (w q.1 q.2)) := fun r z => by
  obtain ⟨u, z1, z⟩ := bnd_inv z
  cases z
  exact xs_one fun H0 H1 σ H E Sk F => ⟨_, ps_ret pe_c, he u z1 H0 H1 σ H _ Sk fun v H' S' _ rp => F.rt _ _ _ _ _ ⟨_, S'⟩ rp (hw u.1 u.2)⟩
theorem so_retP {f : Option D} (w : D → R) (he : Eo X e ρ f) (hw : ∀ d, (Φ (w d)).rt d ρ := by intro _; first | rfl | exact And.intro rfl rfl) : So X [.Return (some e) pos] ρ Φ (bnd f fun d => some (w d)) := fun r z => by
  obtain ⟨u, z1, z⟩ := bnd_inv z
  cases z
  exact xs_one (sx_ret (he u z1) (hw u))
theorem so_never {sts : List Stmt} : So X sts ρ Φ none := fun r z => nomatch z
theorem sx_ifM {t : Bool} {Ψ : DL.Fin} {ρ' : Rho} (hc : EvMT X c ρ ρ' t) (ha : t = true → Sxs X as ρ' Ψ) (hb : t = false → Sxs X bs ρ' Ψ) : Sx X (.If c as bs pos) ρ Ψ := fun H0 H1 σ H E Sk F =>
  ⟨_, ps_if pt_c pss_c pss_c, hc H0 H1 σ H _ Sk fun H2 S2 => by
    cases t with
    | true => exact L2.iteT (ha rfl H0 H1 σ H2 E S2 F)
    | false => exact iteF (hb rfl H0 H1 σ H2 E S2 F)⟩
theorem so_ifTM (enc : S → Rho) {f : Option (Bool × S)} {A Bf : Bool × S → Option R} (hc : EmT X c ρ enc f) (ha : ∀ q : Bool × S, So X as (enc q.2) (NoΦ Φ) (A q)) (hb : ∀ q : Bool × S, So X rest (enc q.2) Φ (Bf q)) : So X (.If c as [] pos :: rest) ρ Φ (bnd f fun q => iteT (some q.1) (A q) (Bf q)) := fun r z => by
  obtain ⟨⟨t, sv⟩, z1, z⟩ := bnd_inv z
  refine xs_cons (sx_ifM (hc _ z1) (fun e => ?_) (fun e => ?_))
  · simp only at e
    subst e
    exact (ha (true, sv) r z).imp (fun _ z => z.elim) (fun _ _ z => z) (fun _ z => z) (fun _ z => z)
  · simp only at e
    subst e
    exact xs_nil (hb (false, sv) r z)
theorem so_ifTTM (enc : S → Rho) {f : Option (Bool × S)} {A Bf : Bool × S → Option R} (hc : EmT X c ρ enc f) (ha : ∀ q : Bool × S, So X as (enc q.2) (NoΦ Φ) (A q)) (hb : ∀ q : Bool × S, So X bs (enc q.2) (NoΦ Φ) (Bf q)) : So X (.If c as bs pos :: rest) ρ Φ (bnd f fun q => iteT (some q.1) (A q) (Bf q)) := fun r z => by
  obtain ⟨⟨t, sv⟩, z1, z⟩ := bnd_inv z
  refine xs_cons (sx_ifM (hc _ z1) (fun e => ?_) (fun e => ?_))
  · simp only at e
    subst e
    exact (ha (true, sv) r z).imp (fun _ z => z.elim) (fun _ _ z => z) (fun _ z => z) (fun _ z => z)
  · simp only at e
    subst e
    exact (hb (false, sv) r z).imp (fun _ z => z.elim) (fun _ _ z => z) (fun _ z => z) (fun _ z => z)
theorem so_ifEM (enc : S → Rho) {f : Option (Bool × S)} {A Bf : Bool × S → Option R} (hc : EmT X c ρ enc f) (ha : ∀ q : Bool × S, So X as (enc q.2) Φ (A q)) (hb : ∀ q : Bool × S, So X bs (enc q.2) Φ (Bf q)) : So X [.If c as bs pos] ρ Φ (bnd f fun q => iteT (some q.1) (A q) (Bf q)) := fun r z => by
  obtain ⟨⟨t, sv⟩, z1, z⟩ := bnd_inv z
  refine xs_one (sx_ifM (hc _ z1) (fun e => ?_) (fun e => ?_))
  · simp only at e
    subst e
    exact ha (true, sv) r z
  · simp only at e
    subst e
    exact hb (false, sv) r z
theorem so_joinM (ej : J → Rho) (enc : S → Rho) {f : Option (Bool × S)} {A Bf : Bool × S → Option (Nx J R)} {G : J → Option R} (hc : EmT X c ρ enc f) (ha : ∀ q : Bool × S, So X as (enc q.2) (JΦ Φ ej) (A q)) (hb : ∀ q : Bool × S, So X bs (enc q.2) (JΦ Φ ej) (Bf q)) (hr : ∀ j, So X rest (ej j) Φ (G j)) : So X (.If c as bs pos :: rest) ρ Φ (bnd (bnd f fun q => iteT (some q.1) (A q) (Bf q)) (jn G)) := fun r z => by
  obtain ⟨n, z0, z'⟩ := bnd_inv z
  obtain ⟨⟨t, sv⟩, z1, z⟩ := bnd_inv z0
  cases n with
  | nx j =>
    refine xs_cons (sx_weak (ej j) (sx_ifM (hc _ z1) (fun e => ?_) (fun e => ?_)) (hr j r z'))
    · simp only at e
      subst e
      exact (ha (true, sv) _ z).imp (fun _ z => z) (fun _ _ z => z.elim) (fun _ z => z.elim) (fun _ z => z.elim)
    · simp only at e
      subst e
      exact (hb (false, sv) _ z).imp (fun _ z => z) (fun _ _ z => z.elim) (fun _ z => z.elim) (fun _ z => z.elim)
  | rt r' =>
    cases z'
    refine xs_cons (sx_ifM (hc _ z1) (fun e => ?_) (fun e => ?_))
    · simp only at e
      subst e
      exact (ha (true, sv) _ z).imp (fun _ z => z.elim) (fun _ _ z => z) (fun _ z => z) (fun _ z => z)
    · simp only at e
      subst e
      exact (hb (false, sv) _ z).imp (fun _ z => z.elim) (fun _ _ z => z) (fun _ z => z) (fun _ z => z)
/-- x = C() -/
theorem so_make (i : Nat) {x : Str} {cn : String} {p : Pos} {C fi : Addr} {kk : Nat} {fd : FuncData} {ps : List Str} {T : Type} {e1 : T → FL} {m : Unit → Option (D × T)} {G : D × T → Option R} (hN : X.N.Nodup) (M : Mk X.K C fi) (F : FnOk X.prog X.w X.K X.mg X.base CX0 kk fi fd ps (SpM X.K C (fun _ : Unit => []) e1 (a0 m))) (hbd : Binds X.K fd ps []) (hr : Room (kk + 1) X.A) (hm : X.mg (Str.ofString cn) = some (.ref C)) (hnon : ∀ r, m () = some r → r.1 = .none)
    (h : ∀ (q : Addr) (t : D × T), So X rest (ρ.set i (.obj (some C) q (e1 t.2))) Φ (G t)) (hi : X.N[i]? = some x := by rfl) (hx : Loc X.env.scope x := by first | exact Or.inl rfl | exact Or.inr rfl) (hf : X.fn x = true ∨ X.env.scope.names.lookup x = some .local := by first | exact .inl rfl | exact .inr rfl | assumption) (hg : Gl X (Str.ofString cn) := by rfl) (hdb : (Str.ofString cn == ("__debug__" : Str)) = false := by decide) {spos : Pos} (hs' : swapsWith (.Call (.Name (Str.ofString cn) p) [] [] pos) (some (.Name x pos')) spos.line X.env = pure false := by rfl) :
    So X (.Assign [.Name x pos'] (.Call (.Name (Str.ofString cn) p) [] [] pos) spos :: rest) ρ Φ (bnd (m ()) G) := fun r z => by
  obtain ⟨u, z1, z⟩ := bnd_inv z
  refine xs_cons fun H0 H1 σ H E Sk Fn => ⟨_, ps_set hN hi hx (pe_make0 M F hr hg hm hbd .nil pass0 hdb) hs' hf, fun y dx hy hdx ne => ?_⟩
  have hu := hnon u z1
  have own0 : Own X.K (upd (upd H dx (.own y)) y (.ins C dx [])) (.ref y) (.obj (some C) y []) [y] := .ins upd_same .nil (by simp)
  refine ⟨y, [], (), [], u.1, u.2, [y], rfl, own0, .nil, z1, fun v H' L1 st kp o1 hL rp => ⟨?_, Fn.nx _ _ _ (Sk.setNew (fun b o hb => ?_) (fun b hb => ?_) o1) (h y u r z)⟩⟩
  · rw [hu] at rp; exact (Rq.of rp).non
  · have b1 : b ≠ y := fun t => by rw [t, hy] at hb; cases hb
    have b2 : b ≠ dx := fun t => by rw [t, hdx] at hb; cases hb
    exact kp b o (by rw [upd_ne b1, upd_ne b2]; exact hb) (by simpa using b1)
  · rcases hL b hb with t | t
    · simp at t; rw [t]; exact hy
    · by_cases b1 : b = y
      · rw [b1]; exact hy
      · rw [upd_ne b1] at t
        by_cases b2 : b = dx
        · rw [b2]; exact hdx
        · rw [upd_ne b2] at t; exact t
end
end DL


/-! The program's hosts: parts, faulty, running, rows. -/
namespace DL
open PySem PySem.Spec PyProof.Rows L2
/-- x, y = a, b, both plain local names: stored from the right -/
theorem so_par {R : Type} {X : Cx} {ρ : Rho} {Φ : R → DL.Fin} {a b : Expr} {rest : List Stmt} {pos px py pt pt2 : Pos} {kt k2 : Nat} {x y : Str} {r : Option (List D)} {G : D × D → Option R} (i j : Nat) (hN : X.N.Nodup) (ha : Ao X [a, b] ρ r) (h : ∀ v : D × D, So X rest ((ρ.set i (.val v.1)).set j (.val v.2)) Φ (G v))
    (hij : i ≠ j := by decide) (hi : X.N[i]? = some x := by rfl) (hj : X.N[j]? = some y := by rfl) (hx : X.env.scope.names.lookup x = some .local := by rfl) (hy : X.env.scope.names.lookup y = some .local := by rfl) (hc : X.calm = true := by rfl)
    (hw : swappedStores [.Tuple [.Name x px, .Name y py] kt pt] (.Tuple [a, b] k2 pt2) X.env = pure (some [x, y]) := by rfl) (hs : swapsWithSole [.Tuple [.Name x px, .Name y py] kt pt] (.Tuple [a, b] k2 pt2) pos.line X.env = pure false := by rfl) :
    So X (.Assign [.Tuple [.Name x px, .Name y py] kt pt] (.Tuple [a, b] k2 pt2) pos :: rest) ρ Φ (bnd (tupV r) fun z => bnd (dec2 z) G) := fun r' z => by
  obtain ⟨d, z1, z⟩ := bnd_inv z
  obtain ⟨v, z2, z⟩ := bnd_inv z
  obtain ⟨ds, z3, z4⟩ := bnd_inv z1
  split at z4
  · cases z4
    have e := dec2_inv z2
    injection e with e
    subst e
    refine xs_cons fun H0 H1 σ H E S F => ⟨_, ps_par hc hN hi hj hij hx hy pa_c hw hs, ha _ z3 σ H _ S.ok fun vs H2 s2 r2 => ?_⟩
    cases r2 with
    | cons r1 t =>
      cases t with
      | cons r2 t =>
        cases t
        exact ⟨_, _, rfl, F.nx _ _ _ ((S.set s2 r1).set (.refl _) r2) (h v r' z)⟩
  · cases z4
abbrev HostS := List (D × D) × List (D × D) × D × List D
def F_Host (s : HostS) : FL := [("parts", .dic s.1), ("faulty", .dic s.2.1), ("running", .val s.2.2.1), ("rows", .own s.2.2.2)]
def m_Host_init (_ : Unit) : Option (D × HostS) := bnd (some []) fun x1 => bnd (some []) fun x2 => bnd (tupV (some [])) fun x3 => bnd (lstV (some [])) fun x4 => some (.none, x1, x2, x3, x4)
theorem m_Host_init_eq : m_Host_init () = some (.none, [], [], .tuple [], []) := rfl
theorem m_Host_init_non : ∀ r, m_Host_init () = some r → r.1 = .none := fun r z => by
  rw [m_Host_init_eq] at z
  cases z; rfl
end DL


/-! list(range(n)); defs that hand back a new object. -/
namespace DL
open PySem PySem.Spec PyProof.Rows L2
section
variable {X : Cx} {ρ : Rho} {e a b c : Expr} {f : Option D} {p pos p2 pos2 : Pos}
theorem cr_range1 : CallR X (.type "range") (fun vs H Q => ∃ j, vs = [V.int j] ∧ ∀ p, H p = none → Q (.ref p) (upd H p (.rng 0 j))) := by
  intro pins s σ H vs us Q I r h
  obtain ⟨j, rfl, q⟩ := h
  obtain ⟨u, rfl, ru⟩ := vals1 r
  obtain ⟨t, rfl⟩ := ru
  refine call_range_1 ⟨.ref s.heap.objs.size, upd H s.heap.objs.size (.rng 0 j), I.laid (t' := s.toks + 1 + 1) (fun b o e => Heap.get?_push_of_some _ e) (Nat.le_refl _) ?_, rfl, q _ (I.hok.fresh (Nat.le_refl _))⟩
  exact ⟨s.toks, t, s.toks + 1, Heap.get?_push_size _ rfl⟩
theorem items_vals {n : Nat} {acc : Array Value} (h : ItemsOf (fun i v => ∃ t, v = Value.int ((0 : Int) + i * 1) t) acc n) : Vals ((List.range n).map fun k => V.int ((k : Nat) : Int)) acc.toList := by
  obtain ⟨h1, h2⟩ := h
  have key : ∀ (l : List Value) (k : Nat), (∀ j v, l[j]? = some v → ∃ t, v = Value.int (((k + j : Nat) : Nat) : Int) t) → Vals ((List.range' k l.length).map fun k => V.int ((k : Nat) : Int)) l := by
    intro l
    induction l with
    | nil => intro k _; exact .nil
    | cons v l ih =>
      intro k h
      rw [List.length_cons, List.range'_succ, List.map_cons]
      refine .cons ?_ (ih (k + 1) fun j w hj => ?_)
      · obtain ⟨t, e⟩ := h 0 v rfl
        exact ⟨t, by simpa using e⟩
      · obtain ⟨t, e⟩ := h (j + 1) w (by simpa using hj)
        exact ⟨t, by rw [e]; congr 2; omega⟩
  have := key acc.toList 0 fun j v hj => by
    obtain ⟨t, e⟩ := h2 j v (by simpa using hj)
    exact ⟨t, by rw [e]; congr 1; omega⟩
  rw [Array.length_toList, h1] at this
  rw [List.range_eq_range']
  exact this
theorem call_list_rng (hc : X.calm = true) : CallR X (.type "list") (fun xs H Q => ∃ p j, xs = [V.ref p] ∧ H p = some (.rng 0 j) ∧ -100000 ≤ j ∧ j ≤ 100000 ∧ ∀ l, H l = none → Q (.ref l) (upd H l (.lst ((List.range j.toNat).map fun k => V.int ((k : Nat) : Int))))) := by
  intro pins s σ H vs us Q I r h
  obtain ⟨p, j, rfl, hp, h1, h2, q⟩ := h
  obtain ⟨u, rfl, ru⟩ := vals1 r
  cases ru
  obtain ⟨t, u, v, e⟩ := I.hok p _ hp
  have hn : Builtin.Range.rangeSize 0 j 1 = (j.toNat : Nat) := by
    unfold Builtin.Range.rangeSize
    rw [if_pos (by decide)]
    split <;> omega
  refine PySem.call_list_range (I.ok.hd hc) e (PySem.small_one (by omega) (by omega) (by omega) (by omega)) hn (by omega) fun h' tk acc c' kp e2 items => ?_
  have hv := items_vals items
  refine ⟨.ref s.heap.objs.size, _, I.laid (t' := tk) kp (Nat.le_refl _) (show ObjOk X.prog X.w _ h' _ (.lst ((List.range j.toNat).map fun k => V.int ((k : Nat) : Int))) from ⟨?_, acc.toList, c', hv, by simpa using e2⟩), rfl, q _ (I.hok.fresh (Nat.le_refl _))⟩
  rw [List.length_map, List.length_range, sizeLine_eq]
  omega
theorem rp_natI {K : PySem.W.Frag} {H : Hp} : ∀ (l : List Nat), RpAll K H (l.map fun k => V.int ((k : Nat) : Int)) (l.map fun k => PyData.int ((k : Nat) : Int))
  | [] => .nil
  | k :: l => .cons (.int _) (rp_natI l)
/-- list(range(a)) -/
theorem en_listrange (hs : Nb X.mg "list" (.type "list")) (ht : Nb X.mg "range" (.type "range")) (h1 : Eo X a ρ f) (hc : X.calm = true := by rfl) (gs : Gl X (Str.ofString "list") := by rfl) (gt : Gl X (Str.ofString "range") := by rfl) (s1 : starEach [a] X.env = (false, eval a X.env) :: starEach [] X.env := by rfl) (hpl : (backTo pos (starEach [] X.env)).any (·.1) = false := by rfl)
    (s2 : starEach [.Call (.Name (Str.ofString "range") p) [a] [] pos] X.env = (false, eval (.Call (.Name (Str.ofString "range") p) [a] [] pos) X.env) :: starEach [] X.env := by rfl) (hp2 : (backTo pos2 (starEach [] X.env)).any (·.1) = false := by rfl) :
    En X (.Call (.Name (Str.ofString "list") p2) [.Call (.Name (Str.ofString "range") p) [a] [] pos] [] pos2) ρ (op1 rangeI f) := fun d q => by
  obtain ⟨x, q1, q2⟩ := bnd_inv q
  unfold rangeI at q2
  split at q2
  · rename_i n
    split at q2
    · rename_i hb
      cases q2
      intro σ H Q S q
      refine ⟨_, pe_callTy (call_list_rng hc) gs hs.h hs.v (pa_cons (pe_callTy cr_range1 gt ht.h ht.v (pa_cons pe_c pa_nil s1) ht.n ht.d s1 hpl) pa_nil s2) hs.n hs.d s2 hp2, ?_⟩
      refine h1 _ q1 σ H _ S fun v H1 ⟨sm, r⟩ => ?_
      have ev := (Rq.of r).int
      subst ev
      refine ⟨n, rfl, fun b hb' => ⟨b, n, rfl, upd_same, by omega, by omega, fun l hl => q _ _ ⟨sm.trans ((same_new hb').trans (same_new hl)), l, _, rfl, ?_, upd_same, rp_natI _⟩⟩⟩
      cases e : H l with
      | none => rfl
      | some o =>
        have := (sm.trans (same_new (o := .rng 0 n) hb')) l o e
        rw [hl] at this; cases this
    · cases q2
  · cases q2
end
/-! ### [..] * n -/
def repN (ds : List D) : D → Option (List D)
  | .int k => if 0 ≤ k ∧ k ≤ 1000 ∧ ds.length ≤ 1000 then some (List.replicate k.toNat ds).flatten else none
  | _ => none
theorem RpAll.rep {K : PySem.W.Frag} {H : Hp} {xs : List V} {ds : List D} (r : RpAll K H xs ds) : ∀ k : Nat, RpAll K H (List.replicate k xs).flatten (List.replicate k ds).flatten
  | 0 => .nil
  | k + 1 => by
    rw [List.replicate_succ, List.replicate_succ, List.flatten_cons, List.flatten_cons]
    exact r.append (RpAll.rep r k)
theorem en_rep {X : Cx} {ρ : Rho} {a b : Expr} {pos : Pos} {f : Option (List D)} {g : Option D} (ha : En X a ρ f) (hb : Eo X b ρ g) : En X (.BinOp a .Mult b pos) ρ (bnd f fun ds => op1 (repN ds) g) := fun d q => by
  obtain ⟨ds, q1, q2⟩ := bnd_inv q
  obtain ⟨x, q3, q4⟩ := bnd_inv q2
  unfold repN at q4
  split at q4
  · rename_i k
    split at q4
    · rename_i hk
      cases q4
      intro σ H Q S q
      refine ⟨_, pe_op op_rep pe_c pe_c, ha ds q1 σ H _ S fun v H1 ⟨s1, p, xs, ev, np, hp, rp⟩ => hb _ q3 σ H1 _ (S.mono s1) fun y H2 ⟨s2, r2⟩ => ?_⟩
      subst ev
      have ey := (Rq.of r2).int
      subst ey
      refine ⟨p, k, xs, rfl, rfl, s2 _ _ hp, by omega, by omega, ?_, fun l hl => q _ _ ⟨(s1.trans s2).trans (same_new hl), l, _, rfl, (s1.trans s2).free hl, upd_same, ((rp.mono (.of s2)).rep _).mono (stb_new hl)⟩⟩
      rw [rp.length, sizeLine_eq]
      have : ds.length * k.toNat ≤ 1000 * 1000 := Nat.mul_le_mul hk.2.2 (by omega)
      omega
    · cases q4
  · cases q4
/-! ### a def that hands back a new object -/
def SpF (K : PySem.W.Frag) (C : Addr) {T : Type} (e1 : T → FL) (m : List D → Option T) : Sp := fun vs H Q _ => ∃ (ds : List D) (t : T), RpAll K H vs ds ∧ m ds = some t ∧ ∀ q H' L, Same H H' → Own K H' (.ref q) (.obj (some C) q (e1 t)) L → (∀ x ∈ L, H x = none) → Q (.ref q) H'
def FnFΦ (C : Addr) {T : Type} (e1 : T → FL) : T → DL.Fin := fun t => { nx := fun _ => False, rt := fun _ _ => False, ro := fun q ρ => ∃ i : Nat, ρ[i]? = some (.obj (some C) q (e1 t)) }
def f3 {T : Type} (m : D → D → D → Option T) : List D → Option T
  | [x, y, z] => m x y z
  | _ => none
theorem f3_inv {T : Type} {m : D → D → D → Option T} {ds : List D} {r : T} (h : f3 m ds = some r) : ∃ x y z, ds = [x, y, z] ∧ m x y z = some r := by
  unfold f3 at h; split at h
  · exact ⟨_, _, _, rfl, h⟩
  · cases h
section
variable {P : Program} {w : World} {K : PySem.W.Frag} {mg : Str → Option Value} {base : Heap} {x qual : Str} {params : Arguments} {body : List Stmt} {scope : Scope} {kws : List (Str × V)} {f : Addr} {fd : FuncData} {N ps : List Str} {k : Nat} {T : Type} {C : Addr} {e1 : T → FL}
theorem fn_F {m : List D → Option T} (F : FunD K x qual params body scope [] kws f fd) (Sc : FnScope N ps scope) (len : ∀ ds r, m ds = some r → ds.length = ps.length)
    (h : ∀ (ds : List D) (cdv : Value) (A : Around) (outer : List Env) (sh : Shared) (H : Hp) (E : XK), Room k (A.deeper (envOfC qual scope sh.heap.objs.size f cdv)) → (m ds).isSome = true → So (cxOf CX0 P w K mg base N qual scope f cdv A outer sh H E).nox body (startB N.length ds) (FnFΦ C e1) (m ds)) :
    FnOk P w K mg base CX0 (k + 1) f fd ps (SpF K C e1 m) := by
  refine F.ok Sc (fun vs H Q E ⟨ds, t, r, hm, _⟩ => by rw [r.length, len ds _ hm]) (fun cdv A outer s H vs Q E hr ⟨ds, t, r, hm, hq⟩ => ?_)
  refine ⟨_, PSs.nox pss_c, h ds cdv A outer s H E hr (by rw [hm]; rfl) _ hm (Ent.of H) H (L2.start N vs) H _ ⟨fun _ _ e _ => e, .refl _, sok_start r, fun i b v L y e1' _ o1 => ?_, fun i T e1' => absurd (startB_no _ _ i _ e1') (by simp [isOwn])⟩ ⟨fun _ _ _ _ z => z.elim, fun _ _ _ _ _ _ _ z => z.elim, fun _ _ _ _ z => z.elim, fun _ _ _ _ z => z.elim, fun q ρ σ H' S' _ z => ?_, fun _ z => nomatch z⟩⟩
  · have := startB_no _ _ i b e1'
    rw [o1.is] at this; cases this
  · obtain ⟨H1, S'⟩ := S'
    obtain ⟨i, e⟩ := z
    obtain ⟨u, L, z1, z2⟩ := S'.ok.has i _ e rfl
    have zu : u = .ref q := by cases z2; rfl
    subst zu
    refine hq q H' L S'.same.same z2 fun y hy => ?_
    rcases S'.fr i _ _ L y e z1 z2 hy with z | z
    · exact z
    · exact z.elim
end
section
variable {R : Type} {X : Cx} {ρ : Rho} {Φ : R → DL.Fin} {e : Expr} {es : List Expr} {rest : List Stmt} {pos pos' spos p : Pos} {C q : Addr} {fs : FL}
theorem so_retObj (i : Nat) {s : String} (w : R) (hs : Sl X.N s i) (h : ρ[i]? = some (.obj (some C) q fs) := by rfl) (hw : (Φ w).ro q ρ := by exact ⟨_, rfl⟩) (hv : Vis X.env.scope (Str.ofString s) := by first | exact Or.inl rfl | exact Or.inr (Or.inl rfl) | exact Or.inr (Or.inr rfl)) : So X [.Return (some (.Name (Str.ofString s) p)) pos] ρ Φ (some w) := fun r z => by
  cases z
  refine xs_one fun H0 H1 σ H E S F => ?_
  obtain ⟨dx, vs, L, e1, e2, e3, e4⟩ := S.ok.ins h
  exact ⟨_, ps_ret (pe_var hs.h hv hs.d hs.c), _, e1, F.ro q ρ σ H ⟨_, S⟩ ⟨i, C, fs, h, e1⟩ hw⟩
theorem so_callF (i : Nat) {x : Str} {fn : String} {kk : Nat} {T : Type} {e1 : T → FL} {m : List D → Option T} {r : Option (List D)} {G : T → Option R} (hN : X.N.Nodup) (M : Fr X.prog X.w X.K X.mg X.base fn kk (SpF X.K C e1 m)) (hr : Room kk X.A) (ha : Ao X (e :: es) ρ r) (h : ∀ (q : Addr) (t : T), So X rest (ρ.set i (.obj (some C) q (e1 t))) Φ (G t))
    (hi : X.N[i]? = some x := by rfl) (hx : Loc X.env.scope x := by first | exact Or.inl rfl | exact Or.inr rfl) (hf : X.fn x = true ∨ X.env.scope.names.lookup x = some .local := by first | exact .inl rfl | exact .inr rfl | assumption) (hg : Gl X (Str.ofString fn) := by rfl) (hdb : (Str.ofString fn == ("__debug__" : Str)) = false := by decide)
    (hst : starEach (e :: es) X.env = (false, eval e X.env) :: starEach es X.env := by rfl) (hpl : (backTo pos (starEach es X.env)).any (·.1) = false := by rfl) (hs' : swapsWith (.Call (.Name (Str.ofString fn) p) (e :: es) [] pos) (some (.Name x pos')) spos.line X.env = pure false := by rfl) :
    So X (.Assign [.Name x pos'] (.Call (.Name (Str.ofString fn) p) (e :: es) [] pos) spos :: rest) ρ Φ (bnd (bnd r m) G) := fun r' z => by
  obtain ⟨t, z1, z⟩ := bnd_inv z
  obtain ⟨ds, z2, z3⟩ := bnd_inv z1
  obtain ⟨f, fd, ps, F, hm, hk, hb⟩ := M.h
  refine xs_cons fun H0 H1 σ H E Sk Fn => ⟨_, ps_set hN hi hx (pe_call F hr hg hm hk hb .nil pass0 pa_c hdb hst hpl) hs' hf, ha ds z2 σ H _ Sk.ok fun us H2 s2 r2 => ?_⟩
  show SpF X.K C e1 m (us ++ []) H2 _ _
  rw [List.append_nil]
  exact ⟨ds, t, r2, z3, fun q H' L sm o fr => Fn.nx _ _ _ ((Sk.mono s2).setNew sm fr o) (h q t r' z)⟩
end
end DL


namespace DL
open PySem PySem.Spec PyProof.Rows L2
local macro_rules | `(tactic| walk_at "ev") => `(tactic| try simp only [bnd_some, op1_some, op2_some, op3_some, op4_some, op3s_some, slP_int, boV_some, tB_some, lsV_some, dcV_some, lcD_some, arg1_some, dec1_eq, dec2_eq, dec3_eq, dec4_eq, dec5_eq, jn_nx, jn_rt, iteT_true, iteT_false, notT_some, andT_some, orT_some, andT_false, orT_true, andT_true, orT_false, ixP0, ixP1, ixP2, ixP3, ixP4, ixW0, ixW1, ixW2, ixW3, ixK0, ixK1, ixK2, dec2F, dec2SS, ixT0, ixL0, itD_l, itD_t, itD_h, itL_eq, listN_l, listN_t, listN_h, tupD_l, lenD_l, lenD_t, lenD_h, addD_i, subD_i, negD_i, ltB_i, leB_i, gtB_i, geB_i, eqB_i, eqB_s, neB_s, neB_i, isNB_eq, isNNB_eq, lstV_nil, tupV_nil, tupV1, tupV2, tupV3, tupV4, tupV5, tupV6, lstV1, lstV2, lstV3, intD_b, intD_i, minD_i, keepE_some, keepE_true, keepE_false, inB_sl, inB_st, ninB_eq, List.length_map, if_true, if_false, Bool.false_eq_true])
/-! ### ghost slots -/
theorem inv_ghost {X : Cx} {pins : List (Addr × Obj)} {σ : L2.St} {H : Hp} {s : Shared} {i : Nat} {y : Str} {o : Option V} (hn : X.N[i]? = some y) (nv : ¬ Vis X.env.scope y) (I : Inv X pins σ H s) : Inv X pins (σ.set i o) H s := by
  refine { I with loc := ?_, len := by rw [List.length_set]; exact I.len }
  obtain ⟨m, h1, h2⟩ := I.loc
  refine ⟨m, h1, fun j x v e1 e2 hv => h2 j x v e1 ?_ hv⟩
  by_cases e : j = i
  · subst e
    rw [hn] at e1
    cases e1
    exact absurd hv nv
  · rwa [List.getElem?_set_ne (Ne.symm e)] at e2
theorem pss_ghost {X : Cx} {sts : List Stmt} {t : TS} {i : Nat} {y : Str} (o : Option V) (hn : X.N[i]? = some y) (nv : ¬ Vis X.env.scope y) (h : PSs X sts t) : PSs X sts (fun D σ H => t D (σ.set i o) H) := ⟨fun pins s σ H D I q => h.run pins s _ H D (inv_ghost hn nv I) q⟩
/-- a thing of one's own that stands is taken into a slot that nobody sees -/
theorem SOk.take {K : PySem.W.Frag} {ρ : Rho} {σ : L2.St} {H : Hp} {i : Nat} {v : V} {b : B} {L : List Addr} (h : SOk K ρ σ H) (hi : i < ρ.length) (o : Own K H v b L) (dj : ∀ (j : Nat) c w M x, j ≠ i → ρ[j]? = some c → σ[j]? = some (some w) → Own K H w c M → x ∈ M → x ∉ L) : SOk K (ρ.set i b) (σ.set i (some v)) H := by
  have hl : i < σ.length := by rw [← h.len]; exact hi
  have ne : ∀ (j : Nat) c, j ≠ i → (ρ.set i b)[j]? = some c → ρ[j]? = some c := fun j c n e => by rwa [List.getElem?_set_ne (Ne.symm n)] at e
  have nes : ∀ (j : Nat) (w : V), j ≠ i → (σ.set i (some v))[j]? = some (some w) → σ[j]? = some (some w) := fun j c n e => by rwa [List.getElem?_set_ne (Ne.symm n)] at e
  have at_ : ∀ c, (ρ.set i b)[i]? = some c → c = b := fun c e => by rw [List.getElem?_set_self hi] at e; exact (Option.some.inj e).symm
  have ats : ∀ w : V, (σ.set i (some v))[i]? = some (some w) → w = v := fun c e => by rw [List.getElem?_set_self hl] at e; exact (Option.some.inj (Option.some.inj e)).symm
  refine ⟨by rw [List.length_set, List.length_set, h.len], fun j d e => ?_, fun j c e oc => ?_, fun j k c c' w w' M M' x e1 e2 s1 s2 o1 o2 m1 m2 => ?_⟩
  · by_cases n : j = i
    · subst n
      rw [← at_ _ e] at o
      cases o
    · obtain ⟨u, h1, h2⟩ := h.val j d (ne j _ n e)
      exact ⟨u, by rw [List.getElem?_set_ne (Ne.symm n)]; exact h1, h2⟩
  · by_cases n : j = i
    · subst n
      rw [at_ _ e]
      exact ⟨v, L, by rw [List.getElem?_set_self hl], o⟩
    · obtain ⟨u, M, h1, h2⟩ := h.has j c (ne j _ n e) oc
      exact ⟨u, M, by rw [List.getElem?_set_ne (Ne.symm n)]; exact h1, h2⟩
  · by_cases n : j = i
    · by_cases n' : k = i
      · rw [n, n']
      · subst n
        rw [at_ _ e1, ats _ s1] at o1
        rw [o1.det o] at m1
        exact absurd m1 (dj k c' w' M' x n' (ne k _ n' e2) (nes k _ n' s2) o2 m2)
    · by_cases n' : k = i
      · subst n'
        rw [at_ _ e2, ats _ s2] at o2
        rw [o2.det o] at m2
        exact absurd m2 (dj j c w M x n (ne j _ n e1) (nes j _ n s1) o1 m1)
      · exact h.apart j k c c' w w' M M' x (ne j _ n e1) (ne k _ n' e2) (nes j _ n s1) (nes k _ n' s2) o1 o2 m1 m2
/-- tables changed, all else kept -/
theorem SK.chgT {K : PySem.W.Frag} {ρ : Rho} {H0 : Ent} {H1 H H' : Hp} {σ : L2.St} {j : Nat} {T : List (Addr × Str)} (S : SK K H0 H1 ρ σ H) (hj : ρ[j]? = some (.tab T)) (one : ∀ (i : Nat) T', ρ[i]? = some (.tab T') → i = j) (ex : LamX.ExtN H H') (ht : LamX.Tabs T H') : SK K H0 H1 ρ σ H' := by
  have st : Stb H H' := ⟨fun b xs e => ex b _ e (fun _ z => by cases z), fun b o u e => ex b _ e (fun _ z => by cases z), fun b φ _ e => ex b _ e (fun _ z => by cases z)⟩
  obtain ⟨v0, L0, e1, o0⟩ := S.ok.has j _ hj rfl
  have hv : v0 = .non := by cases o0; rfl
  subst hv
  have eL : L0 = T.map (·.1) := by cases o0; rfl
  subst eL
  have notT : ∀ (i : Nat) b v L, ρ[i]? = some b → i ≠ j → Own K H v b L → ∀ x ∈ L, ∀ q, H x = some q → H' x = some q := fun i b v L e n ow x m q hq => by
    refine ex x q hq fun ps z => ?_
    subst z
    have key : ∀ {vs : List (Str × V)} {fs : List (Str × Fld)} {M : List Addr}, FdsOk K H vs fs M → x ∈ M → False := fun {vs fs M} h hm => by
      induction h with
      | nil => cases hm
      | cons h _ ih =>
        rcases List.mem_append.mp hm with z | z
        · cases h with
          | val => cases z
          | own e _ => simp at z; rw [← z, hq] at e; cases e
          | dic e _ => simp at z; rw [← z, hq] at e; cases e
        · exact ih z
    cases ow with
    | own e' _ => simp at m; rw [← m, hq] at e'; cases e'
    | dic e' _ => simp at m; rw [← m, hq] at e'; cases e'
    | ins e' r _ =>
      rcases List.mem_cons.mp m with z | z
      · rw [← z, hq] at e'; cases e'
      · exact key r z
    | dct e' r _ =>
      rcases List.mem_cons.mp m with z | z
      · rw [← z, hq] at e'; cases e'
      · exact key r z
    | tab _ => exact n (one i _ e)
    | gen e' g =>
      obtain ⟨o', h1, _, h3⟩ := g.stands _ e' x m
      rw [hq] at h1
      cases h1
      exact h3 _ rfl
    | tr r _ =>
      obtain ⟨o', h1, _, h3⟩ := r.stands x m
      rw [hq] at h1
      cases h1
      exact h3 _ rfl
  have back : ∀ (i : Nat) b v L, ρ[i]? = some b → σ[i]? = some (some v) → Own K H' v b L → Own K H v b L := fun i b v L e es ow => by
    by_cases n : i = j
    · subst n
      rw [hj] at e
      cases e
      rw [e1] at es
      cases es
      cases ow
      exact o0
    · exact S.ok.back st (fun L o => notT i b v L e n o) e es ow
  refine ⟨fun b q e w => ?_, S.stb.trans st, ⟨S.ok.len, fun i d e => ?_, fun i b e ob => ?_, fun i k b c v w L M x q1 q2 s1 s2 w1 w2 m1 m2 => ?_⟩, fun i b v L x q1 q3 ow m => ?_, S.tb⟩
  · refine ex b q (S.same b q e w) fun ps z => ?_
    subst z
    exact w (S.tb j T hj b ps e)
  · obtain ⟨v, h1, h2⟩ := S.ok.val i d e
    exact ⟨v, h1, h2.mono st⟩
  · by_cases n : i = j
    · subst n
      rw [hj] at e
      cases e
      exact ⟨.non, _, e1, .tab ht⟩
    · obtain ⟨v, L, h1, h2⟩ := S.ok.has i b e ob
      exact ⟨v, L, h1, h2.mono st (notT i b v L e n h2)⟩
  · exact S.ok.apart i k b c v w L M x q1 q2 s1 s2 (back i b v L q1 s1 w1) (back k c w M q2 s2 w2) m1 m2
  · exact S.fr i b v L x q1 q3 (back i b v L q1 q3 ow) m
end DL


namespace DL
open PySem PySem.Spec PyProof.Rows L2
local macro_rules | `(tactic| walk_at "ev") => `(tactic| try simp only [bnd_some, op1_some, op2_some, op3_some, op4_some, op3s_some, slP_int, boV_some, tB_some, lsV_some, dcV_some, lcD_some, arg1_some, dec1_eq, dec2_eq, dec3_eq, dec4_eq, dec5_eq, jn_nx, jn_rt, iteT_true, iteT_false, notT_some, andT_some, orT_some, andT_false, orT_true, andT_true, orT_false, ixP0, ixP1, ixP2, ixP3, ixP4, ixW0, ixW1, ixW2, ixW3, ixK0, ixK1, ixK2, dec2F, dec2SS, ixT0, ixL0, itD_l, itD_t, itD_h, itL_eq, listN_l, listN_t, listN_h, tupD_l, lenD_l, lenD_t, lenD_h, addD_i, subD_i, negD_i, ltB_i, leB_i, gtB_i, geB_i, eqB_i, eqB_s, neB_s, neB_i, isNB_eq, isNNB_eq, lstV_nil, tupV_nil, tupV1, tupV2, tupV3, tupV4, tupV5, tupV6, lstV1, lstV2, lstV3, intD_b, intD_i, minD_i, keepE_some, keepE_true, keepE_false, inB_sl, inB_st, ninB_eq, List.length_map, if_true, if_false, Bool.false_eq_true])
/-! ### methods that may raise -/
/-- c: it raises; else m -/
def xM {S : Type} (c : S → List D → Option Bool) (m : S → List D → Option (D × S)) : S → List D → Option (Option D × S) := fun s ds => bnd (c s ds) fun b => match b with
  | true => some (none, s)
  | false => bnd (m s ds) fun r => some (some r.1, r.2)
def SpX (K : PySem.W.Frag) (C : Addr) (cls : Value) {S : Type} (e0 : S → FL) (m : S → List D → Option (Option D × S)) : Sp := fun vs H Q E => ∃ (q : Addr) (ws : List V) (s : S) (ds : List D) (o : Option D) (t : S) (L0 : List Addr), vs = .ref q :: ws ∧ Own K H (.ref q) (.obj (some C) q (e0 s)) L0 ∧ RpAll K H ws ds ∧ m s ds = some (o, t) ∧
  (∀ d, o = some d → ∀ v H' L1, Stb H H' → (∀ x o, H x = some o → x ∉ L0 → H' x = some o) → Own K H' (.ref q) (.obj (some C) q (e0 t)) L1 → (∀ x ∈ L1, x ∈ L0 ∨ H x = none) → Rp K H' v d → Q v H') ∧
  (o = none → ∀ H', Same H H' → E cls none H')
section
variable {P : Program} {w : World} {K : PySem.W.Frag} {mg : Str → Option Value} {base : Heap} {x qual : Str} {params : Arguments} {scope : Scope} {kws : List (Str × V)} {f : Addr} {fd : FuncData} {N ps : List Str} {k : Nat} {S : Type} {C NP : Addr} {e0 : S → FL} {c : Expr} {rest : List Stmt} {xn msg : Str} {jj : Nat} {p1 p2 p3 p4 p5 : Pos}
theorem fn_X {cf : S → List D → Option Bool} {m : S → List D → Option (D × S)} (F : FunD K x qual params (.If c [.Raise (some (.Call (.Name xn p1) [.Constant (.str msg) jj p2] [] p3)) none p4] [] p5 :: rest) scope [] kws f fd) (Sc : FnScope N ps scope) (len : ∀ s ds r, cf s ds = some r → ds.length + 1 = ps.length) (hN : N ≠ [])
    (hg : scope.names.lookup xn = some .globalImplicit) (hm : mg xn = some (.ref NP)) (hdb : (xn == ("__debug__" : Str)) = false) (ex : PySem.W.excIn K NP He.veBase "ValueError.__new__" = true) (kp : PySem.W.keepIn K (.ref NP) = true) (s1 : PySem.W.subIn K (.ref NP) (.type "BaseException") = some true) (s2 : PySem.W.typeIn K (.ref NP) = some (.type "type"))
    (hc : ∀ (q : Addr) (s : S) (ds : List D) (cdv : Value) (A : Around) (outer : List Env) (sh : Shared) (H : Hp) (E : XK), Room k (A.deeper (envOfC qual scope sh.heap.objs.size f cdv)) → (cf s ds).isSome = true → Et (cxOf (L2.CX P w) P w K mg base N qual scope f cdv A outer sh H E).nox c (startM (objB C q e0 s) N.length ds) (cf s ds))
    (h : ∀ (q : Addr) (s : S) (ds : List D) (cdv : Value) (A : Around) (outer : List Env) (sh : Shared) (H : Hp) (E : XK), Room k (A.deeper (envOfC qual scope sh.heap.objs.size f cdv)) → (m s ds).isSome = true → So (cxOf (L2.CX P w) P w K mg base N qual scope f cdv A outer sh H E).nox (.If c [.Raise (some (.Call (.Name xn p1) [.Constant (.str msg) jj p2] [] p3)) none p4] [] p5 :: rest) (startM (objB C q e0 s) N.length ds) (FnMΦ (objB C q e0)) (m s ds)) :
    FnOk P w K mg base (L2.CX P w) (k + 1) f fd ps (SpX K C (.ref NP) e0 (xM cf m)) := by
  refine F.ok Sc (fun vs H Q E ⟨q, ws, s, ds, d, t, L0, e, o, r, hm, _⟩ => ?_) (fun cdv A outer s H vs Q E hr ⟨q, ws, st, ds, od, t, L0, e, o, r, hmm, hq, hx⟩ => ?_)
  · obtain ⟨b, z, _⟩ := bnd_inv hm
    rw [e, List.length_cons, r.length, ← len s ds _ z]
  subst e
  obtain ⟨b, z1, z2⟩ := bnd_inv hmm
  cases b with
  | true =>
    cases z2
    have tk : Takes (cxOf (L2.CX P w) P w K mg base N qual scope f cdv A outer s H E) (fun cls d _ H' => E cls d H') := takes_of (E := E) rfl rfl rfl rfl
    refine ⟨_, pss_cons (ps_if (PT.nox pt_c) (pss_one (ps_raise rfl tk (SkE.pmk_own1 (e := .Constant (.str msg) jj p2) PySem.F.excBase_ValueError ex hm kp (raises_own s1 s2) hg pe_str rfl hdb))) pss_nil) (⟨fun _ _ _ _ _ _ z => z.elim⟩ : PSs _ rest (fun _ _ _ => False)), ?_⟩
    exact hc q st ds cdv A outer s H E hr (by rw [z1]; rfl) true z1 _ H _ (sok_startM r o hN) fun H' s' => L2.iteT (hx rfl H' s')
  | false =>
    obtain ⟨⟨d, t'⟩, z3, z4⟩ := bnd_inv z2
    cases z4
    have fin : ∀ ρ σ H' v, (∃ H1, SK K ⟨H, fun y => y ∈ L0⟩ H1 ρ σ H') → Rp K H' v d → ρ[0]? = some (objB C q e0 t') → Q v H' := by
      rintro ρ σ H' v ⟨H1, S'⟩ rp e
      obtain ⟨u, L1, y1, y2⟩ := S'.ok.has 0 _ e rfl
      have zu : u = .ref q := by cases y2; rfl
      subst zu
      refine hq d rfl v H' L1 ⟨fun b xs hb => S'.same b _ hb fun z => ?_, fun b ob y hb => S'.same b _ hb fun z => ?_, fun b φ ic hb => S'.same b _ hb fun z => ?_⟩ (fun y oy hy n => S'.same y oy hy n) y2 (fun y hy => ?_) rp
      · obtain ⟨o1, h1, h2⟩ := o.stands b z
        rw [hb] at h1; cases h1; exact h2
      · obtain ⟨o1, h1, h2⟩ := o.stands b z
        rw [hb] at h1; cases h1; exact h2
      · obtain ⟨o1, h1, h2⟩ := o.stands b z
        rw [hb] at h1; cases h1; exact h2 _ ic
      · rcases S'.fr 0 _ _ L1 y e y1 y2 hy with z | z
        · exact .inr z
        · exact .inl z
    refine ⟨_, PSs.nox pss_c, h q st ds cdv A outer s H E hr (by rw [z3]; rfl) _ z3 ⟨H, fun y => y ∈ L0⟩ H (L2.start N (.ref q :: ws)) H _ ⟨fun _ _ e _ => e, .refl _, sok_startM r o hN, fun i b v L y e1' es o1 hy => ?_, fun i T e1' => ?_⟩ ⟨fun ρ σ H' S' z => ?_, fun d' v ρ σ H' S' rp z => ?_, fun _ _ _ _ z => z.elim, fun _ _ _ _ z => z.elim, fun _ _ _ _ _ _ z => z.elim, fun _ z => nomatch z⟩⟩
    · cases i with
      | zero =>
        simp [startM, objB] at e1'
        subst e1'
        have eL : L = L0 := by
          have : v = .ref q := by cases o1; rfl
          subst this
          exact o1.det o
        exact .inr (by rw [← eL]; exact hy)
      | succ i =>
        have := startB_no _ _ i b (by simpa [startM] using e1')
        rw [o1.is] at this; cases this
    · cases i with
      | zero => simp [startM, objB] at e1'
      | succ i => exact absurd (startB_no _ _ i _ (by simpa [startM] using e1')) (by simp [isOwn])
    · exact fin ρ σ H' _ ⟨_, S'⟩ (by have := z.1; simp only at this; rw [this]; exact .non) z.2
    · exact fin ρ σ H' v S' (by have := z.1; simp only at this; rw [← this]; exact rp) z.2
end
end DL


/-! Lambdas without parameters, handed to a def that tries them. -/
namespace DL
open PySem PySem.Spec PyProof.Rows L2
/-! ### the defs that call what they get -/
abbrev TTT := (XK → Hp → VK → Prop) → Hp → VK → Prop
/-- ("told", d) or ("refused", None) -/
def TTw (K : PySem.W.Frag) (CS : Addr) : TTT := fun tl H Q =>
  tl (fun cls _ H' => PySem.W.exmOne K cls (.ref CS) = some true ∧ ∀ p o, H' p = none → o.dict = none → Q (.ref p) (upd H' p (.frz o (.tup [.str "refused", .non])))) H
    (fun v H' => ∀ p o, H' p = none → o.dict = none → Q (.ref p) (upd H' p (.frz o (.tup [.str "told", v]))))
/-- True or False -/
def TTb (K : PySem.W.Frag) (CS : Addr) : TTT := fun tl H Q =>
  tl (fun cls _ H' => PySem.W.exmOne K cls (.ref CS) = some true ∧ Q (.bl false) H') H (fun _ H' => Q (.bl true) H')
section
variable {X : Cx}
theorem takes_len {W : WX} {n : Nat} (tk : Takes X W) (hn : X.N.length = n) : Takes X (fun c d σ H => σ.length = n → W c d σ H) := fun u s' ⟨a, B, sI, pins, σ, H, cls, d, e, I, nb, up, sky, na, os, ag, w⟩ =>
  tk u s' ⟨a, B, sI, pins, σ, H, cls, d, e, I, nb, up, sky, na, os, ag, w (by rw [← hn]; exact I.len)⟩
theorem PE.up {e : Expr} {t : TE} (h : PE X e t) : PE X e (fun σ H Q => ∃ Q', t σ H Q' ∧ ∀ v H', Q' v H' → Q v H') := ⟨fun pins s σ H Q I ⟨Q', h', m⟩ => thn (h.run pins s σ H Q' I h') fun u s1 ⟨v, H1, I1, r, q⟩ => ⟨v, H1, I1, r, m _ _ q⟩⟩
theorem twice_gives {x e q : Str} {sg : Scope} {g CS : Addr} {cdg : Value} {j1 j2 j3 k1 k2 : Nat} {p1 p2 p3 p4 p5 p6 p7 p8 p9 pa pb pc pd pe pf pg : Pos} (hge : sg.names.lookup e = some .globalImplicit) (hme : X.mg e = some (.ref CS)) (hde : (e == ("__debug__" : Str)) = false) (hlf : sg.names.lookup ("found" : Str) = some .local) :
    LamX.GivesTo X ["deed", "found"] x sg g cdg [.Try [.Assign [.Name "found" p1] (.Tuple [.Constant (.str "told") j1 p2, .Call (.Name "deed" p3) [] [] p4] k1 p5) p6] [.ExceptHandler (some (.Name e p7)) none [.Assign [.Name "found" p8] (.Tuple [.Constant (.str "refused") j2 p9, .Constant .none j3 pa] k2 pb) pc] pd] [] [] pe, .Return (some (.Name "found" pf)) pg] "deed" q (TTw X.K CS) := by
  intro f c' s H Q tl act hc h
  have hnd : (["deed", "found"] : List Str).Nodup := by decide
  have hgl : Gl (cxOf C8.CX0 X.prog X.w X.K X.mg X.base ["deed", "found"] x sg g cdg X.A X.stack s H C8.E0).nox e := hge
  refine ⟨_, pss_cons (ps_try_only (X := (cxOf C8.CX0 X.prog X.w X.K X.mg X.base ["deed", "found"] x sg g cdg X.A X.stack s H C8.E0).nox) (c := .ref CS)
      (tb := fun W D σ H => ∃ Ech : XK, (∀ cls d σ' H', Ech cls d H' → σ'.length = 2 → W cls d σ' H') ∧ σ[0]? = some (some (.ref f)) ∧ H c' = some (LamX.CodeO c' q) ∧ ∃ Q0 : VK, tl Ech H Q0 ∧ ∀ v H', Q0 v H' → ∀ p o, H' p = none → o.dict = none → D.nx (σ.set 1 (some (.ref p))) (upd H' p (.frz o (.tup [.str "told", v]))))
      rfl rfl ⟨hgl, hde, .inl hme⟩ LamX.takes0 (fun W pn xe tk _ => ?_) (fun a oe cls d pn _ _ => pss_one (ps_set (i := 1) hnd rfl (.inl hlf) (pe_tupF (pa_cons pe_str (pa_cons pe_non pa_nil))) rfl (.inr hlf)))) (pss_one (ps_ret (pe_var (i := 1) rfl (.inl hlf) (by decide) (by decide)))), ?_⟩
  · refine ⟨fun pins s' σ H' D I h' => ?_⟩
    obtain ⟨Ech, hW, h1, h2, Q0, h3, h4⟩ := h'
    have hp := act _ pn xe Ech p3 p4 (takes_len tk rfl) hW
    refine (pss_one (ps_set (i := 1) (pos' := p1) (pos := p6) hnd rfl (.inl hlf) (pe_tupF (n := k1) (pos := p5) (pa_cons (pe_str (j := j1) (pos := p2)) (pa_cons (PE.up hp) pa_nil))) rfl (.inr hlf))).run pins s' σ H' D I ?_
    exact ⟨_, ⟨h1, h2, h3⟩, fun v H1 q => ⟨by show 2 ≤ sizeLine; rw [sizeLine_eq]; omega, fun p o hp ho => h4 v H1 q p o hp ho⟩⟩
  · refine ⟨fun cls _ H' => PySem.W.exmOne X.K cls (.ref CS) = some true ∧ ∀ p o, H' p = none → o.dict = none → Q (.ref p) (upd H' p (.frz o (.tup [.str "refused", .non]))), fun cls d σ' H' ⟨e1, e2⟩ hl => ⟨true, e1, fun _ a _ => ?_, fun hb => by cases hb⟩, rfl, hc, _, h, fun v H' q p o hp ho => ⟨.ref p, rfl, q p o hp ho⟩⟩
    exact ⟨by show 2 ≤ sizeLine; rw [sizeLine_eq]; omega, fun p o hp ho => ⟨.ref p, List.getElem?_set_self (by omega), e2 p o hp ho⟩⟩
theorem try_gives {x e q : Str} {sg : Scope} {g CS : Addr} {cdg : Value} {j1 j2 : Nat} {p1 p2 p3 p4 p5 p6 p7 p8 p9 pa pd pe pf pg : Pos} (hge : sg.names.lookup e = some .globalImplicit) (hme : X.mg e = some (.ref CS)) (hde : (e == ("__debug__" : Str)) = false) (hlf : sg.names.lookup ("found" : Str) = some .local) :
    LamX.GivesTo X ["deed", "found"] x sg g cdg [.Try [.Expr (.Call (.Name "deed" p1) [] [] p2) p3, .Assign [.Name "found" p4] (.Constant (.bool true) j1 p5) p6] [.ExceptHandler (some (.Name e p7)) none [.Assign [.Name "found" p8] (.Constant (.bool false) j2 p9) pa] pd] [] [] pe, .Return (some (.Name "found" pf)) pg] "deed" q (TTb X.K CS) := by
  intro f c' s H Q tl act hc h
  have hnd : (["deed", "found"] : List Str).Nodup := by decide
  have hgl : Gl (cxOf C8.CX0 X.prog X.w X.K X.mg X.base ["deed", "found"] x sg g cdg X.A X.stack s H C8.E0).nox e := hge
  refine ⟨_, pss_cons (ps_try_only (X := (cxOf C8.CX0 X.prog X.w X.K X.mg X.base ["deed", "found"] x sg g cdg X.A X.stack s H C8.E0).nox) (c := .ref CS)
      (tb := fun W D σ H => ∃ Ech : XK, (∀ cls d σ' H', Ech cls d H' → σ'.length = 2 → W cls d σ' H') ∧ σ[0]? = some (some (.ref f)) ∧ H c' = some (LamX.CodeO c' q) ∧ ∃ Q0 : VK, tl Ech H Q0 ∧ ∀ v H', Q0 v H' → D.nx (σ.set 1 (some (.bl true))) H')
      rfl rfl ⟨hgl, hde, .inl hme⟩ LamX.takes0 (fun W pn xe tk _ => ?_) (fun a oe cls d pn _ _ => pss_one (ps_set (i := 1) hnd rfl (.inl hlf) pe_bl rfl (.inr hlf)))) (pss_one (ps_ret (pe_var (i := 1) rfl (.inl hlf) (by decide) (by decide)))), ?_⟩
  · refine ⟨fun pins s' σ H' D I h' => ?_⟩
    obtain ⟨Ech, hW, h1, h2, Q0, h3, h4⟩ := h'
    have hp := act _ pn xe Ech p1 p2 (takes_len tk rfl) hW
    refine (pss_cons (ps_expr (pos := p3) (PE.up hp) rfl) (pss_one (ps_set (i := 1) (pos' := p4) (pos := p6) hnd rfl (.inl hlf) (pe_bl (j := j1) (pos := p5)) rfl (.inr hlf)))).run pins s' σ H' D I ?_
    exact ⟨_, ⟨h1, h2, h3⟩, fun v H1 q => h4 v H1 q⟩
  · refine ⟨fun cls _ H' => PySem.W.exmOne X.K cls (.ref CS) = some true ∧ Q (.bl false) H', fun cls d σ' H' ⟨e1, e2⟩ hl => ⟨true, e1, fun _ a _ => ?_, fun hb => by cases hb⟩, rfl, hc, _, h, fun v H' q => ⟨.bl true, rfl, q⟩⟩
    exact ⟨.bl false, List.getElem?_set_self (by omega), e2⟩
end

/-! ### a def by its name that calls what it gets -/
structure Lr (K : PySem.W.Frag) (mg : Str → Option Value) (s : String) (TT : TTT) : Prop where
  h : ∃ (g : Addr) (pg : Arguments) (bg : List Stmt) (sg : Scope) (dV kV doc pm cdv ct oc : Value) (an od : Option Addr) (osl : Array (Option Value)) (a : Str) (Ng : List Str),
    mg (Str.ofString s) = some (.ref g) ∧ PySem.W.keepIn K (.ref g) = true ∧ K.lookup g = some ⟨oc, od, .func (PySem.W.fnOf (Str.ofString s) (Str.ofString s) pg bg sg dV kV doc pm an cdv ct), osl⟩ ∧ PySem.W.codeIn K cdv (Str.ofString s) = true ∧
    L2.Binds K (PySem.W.fnOf (Str.ofString s) (Str.ofString s) pg bg sg dV kV doc pm an cdv ct) [a] [] ∧ FnScope Ng [a] sg ∧ Ng[0]? = some a ∧ Vis sg a ∧ (a == ("__debug__" : Str)) = false ∧ (a == ("__classdict__" : Str)) = false ∧ (Str.ofString s == ("__debug__" : Str)) = false ∧
    ∀ X : Cx, X.K = K → X.mg = mg → ∀ q, LamX.GivesTo X Ng (Str.ofString s) sg g cdv bg a q TT
/-- what it makes of it -/
structure LamOk (K : PySem.W.Frag) (TT : TTT) (cls : Value) (comb : Option D → D) : Prop where
  h : ∀ (tl : XK → Hp → VK → Prop) (H : Hp) (Q : VK) (o : Option D) (G : Hp → Prop), (∀ (E : XK) (Q' : VK), (∀ d, o = some d → ∀ v H', G H' → Rp K H' v d → Q' v H') → (o = none → ∀ H', G H' → E cls none H') → tl E H Q') → (∀ v H' H'', G H' → Same H' H'' → Rp K H'' v (comb o) → Q v H'') → TT tl H Q
def cTw : Option D → D
  | some d => .tuple [.str "told", d]
  | none => .tuple [.str "refused", .none]
def cTb : Option D → D
  | some _ => .bool true
  | none => .bool false
theorem lamOk_w {K : PySem.W.Frag} {CS : Addr} {cls : Value} (h : PySem.W.exmOne K cls (.ref CS) = some true) : LamOk K (TTw K CS) cls cTw := ⟨fun tl H Q o G h1 h2 => by
  refine h1 _ _ (fun d e v H' g r p ob hp ho => ?_) (fun e H' g => ⟨h, fun p ob hp ho => ?_⟩)
  · subst e
    exact h2 _ H' _ g (same_new hp) (rp_tupNew hp ho (.cons (.str _) (.cons r .nil)))
  · subst e
    exact h2 _ H' _ g (same_new hp) (rp_tupNew hp ho (.cons (.str _) (.cons .non .nil)))⟩
theorem lamOk_b {K : PySem.W.Frag} {CS : Addr} {cls : Value} (h : PySem.W.exmOne K cls (.ref CS) = some true) : LamOk K (TTb K CS) cls cTb := ⟨fun tl H Q o G h1 h2 => by
  refine h1 _ _ (fun d e v H' g r => ?_) (fun e H' g => ⟨h, ?_⟩)
  · subst e
    exact h2 _ H' _ g (fun _ _ h => h) (.bl true)
  · subst e
    exact h2 _ H' _ g (fun _ _ h => h) (.bl false)⟩
/-! ### expressions that may raise -/
def EvX (X : Cx) (E : XK) (cls : Value) (e : Expr) (ρ ρ' : Rho) (o : Option D) : Prop := ∀ H0 H1 σ H Q, SK X.K H0 H1 ρ σ H →
  (∀ d, o = some d → ∀ v H', SK X.K H0 H1 ρ' σ H' → Stb H H' → Rp X.K H' v d → Q v H') → (o = none → ∀ H', SK X.K H0 H1 ρ' σ H' → Stb H H' → E cls none H') → cE X e σ H Q
def EmX {S : Type} (X : Cx) (E : XK) (cls : Value) (e : Expr) (ρ : Rho) (enc : S → Rho) (f : Option (Option D × S)) : Prop := ∀ r, f = some r → EvX X E cls e ρ (enc r.2) r.1
def upX {S : Type} (f : Option (D × S)) : Option (Option D × S) := bnd f fun q => some (some q.1, q.2)
structure MrX (P : Program) (w : World) (K : PySem.W.Frag) (mg : Str → Option Value) (base : Heap) (C : Addr) (x : Str) (kk : Nat) (sp : Sp) : Prop where
  h : ∃ f fd ps, FnOk P w K mg base (L2.CX P w) kk f fd ps sp ∧ Meth K C x f ∧ Binds K fd ps []
section
variable {X : Cx} {ρ : Rho} {e a b c : Expr} {es : List Expr} {f g : Option D} {S T U : Type} {enc : S → Rho} {enc' : T → Rho} {p pos apos : Pos} {s : String} {i : Nat} {C q : Addr} {fs : FL} {x : Str} {kk : Nat} {E : XK} {cls : Value}
theorem Em.up {f : Option (D × S)} (h : Em X e ρ enc f) : EmX X E cls e ρ enc (upX f) := fun r z => by
  obtain ⟨u, z1, z2⟩ := bnd_inv z
  cases z2
  intro H0 H1 σ H Q Sk q1 q2
  exact h u z1 H0 H1 σ H Q Sk fun v H' S' st rp => q1 _ rfl v H' S' st rp
theorem em_methX {enc : U → Rho} {e0 : U → FL} {m : U → List D → Option (Option D × U)} (st : U) (tk : Takes X (fun cls d _ H => E cls d H)) (M : MrX X.prog X.w X.K X.mg X.base C x kk (SpX X.K C cls e0 m)) (hr : Room kk X.A) (cl : Cls X.K C) (hs : Sl X.N s i) {r : Option (List D)} (ha : Ao X (e :: es) ρ r) (h : ρ[i]? = some (.obj (some C) q (e0 st)) := by rfl) (henc : ∀ t, enc t = ρ.set i (.obj (some C) q (e0 t)) := by intro _; rfl) (hid : ∀ ds t, m st ds = some (none, t) → Le ρ (enc t)) (nm : (e0 st).lookup x = none := by rfl) (hv : Vis X.env.scope (Str.ofString s) := by first | exact Or.inl rfl | exact Or.inr (Or.inl rfl) | exact Or.inr (Or.inr rfl)) {pl : Sem Bool}
    (hst : starEach (e :: es) X.env = (false, eval e X.env) :: starEach es X.env := by rfl) (hpl : (backTo pos (starEach es X.env)).any (·.1) = false := by rfl)
    (ht : eval (.Call (.Attribute (.Name (Str.ofString s) p) x apos) (e :: es) [] pos) X.env = (do
      let ov ← eval (.Name (Str.ofString s) p) X.env
      standAt apos.atName
      let (f, first) ← holding [ov] (getMethod ov x pl)
      callWith pos f first (backTo pos (starEach (e :: es) X.env)) (backToKw pos (keywordEach [] X.env))) := by rfl) : EmX X E cls (.Call (.Attribute (.Name (Str.ofString s) p) x apos) (e :: es) [] pos) ρ enc (bnd r (m st)) := fun r' z => by
  obtain ⟨ds, z1, z2⟩ := bnd_inv z
  intro H0 H1 σ H Q Sk q1 q2
  obtain ⟨f, fd, ps, F, hm, hb⟩ := M.h
  obtain ⟨dx, vs, L, e1, e2, e3, e4⟩ := Sk.ok.ins h
  refine ⟨_, pe_meth (pe_var hs.h hv hs.d hs.c) cl hm F hr hb .nil (passes_call tk (fun _ _ _ _ h => h)) pa_c (pl := pl) hst hpl ht, _, e1, _, dx, vs, rfl, e2, e3.no nm, ha ds z1 σ H _ Sk.ok fun us H2 s2 r2 => ?_⟩
  rw [List.append_nil]
  have o2 : Own X.K H2 (.ref q) (.obj (some C) q (e0 st)) (q :: L) := .ins (s2 _ _ e2) (e3.mono (.of s2) fun y _ o ho => s2 y o ho) e4
  refine ⟨_, us, st, ds, r'.1, r'.2, _, rfl, o2, r2, z2, fun d ed v H' L1 st' kp o1 hL rp => q1 d ed v H' (by rw [henc]; exact (Sk.mono s2).chg h e1 o2 st' kp o1 hL) ((Stb.of s2).trans st') rp, fun en H' sm => q2 en H' (((Sk.mono s2).mono sm).le (hid ds r'.2 (by rw [z2, ← en]))) ((Stb.of s2).trans (.of sm))⟩
/-- F(lambda: body) -/
theorem em_lam {enc : U → Rho} {TT : TTT} {comb : Option D → D} {params : Arguments} {body : Expr} {scope : Scope} {lpos : Pos} (j : Nat) {TL : List (Addr × Str)} {c P : Addr} {m : Option (Option D × U)} {k : Nat}
    (F : Lr X.K X.mg s TT) (hTT : LamOk X.K TT cls comb) (TB : LamX.TabB X.base X.mg c P) (hcode : X.env.code = .ref c) (hmT : (P, X.env.qual ++ "<lambda>") ∈ TL) (hu : ∀ p ∈ TL, p.1 = P → p.2 = X.env.qual ++ "<lambda>") (hr : Room (k + 2) X.A)
    (hbody : ∀ (A : Around) (outer : List Env) (sh : Shared) (H : Hp) (E : XK) (f c' : Addr), Room k (LamX.lamCx X A outer sh H E scope f c').A → Takes (LamX.lamCx X A outer sh H E scope f c') (fun cls d _ H => E cls d H) → EmX (LamX.lamCx X A outer sh H E scope f c') E cls body ρ enc m)
    (L : LamX.LamS X.env.scope scope) (hj : ρ[j]? = some (.tab TL) := by rfl) (one : ∀ (i : Nat) T', ρ[i]? = some (.tab T') → i = j)
    (hg : Gl X (Str.ofString s) := by rfl) (hdef : defaultsOf params X.env = ([], []) := by rfl)
    (hbind : ∀ (q : Str) (cl : List (Str × Addr)) (pm cv ctv : Value), bindArgs (PySem.W.kla_fn "<lambda>" q params body scope cl pm cv ctv) ⟨[], []⟩ = pure [] := by intros; rfl) :
    Em X (.Call (.Name (Str.ofString s) p) [.Lambda params body scope lpos] [] pos) ρ enc (bnd m fun q => some (comb q.1, q.2)) := fun r z => by
  obtain ⟨u, z1, z2⟩ := bnd_inv z
  cases z2
  intro H0 H1 σ H Q Sk q'
  obtain ⟨gA, pg, bg, sg, dV, kV, doc, pm, cdv, ct, oc, an, od, osl, a, Ng, w1, w2, w3, w4, w5, w6, w7, w8, w9, wa, wb, wc⟩ := F.h
  refine ⟨_, LamX.pe_lamcall (T := TL) (t := fun E σ H Q => ∀ (A : Around) (outer : List Env) (sh : Shared) (HH : Hp) (f c' : Addr), Room k (LamX.lamCx X A outer sh HH E scope f c').A → cE (LamX.lamCx X A outer sh HH E scope f c') body σ H Q) hg w1 w2 w3 w4 w5 w6 w7 w8 (wc X rfl rfl _) TB hcode hmT hu hr L hdef hbind (fun A outer sh HH E f c' hr' => ⟨fun pins s' σ' H' Q' I h => pe_c.run pins s' σ' H' Q' I (h A outer sh HH f c' hr')⟩) wb w9 wa, ?_⟩
  obtain ⟨v0, L0, y1, y2⟩ := Sk.ok.has j _ hj rfl
  have hT : LamX.Tabs TL H := by cases y2; assumption
  refine ⟨hT, fun H2 ex t2 => ?_⟩
  have S2 := Sk.chgT hj one ex t2
  have st2 : Stb H H2 := ⟨fun b xs e => ex b _ e (fun _ z => by cases z), fun b o u e => ex b _ e (fun _ z => by cases z), fun b φ _ e => ex b _ e (fun _ z => by cases z)⟩
  refine hTT.h _ H2 Q u.1 (fun H' => SK X.K H0 H1 (enc u.2) σ H' ∧ Stb H H') (fun E Q' h1 h2 A outer sh HH f c' hr' => ?_) (fun v H' H'' ⟨g1, g2⟩ sm rp => q' v H'' (g1.mono sm) (g2.trans (.of sm)) rp)
  exact hbody A outer sh HH E f c' hr' (takes_of (E := E) rfl rfl rfl rfl) u z1 H0 H1 σ H2 Q' S2 (fun d ed v H' s' st' rp => h1 d ed v H' ⟨s', st2.trans st'⟩ rp) (fun en H' s' st' => h2 en H' ⟨s', st2.trans st'⟩)
end
end DL


/-! Defs that make lambdas: promises with tables. -/
namespace DL
open PySem PySem.Spec PyProof.Rows L2
theorem own_notbl {K : PySem.W.Frag} {H : Hp} {v : V} {b : B} {L : List Addr} {x : Addr} {ps : Array Value} (o : Own K H v b L) (n : ∀ T, b ≠ .tab T) (m : x ∈ L) : H x ≠ some (.tbl ps) := fun hq => by
  have key : ∀ {vs : List (Str × V)} {fs : List (Str × Fld)} {M : List Addr}, FdsOk K H vs fs M → x ∈ M → False := fun {vs fs M} h hm => by
    induction h with
    | nil => cases hm
    | cons h _ ih =>
      rcases List.mem_append.mp hm with z | z
      · cases h with
        | val => cases z
        | own e _ => simp at z; rw [← z, hq] at e; cases e
        | dic e _ => simp at z; rw [← z, hq] at e; cases e
      · exact ih z
  cases o with
  | own e' _ => simp at m; rw [← m, hq] at e'; cases e'
  | dic e' _ => simp at m; rw [← m, hq] at e'; cases e'
  | ins e' r _ =>
    rcases List.mem_cons.mp m with z | z
    · rw [← z, hq] at e'; cases e'
    · exact key r z
  | dct e' r _ =>
    rcases List.mem_cons.mp m with z | z
    · rw [← z, hq] at e'; cases e'
    · exact key r z
  | tab _ => exact n _ rfl
  | gen e' g =>
    obtain ⟨o', h1, _, h3⟩ := g.stands _ e' _ m
    rw [hq] at h1
    cases h1
    exact h3 _ rfl
  | tr r _ =>
    obtain ⟨o', h1, _, h3⟩ := r.stands _ m
    rw [hq] at h1
    cases h1
    exact h3 _ rfl
/-- an object and the tables changed, all else kept -/
theorem SK.chgTM {K : PySem.W.Frag} {ρ : Rho} {H0 : Ent} {H1 H H' : Hp} {σ : L2.St} {i j : Nat} {T : List (Addr × Str)} {v0 : V} {b0 b1 : B} {L0 L1 : List Addr} (S : SK K H0 H1 ρ σ H) (hi : ρ[i]? = some b0) (e1 : σ[i]? = some (some v0)) (o0 : Own K H v0 b0 L0) (hj : ρ[j]? = some (.tab T)) (one : ∀ (i : Nat) T', ρ[i]? = some (.tab T') → i = j) (nb0 : ∀ T, b0 ≠ .tab T) (st : Stb H H')
    (kp : ∀ x q, H x = some q → x ∉ L0 → (∀ ps, q ≠ .tbl ps) → H' x = some q) (ht : LamX.Tabs T H') (o1 : Own K H' v0 b1 L1) (hL : ∀ x ∈ L1, x ∈ L0 ∨ H x = none ∨ ∃ ps, H x = some (.tbl ps)) (nb : ∀ T, b1 ≠ .tab T) : SK K H0 H1 (ρ.set i b1) σ H' := by
  have li : i < ρ.length := by
    rcases Nat.lt_or_ge i ρ.length with h | h
    · exact h
    · rw [List.getElem?_eq_none h] at hi; cases hi
  have ne : ∀ (k : Nat) c, k ≠ i → (ρ.set i b1)[k]? = some c → ρ[k]? = some c := fun k c n e => by rwa [List.getElem?_set_ne (Ne.symm n)] at e
  have at_ : ∀ c, (ρ.set i b1)[i]? = some c → c = b1 := fun c e => by rw [List.getElem?_set_self li] at e; exact (Option.some.inj e).symm
  have stay : ∀ (k : Nat) c w M, ρ[k]? = some c → σ[k]? = some (some w) → k ≠ i → k ≠ j → Own K H w c M → ∀ x ∈ M, ∀ q, H x = some q → H' x = some q := fun k c w M e es n1 n2 ow x m q hq =>
    kp x q hq (fun z => n1 (S.ok.apart k i c b0 w v0 M L0 x e hi es e1 ow o0 m z)) (fun ps z => own_notbl (ps := ps) ow (fun T' z' => n2 (one k T' (z' ▸ e))) m (z ▸ hq))
  have fwd : ∀ (k : Nat) c w M, ρ[k]? = some c → σ[k]? = some (some w) → k ≠ i → Own K H w c M → Own K H' w c M := fun k c w M e es n1 ow => by
    by_cases n2 : k = j
    · subst n2
      rw [hj] at e
      cases e
      cases ow
      exact .tab ht
    · exact ow.mono st (stay k c w M e es n1 n2 ow)
  have back : ∀ (k : Nat) c w M, ρ[k]? = some c → σ[k]? = some (some w) → k ≠ i → Own K H' w c M → Own K H w c M := fun k c w M e es n1 ow => by
    obtain ⟨w', M', s', o'⟩ := S.ok.has k c e ow.is
    rw [es] at s'
    cases s'
    rw [ow.det (fwd k c w M' e es n1 o')]
    exact o'
  have noT : ∀ (k : Nat) c w M x, ρ[k]? = some c → Own K H' w c M → Own K H w c M → x ∈ M → ∀ ps, H x = some (.tbl ps) → x ∈ L1 → False := fun k c w M x e ow ow0 m ps hx hx1 => by
    by_cases hc : ∃ T', c = .tab T'
    · obtain ⟨T', rfl⟩ := hc
      cases ow with
      | tab t' =>
        obtain ⟨p, hp, rfl⟩ := List.mem_map.mp m
        obtain ⟨ps', h1, _⟩ := t' p hp
        exact own_notbl o1 nb hx1 h1
    · exact own_notbl ow0 (fun T' z => hc ⟨T', z⟩) m hx
  refine ⟨fun b q e w => kp b q (S.same b q e w) (fun z => ?_) (fun ps z => w (S.tb j T hj b ps (z ▸ e))), S.stb.trans st, ⟨by rw [List.length_set]; exact S.ok.len, fun k d e => ?_, fun k c e ob => ?_, fun k k' c c' w w' M M' x q1 q2 s1 s2 w1 w2 m1 m2 => ?_⟩, fun k c w M x q1 q3 ow m => ?_, fun k T' e => S.tb k T' (tb_set nb e)⟩
  · rcases S.fr i b0 v0 L0 b hi e1 o0 z with y | y
    · rw [e] at y; cases y
    · exact w y
  · by_cases n : k = i
    · subst n
      have := at_ _ e
      subst this
      cases o1
    · obtain ⟨v, h1, h2⟩ := S.ok.val k d (ne k _ n e)
      exact ⟨v, h1, h2.mono st⟩
  · by_cases n : k = i
    · subst n
      rw [at_ _ e]
      exact ⟨v0, L1, e1, o1⟩
    · obtain ⟨v, L, h1, h2⟩ := S.ok.has k c (ne k _ n e) ob
      exact ⟨v, L, h1, fwd k c v L (ne k _ n e) h1 n h2⟩
  · by_cases n : k = i
    · by_cases n' : k' = i
      · rw [n, n']
      · subst n
        rw [at_ _ q1] at w1
        rw [e1] at s1
        cases s1
        rw [w1.det o1] at m1
        have w2' := back k' c' w' M' (ne k' _ n' q2) s2 n' w2
        rcases hL x m1 with z | z | ⟨ps, z⟩
        · exact S.ok.apart k k' b0 c' v0 w' L0 M' x hi (ne k' _ n' q2) e1 s2 o0 w2' z m2
        · obtain ⟨u, hu, _⟩ := w2'.stands x m2
          rw [z] at hu; cases hu
        · exact (noT k' c' w' M' x (ne k' _ n' q2) w2 w2' m2 ps z m1).elim
    · by_cases n' : k' = i
      · subst n'
        rw [at_ _ q2] at w2
        rw [e1] at s2
        cases s2
        rw [w2.det o1] at m2
        have w1' := back k c w M (ne k _ n q1) s1 n w1
        rcases hL x m2 with z | z | ⟨ps, z⟩
        · exact S.ok.apart k k' c b0 w v0 M L0 x (ne k _ n q1) hi s1 e1 w1' o0 m1 z
        · obtain ⟨u, hu, _⟩ := w1'.stands x m1
          rw [z] at hu; cases hu
        · exact (noT k c w M x (ne k _ n q1) w1 w1' m1 ps z m2).elim
      · exact S.ok.apart k k' c c' w w' M M' x (ne k _ n q1) (ne k' _ n' q2) s1 s2 (back k c w M (ne k _ n q1) s1 n w1) (back k' c' w' M' (ne k' _ n' q2) s2 n' w2) m1 m2
  · by_cases n : k = i
    · subst n
      rw [at_ _ q1] at ow
      rw [e1] at q3
      cases q3
      rw [ow.det o1] at m
      rcases hL x m with z | z | ⟨ps, z⟩
      · exact S.fr k b0 v0 L0 x hi e1 o0 z
      · exact S.same.free z
      · by_cases hw : H0.W x
        · exact .inr hw
        · refine .inl ?_
          cases hh : H0.H x with
          | none => rfl
          | some o =>
            have := S.same x o hh hw
            rw [z] at this
            cases this
            exact absurd (S.tb j T hj x ps hh) hw
    · exact S.fr k c w M x (ne k _ n q1) q3 (back k c w M (ne k _ n q1) q3 n ow) m
/-! ### promises with tables -/
abbrev TabL := List (Addr × Str)
def SpMT (K : PySem.W.Frag) (C : Addr) (TL : TabL) {S : Type} (e0 : S → FL) (m : S → List D → Option (D × S)) : Sp := fun vs H Q _ => ∃ (q : Addr) (ws : List V) (s : S) (ds : List D) (d : D) (t : S) (L0 : List Addr), vs = .ref q :: ws ∧ Own K H (.ref q) (.obj (some C) q (e0 s)) L0 ∧ RpAll K H ws ds ∧ m s ds = some (d, t) ∧ LamX.Tabs TL H ∧
  ∀ v H' L1, Stb H H' → (∀ x o, H x = some o → x ∉ L0 → (∀ ps, o ≠ .tbl ps) → H' x = some o) → LamX.Tabs TL H' → Own K H' (.ref q) (.obj (some C) q (e0 t)) L1 → (∀ x ∈ L1, x ∈ L0 ∨ H x = none ∨ ∃ ps, H x = some (.tbl ps)) → Rp K H' v d → Q v H'
/-- a law -/
def SpDT (K : PySem.W.Frag) (TL : TabL) (m : D → Option D) : Sp := fun vs H Q _ => ∃ (a : Addr) (xs : List V) (ds : List D) (d : D), vs = [.ref a] ∧ SqL K H a xs ∧ (∀ H, RpAll K H xs ds) ∧ m (.list ds) = some d ∧ LamX.Tabs TL H ∧ ∀ v H', Rp K H' v d → Q v H'
def FnDTΦ : D → DL.Fin := fun r => { nx := fun ρ => r = .none, rt := fun d _ => d = r }
def FnMTΦ {T : Type} (g : Nat) (TL : TabL) (Bt : T → B) : D × T → DL.Fin := fun r => { nx := fun ρ => r.1 = .none ∧ (ρ[0]?, ρ[g]?) = (some (Bt r.2), some (.tab TL)), rt := fun d ρ => d = r.1 ∧ (ρ[0]?, ρ[g]?) = (some (Bt r.2), some (.tab TL)) }
section
variable {P : Program} {w : World} {K : PySem.W.Frag} {mg : Str → Option Value} {base : Heap} {x qual : Str} {params : Arguments} {body : List Stmt} {scope : Scope} {kws : List (Str × V)} {f c : Addr} {fd : FuncData} {N ps : List Str} {k : Nat} {S T : Type} {C : Addr} {e0 : S → FL} {TL : TabL} {y : Str}
theorem FunD.okC {CX : CXT} {sp : Sp} (F : FunD K x qual params body scope [] kws f fd) (hc : fd.code = .ref c) (S : FnScope N ps scope) (len : ∀ vs H Q E, sp vs H Q E → vs.length = ps.length)
    (hbody : ∀ (A : Around) (outer : List Env) (s : Shared) (H : Hp) (vs : List V) (Q : VK) (E : XK), Room k (A.deeper (envOfC qual scope s.heap.objs.size f (.ref c))) → sp vs H Q E →
      ∃ t, PSs (cxOf CX P w K mg base N qual scope f (.ref c) A outer s H E) body t ∧ t { nx := fun _ H' => Q .non H', rt := Q } (L2.start N vs) H) : FnOk P w K mg base CX (k + 1) f fd ps sp := by
  obtain ⟨oc, od, dV, kV, doc, pm, an, cdv, ct, osl, rfl, lk, hcd, _, _⟩ := F.ex
  have e : cdv = .ref c := hc
  subst e
  exact fn_of lk hcd S len fun A outer s H vs Q E hr hsp => hbody A outer s H vs Q E hr hsp
theorem fn_MT {m : S → List D → Option (D × S)} (g : Nat) (F : FunD K x qual params body scope [] kws f fd) (hcd : fd.code = .ref c) (Sc : FnScope N ps scope) (len : ∀ s ds r, m s ds = some r → ds.length + 1 = ps.length) (hN : N ≠ []) (hg : N[g]? = some y) (nv : ¬ Vis scope y) (g0 : g ≠ 0)
    (h : ∀ (q : Addr) (s : S) (ds : List D) (A : Around) (outer : List Env) (sh : Shared) (H : Hp) (E : XK), Room k (A.deeper (envOfC qual scope sh.heap.objs.size f (.ref c))) → (m s ds).isSome = true → So (cxOf CX0 P w K mg base N qual scope f (.ref c) A outer sh H E).nox body ((startM (objB C q e0 s) N.length ds).set g (.tab TL)) (FnMTΦ g TL (objB C q e0)) (m s ds)) :
    FnOk P w K mg base CX0 (k + 1) f fd ps (SpMT K C TL e0 m) := by
  refine FunD.okC F hcd Sc (fun vs H Q E ⟨q, ws, s, ds, d, t, L0, e, o, r, hm, _⟩ => by rw [e, List.length_cons, r.length, ← len s ds _ hm]) (fun A outer s H vs Q E hr ⟨q, ws, st, ds, d, t, L0, e, o, r, hm, hT, hq⟩ => ?_)
  subst e
  have lg : g < N.length := by
    rcases Nat.lt_or_ge g N.length with h | h
    · exact h
    · rw [List.getElem?_eq_none h] at hg; cases hg
  have s0 := sok_startM (N := N) r o hN
  have lρ : (startM (objB C q e0 st) N.length ds).length = N.length := by
    have e1 := s0.len
    have e2 : (L2.start N (V.ref q :: ws)).length = N.length := by
      have := len st ds _ hm
      have l1 : ps.length ≤ N.length := by
        have := congrArg List.length Sc.pre
        rw [List.length_take] at this
        omega
      unfold L2.start
      simp
      have := r.length
      omega
    exact e1.trans e2
  have at0 : ∀ b, ((startM (objB C q e0 st) N.length ds).set g (.tab TL))[0]? = some b → b = objB C q e0 st := fun b e => by
    rw [List.getElem?_set_ne g0] at e
    simpa [startM] using e.symm
  have atg : ((startM (objB C q e0 st) N.length ds).set g (.tab TL))[g]? = some (.tab TL) := List.getElem?_set_self (by omega)
  have oth : ∀ (i : Nat) b, ((startM (objB C q e0 st) N.length ds).set g (.tab TL))[i]? = some b → i ≠ 0 → i ≠ g → isOwn b = false := fun i b e n1 n2 => by
    rw [List.getElem?_set_ne (Ne.symm n2)] at e
    cases i with
    | zero => exact absurd rfl n1
    | succ i => exact startB_no _ _ i b (by simpa [startM] using e)
  have fin : ∀ ρ σ H' v, (∃ H1, SK K ⟨H, fun y => y ∈ L0 ∨ ∃ ps, H y = some (.tbl ps)⟩ H1 ρ σ H') → Rp K H' v d → (ρ[0]?, ρ[g]?) = (some (objB C q e0 t), some (B.tab TL)) → Q v H' := by
    rintro ρ σ H' v ⟨H1, S'⟩ rp e
    have ea := congrArg Prod.fst e
    have eb := congrArg Prod.snd e
    simp only at ea eb
    obtain ⟨u, L1, z1, z2⟩ := S'.ok.has 0 _ ea rfl
    have zu : u = .ref q := by cases z2; rfl
    subst zu
    obtain ⟨u', L', z3, z4⟩ := S'.ok.has g _ eb rfl
    have hT' : LamX.Tabs TL H' := by cases z4; assumption
    refine hq v H' L1 ⟨fun b xs hb => S'.same b _ hb fun z => ?_, fun b ob y hb => S'.same b _ hb fun z => ?_, fun b φ ic hb => S'.same b _ hb fun z => ?_⟩ (fun y oy hy n nt => S'.same y oy hy fun z => ?_) hT' z2 (fun y hy => ?_) rp
    · rcases z with z | ⟨ps, z⟩
      · obtain ⟨o1, h1, h2⟩ := o.stands b z
        rw [hb] at h1; cases h1; exact h2
      · rw [hb] at z; cases z
    · rcases z with z | ⟨ps, z⟩
      · obtain ⟨o1, h1, h2⟩ := o.stands b z
        rw [hb] at h1; cases h1; exact h2
      · rw [hb] at z; cases z
    · rcases z with z | ⟨ps, z⟩
      · obtain ⟨o1, h1, h2⟩ := o.stands b z
        rw [hb] at h1; cases h1; exact h2 _ ic
      · rw [hb] at z; cases z
    · rcases z with z | ⟨ps, z⟩
      · exact n z
      · rw [hy] at z; cases z; exact nt _ rfl
    · rcases S'.fr 0 _ _ L1 y ea z1 z2 hy with z | z | ⟨ps, z⟩
      · exact .inr (.inl z)
      · exact .inl z
      · exact .inr (.inr ⟨ps, z⟩)
  refine ⟨_, pss_ghost (some .non) hg nv (PSs.nox pss_c), h q st ds A outer s H E hr (by rw [hm]; rfl) _ hm ⟨H, fun y => y ∈ L0 ∨ ∃ ps, H y = some (.tbl ps)⟩ H _ H _ ⟨fun _ _ e _ => e, .refl _, s0.take (show g < (startM (objB C q e0 st) N.length ds).length by omega) (.tab hT) (fun j c w M x n e es ow m z => ?_), fun i b v L y e1' es o1 hy => ?_, fun i T e1' b ps e => .inr ⟨ps, e⟩⟩ ⟨fun ρ σ H' S' z => ?_, fun d' v ρ σ H' S' rp z => ?_, fun _ _ _ _ z => z.elim, fun _ _ _ _ z => z.elim, fun _ _ _ _ _ _ z => z.elim, fun _ z => nomatch z⟩⟩
  · cases j with
    | zero =>
      have ec : c = .obj (some C) q (e0 st) := by simpa [startM] using e.symm
      obtain ⟨p, hp, rfl⟩ := List.mem_map.mp z
      obtain ⟨ps', h1, _⟩ := hT p hp
      exact own_notbl ow (fun T' z' => by rw [ec] at z'; cases z') m h1
    | succ j =>
      have := startB_no _ _ j c (by simpa [startM] using e)
      rw [ow.is] at this; cases this
  · by_cases ng : i = g
    · subst ng
      rw [show ((startM (objB C q e0 st) N.length ds).set i (B.tab TL))[i]? = some (.tab TL) from atg] at e1'
      cases e1'
      cases o1 with
      | tab t' =>
        obtain ⟨p, hp, rfl⟩ := List.mem_map.mp hy
        obtain ⟨ps', h1, _⟩ := hT p hp
        exact .inr (.inr ⟨ps', h1⟩)
    · by_cases n0 : i = 0
      · subst n0
        have := at0 b e1'
        subst this
        have eL : L = L0 := by
          have : v = .ref q := by cases o1; rfl
          subst this
          exact o1.det o
        exact .inr (.inl (by rw [← eL]; exact hy))
      · have := oth i b e1' n0 ng
        rw [o1.is] at this; cases this
  · exact fin ρ σ H' _ ⟨_, S'⟩ (by have := z.1; simp only at this; rw [this]; exact .non) z.2
  · exact fin ρ σ H' v S' (by have := z.1; simp only at this; rw [← this]; exact rp) z.2
theorem pss_lock {X : Cx} {sts : List Stmt} {t : TS} (h : PSs X sts t) : PSs X sts (fun D σ H => t D σ H ∨ ∃ a u, H a = some u ∧ Mut (some u) ∧ ∀ od, t D σ (upd H a (.frz od u))) := ⟨fun pins s σ H D I q => by
  rcases q with q | ⟨a, u, hu, mu, q⟩
  · exact h.run pins s σ H D I q
  · obtain ⟨od, I2⟩ := I.lock hu mu
    exact h.run pins s σ _ D I2 (q od)⟩
theorem fn_DT {m : D → Option D} (g : Nat) (F : FunD K x qual params body scope [] kws f fd) (hcd : fd.code = .ref c) (Sc : FnScope N [y] scope) {z : Str} (hg : N[g]? = some z) (nv : ¬ Vis scope z)
    (h : ∀ (a : D) (A : Around) (outer : List Env) (sh : Shared) (H : Hp) (E : XK), Room k (A.deeper (envOfC qual scope sh.heap.objs.size f (.ref c))) → So (cxOf CX0 P w K mg base N qual scope f (.ref c) A outer sh H E).nox body ((startB N.length [a]).set g (.tab TL)) FnDTΦ (m a)) :
    FnOk P w K mg base CX0 (k + 1) f fd [y] (SpDT K TL m) := by
  refine FunD.okC F hcd Sc (fun vs H Q E ⟨a, xs, ds, d, e, _⟩ => by rw [e]; rfl) (fun A outer s H vs Q E hr ⟨a, xs, ds, d, e, hs, rx, hm, hT, hq⟩ => ?_)
  subst e
  have lg : g < N.length := by
    rcases Nat.lt_or_ge g N.length with h | h
    · exact h
    · rw [List.getElem?_eq_none h] at hg; cases hg
  have lρ : (startB N.length [PyData.list ds]).length = N.length := by unfold startB; simp; omega
  have atg : ((startB N.length [PyData.list ds]).set g (.tab TL))[g]? = some (.tab TL) := List.getElem?_set_self (by omega)
  have oth : ∀ (i : Nat) b, ((startB N.length [PyData.list ds]).set g (.tab TL))[i]? = some b → i ≠ g → isOwn b = false := fun i b e n2 => by
    rw [List.getElem?_set_ne (Ne.symm n2)] at e
    exact startB_no _ _ i b e
  refine ⟨_, pss_lock (pss_ghost (some .non) hg nv (PSs.nox pss_c)), ?_⟩
  have core : ∀ H2 : Hp, FzL K H2 a xs → LamX.Tabs TL H2 → cSs (cxOf CX0 P w K mg base N qual scope f (.ref c) A outer s H E).nox body { nx := fun _ H' => Q .non H', rt := Q } ((L2.start N [.ref a]).set g (some .non)) H2 := fun H2 hz hT2 => by
    refine h (.list ds) A outer s H E hr _ hm ⟨H2, fun y => ∃ ps, H2 y = some (.tbl ps)⟩ H2 _ H2 _ ⟨fun _ _ e _ => e, .refl _, (sok_start (.cons (.lst hz (rx H2)) .nil)).take (by omega) (.tab hT2) (fun j c w M x n e es ow m z => ?_), fun i b v L y e1' es o1 hy => ?_, fun i T e1' b ps e => ⟨ps, e⟩⟩ ⟨fun ρ σ H' S' z => hq _ H' (by rw [show d = .none from z]; exact .non), fun d' v ρ σ H' S' rp z => hq v H' (by rw [← show d' = d from z]; exact rp), fun _ _ _ _ z => z.elim, fun _ _ _ _ z => z.elim, fun _ _ _ _ _ _ z => z.elim, fun _ z => nomatch z⟩
    · have := startB_no _ _ j c e
      rw [ow.is] at this; cases this
    · by_cases ng : i = g
      · subst ng
        rw [atg] at e1'
        cases e1'
        cases o1 with
        | tab t' =>
          obtain ⟨p, hp, rfl⟩ := List.mem_map.mp hy
          obtain ⟨ps', h1, _⟩ := hT2 p hp
          exact .inr ⟨ps', h1⟩
      · have := oth i b e1' ng
        rw [o1.is] at this; cases this
  rcases hs with (hl | ⟨o, hf⟩) | hk
  · refine .inr ⟨a, _, hl, trivial, fun od => core _ (.inl ⟨od, upd_same⟩) ?_⟩
    intro p hp
    obtain ⟨ps, h1, h2, h3⟩ := hT p hp
    refine ⟨ps, by rw [upd_ne (fun z => by rw [z, hl] at h1; cases h1)]; exact h1, h2, fun pos cv hc => ?_⟩
    obtain ⟨c0, e1, e2⟩ := h3 pos cv hc
    exact ⟨c0, e1, by rw [upd_ne (fun z => by rw [z, hl] at e2; cases e2)]; exact e2⟩
  · exact .inl (core H (.inl ⟨o, hf⟩) hT)
  · exact .inl (core H (.inr hk) hT)
end
/-! ### a call of such a def -/
section
variable {X : Cx} {ρ : Rho} {es : List Expr} {U : Type} {p pos : Pos} {s : String} {i : Nat} {C q : Addr} {kk : Nat} {TL : TabL}
theorem em_fnT {enc : U → Rho} {e0 : U → FL} {m : U → List D → Option (D × U)} {fn : String} {p2 : Pos} (j : Nat) (st : U) (M : Fr X.prog X.w X.K X.mg X.base fn kk (SpMT X.K C TL e0 m)) (hr : Room kk X.A) (hs : Sl X.N s i) {r : Option (List D)} (ha : Ao X es ρ r) (one : ∀ (i : Nat) T', ρ[i]? = some (.tab T') → i = j) (hj : ρ[j]? = some (.tab TL) := by rfl) (h : ρ[i]? = some (.obj (some C) q (e0 st)) := by rfl) (henc : ∀ t, enc t = ρ.set i (.obj (some C) q (e0 t)) := by intro _; rfl) (hv : Vis X.env.scope (Str.ofString s) := by first | exact Or.inl rfl | exact Or.inr (Or.inl rfl) | exact Or.inr (Or.inr rfl))
    (hg : Gl X (Str.ofString fn) := by rfl) (hdb : (Str.ofString fn == ("__debug__" : Str)) = false := by decide) (hst : starEach (.Name (Str.ofString s) p2 :: es) X.env = (false, eval (.Name (Str.ofString s) p2) X.env) :: starEach es X.env := by rfl) (hpl : (backTo pos (starEach es X.env)).any (·.1) = false := by rfl) :
    Em X (.Call (.Name (Str.ofString fn) p) (.Name (Str.ofString s) p2 :: es) [] pos) ρ enc (bnd r (m st)) := fun r' z => by
  obtain ⟨ds, z1, z2⟩ := bnd_inv z
  intro H0 H1 σ H Q Sk q'
  obtain ⟨f, fd, ps, F, hm, hk, hb⟩ := M.h
  obtain ⟨dx, vs, L, e1, e2, e3, e4⟩ := Sk.ok.ins h
  refine ⟨_, pe_call F hr hg hm hk hb .nil pass0 (pa_cons (pe_var hs.h hv hs.d hs.c) pa_c hst) hdb hst hpl, _, e1, ha ds z1 σ H _ Sk.ok fun us H2 s2 r2 => ?_⟩
  show SpMT X.K C TL e0 m ((V.ref q :: us) ++ []) H2 Q E0
  rw [List.append_nil]
  have o2 : Own X.K H2 (.ref q) (.obj (some C) q (e0 st)) (q :: L) := .ins (s2 _ _ e2) (e3.mono (.of s2) fun y _ o ho => s2 y o ho) e4
  obtain ⟨v0, L0, y1, y2⟩ := (Sk.mono s2).ok.has j _ hj rfl
  have hT : LamX.Tabs TL H2 := by cases y2; assumption
  exact ⟨_, us, st, ds, r'.1, r'.2, _, rfl, o2, r2, z2, hT, fun v H' L1 st' kp t' o1 hL rp => q' v H' (by rw [henc]; exact (Sk.mono s2).chgTM h e1 o2 hj one (fun _ z => by cases z) st' kp t' o1 hL (fun _ z => by cases z)) ((Stb.of s2).trans st') rp⟩
end
/-! ### the defs that call what they get, from their facts -/
section
variable {K : PySem.W.Frag} {mg : Str → Option Value} {f CS : Addr} {fd : FuncData} {params : Arguments} {sg : Scope} {s : String} {e : Str}
theorem lr_of {body : List Stmt} {TT : TTT} {a : Str} {Ng : List Str} (F : FunD K (Str.ofString s) (Str.ofString s) params body sg [] [] f fd) (hm : mg (Str.ofString s) = some (.ref f)) (b : Binds K fd [a] []) (Sc : FnScope Ng [a] sg) (hN : Ng[0]? = some a) (hv : Vis sg a) (h1 : (a == ("__debug__" : Str)) = false) (h2 : (a == ("__classdict__" : Str)) = false) (h3 : (Str.ofString s == ("__debug__" : Str)) = false) (G : ∀ (X : Cx) (g : Addr) (cdv : Value) (q : Str), X.K = K → X.mg = mg → LamX.GivesTo X Ng (Str.ofString s) sg g cdv body a q TT) : Lr K mg s TT := by
  obtain ⟨oc, od, dV, kV, doc, pm, an, cdv, ct, osl, rfl, lk, hcd, _, _⟩ := F.ex
  exact ⟨f, params, body, sg, dV, kV, doc, pm, cdv, ct, oc, an, od, osl, a, Ng, hm, F.kp, lk, hcd, b, Sc, hN, hv, h1, h2, h3, fun X e1 e2 q => G X f cdv q e1 e2⟩
theorem lr_twice {j1 j2 j3 k1 k2 : Nat} {p1 p2 p3 p4 p5 p6 p7 p8 p9 pa pb pc pd pe pf pg : Pos} (F : FunD K (Str.ofString s) (Str.ofString s) params [.Try [.Assign [.Name "found" p1] (.Tuple [.Constant (.str "told") j1 p2, .Call (.Name "deed" p3) [] [] p4] k1 p5) p6] [.ExceptHandler (some (.Name e p7)) none [.Assign [.Name "found" p8] (.Tuple [.Constant (.str "refused") j2 p9, .Constant .none j3 pa] k2 pb) pc] pd] [] [] pe, .Return (some (.Name "found" pf)) pg] sg [] [] f fd)
    (hm : mg (Str.ofString s) = some (.ref f)) (b : Binds K fd ["deed"] []) (Sc : FnScope ["deed", "found"] ["deed"] sg) (hme : mg e = some (.ref CS)) (hge : sg.names.lookup e = some .globalImplicit) (hde : (e == ("__debug__" : Str)) = false) (hlf : sg.names.lookup ("found" : Str) = some .local) (hv : Vis sg "deed") (h3 : (Str.ofString s == ("__debug__" : Str)) = false) : Lr K mg s (TTw K CS) :=
  lr_of F hm b Sc rfl hv (by decide) (by decide) h3 fun X g cdv q e1 e2 => by subst e1; subst e2; exact twice_gives hge hme hde hlf
theorem lr_try {j1 j2 : Nat} {p1 p2 p3 p4 p5 p6 p7 p8 p9 pa pd pe pf pg : Pos} (F : FunD K (Str.ofString s) (Str.ofString s) params [.Try [.Expr (.Call (.Name "deed" p1) [] [] p2) p3, .Assign [.Name "found" p4] (.Constant (.bool true) j1 p5) p6] [.ExceptHandler (some (.Name e p7)) none [.Assign [.Name "found" p8] (.Constant (.bool false) j2 p9) pa] pd] [] [] pe, .Return (some (.Name "found" pf)) pg] sg [] [] f fd)
    (hm : mg (Str.ofString s) = some (.ref f)) (b : Binds K fd ["deed"] []) (Sc : FnScope ["deed", "found"] ["deed"] sg) (hme : mg e = some (.ref CS)) (hge : sg.names.lookup e = some .globalImplicit) (hde : (e == ("__debug__" : Str)) = false) (hlf : sg.names.lookup ("found" : Str) = some .local) (hv : Vis sg "deed") (h3 : (Str.ofString s == ("__debug__" : Str)) = false) : Lr K mg s (TTb K CS) :=
  lr_of F hm b Sc rfl hv (by decide) (by decide) h3 fun X g cdv q e1 e2 => by subst e1; subst e2; exact try_gives hge hme hde hlf
end
end DL


namespace DL
open PySem PySem.Spec PyProof.Rows L2
/-! ### is, of truths and None -/
def isV : D → D → Option Bool
  | .bool a, .bool b => some (decide (a = b))
  | x, .none => some (match x with | .none => true | _ => false)
  | _, _ => none
def isnV : D → D → Option Bool
  | .bool a, .bool b => some (!decide (a = b))
  | x, .none => some (match x with | .none => false | _ => true)
  | _, _ => none
theorem cm_is {X : Cx} : CmF X (compareOp .Is) isV := fun x y b h => by
  unfold isV at h
  split at h
  · rename_i a c
    cases h
    intro H v w Q rv rw q
    have e1 := rv.bl
    have e2 := rw.bl
    subst e1 e2
    exact ⟨_, op_is_bl, a, c, rfl, rfl, q _ _ ⟨.refl _, .bl _⟩⟩
  · cases h
    intro H v w Q rv rw q
    have e2 := rw.non
    subst e2
    refine ⟨_, op_isN, rfl, q _ _ ⟨.refl _, ?_⟩⟩
    have := rv.is_non
    cases x <;> simp at this <;> simp [this] <;> exact .bl _
  · cases h
theorem cm_isn {X : Cx} : CmF X (compareOp .IsNot) isnV := fun x y b h => by
  unfold isnV at h
  split at h
  · rename_i a c
    cases h
    intro H v w Q rv rw q
    have e1 := rv.bl
    have e2 := rw.bl
    subst e1 e2
    exact ⟨_, op_isnot_bl, a, c, rfl, rfl, q _ _ ⟨.refl _, .bl _⟩⟩
  · cases h
    intro H v w Q rv rw q
    have e2 := rw.non
    subst e2
    refine ⟨_, op_notN, rfl, q _ _ ⟨.refl _, ?_⟩⟩
    have := rv.is_non
    cases x <;> simp at this <;> simp [this] <;> exact .bl _
  · cases h
theorem xM_none {S : Type} {c : S → List D → Option Bool} {m : S → List D → Option (D × S)} {s t : S} {ds : List D} (h : xM c m s ds = some (none, t)) : t = s := by
  obtain ⟨b, _, z⟩ := bnd_inv h
  cases b with
  | true => cases z; rfl
  | false =>
    obtain ⟨r, _, z⟩ := bnd_inv z
    cases z
/-- no other tables -/
theorem one_tab {ρ : Rho} {j : Nat} (h : ∀ (i : Nat), i ≠ j → ∀ T, ρ[i]? ≠ some (.tab T)) : ∀ (i : Nat) T', ρ[i]? = some (.tab T') → i = j := fun i T' e => by
  by_cases n : i = j
  · exact n
  · exact absurd e (h i n T')
def isTab : B → Bool
  | .tab _ => true
  | _ => false
theorem one_by {ρ : Rho} {j : Nat} (h : ∀ (i : Nat) b, ρ[i]? = some b → isTab b = true → i = j) : ∀ (i : Nat) T', ρ[i]? = some (.tab T') → i = j := fun i T' e => h i _ e rfl
def noTabs : Rho → Bool
  | [] => true
  | b :: r => !isTab b && noTabs r
theorem noTabs_no : ∀ {ρ : Rho}, noTabs ρ = true → ∀ (i : Nat) T, ρ[i]? ≠ some (.tab T)
  | [], _, i, T, e => by simp at e
  | b :: r, h, 0, T, e => by
    simp at e; subst e; simp [noTabs, isTab] at h
  | b :: r, h, i + 1, T, e => by
    simp only [noTabs, Bool.and_eq_true] at h
    exact noTabs_no h.2 i T (by simpa using e)
/-- the tables' slot is the last one -/
theorem one_last {ρ : Rho} {TL : TabL} (h : noTabs ρ = true) : ∀ (i : Nat) T', (ρ ++ [.tab TL])[i]? = some (.tab T') → i = ρ.length := fun i T' e => by
  by_cases hl : i < ρ.length
  · rw [List.getElem?_append_left hl] at e
    exact absurd e (noTabs_no h i T')
  · by_cases h2 : i = ρ.length
    · exact h2
    · rw [List.getElem?_eq_none (by simp; omega)] at e; cases e
/-- x, y = C(), C() -/
theorem mk_runs {X : Cx} {C : Addr} {T : Type} {e1 : T → FL} {m : Unit → Option (D × T)} {u : D × T} (z1 : m () = some u) (hu : u.1 = .none) {σ : L2.St} {H : Hp} {Q : VK} (q : ∀ y H' L1, Same H H' → (∀ x ∈ L1, H x = none) → Own X.K H' (.ref y) (.obj (some C) y (e1 u.2)) L1 → Q (.ref y) H') {E : XK} : tMake C (SpM X.K C (fun _ : Unit => []) e1 (a0 m)) [] E tNil σ H Q := fun y dx hy hdx ne => by
  have own0 : Own X.K (upd (upd H dx (.own y)) y (.ins C dx [])) (.ref y) (.obj (some C) y []) [y] := .ins upd_same .nil (by simp)
  refine ⟨y, [], (), [], u.1, u.2, [y], rfl, own0, .nil, z1, fun v H' L1 st kp o1 hL rp => ⟨?_, q y H' L1 (fun b o hb => ?_) (fun b hb => ?_) o1⟩⟩
  · rw [hu] at rp; exact (Rq.of rp).non
  · have b1 : b ≠ y := fun t => by rw [t, hy] at hb; cases hb
    have b2 : b ≠ dx := fun t => by rw [t, hdx] at hb; cases hb
    exact kp b o (by rw [upd_ne b1, upd_ne b2]; exact hb) (by simpa using b1)
  · rcases hL b hb with t | t
    · simp at t; rw [t]; exact hy
    · by_cases b1 : b = y
      · rw [b1]; exact hy
      · rw [upd_ne b1] at t
        by_cases b2 : b = dx
        · rw [b2]; exact hdx
        · rw [upd_ne b2] at t; exact t
theorem so_make2 {R : Type} {X : Cx} {ρ : Rho} {Φ : R → DL.Fin} {rest : List Stmt} {pos px py pt pt2 p1 p2 p3 p4 : Pos} {kt k2 : Nat} {x y : Str} (i j : Nat) {cn : String} {C fi : Addr} {kk : Nat} {fd : FuncData} {ps : List Str} {T : Type} {e1 : T → FL} {m : Unit → Option (D × T)} {G : D × T → D × T → Option R} (hN : X.N.Nodup) (M : Mk X.K C fi) (F : FnOk X.prog X.w X.K X.mg X.base CX0 kk fi fd ps (SpM X.K C (fun _ : Unit => []) e1 (a0 m))) (hbd : Binds X.K fd ps []) (hr : Room (kk + 1) X.A) (hm : X.mg (Str.ofString cn) = some (.ref C)) (hnon : ∀ r, m () = some r → r.1 = .none)
    (h : ∀ (q q' : Addr) (t t' : D × T), So X rest ((ρ.set i (.obj (some C) q (e1 t.2))).set j (.obj (some C) q' (e1 t'.2))) Φ (G t t')) (hij : i ≠ j := by decide) (hi : X.N[i]? = some x := by rfl) (hj : X.N[j]? = some y := by rfl) (hx : X.env.scope.names.lookup x = some .local := by rfl) (hy : X.env.scope.names.lookup y = some .local := by rfl) (hc : X.calm = true := by rfl)
    (hg : Gl X (Str.ofString cn) := by rfl) (hdb : (Str.ofString cn == ("__debug__" : Str)) = false := by decide)
    (hw : swappedStores [.Tuple [.Name x px, .Name y py] kt pt] (.Tuple [.Call (.Name (Str.ofString cn) p1) [] [] p2, .Call (.Name (Str.ofString cn) p3) [] [] p4] k2 pt2) X.env = pure (some [x, y]) := by rfl) (hs : swapsWithSole [.Tuple [.Name x px, .Name y py] kt pt] (.Tuple [.Call (.Name (Str.ofString cn) p1) [] [] p2, .Call (.Name (Str.ofString cn) p3) [] [] p4] k2 pt2) pos.line X.env = pure false := by rfl) :
    So X (.Assign [.Tuple [.Name x px, .Name y py] kt pt] (.Tuple [.Call (.Name (Str.ofString cn) p1) [] [] p2, .Call (.Name (Str.ofString cn) p3) [] [] p4] k2 pt2) pos :: rest) ρ Φ (bnd (m ()) fun a => bnd (m ()) fun b => G a b) := fun r z => by
  obtain ⟨u, z1, z⟩ := bnd_inv z
  obtain ⟨u', z2, z⟩ := bnd_inv z
  refine xs_cons fun H0 H1 σ H E Sk Fn => ⟨_, ps_par hc hN hi hj hij hx hy (pa_cons (pe_make0 M F hr hg hm hbd .nil pass0 hdb) (pa_cons (pe_make0 M F hr hg hm hbd .nil pass0 hdb) pa_nil)) hw hs, ?_⟩
  unfold tPar tCons
  refine mk_runs (X := X) (σ := σ) (C := C) (e1 := e1) (H := H) z1 (hnon u z1) fun q Ha La sa fa oa => ?_
  refine mk_runs (X := X) (σ := σ) (C := C) (e1 := e1) (H := Ha) z2 (hnon u' z2) fun q' Hb Lb sb fb ob => ?_
  exact ⟨_, _, rfl, Fn.nx _ _ _ ((Sk.setNew sa fa oa).setNew sb fb ob) (h q q' u u' r z)⟩
/-! ### the head -/
abbrev lamN (n : Str) : Str := n ++ ".<locals>." ++ "<lambda>"
theorem notVis {sc : Scope} {x : Str} (h : sc.names.lookup x = none) : ¬ Vis sc x := fun v => by
  rcases v with v | v | v <;> (rw [h] at v; cases v)
theorem code_of {K : PySem.W.Frag} {x q : Str} {ps : Arguments} {b : List Stmt} {sc : Scope} {dvs : List V} {kws : List (Str × V)} {p : Str × Option Str} {fd : FuncData} (F : FunD K x q ps b sc dvs kws (He.fAd K p) fd) : fd.code = .ref (He.codeOf K p) := by
  obtain ⟨oc, od, dV, kV, doc, pm, an, cdv, ct, osl, e, lk, hcd, _, _⟩ := F.ex
  obtain ⟨c, hc⟩ := He.codeIn_ref hcd
  have e2 : fd.code = .ref c := by rw [e, ← hc]
  rw [e2, He.codeOf_eq lk e2]
def tlOf (K : PySem.W.Frag) (tf : List He.Defn) : TabL := tf.map fun p => ((He.cT K p).2, lamN p.1)
theorem tabs_tl {K : PySem.W.Frag} {tf : List He.Defn} {H : Hp} (h : ∀ p ∈ tf.map (He.cT K), H p.2 = some (.tbl #[])) : LamX.Tabs (tlOf K tf) H := fun p hp => by
  obtain ⟨d, hd, rfl⟩ := List.mem_map.mp hp
  exact LamX.TabS.nil (h _ (List.mem_map_of_mem hd))
theorem law_inT {K : PySem.W.Frag} {TL : TabL} {H : Hp} {a : Addr} {ns : List Int} {m : D → Option D} {E : XK} (hT : LamX.Tabs TL H) (hS : SqL K H a (ns.map V.int)) (hm : m (.list (ns.map .int)) = some (.bool true)) : SpDT K TL m [.ref a] H (fun v _ => v = .bl true) E :=
  ⟨a, _, _, _, rfl, hS, fun H => by
    clear hS hm
    induction ns with
    | nil => exact .nil
    | cons n ns ih => exact .cons (.int n) ih, hm, hT, fun v H' r => (Rq.of r).bl⟩
end DL


namespace DL
open PySem PySem.Spec PyProof.Rows L2
/-! ### list.remove of a text -/
def eqs (k : Str) (v : Value) : Bool := match v with
  | .str n _ => n == k
  | _ => false
theorem eqs_gives {k : Str} {t : Tok} : ∀ {ns : List Str} {us : List Value}, Vals (ns.map V.str) us → ∀ y ∈ us, MeetsSeq.EqGives y (.str k t) (eqs k y)
  | [], _, h => fun y hy => by cases h; cases hy
  | n :: ns, _, h => fun y hy => by
    cases h with
    | cons r h =>
      obtain ⟨tk, rfl⟩ := r
      rcases List.mem_cons.mp hy with e | e
      · rw [e]
        exact fun prog w A E s Q hq => SeqAt.EqAt.str_str n tk k t prog w E Q hq
      · exact eqs_gives h y e
theorem eqs_at (k : Str) : ∀ {ns : List Str} {us : List Value}, Vals (ns.map V.str) us → ∀ (i : Nat) (h : i < us.length), eqs k us[i] = true ↔ ns[i]? = some k
  | [], _, h, i, hi => by cases h; simp at hi
  | n :: ns, _, h, i, hi => by
    cases h with
    | cons r h =>
      obtain ⟨tk, rfl⟩ := r
      cases i with
      | zero =>
        show (n == k) = true ↔ some n = some k
        rw [beq_iff_eq, Option.some_inj]
      | succ i =>
        have := eqs_at k h i (Nat.lt_of_succ_lt_succ hi)
        simpa using this
theorem first_str : ∀ {ns : List Str} {k : Str}, k ∈ ns → ∃ j, j < ns.length ∧ ns[j]? = some k ∧ (∀ i, i < j → ns[i]? ≠ some k) ∧ ns.eraseIdx j = ns.erase k
  | [], k, h => absurd h (by simp)
  | a :: r, k, h => by
    by_cases e : a = k
    · exact ⟨0, Nat.succ_pos _, by rw [e]; rfl, fun i hi => absurd hi (Nat.not_lt_zero _), by rw [e, List.erase_cons_head]; rfl⟩
    · have hr : k ∈ r := by
        rcases List.mem_cons.mp h with z | z
        · exact absurd z.symm e
        · exact z
      obtain ⟨j, h1, h2, h3, h4⟩ := first_str hr
      refine ⟨j + 1, Nat.succ_lt_succ h1, h2, fun i hi => ?_, ?_⟩
      · cases i with
        | zero =>
          intro z
          exact e (Option.some.inj z)
        | succ i => exact h3 i (Nat.lt_of_succ_lt_succ hi)
      · rw [List.erase_cons_tail (by rw [beq_iff_eq]; exact e), ← h4]; rfl
theorem erase_mapS : ∀ (l : List Str) (j : Nat), (l.map V.str).eraseIdx j = (l.eraseIdx j).map V.str
  | [], j => by simp
  | a :: r, 0 => by simp
  | a :: r, j + 1 => by
    have ih := erase_mapS r j
    simp [ih]
def rRemS : V → List V → Hp → VK → Prop := fun x xs H Q => ∃ (l : Addr) (ns : List Str) (k : Str), x = .ref l ∧ xs = [.str k] ∧ H l = some (.lst (ns.map V.str)) ∧ k ∈ ns ∧ Q .non (upd H l (.lst ((ns.erase k).map V.str)))
theorem mt_removeS {X : Cx} : MtM X "list.remove" rRemS := by
  intro pins s σ H x xs v us Q I rx rxs h
  obtain ⟨l, ns, k, rfl, rfl, hH, hk, q⟩ := h
  cases rx
  obtain ⟨u, rfl, ru⟩ := rxs.one
  obtain ⟨t, rfl⟩ := ru
  obtain ⟨z, its, n, r, hl, e⟩ := I.lstM hH
  have z' : ns.length ≤ sizeLine := by simpa using z
  have hl' : ns.length = its.length := by simpa using hl
  obtain ⟨j, j1, j2, j3, j4⟩ := first_str hk
  have hj : j < its.length := by omega
  refine call_meets PySem.F.slot_list_remove ⟨_, e, rfl⟩ PySem.F.entry_list_remove (PySem.F.args_list_remove_2 _ _)
    (MeetsSeq.list_remove l its.toArray n (.str k t) (eqs k) (fun y hy => eqs_gives r y (by simpa using hy)) j (by rw [List.size_toArray]; exact hj) ?hit (fun i hi2 hlt => ?hno) (by rw [List.size_toArray]; omega)) ⟨e, ?_⟩
  case hit =>
    show eqs k its[j] = true
    exact (eqs_at k r j hj).mpr j2
  case hno =>
    have hi3 : i < its.length := by rw [List.size_toArray] at hi2; exact hi2
    show eqs k its[i] = false
    rw [Bool.eq_false_iff]
    intro w
    exact j3 i hlt ((eqs_at k r i hi3).mp w)
  · have rr := r.eraseIdx j
    rw [erase_mapS, j4] at rr
    refine ⟨.non, _, I.lset (its' := its.eraseIdx j) (t' := s.toks) hH e ?_ rr ?_, rfl, q⟩
    · show its.toArray.eraseIdxIfInBounds j = (its.eraseIdx j).toArray
      rw [List.eraseIdxIfInBounds_toArray]
    · have := List.length_erase_le (a := k) (l := ns)
      rw [List.length_map]
      omega
def rmL (ds : List D) : D → Option (List D)
  | .str x => bnd (allStr ds) fun l => if x ∈ l then some ((l.erase x).map .str) else none
  | _ => none
section
variable {R : Type} {X : Cx} {ρ : Rho} {Φ : R → DL.Fin} {e : Expr} {rest : List Stmt} {pos : Pos} {f : Option D}
theorem so_remove (j : Nat) {y : String} {p2 apos cpos : Pos} {ds : List D} {G : List D → Option R} (hsl : Sl X.N y j) (hj : ρ[j]? = some (.own ds)) (hv : Vis X.env.scope (Str.ofString y)) (he : Eo X e ρ f) (h : ∀ d, So X rest (ρ.set j (.own d)) Φ (G d)) (hbase : attributeBase (.Name (Str.ofString y) p2) "remove" X.env (eval (.Name (Str.ofString y) p2) X.env) = eval (.Name (Str.ofString y) p2) X.env := by rfl)
    (hfew : ((backTo cpos (starEach [e] X.env)).all (fun x => !x.1) && (backToKw cpos (keywordEach [] X.env)).all (fun x => x.1.isSome)
      && decide ([e].length + ([] : List Keyword).length + (if ([] : List Keyword).isEmpty then 0 else 1) < 30)) = true := by rfl)
    (hline : (apos.endLine == cpos.line) = true := by rfl) (hs : starEach [e] X.env = (false, eval e X.env) :: starEach [] X.env := by rfl) (hplain : (backTo cpos (starEach [] X.env)).any (·.1) = false := by rfl)
    (hsw : swapsWith (.Call (.Attribute (.Name (Str.ofString y) p2) "remove" apos) [e] [] cpos) none pos.line X.env = pure false := by rfl) :
    So X (.Expr (.Call (.Attribute (.Name (Str.ofString y) p2) "remove" apos) [e] [] cpos) pos :: rest) ρ Φ (bnd (op1 (rmL ds) f) G) := fun r q => by
  obtain ⟨l, q1, qG⟩ := bnd_inv q
  clear q
  obtain ⟨d, q1', q2⟩ := bnd_inv q1
  clear q1
  unfold rmL at q2
  split at q2
  · rename_i z
    obtain ⟨ns, q3, q4⟩ := bnd_inv q2
    split at q4
    · rename_i hm
      cases q4
      have el := allStr_inv q3
      subst el
      refine xs_cons fun H0 H1 σ H E S F => ?_
      obtain ⟨a, xs, e1, e2, r'⟩ := S.ok.own j _ hj
      have ex := rp_strs' r'
      subst ex
      refine ⟨_, ps_expr (pe_bm PySem.F.plainAttrs_list PySem.F.slot_list_remove PySem.F.type_list_remove mt_removeS (pe_var hsl.h hv hsl.d hsl.c) (pa_cons pe_c pa_nil hs) hbase hfew hline hs hplain) hsw, _, e1, .inl ⟨rfl, _, .of e2⟩, he _ q1' σ H _ S.ok fun v H2 ⟨s2, r2⟩ => ?_⟩
      have ev := (Rq.of r2).str
      subst ev
      refine ⟨a, ns, z, rfl, rfl, s2 _ _ e2, hm, F.nx _ _ _ ((S.mono s2).write hj e1 (.own (s2 _ _ e2) (r'.mono (.of s2))) (s2 _ _ e2) trivial ?_) (h _ r qG)⟩
      exact .own upd_same (rp_strs _)
    · cases q4
  · cases q2
end
/-! ### f(o), which only reads it -/
section
variable {X : Cx} {ρ : Rho} {U : Type} {p pos : Pos} {s : String} {i : Nat} {C q : Addr} {kk : Nat}
theorem eo_fnR {e0 : U → FL} {m : U → Option D} {fn : String} {p2 : Pos} (st : U) (M : Fr X.prog X.w X.K X.mg X.base fn kk (SpR X.K C e0 (a0 m))) (hr : Room kk X.A) (hs : Sl X.N s i) (h : ρ[i]? = some (.obj (some C) q (e0 st)) := by rfl) (hv : Vis X.env.scope (Str.ofString s) := by first | exact Or.inl rfl | exact Or.inr (Or.inl rfl) | exact Or.inr (Or.inr rfl))
    (hg : Gl X (Str.ofString fn) := by rfl) (hdb : (Str.ofString fn == ("__debug__" : Str)) = false := by decide) (hst : starEach [.Name (Str.ofString s) p2] X.env = (false, eval (.Name (Str.ofString s) p2) X.env) :: starEach [] X.env := by rfl) (hpl : (backTo pos (starEach [] X.env)).any (·.1) = false := by rfl) :
    Eo X (.Call (.Name (Str.ofString fn) p) [.Name (Str.ofString s) p2] [] pos) ρ (m st) := fun d z σ H Q Sk q' => by
  obtain ⟨f, fd, ps, F, hm, hk, hb⟩ := M.h
  obtain ⟨dx, vs, L, e1, e2, e3, e4⟩ := Sk.ins h
  refine ⟨_, pe_call F hr hg hm hk hb .nil pass0 (pa_cons (pe_var hs.h hv hs.d hs.c) pa_nil hst) hdb hst hpl, _, e1, ?_⟩
  exact ⟨_, [], st, [], d, _, rfl, .ins e2 e3 e4, .nil, z, fun v H' s' r' => q' v H' ⟨s', r'⟩⟩
end
end DL


/-! Methods of texts. -/
namespace DL
open PySem PySem.Spec PyProof.Rows L2
section
variable {X : Cx} {ρ : Rho} {e a b : Expr} {pos apos : Pos} {f g : Option D}
/-- a.split(b) -/
def splitD : D → D → Option (List D)
  | .str a, .str b => if (b.length == 0) = false ∧ a.length + 2 ≤ sizeLine then some ((Txt.split a b).map .str) else none
  | _, _ => none
theorem rp_strsA {K : PySem.W.Frag} {H : Hp} : ∀ (l : List Str), RpAll K H (l.map V.str) (l.map .str)
  | [] => .nil
  | x :: l => .cons (.str x) (rp_strsA l)
theorem en_split (ha : Eo X a ρ f) (hb : Eo X b ρ g) (hs : starEach [b] X.env = [(false, eval b X.env)] := by rfl) (hbase : attributeBase a "split" X.env (eval a X.env) = eval a X.env := by rfl) (hline : (apos.endLine == pos.line) = true := by rfl) : En X (.Call (.Attribute a "split" apos) [b] [] pos) ρ (op2 splitD f g) := fun d z => by
  obtain ⟨x, y, z1, z2, z3⟩ := op2_inv z
  unfold splitD at z3
  split at z3
  · split at z3
    · rename_i hc
      cases z3
      intro σ H Q S q
      refine ⟨_, pe_split pe_c pe_c hs hbase hline, ha _ z1 σ H _ S fun v H1 ⟨s1, r1⟩ => ?_⟩
      have e1 := (Rq.of r1).str
      subst e1
      refine ⟨⟨_, rfl⟩, hb _ z2 σ H1 _ (S.mono s1) fun w H2 ⟨s2, r2⟩ => ?_⟩
      have e2 := (Rq.of r2).str
      subst e2
      refine ⟨_, _, rfl, rfl, hc.1, hc.2, fun p hp => ?_⟩
      exact q _ _ ⟨(s1.trans s2).trans (same_new hp), p, _, rfl, (s1.trans s2).free hp, upd_same, rp_strsA _⟩
    · cases z3
  · cases z3
/-- a.join(b) -/
def joinD : D → D → Option D
  | .str a, .list ds => bnd (allStr ds) fun l => if (l.map (·.length)).sum + l.length * a.length ≤ 16777216 then some (.str (Txt.join a l)) else none
  | _, _ => none
theorem rp_strsI {K : PySem.W.Frag} {H : Hp} : ∀ {xs : List V} {l : List Str}, RpAll K H xs (l.map .str) → xs = l.map V.str
  | _, [], h => by cases h; rfl
  | _, s :: l, h => by
    cases h with
    | cons a b =>
      rw [rp_strsI b]
      cases a
      rfl
theorem eo_join (ha : Eo X a ρ f) (hb : Eu X b ρ g) (hs : starEach [b] X.env = [(false, eval b X.env)] := by rfl) (hbase : attributeBase a "join" X.env (eval a X.env) = eval a X.env := by rfl) (hline : (apos.endLine == pos.line) = true := by rfl) : Eo X (.Call (.Attribute a "join" apos) [b] [] pos) ρ (op2 joinD f g) := fun d z => by
  obtain ⟨x, y, z1, z2, z3⟩ := op2_inv z
  unfold joinD at z3
  split at z3
  · obtain ⟨l, z4, z5⟩ := bnd_inv z3
    split at z5
    · rename_i hc
      cases z5
      have el := allStr_inv z4
      subst el
      intro σ H Q S q
      refine ⟨_, pe_join pe_c pe_c hs hbase hline, ha _ z1 σ H _ S fun v H1 ⟨s1, r1⟩ => ?_⟩
      have e1 := (Rq.of r1).str
      subst e1
      refine ⟨⟨_, rfl⟩, hb _ z2 σ H1 _ (S.mono s1) fun w H2 ⟨s2, r2⟩ => ?_⟩
      obtain ⟨p, xs, rfl, h3, h4⟩ := r2.lst
      have ex := rp_strsI h4
      subst ex
      exact ⟨_, p, l, rfl, rfl, .inl h3, hc, q _ H2 ⟨s1.trans s2, .str _⟩⟩
    · cases z5
  · cases z3
/-- a.startswith(b) -/
def startsB : D → D → Option Bool
  | .str a, .str b => some (Txt.startswith a b)
  | _, _ => none
theorem eo_starts (ha : Eo X a ρ f) (hb : Eo X b ρ g) (hs : starEach [b] X.env = [(false, eval b X.env)] := by rfl) (hbase : attributeBase a "startswith" X.env (eval a X.env) = eval a X.env := by rfl) (hline : (apos.endLine == pos.line) = true := by rfl) : Eo X (.Call (.Attribute a "startswith" apos) [b] [] pos) ρ (boV (op2 startsB f g)) := fun d z => by
  obtain ⟨t, z0, zd⟩ := bnd_inv z
  cases zd
  obtain ⟨x, y, z1, z2, z3⟩ := op2_inv z0
  unfold startsB at z3
  split at z3
  · cases z3
    intro σ H Q S q
    refine ⟨_, pe_m1 PySem.F.slot_str_startswith PySem.F.type_str_startswith mt_startswith pe_c pe_c hs hbase hline, ha _ z1 σ H _ S fun v H1 ⟨s1, r1⟩ => ?_⟩
    have e1 := (Rq.of r1).str
    subst e1
    refine ⟨⟨_, rfl⟩, hb _ z2 σ H1 _ (S.mono s1) fun w H2 ⟨s2, r2⟩ => ?_⟩
    have e2 := (Rq.of r2).str
    subst e2
    exact ⟨_, _, rfl, rfl, q _ H2 ⟨s1.trans s2, .bl _⟩⟩
  · cases z3
/-- int(text) -/
def intX : D → Option D
  | .str a => bnd (PySem.intText? a) fun n => if a.length ≤ 640 then some (.int n) else none
  | x => intD x
theorem ca_intX : CaF X (.type "int") intX := fun x d h => by
  unfold intX at h
  split at h
  · rename_i a
    obtain ⟨n, h1, h2⟩ := bnd_inv h
    split at h2
    · rename_i hl
      cases h2
      exact ⟨_, fun H vs Q r q => by
        obtain ⟨v, rfl, r0⟩ := paired1 r
        exact ⟨_, call_int_str, a, n, by rw [r0.str], h1, hl, q _ H ⟨.refl H, .int _⟩⟩, .val⟩
    · cases h2
  · exact ca_int x d h
/-- text * n -/
def mulZ : D → D → Option D
  | .str a, .int k => if 0 ≤ k ∧ a.length * k.toNat ≤ sizeLine then some (.str (Str.mk (List.replicate k.toNat a.cps.toList).flatten.toArray)) else none
  | x, y => mulX x y
end
end DL


/-! Defs of data that may raise: some none tells that they raise. -/
namespace DL
open PySem PySem.Spec PyProof.Rows L2
/-- what an exception of the class cls wants of the heap -/
abbrev exW (E : XK) (cls : Value) : Option (Hp → Prop) := some fun H' => E cls none H'
/-- the ends of such a def -/
def XΦ (E : XK) (cls : Value) : Option D → DL.Fin
  | some d => FnΦ d
  | none => { nx := fun _ => False, rt := fun _ _ => False, ex := exW E cls }
def SpDX (K : PySem.W.Frag) (cls : Value) (m : List D → Option (Option D)) : Sp := fun vs H Q E => ∃ ds o, RpAll K H vs ds ∧ m ds = some o ∧ (∀ d, o = some d → ∀ v H', Same H H' → Rp K H' v d → Q v H') ∧ (o = none → ∀ H', Same H H' → E cls none H')
structure FrX (P : Program) (w : World) (K : PySem.W.Frag) (mg : Str → Option Value) (base : Heap) (s : String) (kk : Nat) (sp : Sp) : Prop where
  h : ∃ f fd ps, FnOk P w K mg base (L2.CX P w) kk f fd ps sp ∧ mg (Str.ofString s) = some (.ref f) ∧ PySem.W.keepIn K (.ref f) = true ∧ Binds K fd ps []
section
variable {P : Program} {w : World} {K : PySem.W.Frag} {mg : Str → Option Value} {base : Heap} {x qual : Str} {params : Arguments} {body : List Stmt} {scope : Scope} {kws : List (Str × V)} {f : Addr} {fd : FuncData} {N ps : List Str} {k : Nat} {cls : Value}
/-- from its body -/
theorem fn_DX {m : List D → Option (Option D)} (F : FunD K x qual params body scope [] kws f fd) (Sc : FnScope N ps scope) (len : ∀ ds r, m ds = some r → ds.length = ps.length)
    (h : ∀ (ds : List D) (cdv : Value) (A : Around) (outer : List Env) (s : Shared) (H : Hp) (E : XK), Room k (A.deeper (envOfC qual scope s.heap.objs.size f cdv)) → (m ds).isSome = true → Takes (cxOf (L2.CX P w) P w K mg base N qual scope f cdv A outer s H E) (fun c d _ H => E c d H) →
      So (cxOf (L2.CX P w) P w K mg base N qual scope f cdv A outer s H E) body (startB N.length ds) (XΦ E cls) (m ds)) : FnOk P w K mg base (L2.CX P w) (k + 1) f fd ps (SpDX K cls m) := by
  refine F.ok Sc (fun vs H Q E ⟨ds, o, r, hm, _⟩ => by rw [r.length, len ds _ hm]) (fun cdv A outer s H vs Q E hr ⟨ds, o, r, hm, hq, hx⟩ => ?_)
  refine ⟨_, pss_c, h ds cdv A outer s H E hr (by rw [hm]; rfl) (takes_of (E := E) rfl rfl rfl rfl) o hm (Ent.of H) H (L2.start N vs) H _ ⟨fun _ _ e _ => e, .refl _, sok_start r, fun i b v L y e1' _ o1 => ?_, fun i T e1' => absurd (startB_no _ _ i _ e1') (by simp [isOwn])⟩ ?_⟩
  · have := startB_no _ _ i b e1'
    rw [o1.is] at this; cases this
  · cases o with
    | some d =>
      exact ⟨fun ρ σ H' S' e => hq d rfl _ H' S'.same.same (by rw [show d = .none from e]; exact .non), fun r' v ρ σ H' ⟨_, s'⟩ rp e => hq d rfl v H' s'.same.same (by rw [← show r' = d from e]; exact rp), fun _ _ _ _ z => z.elim, fun _ _ _ _ z => z.elim, fun _ _ _ _ _ _ z => z.elim, fun _ z => nomatch z⟩
    | none => exact ⟨fun _ _ _ _ z => z.elim, fun _ _ _ _ _ _ _ z => z.elim, fun _ _ _ _ z => z.elim, fun _ _ _ _ z => z.elim, fun _ _ _ _ _ _ z => z.elim, fun W z H' kp => by cases z; exact hx rfl H' kp.same⟩
end
section
variable {R : Type} {X : Cx} {ρ : Rho} {Φ : R → DL.Fin} {e a b : Expr} {es : List Expr} {rest : List Stmt} {pos p p1 p2 p3 p4 : Pos} {E : XK} {cls : Value} {kk : Nat}
/-- raise C("..") -/
theorem so_raise {xn msg : Str} {jj : Nat} {NP : Addr} {r : R} (tk : Takes X (fun c d _ H => E c d H)) (hx : (Φ r).ex = exW E (.ref NP)) (hg : X.env.scope.names.lookup xn = some .globalImplicit) (hm : X.mg xn = some (.ref NP)) (hdb : (xn == ("__debug__" : Str)) = false) (ex : PySem.W.excIn X.K NP He.veBase "ValueError.__new__" = true ∧ PySem.W.keepIn X.K (.ref NP) = true ∧ PySem.W.subIn X.K (.ref NP) (.type "BaseException") = some true ∧ PySem.W.typeIn X.K (.ref NP) = some (.type "type")) (hc : X.calm = true := by rfl) :
    So X [.Raise (some (.Call (.Name xn p1) [.Constant (.str msg) jj p2] [] p3)) none p4] ρ Φ (some r) := fun r' z => by
  cases z
  intro H0 H1 σ H En S F
  exact ⟨_, pss_one (ps_raise hc tk (SkE.pmk_own1 (e := .Constant (.str msg) jj p2) PySem.F.excBase_ValueError ex.1 hm ex.2.1 (raises_own ex.2.2.1 ex.2.2.2) hg pe_str rfl hdb)), F.ex _ hx H S.same⟩
/-! ### expressions that may raise -/
def EvR (X : Cx) (E : XK) (cls : Value) (e : Expr) (ρ : Rho) : Prop := ∀ σ H Q, SOk X.K ρ σ H → (∀ H', Same H H' → E cls none H') → cE X e σ H Q
def EoX (X : Cx) (E : XK) (cls : Value) (e : Expr) (ρ : Rho) (f : Option (Option D)) : Prop := (∀ d, f = some (some d) → Ev X e ρ (.val d)) ∧ (f = some none → EvR X E cls e ρ)
/-- the first that raises ends it -/
def bX {α β : Type} (f : Option (Option α)) (g : α → Option (Option β)) : Option (Option β) := bnd f fun o => match o with
  | some a => g a
  | none => some none
def okX {α : Type} (f : Option α) : Option (Option α) := bnd f fun a => some (some a)
theorem okX_inv {α : Type} {f : Option α} {o : Option α} (h : okX f = some o) : ∃ a, f = some a ∧ o = some a := by
  obtain ⟨a, h1, h2⟩ := bnd_inv h
  cases h2
  exact ⟨a, h1, rfl⟩
theorem bX_inv {α β : Type} {f : Option (Option α)} {g : α → Option (Option β)} {o : Option β} (h : bX f g = some o) : (f = some none ∧ o = none) ∨ ∃ a, f = some (some a) ∧ g a = some o := by
  obtain ⟨a, h1, h2⟩ := bnd_inv h
  cases a with
  | none => cases h2; exact .inl ⟨h1, rfl⟩
  | some a => exact .inr ⟨a, h1, h2⟩
theorem ex_o {f : Option D} (h : Eo X e ρ f) : EoX X E cls e ρ (okX f) := ⟨fun d z => by
  obtain ⟨a, h1, h2⟩ := okX_inv z
  cases h2
  exact h d h1, fun z => by
  obtain ⟨a, h1, h2⟩ := okX_inv z
  cases h2⟩
theorem ex_call {fn : String} {m : List D → Option (Option D)} (tk : Takes X (fun c d _ H => E c d H)) (M : FrX X.prog X.w X.K X.mg X.base fn kk (SpDX X.K cls m)) (hr : Room kk X.A) {r : Option (List D)} (ha : Ao X (e :: es) ρ r) (hg : Gl X (Str.ofString fn) := by rfl) (hdb : (Str.ofString fn == ("__debug__" : Str)) = false := by decide) (hst : starEach (e :: es) X.env = (false, eval e X.env) :: starEach es X.env := by rfl) (hpl : (backTo pos (starEach es X.env)).any (·.1) = false := by rfl) :
    EoX X E cls (.Call (.Name (Str.ofString fn) p) (e :: es) [] pos) ρ (bnd r m) := by
  obtain ⟨f, fd, ps, F, hm, hk, hb⟩ := M.h
  refine ⟨fun d z => ?_, fun z => ?_⟩
  · obtain ⟨ds, z1, z2⟩ := bnd_inv z
    intro σ H Q S q'
    refine ⟨_, pe_call F hr hg hm hk hb .nil (passes_call tk (fun _ _ _ _ h => h)) pa_c hdb hst hpl, ha ds z1 σ H _ S fun us H2 s2 r2 => ?_⟩
    rw [List.append_nil]
    exact ⟨ds, some d, r2, z2, fun d' e' v H' s' rp => by cases e'; exact q' v H' ⟨s2.trans s', rp⟩, fun z => nomatch z⟩
  · obtain ⟨ds, z1, z2⟩ := bnd_inv z
    intro σ H Q S q'
    refine ⟨_, pe_call F hr hg hm hk hb .nil (passes_call tk (fun _ _ _ _ h => h)) pa_c hdb hst hpl, ha ds z1 σ H _ S fun us H2 s2 r2 => ?_⟩
    rw [List.append_nil]
    exact ⟨ds, none, r2, z2, fun d' e' => (nomatch e'), fun _ H' s' => q' H' (s2.trans s')⟩
theorem ex_bin {op : Operator} {F : D → D → Option D} {f g : Option (Option D)} (o : OpF X (binaryOp op) F) (ha : EoX X E cls a ρ f) (hb : EoX X E cls b ρ g) : EoX X E cls (.BinOp a op b pos) ρ (bX f fun x => bX g fun y => okX (F x y)) := by
  refine ⟨fun d z => ?_, fun z => ?_⟩
  · rcases bX_inv z with ⟨_, z⟩ | ⟨x, h1, z⟩
    · cases z
    rcases bX_inv z with ⟨_, z⟩ | ⟨y, h2, z⟩
    · cases z
    obtain ⟨v, h3, h4⟩ := okX_inv z
    cases h4
    have e1 : Eo X a ρ (some x) := fun d z => by cases z; exact ha.1 _ h1
    have e2 : Eo X b ρ (some y) := fun d z => by cases z; exact hb.1 _ h2
    exact eo_bin o e1.u e2.u d (by rw [op2_some]; exact h3)
  · rcases bX_inv z with ⟨h1, _⟩ | ⟨x, h1, z⟩
    · intro σ H Q S q'
      exact ⟨_, pe_op op_c pe_c pe_c, ha.2 h1 σ H _ S q'⟩
    rcases bX_inv z with ⟨h2, _⟩ | ⟨y, h2, z⟩
    · intro σ H Q S q'
      refine ⟨_, pe_op op_c pe_c pe_c, ha.1 x h1 σ H _ S fun v H' ⟨s1, r1⟩ => hb.2 h2 σ H' _ (S.mono s1) fun H'' s2 => q' H'' (s1.trans s2)⟩
    · obtain ⟨v, h3, h4⟩ := okX_inv z
      cases h4
end
end DL


/-! Things in things of one's own; a slot put by while others change. -/
namespace DL
open PySem PySem.Spec PyProof.Rows L2
/-! ### a slot put by -/
open Classical in
noncomputable def Ent.lockd (E : Ent) (H : Hp) (L : List Addr) : Ent := ⟨fun b => if b ∈ L then H b else E.H b, fun b => b ∉ L ∧ E.W b⟩
section
variable {K : PySem.W.Frag} {H0 : Ent} {H1 H H' : Hp} {ρ ρ' : Rho} {σ : L2.St} {L : List Addr}
theorem lockd_in {x : Addr} (h : x ∈ L) : (H0.lockd H L).H x = H x := by unfold Ent.lockd; simp [h]
theorem lockd_out {x : Addr} (h : x ∉ L) : (H0.lockd H L).H x = H0.H x := by unfold Ent.lockd; simp [h]
/-- addresses that no slot has are kept by what follows -/
theorem SK.lockd (S : SK K H0 H1 ρ σ H) (far : ∀ (i : Nat) b v M x, ρ[i]? = some b → σ[i]? = some (some v) → Own K H v b M → x ∈ M → x ∉ L) (nt : ∀ x ∈ L, ∀ ps, H x ≠ some (.tbl ps)) : SK K (H0.lockd H L) H1 ρ σ H := by
  refine ⟨fun b o e w => ?_, S.stb, S.ok, fun i b v M x e es o hx => ?_, fun i T e b ps hb => ?_⟩
  · by_cases c : b ∈ L
    · rw [lockd_in c] at e; exact e
    · rw [lockd_out c] at e
      exact S.same b o e fun z => w ⟨c, z⟩
  · have c := far i b v M x e es o hx
    rw [lockd_out c]
    rcases S.fr i b v M x e es o hx with z | z
    · exact .inl z
    · exact .inr ⟨c, z⟩
  · by_cases c : b ∈ L
    · rw [lockd_in c] at hb; exact absurd hb (nt b c ps)
    · rw [lockd_out c] at hb
      exact ⟨c, S.tb i T e b ps hb⟩
theorem lockd_kept (S : SK K (H0.lockd H L) H1 ρ' σ H') : ∀ x ∈ L, ∀ o, H x = some o → H' x = some o := fun x hx o e => S.same x o (by rw [lockd_in hx]; exact e) fun w => w.1 hx
theorem lockd_far (S : SK K (H0.lockd H L) H1 ρ' σ H') (st : ∀ x ∈ L, ∃ o, H x = some o) : ∀ (i : Nat) b v M x, ρ'[i]? = some b → σ[i]? = some (some v) → Own K H' v b M → x ∈ M → x ∉ L := fun i b v M x e es o hx c => by
  rcases S.fr i b v M x e es o hx with z | z
  · obtain ⟨u, hu⟩ := st x c
    rw [lockd_in c, hu] at z
    cases z
  · exact z.1 c
theorem SK.unlockd (S : SK K (H0.lockd H L) H1 ρ' σ H') (st : ∀ x ∈ L, ∃ o, H x = some o) (fr : ∀ x ∈ L, H0.H x = none ∨ H0.W x) : SK K H0 H1 ρ' σ H' := by
  refine ⟨fun b o e w => ?_, S.stb, S.ok, fun i b v M x e es o hx => ?_, fun i T e b ps hb => ?_⟩
  · have c : b ∉ L := fun c => by
      rcases fr b c with z | z
      · rw [z] at e; cases e
      · exact w z
    exact S.same b o (by rw [lockd_out c]; exact e) fun z => w z.2
  · have c := lockd_far S st i b v M x e es o hx
    rcases S.fr i b v M x e es o hx with z | z
    · rw [lockd_out c] at z; exact .inl z
    · exact .inr z.2
  · have c : b ∉ L ∨ b ∈ L := by
      by_cases c : b ∈ L
      · exact .inr c
      · exact .inl c
    rcases c with c | c
    · exact (S.tb i T e b ps (by rw [lockd_out c]; exact hb)).2
    · rcases fr b c with z | z
      · rw [z] at hb; cases hb
      · exact z
/-- a slot is put by -/
theorem SK.hide (S : SK K H0 H1 ρ σ H) {j : Nat} {b0 : B} {v0 : V} (hj : ρ[j]? = some b0) (e1 : σ[j]? = some (some v0)) (o0 : Own K H v0 b0 L) (nb : ∀ T, b0 ≠ .tab T) : SK K (H0.lockd H L) H1 (ρ.set j .un) σ H := by
  have W : SK K H0 H1 (ρ.set j .un) σ H := S.weak (by rw [List.length_set]; exact S.ok.len) fun i b e n => by
    by_cases c : i = j
    · subst c
      by_cases hl : i < ρ.length
      · rw [List.getElem?_set_self hl] at e; cases e; exact absurd rfl n
      · rw [List.getElem?_eq_none (by rw [List.length_set]; omega)] at e; cases e
    · rw [List.getElem?_set_ne (Ne.symm c)] at e
      exact ⟨e, rfl⟩
  refine W.lockd (fun i b v M x e es o hx c => ?_) fun x hx ps => own_notbl o0 nb hx
  by_cases ij : i = j
  · subst ij
    by_cases hl : i < ρ.length
    · rw [List.getElem?_set_self hl] at e; cases e; cases o
    · rw [List.getElem?_eq_none (by rw [List.length_set]; omega)] at e; cases e
  · rw [List.getElem?_set_ne (Ne.symm ij)] at e
    exact ij (S.ok.apart i j b b0 v v0 M L x e hj es e1 o o0 hx c)
/-- .. and taken again -/
theorem SK.unhide (S0 : SK K H0 H1 ρ σ H) {j : Nat} {b0 : B} {v0 : V} (hj : ρ[j]? = some b0) (e1 : σ[j]? = some (some v0)) (o0 : Own K H v0 b0 L) (nb : ∀ T, b0 ≠ .tab T) (st : Stb H H') (S : SK K (H0.lockd H L) H1 ρ' σ H') : Own K H' v0 b0 L ∧ SK K H0 H1 (ρ'.set j b0) σ H' := by
  have stands : ∀ x ∈ L, ∃ o, H x = some o := fun x hx => let ⟨o, h, _⟩ := o0.stands x hx; ⟨o, h⟩
  have kept := lockd_kept S
  have far := lockd_far S stands
  have fr : ∀ x ∈ L, H0.H x = none ∨ H0.W x := fun x hx => S0.fr j b0 v0 L x hj e1 o0 hx
  have U := S.unlockd stands fr
  have o1 := o0.mono st kept
  have hl : j < ρ'.length := by
    rw [S.ok.len]
    rcases Nat.lt_or_ge j σ.length with h | h
    · exact h
    · rw [List.getElem?_eq_none h] at e1; cases e1
  refine ⟨o1, U.same, U.stb, ?_, fun i b v M x e es o hx => ?_, fun i T e => U.tb i T (tb_set nb e)⟩
  · have T := U.ok.take hl o1 fun i c w M x n e es ow m => far i c w M x e es ow m
    have es : σ.set j (some v0) = σ := by
      apply List.ext_getElem?
      intro i
      by_cases c : i = j
      · subst c
        have hs : i < σ.length := by rw [← S.ok.len]; exact hl
        rw [List.getElem?_set_self hs]; exact e1.symm
      · rw [List.getElem?_set_ne (Ne.symm c)]
    rw [es] at T
    exact T
  · by_cases c : i = j
    · subst c
      rw [List.getElem?_set_self hl] at e
      cases e
      rw [e1] at es
      cases es
      rw [o.det o1] at hx
      exact fr x hx
    · rw [List.getElem?_set_ne (Ne.symm c)] at e
      exact U.fr i b v M x e es o hx
end
/-! ### things in things -/
section
variable {K : PySem.W.Frag} {H H' : Hp}
theorem TrsOk.len : ∀ {xs : List V} {ts : List Tr} {L : List Addr}, TrsOk K H xs ts L → xs.length = ts.length
  | _, _, _, .nil => rfl
  | _, _, _, .cons _ b => congrArg (· + 1) (TrsOk.len b)
theorem TrsOk.get : ∀ {xs : List V} {ts : List Tr} {L : List Addr} {i : Nat} {t : Tr}, TrsOk K H xs ts L → L.Nodup → ts[i]? = some t → ∃ v M, xs[i]? = some v ∧ TrOk K H v t M ∧ M.Nodup ∧ ∀ p ∈ M, p ∈ L
  | _, _, _, _, _, .nil, _, e => by simp at e
  | _, _, _, 0, _, .cons (L := L) a _, nd, e => by
    simp at e; subst e
    exact ⟨_, _, rfl, a, (nd_split nd).1, fun p hp => List.mem_append_left _ hp⟩
  | _, _, _, i + 1, t, .cons _ b, nd, e => by
    obtain ⟨v, M, h1, h2, h3, h4⟩ := TrsOk.get (i := i) (t := t) b (nd_split nd).2.1 (by simpa using e)
    exact ⟨v, M, by simpa using h1, h2, h3, fun p hp => List.mem_append_right _ (h4 p hp)⟩
/-- one of them is changed -/
theorem TrsOk.chg (st : Stb H H') : ∀ {xs : List V} {ts : List Tr} {L : List Addr} {i : Nat} {v : V} {t t' : Tr} {M M' : List Addr}, TrsOk K H xs ts L → L.Nodup → xs[i]? = some v → ts[i]? = some t → TrOk K H v t M → (∀ x ∈ L, x ∉ M → ∀ o, H x = some o → H' x = some o) →
    TrOk K H' v t' M' → M'.Nodup → (∀ x ∈ M', x ∈ M ∨ H x = none ∨ ∃ ps, H x = some (.tbl ps)) → ∃ L', TrsOk K H' xs (ts.set i t') L' ∧ L'.Nodup ∧ ∀ x ∈ L', (x ∈ L ∧ x ∉ M) ∨ x ∈ M'
  | _, _, _, i, _, _, _, _, _, .nil, _, e, _, _, _, _, _, _ => by simp at e
  | _, _, _, 0, v, t, t', M, M', .cons (L := L) (M := N) a b, nd, e, et, hM, kp, hM', nd', sub => by
    simp at e et
    subst e et
    have eL : L = M := a.det hM
    subst eL
    obtain ⟨n1, n2, n3⟩ := nd_split nd
    have b' : TrsOk K H' _ _ N := b.mono st fun x hx => kp x (List.mem_append_right _ hx) fun z => n3 x z hx
    refine ⟨_, .cons hM' b', ?_, fun x hx => ?_⟩
    · rw [List.nodup_append]
      refine ⟨nd', n2, fun x hx y hy e => ?_⟩
      subst e
      obtain ⟨o, h1, _, h3⟩ := b.stands x hy
      rcases sub x hx with z | z | ⟨ps, z⟩
      · exact n3 x z hy
      · rw [z] at h1; cases h1
      · rw [z] at h1; cases h1; exact h3 _ rfl
    · rcases List.mem_append.mp hx with z | z
      · exact .inr z
      · exact .inl ⟨List.mem_append_right _ z, fun y => n3 x y z⟩
  | _, _, _, i + 1, v, t, t', M, M', .cons (L := L) (M := N) a b, nd, e, et, hM, kp, hM', nd', sub => by
    obtain ⟨n1, n2, n3⟩ := nd_split nd
    have e' := (List.getElem?_cons_succ).symm.trans e
    have et' := (List.getElem?_cons_succ).symm.trans et
    have sM : ∀ p ∈ M, p ∈ N := by
      obtain ⟨v2, M2, h1, h2, _, h3⟩ := TrsOk.get b n2 et'
      rw [e'] at h1
      cases h1
      rw [hM.det h2]
      exact h3
    obtain ⟨L', h1, h2, h3⟩ := TrsOk.chg st b n2 e' et' hM (fun x hx => kp x (List.mem_append_right _ hx)) hM' nd' sub
    have a' : TrOk K H' _ _ L := a.mono st fun x hx => kp x (List.mem_append_left _ hx) fun z => n3 x hx (sM x z)
    refine ⟨_, .cons a' h1, ?_, fun x hx => ?_⟩
    · rw [List.nodup_append]
      refine ⟨n1, h2, fun x hx y hy e => ?_⟩
      subst e
      rcases h3 x hy with ⟨z, _⟩ | z
      · exact n3 x hx z
      · obtain ⟨o, h4, _, h5⟩ := a.stands x hx
        rcases sub x z with y | y | ⟨ps, y⟩
        · exact n3 x hx (sM x y)
        · rw [y] at h4; cases h4
        · rw [y] at h4; cases h4; exact h5 _ rfl
    · rcases List.mem_append.mp hx with z | z
      · exact .inl ⟨List.mem_append_left _ z, fun y => n3 x z (sM x y)⟩
      · rcases h3 x z with ⟨y1, y2⟩ | y
        · exact .inl ⟨List.mem_append_right _ y1, y2⟩
        · exact .inr y
theorem SOk.tr {ρ : Rho} {σ : L2.St} (S : SOk K ρ σ H) {i : Nat} {ts : List Tr} (e : ρ[i]? = some (.tr (.lst ts))) : ∃ a xs L, σ[i]? = some (some (.ref a)) ∧ H a = some (.lst xs) ∧ TrsOk K H xs ts L ∧ (a :: L).Nodup := by
  obtain ⟨v, L, e1, o⟩ := S.has i _ e rfl
  cases o with
  | tr r n =>
    cases r with
    | lst h r => exact ⟨_, _, _, e1, h, r, n⟩
theorem trs_vals : ∀ {xs : List V} {ds : List D} {L : List Addr}, TrsOk K H xs (ds.map .val) L → RpAll K H xs ds ∧ L = []
  | _, [], _, h => by cases h; exact ⟨.nil, rfl⟩
  | _, d :: ds, _, h => by
    cases h with
    | cons a b =>
      cases a with
      | val r =>
        obtain ⟨h1, h2⟩ := trs_vals b
        exact ⟨.cons r h1, h2⟩
theorem trs_of : ∀ {xs : List V} {ds : List D}, RpAll K H xs ds → TrsOk K H xs (ds.map .val) []
  | _, _, .nil => .nil
  | _, _, .cons r t => .cons (.val r) (trs_of t)
end
/-! ### places -/
section
variable {α β : Type}
def atD (l : List α) : D → Option α
  | .int i => atI l i
  | _ => none
def setD (l : List α) (x : D) (a : α) : List α := match x with
  | .int i => match ixN l.length i with
    | some j => l.set j a
    | none => l
  | _ => l
theorem atD_inv {l : List α} {x : D} {a : α} (h : atD l x = some a) : ∃ i j, x = .int i ∧ ixN l.length i = some j ∧ l[j]? = some a := by
  unfold atD at h
  split at h
  · rename_i i
    unfold atI at h
    cases e : ixN l.length i with
    | none => rw [e] at h; cases h
    | some j => rw [e] at h; exact ⟨i, j, rfl, e, h⟩
  · cases h
theorem setD_eq {l : List α} {i : Int} {j : Nat} (h : ixN l.length i = some j) (a : α) : setD l (.int i) a = l.set j a := by
  simp only [setD, h]
theorem atI_mapL {f : α → β} {l : List α} {i : Int} {j : Nat} {a : α} (h : ixN l.length i = some j) (e : l[j]? = some a) : atI (l.map f) i = some (f a) := by
  unfold atI
  rw [List.length_map, h]
  show (l.map f)[j]? = _
  rw [List.getElem?_map, e]; rfl
end
/-- lists of data; objects -/
def lol (l : List (List D)) : Tr := .lst (l.map fun ds => .lst (ds.map .val))
def lob {U : Type} (C : Addr) (e0 : U → FL) (l : List U) : Tr := .lst (l.map fun s => .obj C (e0 s))
section
variable {X : Cx} {ρ : Rho} {e a b : Expr} {es : List Expr} {f g : Option D} {S U : Type} {enc : S → Rho} {p pos apos : Pos} {s : String} {i : Nat} {C q : Addr} {kk : Nat} {TL : TabL} {x : Str}
/-! ### y[b] of lists of data -/
theorem eu_lix {y : String} {j : Nat} {l : List (List D)} {p2 : Pos} (hsl : Sl X.N y j) (hb : Eo X b ρ f) (hj : ρ[j]? = some (.tr (lol l)) := by rfl) (hv : Vis X.env.scope (Str.ofString y) := by first | exact Or.inl rfl | exact Or.inr (Or.inl rfl) | exact Or.inr (Or.inr rfl)) (hs : PlainIx b := by exact fun _ _ => rfl) : Eu X (.Subscript (.Name (Str.ofString y) p2) b pos) ρ (bnd f fun x => bnd (atD l x) fun ds => some (.list ds)) := fun d z => by
  obtain ⟨x, z1, z⟩ := bnd_inv z
  obtain ⟨ds, z2, z3⟩ := bnd_inv z
  cases z3
  obtain ⟨k, n, rfl, h1, h2⟩ := atD_inv z2
  intro σ H Q S qk
  obtain ⟨a, xs, L, e1, e2, r, nd⟩ := S.tr hj
  refine ⟨_, pe_ix ix_list (pe_var hsl.h hv hsl.d hsl.c) pe_c hs, _, e1, hb _ z1 σ H _ S fun v H2 ⟨s2, r2⟩ => ?_⟩
  have ev := (Rq.of r2).int
  subst ev
  obtain ⟨v, M, g1, g2, g3, g4⟩ := r.get (List.nodup_cons.mp nd).2 (t := .lst (ds.map .val)) (by rw [List.getElem?_map, h2]; rfl)
  have len := r.len
  rw [List.length_map] at len
  refine ⟨a, xs, k, v, rfl, rfl, .inl (.inl (s2 _ _ e2)), ?_, qk v H2 ⟨s2, ?_⟩⟩
  · unfold atI
    rw [len, h1]
    exact g1
  · cases g2 with
    | lst h r' =>
      obtain ⟨h3, _⟩ := trs_vals r'
      exact .own (s2 _ _ h) (h3.mono (.of s2))
/-! ### y[b].m() of objects, which only reads -/
theorem eo_methI {e0 : U → FL} {m : U → Option D} {j : Nat} {y : String} {p2 p3 : Pos} (l : List U) (M : Mr X.prog X.w X.K X.mg X.base C x kk (SpR X.K C e0 (a0 m))) (hr : Room kk X.A) (cl : Cls X.K C) (hsl : Sl X.N y j) (hb : Eo X b ρ f) (hj : ρ[j]? = some (.tr (lob C e0 l)) := by rfl) (nm : ∀ st, (e0 st).lookup x = none := by intro _; rfl) (hv : Vis X.env.scope (Str.ofString y) := by first | exact Or.inl rfl | exact Or.inr (Or.inl rfl) | exact Or.inr (Or.inr rfl)) (hs : PlainIx b := by exact fun _ _ => rfl) {pl : Sem Bool}
    (ht : eval (.Call (.Attribute (.Subscript (.Name (Str.ofString y) p2) b p3) x apos) [] [] pos) X.env = (do
      let ov ← eval (.Subscript (.Name (Str.ofString y) p2) b p3) X.env
      standAt apos.atName
      let (f, first) ← holding [ov] (getMethod ov x pl)
      callWith pos f first (backTo pos (starEach [] X.env)) (backToKw pos (keywordEach [] X.env))) := by rfl) : Eo X (.Call (.Attribute (.Subscript (.Name (Str.ofString y) p2) b p3) x apos) [] [] pos) ρ (bnd f fun x => bnd (atD l x) m) := fun d z => by
  obtain ⟨x, z1, z⟩ := bnd_inv z
  obtain ⟨st, z2, z3⟩ := bnd_inv z
  obtain ⟨k, n, rfl, h1, h2⟩ := atD_inv z2
  intro σ H Q S qk
  obtain ⟨a, xs, L, e1, e2, r, nd⟩ := S.tr hj
  obtain ⟨f, fd, ps, F, hm, hbd⟩ := M.h
  refine ⟨_, pe_meth0 (pe_ix ix_list (pe_var hsl.h hv hsl.d hsl.c) pe_c hs) cl hm F hr hbd .nil pass0 (pl := pl) ht, _, e1, hb _ z1 σ H _ S fun v H2 ⟨s2, r2⟩ => ?_⟩
  have ev := (Rq.of r2).int
  subst ev
  obtain ⟨v, M', g1, g2, g3, g4⟩ := r.get (List.nodup_cons.mp nd).2 (t := .obj C (e0 st)) (by rw [List.getElem?_map, h2]; rfl)
  have len := r.len
  rw [List.length_map] at len
  refine ⟨a, xs, k, v, rfl, rfl, .inl (.inl (s2 _ _ e2)), ?_, ?_⟩
  · unfold atI
    rw [len, h1]
    exact g1
  · cases g2 with
    | obj h r' =>
      refine ⟨_, _, _, rfl, s2 _ _ h, r'.no (nm st), _, [], st, [], d, _, rfl, .ins (s2 _ _ h) (r'.mono (.of s2) fun x hx o ho => s2 x o ho) g3, .nil, z3, fun v' H' s' rr => qk v' H' ⟨s2.trans s', rr⟩⟩
/-! ### f(y[b], ..), which may change the object -/
theorem em_fnTI {e0 : U → FL} {enc : List U → Rho} {m : U → List D → Option (D × U)} {fn y : String} {p2 p3 : Pos} (g j : Nat) (l : List U) (M : Fr X.prog X.w X.K X.mg X.base fn kk (SpMT X.K C TL e0 m)) (hr : Room kk X.A) (hsl : Sl X.N y j) (hb : Eo X b ρ f) {r : Option (List D)} (ha : Ao X es ρ r) (one : ∀ (i : Nat) T', ρ[i]? = some (.tab T') → i = g) (hg' : ρ[g]? = some (.tab TL) := by rfl) (hj : ρ[j]? = some (.tr (lob C e0 l)) := by rfl) (henc : ∀ t, enc t = ρ.set j (.tr (lob C e0 t)) := by intro _; rfl) (hv : Vis X.env.scope (Str.ofString y) := by first | exact Or.inl rfl | exact Or.inr (Or.inl rfl) | exact Or.inr (Or.inr rfl)) (hs : PlainIx b := by exact fun _ _ => rfl)
    (hg : Gl X (Str.ofString fn) := by rfl) (hdb : (Str.ofString fn == ("__debug__" : Str)) = false := by decide) (hst : starEach (.Subscript (.Name (Str.ofString y) p2) b p3 :: es) X.env = (false, eval (.Subscript (.Name (Str.ofString y) p2) b p3) X.env) :: starEach es X.env := by rfl) (hpl : (backTo pos (starEach es X.env)).any (·.1) = false := by rfl) :
    Em X (.Call (.Name (Str.ofString fn) p) (.Subscript (.Name (Str.ofString y) p2) b p3 :: es) [] pos) ρ enc (bnd f fun x => bnd (atD l x) fun st => bnd (bnd r (m st)) fun q => some (q.1, setD l x q.2)) := fun r' z => by
  obtain ⟨x, z1, z⟩ := bnd_inv z
  obtain ⟨st, z2, z⟩ := bnd_inv z
  obtain ⟨u, z3, z4⟩ := bnd_inv z
  obtain ⟨ds, z5, z6⟩ := bnd_inv z3
  cases z4
  obtain ⟨k, n, rfl, h1, h2⟩ := atD_inv z2
  intro H0 H1 σ H Q Sk q'
  obtain ⟨f, fd, ps, F, hm, hk, hbd⟩ := M.h
  obtain ⟨a, xs, L, e1, e2, rt, nd⟩ := Sk.ok.tr hj
  refine ⟨_, pe_call F hr hg hm hk hbd .nil pass0 (pa_cons (pe_ix ix_list (pe_var hsl.h hv hsl.d hsl.c) pe_c hs) pa_c hst) hdb hst hpl, _, e1, hb _ z1 σ H _ Sk.ok fun v H2 ⟨s2, r2⟩ => ?_⟩
  have ev := (Rq.of r2).int
  subst ev
  obtain ⟨ndA, ndL⟩ := List.nodup_cons.mp nd
  have et : (l.map fun s => Tr.obj C (e0 s))[n]? = some (.obj C (e0 st)) := by rw [List.getElem?_map, h2]; rfl
  obtain ⟨v, M', g1, g2, g3, g4⟩ := rt.get ndL et
  have len := rt.len
  rw [List.length_map] at len
  refine ⟨a, xs, k, v, rfl, rfl, .inl (.inl (s2 _ _ e2)), ?_, ha ds z5 σ H2 _ (Sk.mono s2).ok fun us H3 s3 r3 => ?_⟩
  · unfold atI
    rw [len, h1]
    exact g1
  have s23 := s2.trans s3
  have S3 := (Sk.mono s2).mono s3
  have g2' : TrOk X.K H3 v (.obj C (e0 st)) M' := g2.mono (.of s23) fun x _ o ho => s23 x o ho
  have rt3 : TrsOk X.K H3 xs (l.map fun s => Tr.obj C (e0 s)) L := rt.mono (.of s23) fun x _ o ho => s23 x o ho
  have o3 : Own X.K H3 (.ref a) (.tr (lob C e0 l)) (a :: L) := .tr (.lst (s23 _ _ e2) rt3) nd
  obtain ⟨v0, L0, y1, y2⟩ := S3.ok.has g _ hg' rfl
  have hT : LamX.Tabs TL H3 := by cases y2; assumption
  cases g2' with
  | @obj a' _ dx vs _ M2 h r' =>
    show SpMT X.K C TL e0 m ((V.ref a' :: us) ++ []) H3 Q E0
    rw [List.append_nil]
    refine ⟨_, us, st, ds, u.1, u.2, _, rfl, .ins h r' g3, r3, z6, hT, fun w H' L1 st' kp t' o1 hL rp => q' w H' ?_ ((Stb.of s23).trans st') rp⟩
    rw [henc]
    cases o1 with
    | @ins _ _ dx' vs' _ L1' h' r1 n1 =>
      obtain ⟨L', c1, c2, c3⟩ := TrsOk.chg st' (t' := .obj C (e0 u.2)) rt3 ndL g1 et (.obj h r') (fun x hx nx o ho => by
        obtain ⟨o', q1, _, q3⟩ := rt3.stands x hx
        rw [ho] at q1
        cases q1
        exact kp x o ho nx q3) (.obj h' r1) n1 hL
      have e3 := s23 _ _ e2
      have na : a ∉ a' :: M2 := fun z => ndA (g4 a z)
      have ea : H' a = some (.lst xs) := kp a _ e3 na fun ps z => by cases z
      have es : lob C e0 (setD l (.int k) u.2) = .lst ((l.map fun s => Tr.obj C (e0 s)).set n (.obj C (e0 u.2))) := by
        rw [setD_eq h1]
        unfold lob
        rw [List.map_set]
      have nd' : (a :: L').Nodup := by
        rw [List.nodup_cons]
        refine ⟨fun z => ?_, c2⟩
        rcases c3 a z with ⟨y, _⟩ | y
        · exact ndA y
        · rcases hL a y with w | w | ⟨ps, w⟩
          · exact na w
          · rw [e3] at w; cases w
          · rw [e3] at w; cases w
      have oN : Own X.K H' (.ref a) (.tr (lob C e0 (setD l (.int k) u.2))) (a :: L') := by
        rw [es]
        exact .tr (.lst ea c1) nd'
      refine S3.chgTM hj e1 o3 hg' one (fun _ z => by cases z) st' (fun x o ho nx nt => ?_) t' oN (fun x hx => ?_) (fun _ z => by cases z)
      · exact kp x o ho (fun z => nx (List.mem_cons_of_mem _ (g4 x z))) nt
      · rcases List.mem_cons.mp hx with rfl | z
        · exact .inl List.mem_cons_self
        · rcases c3 x z with ⟨y, _⟩ | y
          · exact .inl (List.mem_cons_of_mem _ y)
          · rcases hL x y with w | w
            · exact .inl (List.mem_cons_of_mem _ (g4 x w))
            · exact .inr w
end
end DL


/-! Things in things are made, lengthened; comprehensions that change objects. -/
namespace DL
open PySem PySem.Spec PyProof.Rows L2
/-! ### a new thing of things -/
def NtrV (X : Cx) (e : Expr) (ρ : Rho) (t : Tr) : Prop := ∀ σ H Q, SOk X.K ρ σ H → (∀ v H' L, Same H H' → TrOk X.K H' v t L → L.Nodup → (∀ x ∈ L, H x = none) → Q v H') → cE X e σ H Q
def NtrsV (X : Cx) (es : List Expr) (ρ : Rho) (ts : List Tr) : Prop := ∀ σ H Q, SOk X.K ρ σ H → (∀ vs H' L, Same H H' → TrsOk X.K H' vs ts L → L.Nodup → (∀ x ∈ L, H x = none) → Q vs H') → cA X es σ H Q
def Ntr (X : Cx) (e : Expr) (ρ : Rho) (f : Option Tr) : Prop := ∀ t, f = some t → NtrV X e ρ t
def Ntrs (X : Cx) (es : List Expr) (ρ : Rho) (f : Option (List Tr)) : Prop := ∀ t, f = some t → NtrsV X es ρ t
section
variable {R S U : Type} {X : Cx} {ρ : Rho} {Φ : R → DL.Fin} {e a b : Expr} {es : List Expr} {rest : List Stmt} {pos pos' : Pos} {f g : Option D} {enc : S → Rho}
theorem ntr_val (h : Eo X e ρ f) : Ntr X e ρ (bnd f fun d => some (.val d)) := fun t z => by
  obtain ⟨d, z1, z2⟩ := bnd_inv z
  cases z2
  exact fun σ H Q S q => h d z1 σ H Q S fun v H' ⟨s, r⟩ => q v H' [] s (.val r) .nil (fun _ z => nomatch z)
theorem ntrs_nil : Ntrs X [] ρ (some []) := fun t z => by
  cases z
  exact fun σ H Q S q => ⟨_, pa_nil, q [] H [] (.refl _) .nil .nil (fun _ z => nomatch z)⟩
theorem ntrs_cons {f : Option Tr} {g : Option (List Tr)} (h : Ntr X e ρ f) (h' : Ntrs X es ρ g) (hs : starEach (e :: es) X.env = (false, eval e X.env) :: starEach es X.env := by rfl) : Ntrs X (e :: es) ρ (bnd f fun t => bnd g fun ts => some (t :: ts)) := fun t z => by
  obtain ⟨t1, z1, z⟩ := bnd_inv z
  obtain ⟨t2, z2, z3⟩ := bnd_inv z
  cases z3
  exact fun σ H Q S q => ⟨_, pa_cons pe_c pa_c hs, h _ z1 σ H _ S fun v H1 L1 s1 r1 n1 d1 => h' _ z2 σ H1 _ (S.mono s1) fun vs H2 L2 s2 r2 n2 d2 => q _ H2 (L1 ++ L2) (s1.trans s2) (.cons (r1.mono (.of s2) fun x _ o ho => s2 x o ho) r2) (by
    rw [List.nodup_append]
    refine ⟨n1, n2, fun x hx y hy exy => ?_⟩
    subst exy
    obtain ⟨o, h1, _⟩ := r1.stands x hx
    rw [d2 x hy] at h1
    cases h1) fun x hx => by
      rcases List.mem_append.mp hx with z | z
      · exact d1 x z
      · exact s1.free (d2 x z)⟩
theorem ntr_lst {g : Option (List Tr)} (h : Ntrs X es ρ (bnd g fun ts => if ts.length ≤ 1000 then some ts else none)) : Ntr X (.List es pos) ρ (bnd (bnd g fun ts => if ts.length ≤ 1000 then some ts else none) fun ts => some (.lst ts)) := fun t z => by
  obtain ⟨ts, z1, z2⟩ := bnd_inv z
  cases z2
  intro σ H Q S q
  refine ⟨_, pe_lst pa_c, h ts z1 σ H _ S fun vs H1 L s1 r n d => ⟨?_, fun p hp => ?_⟩⟩
  · obtain ⟨ts', _, z3⟩ := bnd_inv z1
    split at z3
    · rename_i hl
      cases z3
      rw [r.len]
      exact Nat.le_of_lt (small1000 hl)
    · cases z3
  · have st : Same H1 (upd H1 p (.lst vs)) := same_new hp
    refine q _ _ (p :: L) (s1.trans st) (.lst upd_same (r.mono (.of st) fun x _ o ho => st x o ho)) (List.nodup_cons.mpr ⟨fun z => ?_, n⟩) fun x hx => ?_
    · obtain ⟨o, h1, _⟩ := r.stands p z
      rw [hp] at h1; cases h1
    · rcases List.mem_cons.mp hx with rfl | z
      · exact s1.free hp
      · exact d x z
theorem ntr_mk {cn : String} {p : Pos} {C fi : Addr} {kk : Nat} {fd : FuncData} {ps : List Str} {T : Type} {e1 : T → FL} {m : Unit → Option (D × T)} (M : Mk X.K C fi) (F : FnOk X.prog X.w X.K X.mg X.base CX0 kk fi fd ps (SpM X.K C (fun _ : Unit => []) e1 (a0 m))) (hbd : Binds X.K fd ps []) (hr : Room (kk + 1) X.A) (hm : X.mg (Str.ofString cn) = some (.ref C)) (hnon : ∀ r, m () = some r → r.1 = .none)
    (hg : Gl X (Str.ofString cn) := by rfl) (hdb : (Str.ofString cn == ("__debug__" : Str)) = false := by decide) : Ntr X (.Call (.Name (Str.ofString cn) p) [] [] pos) ρ (bnd (m ()) fun r => some (.obj C (e1 r.2))) := fun t z => by
  obtain ⟨u, z1, z2⟩ := bnd_inv z
  cases z2
  intro σ H Q S q
  refine ⟨_, pe_make0 M F hr hg hm hbd .nil pass0 hdb, mk_runs (X := X) (σ := σ) (C := C) (e1 := e1) (H := H) z1 (hnon u z1) fun y H' L1 s n o => ?_⟩
  cases o with
  | ins h r nd => exact q _ H' _ s (.obj h r) nd n
/-- x = a new thing of things -/
theorem so_newTr (i : Nat) {x : Str} {f : Option Tr} {G : Tr → Option R} (hN : X.N.Nodup) (he : Ntr X e ρ f) (h : ∀ t, So X rest (ρ.set i (.tr t)) Φ (G t)) (hi : X.N[i]? = some x := by rfl) (hx : Loc X.env.scope x := by first | exact Or.inl rfl | exact Or.inr rfl) (hs : swapsWith e (some (.Name x pos')) pos.line X.env = pure false := by rfl) (hf : X.fn x = true ∨ X.env.scope.names.lookup x = some .local := by first | exact .inl rfl | exact .inr rfl | assumption) :
    So X (.Assign [.Name x pos'] e pos :: rest) ρ Φ (bnd f G) := fun r z => by
  obtain ⟨t, z1, z2⟩ := bnd_inv z
  exact xs_cons fun H0 H1 σ H E S F => ⟨_, ps_set hN hi hx pe_c hs hf, he t z1 σ H _ S.ok fun v H' L s r' n d => F.nx _ _ _ (S.setNew s d (.tr r' n)) (h t r z2)⟩
/-! ### typed: lists of data, objects -/
theorem so_newLol (i : Nat) {x : Str} {l : List (List D)} {f : Option Tr} {G : Option R} (hN : X.N.Nodup) (he : Ntr X e ρ f) (hf' : f = some (lol l)) (h : So X rest (ρ.set i (.tr (lol l))) Φ G) (hi : X.N[i]? = some x := by rfl) (hx : Loc X.env.scope x := by first | exact Or.inl rfl | exact Or.inr rfl) (hs : swapsWith e (some (.Name x pos')) pos.line X.env = pure false := by rfl) (hf : X.fn x = true ∨ X.env.scope.names.lookup x = some .local := by first | exact .inl rfl | exact .inr rfl | assumption) :
    So X (.Assign [.Name x pos'] e pos :: rest) ρ Φ G := fun r z =>
  xs_cons fun H0 H1 σ H E S F => ⟨_, ps_set hN hi hx pe_c hs hf, he _ hf' σ H _ S.ok fun v H' L s r' n d => F.nx _ _ _ (S.setNew s d (.tr r' n)) (h r z)⟩
theorem ntr_e {p : Pos} : Ntr X (.List [] p) ρ (some (.lst [])) := fun t z => ntr_lst (g := some []) ntrs_nil t z
theorem ntr_nil3 {p1 p2 p3 : Pos} (s1 : starEach [.List [] p1, .List [] p2, .List [] p3] X.env = (false, eval (.List [] p1) X.env) :: starEach [.List [] p2, .List [] p3] X.env := by rfl) (s2 : starEach [.List [] p2, .List [] p3] X.env = (false, eval (.List [] p2) X.env) :: starEach [.List [] p3] X.env := by rfl) (s3 : starEach [.List [] p3] X.env = (false, eval (.List [] p3) X.env) :: starEach [] X.env := by rfl) : Ntr X (.List [.List [] p1, .List [] p2, .List [] p3] pos) ρ (some (lol [[], [], []])) := fun t z => by
  cases z
  exact ntr_lst (g := some [.lst [], .lst [], .lst []]) (fun ts zz => ntrs_cons ntr_e (ntrs_cons ntr_e (ntrs_cons ntr_e ntrs_nil s3) s2) s1 ts zz) _ rfl
/-- x = [C(), C(), C()] -/
theorem so_make3 (i : Nat) {x : Str} {cn : String} {p1 p2 p3 q1 q2 q3 : Pos} {C fi : Addr} {kk : Nat} {fd : FuncData} {ps : List Str} {T : Type} {e1 : T → FL} {m : Unit → Option (D × T)} {G : D × T → D × T → D × T → Option R} (hN : X.N.Nodup) (M : Mk X.K C fi) (F : FnOk X.prog X.w X.K X.mg X.base CX0 kk fi fd ps (SpM X.K C (fun _ : Unit => []) e1 (a0 m))) (hbd : Binds X.K fd ps []) (hr : Room (kk + 1) X.A) (hm : X.mg (Str.ofString cn) = some (.ref C)) (hnon : ∀ r, m () = some r → r.1 = .none)
    (h : ∀ u v w : D × T, So X rest (ρ.set i (.tr (lob C e1 [u.2, v.2, w.2]))) Φ (G u v w)) (hi : X.N[i]? = some x := by rfl) (hx : Loc X.env.scope x := by first | exact Or.inl rfl | exact Or.inr rfl) {lp : Pos} (hs : swapsWith (.List [.Call (.Name (Str.ofString cn) p1) [] [] q1, .Call (.Name (Str.ofString cn) p2) [] [] q2, .Call (.Name (Str.ofString cn) p3) [] [] q3] lp) (some (.Name x pos')) pos.line X.env = pure false := by rfl) (hf : X.fn x = true ∨ X.env.scope.names.lookup x = some .local := by first | exact .inl rfl | exact .inr rfl | assumption)
    (hg : Gl X (Str.ofString cn) := by rfl) (hdb : (Str.ofString cn == ("__debug__" : Str)) = false := by decide) (s1 : starEach [.Call (.Name (Str.ofString cn) p1) [] [] q1, .Call (.Name (Str.ofString cn) p2) [] [] q2, .Call (.Name (Str.ofString cn) p3) [] [] q3] X.env = (false, eval (.Call (.Name (Str.ofString cn) p1) [] [] q1) X.env) :: starEach [.Call (.Name (Str.ofString cn) p2) [] [] q2, .Call (.Name (Str.ofString cn) p3) [] [] q3] X.env := by rfl) (s2 : starEach [.Call (.Name (Str.ofString cn) p2) [] [] q2, .Call (.Name (Str.ofString cn) p3) [] [] q3] X.env = (false, eval (.Call (.Name (Str.ofString cn) p2) [] [] q2) X.env) :: starEach [.Call (.Name (Str.ofString cn) p3) [] [] q3] X.env := by rfl) (s3 : starEach [.Call (.Name (Str.ofString cn) p3) [] [] q3] X.env = (false, eval (.Call (.Name (Str.ofString cn) p3) [] [] q3) X.env) :: starEach [] X.env := by rfl) :
    So X (.Assign [.Name x pos'] (.List [.Call (.Name (Str.ofString cn) p1) [] [] q1, .Call (.Name (Str.ofString cn) p2) [] [] q2, .Call (.Name (Str.ofString cn) p3) [] [] q3] lp) pos :: rest) ρ Φ (bnd (m ()) fun u => bnd (m ()) fun v => bnd (m ()) fun w => G u v w) := fun r z => by
  obtain ⟨u, z1, z⟩ := bnd_inv z
  obtain ⟨v, z2, z⟩ := bnd_inv z
  obtain ⟨w, z3, z⟩ := bnd_inv z
  rw [z1] at z2 z3
  cases z2
  cases z3
  have k1 := ntr_mk (X := X) (ρ := ρ) (p := p1) (pos := q1) (cn := cn) M F hbd hr hm hnon hg hdb
  have k2 := ntr_mk (X := X) (ρ := ρ) (p := p2) (pos := q2) (cn := cn) M F hbd hr hm hnon hg hdb
  have k3 := ntr_mk (X := X) (ρ := ρ) (p := p3) (pos := q3) (cn := cn) M F hbd hr hm hnon hg hdb
  have kl : Ntr X (.List [.Call (.Name (Str.ofString cn) p1) [] [] q1, .Call (.Name (Str.ofString cn) p2) [] [] q2, .Call (.Name (Str.ofString cn) p3) [] [] q3] lp) ρ (some (lob C e1 [u.2, u.2, u.2])) := fun t zt => by
    refine ntr_lst (g := some [.obj C (e1 u.2), .obj C (e1 u.2), .obj C (e1 u.2)]) (fun ts zz => ntrs_cons k1 (ntrs_cons k2 (ntrs_cons k3 ntrs_nil s3) s2) s1 ts ?_) t zt
    rw [z1]
    exact zz
  exact xs_cons fun H0 H1 σ H E S F => ⟨_, ps_set hN hi hx pe_c hs hf, kl _ rfl σ H _ S.ok fun v' H' L s r' n d => F.nx _ _ _ (S.setNew s d (.tr r' n)) (h u u u r z)⟩
/-! ### y[b] = e, y a list of one's own -/
def lsetD (ds : List D) (x v : D) : Option (List D) := match x with
  | .int i => bnd (ixN ds.length i) fun j => some (ds.set j v)
  | _ => none
theorem RpAll.set {K : PySem.W.Frag} {H : Hp} : ∀ {xs : List V} {ds : List D} {j : Nat} {v : V} {d : D}, RpAll K H xs ds → Rp K H v d → RpAll K H (xs.set j v) (ds.set j d)
  | _, _, _, _, _, .nil, _ => .nil
  | _, _, 0, _, _, .cons _ t, r => .cons r t
  | _, _, _ + 1, _, _, .cons a t, r => .cons a (RpAll.set t r)
theorem so_lset (j : Nat) {y : String} {p2 tpos : Pos} {ds : List D} {G : List D → Option R} (hsl : Sl X.N y j) (hj : ρ[j]? = some (.own ds)) (hv : Vis X.env.scope (Str.ofString y)) (hb : Eo X b ρ f) (he : Eo X e ρ g) (h : ∀ ds', So X rest (ρ.set j (.own ds')) Φ (G ds'))
    (hs : swapsWithSole [.Subscript (.Name (Str.ofString y) p2) b tpos] e pos.line X.env = pure false := by rfl) (hw : swappedStores [.Subscript (.Name (Str.ofString y) p2) b tpos] e X.env = pure none := by rfl) (h1 : (assignEach [.Subscript (.Name (Str.ofString y) p2) b tpos] X.env).map (·.2) = [assign (.Subscript (.Name (Str.ofString y) p2) b tpos) X.env] := by rfl)
    (ha : ∀ v, assign (.Subscript (.Name (Str.ofString y) p2) b tpos) X.env v = (do
      let ov ← holding [v] (eval (.Name (Str.ofString y) p2) X.env)
      let iv ← holding [v, ov] (eval b X.env)
      standAt tpos
      holding [v, ov, iv] (setItem ov iv v)
      release [v, ov, iv] []) := by intro _; rfl) :
    So X (.Assign [.Subscript (.Name (Str.ofString y) p2) b tpos] e pos :: rest) ρ Φ (bnd (bnd g fun v => bnd f fun x => lsetD ds x v) G) := fun r z => by
  obtain ⟨ds', z1, z2⟩ := bnd_inv z
  obtain ⟨v, z3, z⟩ := bnd_inv z1
  obtain ⟨x, z4, z5⟩ := bnd_inv z
  unfold lsetD at z5
  split at z5
  · rename_i i
    obtain ⟨n, z6, z7⟩ := bnd_inv z5
    cases z7
    refine xs_cons fun H0 H1 σ H E S F => ?_
    obtain ⟨a, xs, e1, e2, rr⟩ := S.ok.own j ds hj
    refine ⟨_, ps_asg pe_c (pg_sub (pe_var hsl.h hv hsl.d hsl.c) pe_c set_list ha) hs hw h1, he v z3 σ H _ S.ok fun w H2 ⟨s2, r2⟩ => ⟨_, e1, hb _ z4 σ H2 _ (S.mono s2).ok fun u H3 ⟨s3, r3⟩ => ?_⟩⟩
    have ev := (Rq.of r3).int
    subst ev
    have e3 := s3 _ _ (s2 _ _ e2)
    have rr3 := rr.mono (.of (s2.trans s3))
    refine ⟨a, xs, i, n, rfl, rfl, e3, by rw [rr.length]; exact z6, F.nx _ _ _ (((S.mono s2).mono s3).write hj e1 (.own e3 rr3) e3 trivial ?_) (h _ r z2)⟩
    have st : Stb H3 (upd H3 a (.lst (xs.set n w))) := stb_upd e3 trivial
    exact .own upd_same ((rr3.mono st).set ((r2.mono (.of s3)).mono st))
  · cases z5
/-! ### y[b].append(e), where e changes other objects -/
theorem so_appLM (enc : S → Rho) (j : Nat) {y : String} {p2 p3 apos cpos : Pos} {l : List (List D)} {A : Option (D × S)} {G : List (List D) × S → Option R} (hsl : Sl X.N y j) (hj : ρ[j]? = some (.tr (lol l))) (hv : Vis X.env.scope (Str.ofString y)) (hb : Eo X b ρ f) (he : Em X e (ρ.set j .un) enc A) (h : ∀ q : List (List D) × S, So X rest ((enc q.2).set j (.tr (lol q.1))) Φ (G q)) (hbase : attributeBase (.Subscript (.Name (Str.ofString y) p2) b p3) "append" X.env (eval (.Subscript (.Name (Str.ofString y) p2) b p3) X.env) = eval (.Subscript (.Name (Str.ofString y) p2) b p3) X.env := by rfl)
    (hfew : ((backTo cpos (starEach [e] X.env)).all (fun x => !x.1) && (backToKw cpos (keywordEach [] X.env)).all (fun x => x.1.isSome)
      && decide ([e].length + ([] : List Keyword).length + (if ([] : List Keyword).isEmpty then 0 else 1) < 30)) = true := by rfl)
    (hline : (apos.endLine == cpos.line) = true := by rfl) (hs : starEach [e] X.env = (false, eval e X.env) :: starEach [] X.env := by rfl) (hplain : (backTo cpos (starEach [] X.env)).any (·.1) = false := by rfl) (hpl : PlainIx b := by exact fun _ _ => rfl)
    (hsw : swapsWith (.Call (.Attribute (.Subscript (.Name (Str.ofString y) p2) b p3) "append" apos) [e] [] cpos) none pos.line X.env = pure false := by rfl) :
    So X (.Expr (.Call (.Attribute (.Subscript (.Name (Str.ofString y) p2) b p3) "append" apos) [e] [] cpos) pos :: rest) ρ Φ (bnd (bnd f fun x => bnd (atD l x) fun ds => bnd A fun q => bnd (apL ds q.1) fun ds' => some (setD l x ds', q.2)) G) := fun r z => by
  obtain ⟨q0, z0, zG⟩ := bnd_inv z
  obtain ⟨x, z1, z⟩ := bnd_inv z0
  obtain ⟨ds, z2, z⟩ := bnd_inv z
  obtain ⟨u, z3, z⟩ := bnd_inv z
  obtain ⟨ds', z4, z5⟩ := bnd_inv z
  cases z5
  obtain ⟨z6, z7⟩ := lim_inv z4
  cases z7
  obtain ⟨k, n, rfl, h1, h2⟩ := atD_inv z2
  refine xs_cons fun H0 H1 σ H E Sk F => ?_
  obtain ⟨a, xs, L, e1, e2, rt, nd⟩ := Sk.ok.tr hj
  refine ⟨_, ps_expr (pe_bm PySem.F.plainAttrs_list PySem.F.slot_list_append PySem.F.type_list_append mt_append (pe_ix ix_list (pe_var hsl.h hv hsl.d hsl.c) pe_c hpl) (pa_cons pe_c pa_nil hs) hbase hfew hline hs hplain) hsw, _, e1, hb _ z1 σ H _ Sk.ok fun v H2 ⟨s2, r2⟩ => ?_⟩
  have ev := (Rq.of r2).int
  subst ev
  obtain ⟨ndA, ndL⟩ := List.nodup_cons.mp nd
  have et : (l.map fun ds => Tr.lst (ds.map .val))[n]? = some (.lst (ds.map .val)) := by rw [List.getElem?_map, h2]; rfl
  obtain ⟨v, M', g1, g2, g3, g4⟩ := rt.get ndL et
  have len := rt.len
  rw [List.length_map] at len
  have S2 := Sk.mono s2
  have rt2 : TrsOk X.K H2 xs (l.map fun ds => Tr.lst (ds.map .val)) L := rt.mono (.of s2) fun x _ o ho => s2 x o ho
  have o2 : Own X.K H2 (.ref a) (.tr (lol l)) (a :: L) := .tr (.lst (s2 _ _ e2) rt2) nd
  refine ⟨a, xs, k, v, rfl, rfl, .inl (.inl (s2 _ _ e2)), ?_, ?_⟩
  · unfold atI
    rw [len, h1]
    exact g1
  have g2' : TrOk X.K H2 v (.lst (ds.map .val)) M' := g2.mono (.of s2) fun x _ o ho => s2 x o ho
  cases g2' with
  | @lst a' ys _ M2 hl rl =>
    obtain ⟨ry, eM⟩ := trs_vals rl
    subst eM
    refine ⟨.inl ⟨rfl, _, .inl (.inl hl)⟩, ?_⟩
    refine he u z3 _ _ σ H2 _ (S2.hide hj e1 o2 (fun _ z => by cases z)) fun w H3 S3 st3 rw3 => ?_
    have kept := lockd_kept S3
    obtain ⟨o3, U3⟩ := S2.unhide hj e1 o2 (fun _ z => by cases z) st3 S3
    have am : a' ∈ a :: L := List.mem_cons_of_mem _ (g4 a' List.mem_cons_self)
    have hl3 := kept a' am _ hl
    have ha3 := kept a List.mem_cons_self _ (s2 _ _ e2)
    have rt3 : TrsOk X.K H3 xs (l.map fun ds => Tr.lst (ds.map .val)) L := rt2.mono st3 fun x hx => kept x (List.mem_cons_of_mem _ hx)
    have ry3 := ry.mono st3
    have st : Stb H3 (upd H3 a' (.lst (ys ++ [w]))) := stb_upd hl3 trivial
    have ne : a ≠ a' := fun z => ndA (z ▸ g4 a' List.mem_cons_self)
    obtain ⟨L', c1, c2, c3⟩ := TrsOk.chg st (t' := .lst ((ds ++ [u.1]).map .val)) (M' := [a']) rt3 ndL g1 et (.lst hl3 (trs_of ry3)) (fun x _ nx o ho => by rw [upd_ne (by simpa using nx)]; exact ho) (.lst upd_same (trs_of ((ry3.mono st).append (.cons (rw3.mono st) .nil)))) (by simp) (fun x hx => .inl (by simpa using hx))
    have es : lol (setD l (.int k) (ds ++ [u.1])) = .lst ((l.map fun ds => Tr.lst (ds.map .val)).set n (.lst ((ds ++ [u.1]).map .val))) := by
      rw [setD_eq h1]
      unfold lol
      rw [List.map_set]
    have nd' : (a :: L').Nodup := by
      rw [List.nodup_cons]
      refine ⟨fun z => ?_, c2⟩
      rcases c3 a z with ⟨y, _⟩ | y
      · exact ndA y
      · simp at y; exact ne y
    have oN : Own X.K (upd H3 a' (.lst (ys ++ [w]))) (.ref a) (.tr (lol (setD l (.int k) (ds ++ [u.1])))) (a :: L') := by
      rw [es]
      exact .tr (.lst (by rw [upd_ne ne]; exact ha3) c1) nd'
    have hj' : ((enc u.2).set j (.tr (lol l)))[j]? = some (.tr (lol l)) := by
      refine List.getElem?_set_self ?_
      rw [S3.ok.len]
      rcases Nat.lt_or_ge j σ.length with h | h
      · exact h
      · rw [List.getElem?_eq_none h] at e1; cases e1
    have fin := U3.chg hj' e1 (.tr (.lst ha3 rt3) nd) st (fun x q hx nx => by
      rw [upd_ne (fun zz => nx (by rw [zz]; exact am))]; exact hx) oN (fun x hx => .inl ?_)
    · rw [List.set_set] at fin
      refine ⟨a', ys, w, rfl, rfl, hl3, by rw [ry.length]; exact z6, F.nx _ _ _ fin (h _ r zG)⟩
    · rcases List.mem_cons.mp hx with rfl | z
      · exact List.mem_cons_self
      · rcases c3 x z with ⟨y, _⟩ | y
        · exact List.mem_cons_of_mem _ y
        · simp at y; rw [y]; exact am
end
end DL


/-! Raising expressions in tuples, statements; a list of rows that is lengthened in its depth. -/
namespace DL
open PySem PySem.Spec PyProof.Rows L2
section
variable {X : Cx} {ρ : Rho} {e a b : Expr} {es : List Expr} {pos : Pos} {E : XK} {cls : Value}
def EaR (X : Cx) (E : XK) (cls : Value) (es : List Expr) (ρ : Rho) : Prop := ∀ σ H Q, SOk X.K ρ σ H → (∀ H', Same H H' → E cls none H') → cA X es σ H Q
def AoX (X : Cx) (E : XK) (cls : Value) (es : List Expr) (ρ : Rho) (f : Option (Option (List D))) : Prop := (∀ d, f = some (some d) → EvA X es ρ d) ∧ (f = some none → EaR X E cls es ρ)
theorem ax_nil : AoX X E cls [] ρ (some (some [])) := ⟨fun d z => by cases z; exact ea_nil, fun z => nomatch z⟩
theorem ax_cons {f : Option (Option D)} {r : Option (Option (List D))} (h : EoX X E cls e ρ f) (t : AoX X E cls es ρ r) (hs : starEach (e :: es) X.env = (false, eval e X.env) :: starEach es X.env := by rfl) : AoX X E cls (e :: es) ρ (bX f fun d => bX r fun ds => some (some (d :: ds))) := by
  refine ⟨fun ds z => ?_, fun z => ?_⟩
  · rcases bX_inv z with ⟨_, z⟩ | ⟨x, h1, z⟩
    · cases z
    rcases bX_inv z with ⟨_, z⟩ | ⟨y, h2, z⟩
    · cases z
    cases z
    have e1 : Eo X e ρ (some x) := fun d z => by cases z; exact h.1 _ h1
    have e2 : Ao X es ρ (some y) := fun d z => by cases z; exact t.1 _ h2
    exact ao_cons e1 e2 hs _ rfl
  · rcases bX_inv z with ⟨h1, _⟩ | ⟨x, h1, z⟩
    · intro σ H Q S q'
      exact ⟨_, pa_cons pe_c pa_c hs, h.2 h1 σ H _ S q'⟩
    rcases bX_inv z with ⟨h2, _⟩ | ⟨y, h2, z⟩
    · intro σ H Q S q'
      exact ⟨_, pa_cons pe_c pa_c hs, h.1 x h1 σ H _ S fun v H' ⟨s1, r1⟩ => t.2 h2 σ H' _ (S.mono s1) fun H'' s2 => q' H'' (s1.trans s2)⟩
    · cases z
theorem ex_tup {n : Nat} {r : Option (Option (List D))} (h : AoX X E cls es ρ r) : EoX X E cls (.Tuple es n pos) ρ (bX r fun ds => okX (tupV (some ds))) := by
  refine ⟨fun d z => ?_, fun z => ?_⟩
  · rcases bX_inv z with ⟨_, z⟩ | ⟨ds, h1, z⟩
    · cases z
    obtain ⟨v, h3, h4⟩ := okX_inv z
    cases h4
    have e2 : Ao X es ρ (some ds) := fun d z => by cases z; exact h.1 _ h1
    exact eo_tup e2 _ h3
  · rcases bX_inv z with ⟨h1, _⟩ | ⟨ds, h1, z⟩
    · intro σ H Q S q'
      exact ⟨_, pe_tupF pa_c, h.2 h1 σ H _ S q'⟩
    obtain ⟨v, h3, h4⟩ := okX_inv z
    cases h4
end
/-! ### statements -/
def stX {α R : Type} (f : Option (Option α)) (rx : R) (G : α → Option R) : Option R := bnd f fun o => match o with
  | some d => G d
  | none => some rx
theorem stX_inv {α R : Type} {f : Option (Option α)} {rx r : R} {G : α → Option R} (h : stX f rx G = some r) : (f = some none ∧ r = rx) ∨ ∃ d, f = some (some d) ∧ G d = some r := by
  obtain ⟨o, h1, h2⟩ := bnd_inv h
  cases o with
  | none => cases h2; exact .inl ⟨h1, rfl⟩
  | some d => exact .inr ⟨d, h1, h2⟩
section
variable {R : Type} {X : Cx} {ρ : Rho} {Φ : R → DL.Fin} {e a b : Expr} {es : List Expr} {rest : List Stmt} {pos pos' p p1 p2 p3 p4 : Pos} {E : XK} {cls : Value} {f : Option (Option D)} {rx : R}
theorem so_setX (i : Nat) {x : Str} {G : D → Option R} (hx' : (Φ rx).ex = exW E cls) (hN : X.N.Nodup) (he : EoX X E cls e ρ f) (h : ∀ d, So X rest (ρ.set i (.val d)) Φ (G d)) (hi : X.N[i]? = some x := by rfl) (hx : Loc X.env.scope x := by first | exact Or.inl rfl | exact Or.inr rfl) (hs : swapsWith e (some (.Name x pos')) pos.line X.env = pure false := by rfl) (hf : X.fn x = true ∨ X.env.scope.names.lookup x = some .local := by first | exact .inl rfl | exact .inr rfl | assumption) :
    So X (.Assign [.Name x pos'] e pos :: rest) ρ Φ (stX f rx G) := fun r z => by
  rcases stX_inv z with ⟨h1, rfl⟩ | ⟨d, h1, h2⟩
  · refine xs_cons fun H0 H1 σ H En S F => ⟨_, ps_set hN hi hx pe_c hs hf, he.2 h1 σ H _ S.ok fun H' s' => F.ex _ hx' H' (S.same.trans s')⟩
  · exact xs_cons (sx_set i hN (he.1 d h1) (h d r h2) hi hx hs hf)
/-- a call alone -/
theorem so_exprX {G : Option R} (hx' : (Φ rx).ex = exW E cls) (he : EoX X E cls e ρ f) (h : So X rest ρ Φ G) (hs : swapsWith e none pos.line X.env = pure false := by rfl) : So X (.Expr e pos :: rest) ρ Φ (stX f rx fun _ => G) := fun r z => by
  rcases stX_inv z with ⟨h1, rfl⟩ | ⟨d, h1, h2⟩
  · exact xs_cons fun H0 H1 σ H En S F => ⟨_, ps_expr pe_c hs, he.2 h1 σ H _ S.ok fun H' s' => F.ex _ hx' H' (S.same.trans s')⟩
  · exact xs_cons fun H0 H1 σ H En S F => ⟨_, ps_expr pe_c hs, he.1 d h1 σ H _ S.ok fun v H' ⟨s', _⟩ => F.nx _ _ _ (S.mono s') (h r h2)⟩
theorem so_retX (w : D → R) (hx' : (Φ rx).ex = exW E cls) (he : EoX X E cls e ρ f) (hw : ∀ d ρ', (Φ (w d)).rt d ρ' := by intro _ _; rfl) : So X [.Return (some e) pos] ρ Φ (stX f rx fun d => some (w d)) := fun r z => by
  rcases stX_inv z with ⟨h1, rfl⟩ | ⟨d, h1, h2⟩
  · exact xs_one fun H0 H1 σ H En S F => ⟨_, ps_ret pe_c, he.2 h1 σ H _ S.ok fun H' s' => F.ex _ hx' H' (S.same.trans s')⟩
  · cases h2
    exact xs_one (sx_ret (he.1 d h1) (hw d _))
end
/-! ### rows -/
abbrev PRow := D × D × List D × List D × List D
def kids (r : PRow) : List Tr := [.val r.1, .val r.2.1, .lst (r.2.2.1.map .val), .lst (r.2.2.2.1.map .val), .lst (r.2.2.2.2.map .val)]
def encRw (r : PRow) : Tr := .lst (kids r)
def encPT (l : List PRow) : Tr := .lst (l.map encRw)
def getK (k : Nat) (r : PRow) : Option (List D) := match k with
  | 2 => some r.2.2.1
  | 3 => some r.2.2.2.1
  | 4 => some r.2.2.2.2
  | _ => none
def putKr (k : Nat) (r : PRow) (ds : List D) : PRow := match k with
  | 2 => (r.1, r.2.1, ds, r.2.2.2.1, r.2.2.2.2)
  | 3 => (r.1, r.2.1, r.2.2.1, ds, r.2.2.2.2)
  | _ => (r.1, r.2.1, r.2.2.1, r.2.2.2.1, ds)
theorem kids_at {k : Nat} {r : PRow} {ds : List D} (h : getK k r = some ds) : (kids r)[k]? = some (.lst (ds.map .val)) ∧ k < 5 ∧ ∀ ds', kids (putKr k r ds') = (kids r).set k (.lst (ds'.map .val)) := by
  unfold getK at h
  split at h <;> cases h <;> exact ⟨rfl, by omega, fun _ => rfl⟩
/-- l[-1][k].append(d) -/
def addRow (k : Nat) (l : List PRow) (d : D) : Option (List PRow) := bnd (l[l.length - 1]?) fun r => bnd (getK k r) fun ds => bnd (apL ds d) fun ds' => some (l.set (l.length - 1) (putKr k r ds'))
section
variable {R : Type} {X : Cx} {ρ : Rho} {Φ : R → DL.Fin} {e a b : Expr} {es : List Expr} {rest : List Stmt} {pos p0 p1 p2 p3 p4 p5 apos cpos : Pos} {E : XK} {cls : Value} {f : Option (Option D)} {rx : R} {j1 j2 : Nat}
theorem so_dapp (j k : Nat) {y : String} {l : List PRow} {G : List PRow → Option R} (hx' : (Φ rx).ex = exW E cls) (hsl : Sl X.N y j) (he : EoX X E cls e ρ f) (h : ∀ l', So X rest (ρ.set j (.tr (encPT l'))) Φ (G l')) (hj : ρ[j]? = some (.tr (encPT l)) := by rfl) (hv : Vis X.env.scope (Str.ofString y) := by first | exact Or.inl rfl | exact Or.inr (Or.inl rfl) | exact Or.inr (Or.inr rfl))
    (hbase : attributeBase (.Subscript (.Subscript (.Name (Str.ofString y) p0) (.UnaryOp .USub (.Constant (.int 1) j1 p1) p2) p3) (.Constant (.int (k : Nat)) j2 p4) p5) "append" X.env (eval (.Subscript (.Subscript (.Name (Str.ofString y) p0) (.UnaryOp .USub (.Constant (.int 1) j1 p1) p2) p3) (.Constant (.int (k : Nat)) j2 p4) p5) X.env) = eval (.Subscript (.Subscript (.Name (Str.ofString y) p0) (.UnaryOp .USub (.Constant (.int 1) j1 p1) p2) p3) (.Constant (.int (k : Nat)) j2 p4) p5) X.env := by rfl)
    (hfew : ((backTo cpos (starEach [e] X.env)).all (fun x => !x.1) && (backToKw cpos (keywordEach [] X.env)).all (fun x => x.1.isSome)
      && decide ([e].length + ([] : List Keyword).length + (if ([] : List Keyword).isEmpty then 0 else 1) < 30)) = true := by rfl)
    (hline : (apos.endLine == cpos.line) = true := by rfl) (hs : starEach [e] X.env = (false, eval e X.env) :: starEach [] X.env := by rfl) (hplain : (backTo cpos (starEach [] X.env)).any (·.1) = false := by rfl)
    (hsw : swapsWith (.Call (.Attribute (.Subscript (.Subscript (.Name (Str.ofString y) p0) (.UnaryOp .USub (.Constant (.int 1) j1 p1) p2) p3) (.Constant (.int (k : Nat)) j2 p4) p5) "append" apos) [e] [] cpos) none pos.line X.env = pure false := by rfl) :
    So X (.Expr (.Call (.Attribute (.Subscript (.Subscript (.Name (Str.ofString y) p0) (.UnaryOp .USub (.Constant (.int 1) j1 p1) p2) p3) (.Constant (.int (k : Nat)) j2 p4) p5) "append" apos) [e] [] cpos) pos :: rest) ρ Φ (bnd (bnd (l[l.length - 1]?) (getK k)) fun _ => stX (bX f fun d => okX (addRow k l d)) rx G) := fun r z => by
  obtain ⟨ds0, z0, z⟩ := bnd_inv z
  obtain ⟨row, z1, z2⟩ := bnd_inv z0
  refine xs_cons fun H0 H1 σ H En S F => ?_
  obtain ⟨a, xs, L, e1, e2, rt, nd⟩ := S.ok.tr hj
  obtain ⟨ndA, ndL⟩ := List.nodup_cons.mp nd
  obtain ⟨kc, k5, kset⟩ := kids_at z2
  have hn : l.length - 1 < l.length := (List.getElem?_eq_some_iff.mp z1).1
  have et : (l.map encRw)[l.length - 1]? = some (.lst (kids row)) := by rw [List.getElem?_map, z1]; rfl
  obtain ⟨v, M, g1, g2, g3, g4⟩ := rt.get ndL et
  have len := rt.len
  rw [List.length_map] at len
  cases g2 with
  | @lst a1 ys _ M1 hl rk =>
  obtain ⟨nd1, ndM⟩ := List.nodup_cons.mp g3
  obtain ⟨v2, M2, b1, b2, b3, b4⟩ := rk.get ndM kc
  cases b2 with
  | @lst a2 zs _ M3 hl2 rz =>
  obtain ⟨rz', eM⟩ := trs_vals rz
  subst eM
  have xa : atI xs (-1) = some (.ref a1) := by
    unfold atI ixN
    rw [if_neg (by omega), if_pos (by omega)]
    show xs[((xs.length : Nat) + (-1 : Int)).toNat]? = _
    rw [show ((xs.length : Nat) + (-1 : Int)).toNat = l.length - 1 from by omega]
    exact g1
  have ya : atI ys (k : Nat) = some (.ref a2) := by
    have : k < ys.length := by rw [rk.len]; exact k5
    unfold atI ixN
    rw [if_pos (by omega), if_pos (by omega)]
    exact b1
  have neg : Eo X (.UnaryOp .USub (.Constant (.int 1) j1 p1) p2) ρ (some (.int (-1))) := eo_neg (f := some (.int 1)) eo_int
  have base : PE X (.Subscript (.Subscript (.Name (Str.ofString y) p0) (.UnaryOp .USub (.Constant (.int 1) j1 p1) p2) p3) (.Constant (.int (k : Nat)) j2 p4) p5) _ := pe_ix ix_list (pe_ix ix_list (pe_var (pos := p0) hsl.h hv hsl.d hsl.c) (pe_c (e := .UnaryOp .USub (.Constant (.int 1) j1 p1) p2)) (fun _ _ => rfl)) (pe_int (i := (k : Nat)) (j := j2) (pos := p4)) (fun _ _ => rfl)
  refine ⟨_, ps_expr (pe_bm PySem.F.plainAttrs_list PySem.F.slot_list_append PySem.F.type_list_append mt_append base (pa_cons pe_c pa_nil hs) hbase hfew hline hs hplain) hsw, _, e1, neg _ rfl σ H _ S.ok fun w H2 ⟨s2, r2⟩ => ?_⟩
  have ev := (Rq.of r2).int
  subst ev
  refine ⟨a, xs, -1, .ref a1, rfl, rfl, .inl (.inl (s2 _ _ e2)), xa, ?_⟩
  refine ⟨a1, ys, (k : Nat), .ref a2, rfl, rfl, .inl (.inl (s2 _ _ hl)), ya, ?_⟩
  refine ⟨.inl ⟨rfl, _, .inl (.inl (s2 _ _ hl2))⟩, ?_⟩
  have S2 := S.mono s2
  rcases stX_inv z with ⟨h1, rfl⟩ | ⟨l', h1, h2⟩
  · rcases bX_inv h1 with ⟨h3, _⟩ | ⟨d, h3, h4⟩
    · exact he.2 h3 σ H2 _ S2.ok fun H' s' => F.ex _ hx' H' (S2.same.trans s')
    · obtain ⟨_, _, h5⟩ := okX_inv h4
      cases h5
  rcases bX_inv h1 with ⟨_, h3⟩ | ⟨d, h3, h4⟩
  · cases h3
  obtain ⟨l2, h5, h6⟩ := okX_inv h4
  cases h6
  unfold addRow at h5
  rw [z1, bnd_some, z2, bnd_some] at h5
  obtain ⟨ds', h6, h7⟩ := bnd_inv h5
  cases h7
  obtain ⟨h8, h9⟩ := lim_inv h6
  cases h9
  refine he.1 d h3 σ H2 _ S2.ok fun w H3 ⟨s3, r3⟩ => ?_
  have s23 := s2.trans s3
  have S3 := S2.mono s3
  have hl3 : H3 a2 = some (.lst zs) := s23 _ _ hl2
  have ha3 : H3 a = some (.lst xs) := s23 _ _ e2
  have ha1 : H3 a1 = some (.lst ys) := s23 _ _ hl
  have st : Stb H3 (upd H3 a2 (.lst (zs ++ [w]))) := stb_upd hl3 trivial
  have rt3 : TrsOk X.K H3 xs (l.map encRw) L := rt.mono (.of s23) fun x _ o ho => s23 x o ho
  have rk3 : TrsOk X.K H3 ys (kids row) M1 := rk.mono (.of s23) fun x _ o ho => s23 x o ho
  have rz3 := rz'.mono (.of s23)
  have m2 : a2 ∈ M1 := b4 a2 List.mem_cons_self
  have n12 : a1 ≠ a2 := fun zz => nd1 (zz ▸ m2)
  have m2L : a2 ∈ L := g4 a2 (List.mem_cons_of_mem _ m2)
  have n02 : a ≠ a2 := fun zz => ndA (zz ▸ m2L)
  obtain ⟨M', c1, c2, c3⟩ := TrsOk.chg st (t' := .lst ((ds0 ++ [d]).map .val)) (M' := [a2]) rk3 ndM b1 kc (.lst hl3 (trs_of rz3)) (fun x _ nx o ho => by rw [upd_ne (by simpa using nx)]; exact ho) (.lst upd_same (trs_of ((rz3.mono st).append (.cons (r3.mono st) .nil)))) (by simp) (fun x hx => .inl (by simpa using hx))
  have subM : ∀ x ∈ M', x ∈ M1 := fun x hx => by
    rcases c3 x hx with ⟨q, _⟩ | q
    · exact q
    · simp at q; rw [q]; exact m2
  obtain ⟨L', d1, d2, d3⟩ := TrsOk.chg st (t' := .lst ((kids row).set k (.lst ((ds0 ++ [d]).map .val)))) (M' := a1 :: M') rt3 ndL g1 et (.lst ha1 rk3) (fun x _ nx o ho => by rw [upd_ne (fun zz => nx (by rw [zz]; exact List.mem_cons_of_mem _ m2))]; exact ho) (.lst (by rw [upd_ne n12]; exact ha1) c1) (List.nodup_cons.mpr ⟨fun q => nd1 (subM _ q), c2⟩) (fun x hx => by
    rcases List.mem_cons.mp hx with rfl | q
    · exact .inl List.mem_cons_self
    · exact .inl (List.mem_cons_of_mem _ (subM x q)))
  have subL : ∀ x ∈ L', x ∈ L := fun x hx => by
    rcases d3 x hx with ⟨q, _⟩ | q
    · exact q
    · rcases List.mem_cons.mp q with rfl | q
      · exact g4 _ List.mem_cons_self
      · exact g4 _ (List.mem_cons_of_mem _ (subM x q))
  have es : encPT (l.set (l.length - 1) (putKr k row (ds0 ++ [d]))) = .lst ((l.map encRw).set (l.length - 1) (.lst ((kids row).set k (.lst ((ds0 ++ [d]).map .val))))) := by
    unfold encPT
    rw [List.map_set]
    show Tr.lst ((l.map encRw).set _ (.lst (kids (putKr k row _)))) = _
    rw [kset]
  have oN : Own X.K (upd H3 a2 (.lst (zs ++ [w]))) (.ref a) (.tr (encPT (l.set (l.length - 1) (putKr k row (ds0 ++ [d]))))) (a :: L') := by
    rw [es]
    exact .tr (.lst (by rw [upd_ne n02]; exact ha3) d1) (List.nodup_cons.mpr ⟨fun q => ndA (subL _ q), d2⟩)
  have fin := S3.chg hj e1 (.tr (.lst ha3 rt3) nd) st (fun x q hx nx => by
    rw [upd_ne (fun zz => nx (by rw [zz]; exact List.mem_cons_of_mem _ m2L))]; exact hx) oN (fun x hx => .inl (by
      rcases List.mem_cons.mp hx with rfl | q
      · exact List.mem_cons_self
      · exact List.mem_cons_of_mem _ (subL x q)))
  exact ⟨a2, zs, w, rfl, rfl, hl3, by rw [rz'.length]; exact h8, F.nx _ _ _ fin (h _ r h2)⟩
end
end DL


/-! Lists of lists of one's own become a datum. -/
namespace DL
open PySem PySem.Spec PyProof.Rows L2
/-- some things are locked, one behind the other -/
inductive Lk : Hp → (Hp → Prop) → Prop
  | done {H : Hp} {Q : Hp → Prop} : Q H → Lk H Q
  | lock {H : Hp} {Q : Hp → Prop} (a : Addr) (u : HO) : H a = some u → Mut (some u) → (∀ od, Lk (upd H a (.frz od u)) Q) → Lk H Q
theorem lk_run {X : Cx} {pins : List (Addr × Obj)} {σ : L2.St} {s : Shared} : ∀ {H : Hp} {Q : Hp → Prop}, Lk H Q → Inv X pins σ H s → ∃ H', Inv X pins σ H' s ∧ Q H' := fun {H Q} l => by
  induction l with
  | done q => exact fun I => ⟨_, I, q⟩
  | lock a u hu mu _ ih =>
    intro I
    obtain ⟨od, I2⟩ := I.lock hu mu
    exact ih od I2
theorem pss_locks {X : Cx} {sts : List Stmt} {t : TS} (h : PSs X sts t) : PSs X sts (fun D σ H => Lk H fun H' => t D σ H') := ⟨fun pins s σ H D I q => by
  obtain ⟨H', I', q'⟩ := lk_run q I
  exact h.run pins s σ H' D I' q'⟩
mutual
def trD : Tr → Option D
  | .val d => some d
  | .lst ts => bnd (trsD ts) fun ds => some (.list ds)
  | .obj _ _ => none
def trsD : List Tr → Option (List D)
  | [] => some []
  | t :: ts => bnd (trD t) fun d => bnd (trsD ts) fun ds => some (d :: ds)
end
section
variable {K : PySem.W.Frag} {R : Hp → Prop}
mutual
theorem lk_tr : ∀ {H : Hp} {v : V} {t : Tr} {L : List Addr} {d : D}, TrOk K H v t L → L.Nodup → trD t = some d → (∀ H', Stb H H' → (∀ x, x ∉ L → H' x = H x) → Rp K H' v d → Lk H' R) → Lk H R
  | H, _, _, _, _, .val r, _, e, k => by
    cases e
    exact k H (.refl _) (fun _ _ => rfl) r
  | H, _, _, _, _, .lst (a := a) (xs := xs) e1 r, nd, e, k => by
    unfold trD at e
    obtain ⟨ds, z1, z2⟩ := bnd_inv e
    cases z2
    obtain ⟨na, nL⟩ := List.nodup_cons.mp nd
    refine lk_trs r nL z1 fun H1 s1 k1 r1 => ?_
    have h1 : H1 a = some (.lst xs) := by rw [k1 a na]; exact e1
    refine .lock a _ h1 trivial fun od => ?_
    refine k _ (s1.trans (stb_upd h1 trivial)) (fun x nx => ?_) (rp_lock h1 r1 od)
    rw [upd_ne (fun z => nx (by rw [z]; exact List.mem_cons_self))]
    exact k1 x fun z => nx (List.mem_cons_of_mem _ z)
  | _, _, _, _, _, .obj _ _, _, e, _ => by
    unfold trD at e
    cases e
theorem lk_trs : ∀ {H : Hp} {vs : List V} {ts : List Tr} {L : List Addr} {ds : List D}, TrsOk K H vs ts L → L.Nodup → trsD ts = some ds → (∀ H', Stb H H' → (∀ x, x ∉ L → H' x = H x) → RpAll K H' vs ds → Lk H' R) → Lk H R
  | H, _, _, _, _, .nil, _, e, k => by
    cases e
    exact k H (.refl _) (fun _ _ => rfl) .nil
  | H, _, _, _, _, .cons (L := L) (M := M) a b, nd, e, k => by
    unfold trsD at e
    obtain ⟨d, z1, z⟩ := bnd_inv e
    obtain ⟨ds, z2, z3⟩ := bnd_inv z
    cases z3
    obtain ⟨n1, n2, n3⟩ := List.nodup_append.mp nd
    refine lk_tr a n1 z1 fun H1 s1 k1 r1 => ?_
    have b1 := b.mono s1 fun x hx o ho => by rw [k1 x fun z => n3 x z x hx rfl]; exact ho
    refine lk_trs b1 n2 z2 fun H2 s2 k2 r2 => ?_
    refine k H2 (s1.trans s2) (fun x nx => ?_) (.cons (r1.mono s2) r2)
    rw [k2 x fun z => nx (List.mem_append_right _ z), k1 x fun z => nx (List.mem_append_left _ z)]
end
end
section
variable {R : Type} {X : Cx} {ρ : Rho} {Φ : R → DL.Fin} {rest : List Stmt}
theorem set_same {σ : L2.St} {j : Nat} {v : V} (e : σ[j]? = some (some v)) : σ.set j (some v) = σ := by
  apply List.ext_getElem?
  intro i
  by_cases h : j = i
  · subst h
    rw [List.getElem?_set_self (List.getElem?_eq_some_iff.mp e).1, e]
  · rw [List.getElem?_set_ne h]
theorem so_freeze (j : Nat) {t : Tr} {d : D} {G : Option R} (ht : trD t = some d) (h : So X rest (ρ.set j (.val d)) Φ G) (hj : ρ[j]? = some (.tr t) := by rfl) : So X rest ρ Φ G := fun r z H0 H1 σ H En S F => by
  obtain ⟨v, L, e1, o⟩ := S.ok.has j _ hj rfl
  cases o with
  | tr rt nd =>
    refine ⟨_, pss_locks pss_c, lk_tr rt nd ht fun H' st kp rp => .done ?_⟩
    have S2 := S.chg (b1 := .tr (.val d)) hj e1 (.tr rt nd) st (fun x q hx nx => by rw [kp x nx]; exact hx) (.tr (.val rp) .nil) (fun x hx => by cases hx)
    have S3 := S2.set (i := j) (.refl _) rp
    rw [List.set_set, set_same e1] at S3
    exact h r z H0 _ σ H' _ S3 F
end
end DL


/-! Rows are put, counted; a def that changes a list of rows and may raise. -/
namespace DL
open PySem PySem.Spec PyProof.Rows L2
theorem TrsOk.append {K : PySem.W.Frag} {H : Hp} : ∀ {xs ys : List V} {ts us : List Tr} {L M : List Addr}, TrsOk K H xs ts L → TrsOk K H ys us M → TrsOk K H (xs ++ ys) (ts ++ us) (L ++ M)
  | _, _, _, _, _, _, .nil, s => s
  | _, _, _, _, _, _, .cons a t, s => by
    rw [List.append_assoc]
    exact .cons a (TrsOk.append t s)
/-- l.append([x, y, [], [], []]) -/
def addP (l : List PRow) (x y : D) : Option (List PRow) := lim (l.length + 1) (some (l ++ [(x, y, [], [], [])]))
section
variable {R : Type} {X : Cx} {ρ : Rho} {Φ : R → DL.Fin} {e a b : Expr} {es : List Expr} {rest : List Stmt} {pos p0 p1 p2 p3 p4 p5 apos cpos p : Pos} {E : XK} {cls : Value} {f g : Option (Option D)} {rx : R}
theorem eo_lentr {y : String} {l : List PRow} (j : Nat) (hs : Nb X.mg "len" (.builtin "len")) (hsl : Sl X.N y j) (hj : ρ[j]? = some (.tr (encPT l)) := by rfl) (hv : Vis X.env.scope (Str.ofString y) := by first | exact Or.inl rfl | exact Or.inr (Or.inl rfl) | exact Or.inr (Or.inr rfl)) (gs : Gl X (Str.ofString "len") := by rfl)
    (s2 : starEach [.Name (Str.ofString y) p2] X.env = (false, eval (.Name (Str.ofString y) p2) X.env) :: starEach [] X.env := by rfl) (hpl : (backTo pos (starEach [] X.env)).any (·.1) = false := by rfl) :
    Eo X (.Call (.Name (Str.ofString "len") p) [.Name (Str.ofString y) p2] [] pos) ρ (some (.int (l.length : Nat))) := fun d z => by
  cases z
  intro σ H Q S q
  obtain ⟨ad, xs, L, e1, e2, rt, nd⟩ := S.tr hj
  refine ⟨_, pe_callB call_len_seq gs hs.h hs.v (pa_cons (pe_var hsl.h hv hsl.d hsl.c) pa_nil s2) hs.n hs.d s2 hpl, ?_⟩
  refine ⟨_, e1, ad, xs, rfl, .inl (.inl (.inl e2)), ?_⟩
  have len := rt.len
  rw [List.length_map] at len
  rw [len]
  exact q _ H ⟨.refl H, .int _⟩
theorem so_rowX (j : Nat) {y : String} {q1 q2 q3 lp : Pos} {l : List PRow} {G : List PRow → Option R} (hx' : (Φ rx).ex = exW E cls) (hsl : Sl X.N y j) (ha : EoX X E cls a ρ f) (hb : EoX X E cls b ρ g) (h : ∀ l', So X rest (ρ.set j (.tr (encPT l'))) Φ (G l')) (hj : ρ[j]? = some (.tr (encPT l)) := by rfl) (hv : Vis X.env.scope (Str.ofString y) := by first | exact Or.inl rfl | exact Or.inr (Or.inl rfl) | exact Or.inr (Or.inr rfl))
    (hbase : attributeBase (.Name (Str.ofString y) p2) "append" X.env (eval (.Name (Str.ofString y) p2) X.env) = eval (.Name (Str.ofString y) p2) X.env := by rfl)
    (hfew : ((backTo cpos (starEach [.List [a, b, .List [] q1, .List [] q2, .List [] q3] lp] X.env)).all (fun x => !x.1) && (backToKw cpos (keywordEach [] X.env)).all (fun x => x.1.isSome)
      && decide (([.List [a, b, .List [] q1, .List [] q2, .List [] q3] lp] : List Expr).length + ([] : List Keyword).length + (if ([] : List Keyword).isEmpty then 0 else 1) < 30)) = true := by rfl)
    (hline : (apos.endLine == cpos.line) = true := by rfl) (hs : starEach [.List [a, b, .List [] q1, .List [] q2, .List [] q3] lp] X.env = (false, eval (.List [a, b, .List [] q1, .List [] q2, .List [] q3] lp) X.env) :: starEach [] X.env := by rfl) (hplain : (backTo cpos (starEach [] X.env)).any (·.1) = false := by rfl)
    (hsw : swapsWith (.Call (.Attribute (.Name (Str.ofString y) p2) "append" apos) [.List [a, b, .List [] q1, .List [] q2, .List [] q3] lp] [] cpos) none pos.line X.env = pure false := by rfl)
    (s1 : starEach [a, b, .List [] q1, .List [] q2, .List [] q3] X.env = (false, eval a X.env) :: starEach [b, .List [] q1, .List [] q2, .List [] q3] X.env := by rfl)
    (s2 : starEach [b, .List [] q1, .List [] q2, .List [] q3] X.env = (false, eval b X.env) :: starEach [.List [] q1, .List [] q2, .List [] q3] X.env := by rfl)
    (s3 : starEach [.List [] q1, .List [] q2, .List [] q3] X.env = (false, eval (.List [] q1) X.env) :: starEach [.List [] q2, .List [] q3] X.env := by rfl)
    (s4 : starEach [.List [] q2, .List [] q3] X.env = (false, eval (.List [] q2) X.env) :: starEach [.List [] q3] X.env := by rfl)
    (s5 : starEach [.List [] q3] X.env = (false, eval (.List [] q3) X.env) :: starEach [] X.env := by rfl) :
    So X (.Expr (.Call (.Attribute (.Name (Str.ofString y) p2) "append" apos) [.List [a, b, .List [] q1, .List [] q2, .List [] q3] lp] [] cpos) pos :: rest) ρ Φ (stX (bX f fun x => bX g fun y => okX (addP l x y)) rx G) := fun r z => by
  refine xs_cons fun H0 H1 σ H En S F => ?_
  obtain ⟨ad, xs, L, e1, e2, rt, nd⟩ := S.ok.tr hj
  have len := rt.len
  rw [List.length_map] at len
  have base : PE X (.Name (Str.ofString y) p2) _ := pe_var (pos := p2) hsl.h hv hsl.d hsl.c
  rcases stX_inv z with ⟨h1, rfl⟩ | ⟨l', h1, h2⟩
  · rcases bX_inv h1 with ⟨h3, _⟩ | ⟨x, h3, h4⟩
    · refine ⟨_, ps_expr (pe_bm PySem.F.plainAttrs_list PySem.F.slot_list_append PySem.F.type_list_append mt_append base (pa_cons (pe_lst (pa_cons pe_c pa_c s1)) pa_nil hs) hbase hfew hline hs hplain) hsw, _, e1, .inl ⟨rfl, xs, .inl (.inl e2)⟩, ?_⟩
      exact ha.2 h3 σ H _ S.ok fun H' s' => F.ex _ hx' H' (S.same.trans s')
    · rcases bX_inv h4 with ⟨h5, _⟩ | ⟨w, h5, h6⟩
      · refine ⟨_, ps_expr (pe_bm PySem.F.plainAttrs_list PySem.F.slot_list_append PySem.F.type_list_append mt_append base (pa_cons (pe_lst (pa_cons pe_c (pa_cons pe_c pa_c s2) s1)) pa_nil hs) hbase hfew hline hs hplain) hsw, _, e1, .inl ⟨rfl, xs, .inl (.inl e2)⟩, ?_⟩
        exact ha.1 x h3 σ H _ S.ok fun v H2 ⟨s', _⟩ => hb.2 h5 σ H2 _ (S.mono s').ok fun H' s'' => F.ex _ hx' H' (S.same.trans (s'.trans s''))
      · obtain ⟨_, _, h7⟩ := okX_inv h6
        cases h7
  rcases bX_inv h1 with ⟨_, h3⟩ | ⟨x, h3, h4⟩
  · cases h3
  rcases bX_inv h4 with ⟨_, h5⟩ | ⟨w, h5, h6⟩
  · cases h5
  obtain ⟨l2, h7, h8⟩ := okX_inv h6
  cases h8
  obtain ⟨h9, h10⟩ := lim_inv h7
  cases h10
  have k1 : Eo X a ρ (some x) := fun d z => by cases z; exact ha.1 _ h3
  have k2 : Eo X b ρ (some w) := fun d z => by cases z; exact hb.1 _ h5
  have kl : NtrV X (.List [a, b, .List [] q1, .List [] q2, .List [] q3] lp) ρ (encRw (x, w, [], [], [])) := by
    refine ntr_lst (g := some [.val x, .val w, .lst [], .lst [], .lst []]) (fun ts zz => ntrs_cons (ntr_val k1) (ntrs_cons (ntr_val k2) (ntrs_cons ntr_e (ntrs_cons ntr_e (ntrs_cons ntr_e ntrs_nil s5) s4) s3) s2) s1 ts zz) _ rfl
  refine ⟨_, ps_expr (pe_bm PySem.F.plainAttrs_list PySem.F.slot_list_append PySem.F.type_list_append mt_append base (pa_cons pe_c pa_nil hs) hbase hfew hline hs hplain) hsw, _, e1, .inl ⟨rfl, xs, .inl (.inl e2)⟩, kl σ H _ S.ok fun v H2 M s2' rv nM fM => ?_⟩
  have e3 := s2' _ _ e2
  refine ⟨ad, xs, v, rfl, rfl, e3, by omega, F.nx _ _ _ ?_ (h _ r h2)⟩
  have st : Stb H2 (upd H2 ad (.lst (xs ++ [v]))) := stb_upd e3 trivial
  obtain ⟨nA, nL⟩ := List.nodup_cons.mp nd
  have inH : ∀ x ∈ L, ∃ o, H x = some o := fun x hx => by
    obtain ⟨o, ho, _⟩ := rt.stands x hx
    exact ⟨o, ho⟩
  have dis : ∀ x ∈ L, x ∉ M := fun x hx hm => by
    obtain ⟨o, ho⟩ := inH x hx
    rw [fM x hm] at ho; cases ho
  have adM : ad ∉ M := fun hm => by rw [fM ad hm] at e2; cases e2
  have rt2 : TrsOk X.K (upd H2 ad (.lst (xs ++ [v]))) xs (l.map encRw) L := rt.mono ((Stb.of s2').trans st) fun x hx o ho => by
    rw [upd_ne (fun z : x = ad => nA (by rw [← z]; exact hx))]
    exact s2' x o ho
  have rv2 : TrOk X.K (upd H2 ad (.lst (xs ++ [v]))) v (encRw (x, w, [], [], [])) M := rv.mono st fun x hx o ho => by
    rw [upd_ne (fun z : x = ad => adM (by rw [← z]; exact hx))]
    exact ho
  have es : encPT (l ++ [(x, w, [], [], [])]) = .lst (l.map encRw ++ [encRw (x, w, [], [], [])]) := by
    unfold encPT
    rw [List.map_append]
    rfl
  have app := rt2.append (.cons rv2 .nil)
  rw [List.append_nil] at app
  have oN : Own X.K (upd H2 ad (.lst (xs ++ [v]))) (.ref ad) (.tr (encPT (l ++ [(x, w, [], [], [])]))) (ad :: (L ++ M)) := by
    rw [es]
    refine .tr (.lst upd_same app) (List.nodup_cons.mpr ⟨fun z => ?_, List.nodup_append.mpr ⟨nL, nM, fun x hx y hy exy => ?_⟩⟩)
    · rcases List.mem_append.mp z with z | z
      · exact nA z
      · exact adM z
    · subst exy
      exact dis x hx hy
  exact S.chg hj e1 (.tr (.lst e2 rt) nd) ((Stb.of s2').trans st) (fun x q hx nx => by
    rw [upd_ne (fun zz => nx (by rw [zz]; exact List.mem_cons_self))]; exact s2' _ _ hx) oN (fun x hx => by
      rcases List.mem_cons.mp hx with rfl | q
      · exact .inl List.mem_cons_self
      · rcases List.mem_append.mp q with q | q
        · exact .inl (List.mem_cons_of_mem _ q)
        · exact .inr (fM x q))
end
/-! ### a def that changes a list of rows -/
def SpPX (K : PySem.W.Frag) (cls : Value) (m : List PRow → List D → Option (Option (List PRow))) : Sp := fun vs H Q E => ∃ (v0 : V) (ws : List V) (l : List PRow) (ds : List D) (o : Option (List PRow)) (L0 : List Addr), vs = v0 :: ws ∧ Own K H v0 (.tr (encPT l)) L0 ∧ RpAll K H ws ds ∧ m l ds = some o ∧
  (∀ l', o = some l' → ∀ H' L1, Stb H H' → (∀ x q, H x = some q → x ∉ L0 → H' x = some q) → Own K H' v0 (.tr (encPT l')) L1 → (∀ x ∈ L1, x ∈ L0 ∨ H x = none) → Q .non H') ∧
  (o = none → ∀ H', (∀ x q, H x = some q → x ∉ L0 → H' x = some q) → E cls none H')
def PXΦ (E : XK) (cls : Value) (W : Hp → Prop) : Option (List PRow) → DL.Fin
  | some l => { nx := fun ρ => ρ[0]? = some (.tr (encPT l)), rt := fun _ _ => False, ex := some W }
  | none => { nx := fun _ => False, rt := fun _ _ => False, ex := some W }
end DL


/-! A def that changes a list of rows and may raise: rows at a known place, the def from its body, its calls. -/
namespace DL
open PySem PySem.Spec PyProof.Rows L2
/-- rows at a known place -/
def GR (v0 : V) (l : List PRow) (L : List Addr) : B := .gen (fun K H v => v = v0 ∧ TrOk K H v (encPT l) L ∧ L.Nodup) L
theorem gr_own {K : PySem.W.Frag} {H : Hp} {v0 : V} {l : List PRow} {L : List Addr} (r : TrOk K H v0 (encPT l) L) (n : L.Nodup) : Own K H v0 (GR v0 l L) L := by
  refine .gen (by exact ⟨rfl, r, n⟩) ⟨fun H1 H2 s k h => ?_, fun H h x hx => ?_⟩
  · exact ⟨h.1, h.2.1.mono s k, h.2.2⟩
  · exact h.2.1.stands x hx
theorem gr_inv {K : PySem.W.Frag} {H : Hp} {v v0 : V} {l : List PRow} {L M : List Addr} (o : Own K H v (GR v0 l L) M) : v = v0 ∧ M = L ∧ TrOk K H v0 (encPT l) L ∧ L.Nodup := by
  cases o with
  | gen h _ =>
    obtain ⟨h1, h2, h3⟩ := h
    subst h1
    exact ⟨rfl, rfl, h2, h3⟩
theorem gr_at {K : PySem.W.Frag} {ρ : Rho} {σ : L2.St} {H : Hp} {j : Nat} {v0 : V} {l : List PRow} {M0 : List Addr} (S : SOk K ρ σ H) (hj : ρ[j]? = some (GR v0 l M0)) : ∃ a xs L, σ[j]? = some (some (.ref a)) ∧ H a = some (.lst xs) ∧ TrsOk K H xs (l.map encRw) L ∧ (a :: L).Nodup ∧ v0 = .ref a ∧ M0 = a :: L := by
  obtain ⟨v, M, e1, o⟩ := S.has j _ hj rfl
  obtain ⟨rfl, rfl, r, n⟩ := gr_inv o
  cases r with
  | lst h r => exact ⟨_, _, _, e1, h, r, n, rfl, rfl⟩
section
variable {R : Type} {X : Cx} {ρ : Rho} {Φ : R → DL.Fin} {e a b : Expr} {es : List Expr} {rest : List Stmt} {pos p0 p1 p2 p3 p4 p5 apos cpos : Pos} {E : XK} {cls : Value} {f : Option (Option D)} {rx : R} {j1 j2 : Nat} {v0 : V} {M0 : List Addr}
theorem so_dappG (j k : Nat) {y : String} {l : List PRow} {G : List PRow → Option R} (hx' : (Φ rx).ex = exW E cls) (hsl : Sl X.N y j) (he : EoX X E cls e ρ f) (h : ∀ l' M', So X rest (ρ.set j (GR v0 l' M')) Φ (G l')) (hj : ρ[j]? = some (GR v0 l M0) := by rfl) (hv : Vis X.env.scope (Str.ofString y) := by first | exact Or.inl rfl | exact Or.inr (Or.inl rfl) | exact Or.inr (Or.inr rfl))
    (hbase : attributeBase (.Subscript (.Subscript (.Name (Str.ofString y) p0) (.UnaryOp .USub (.Constant (.int 1) j1 p1) p2) p3) (.Constant (.int (k : Nat)) j2 p4) p5) "append" X.env (eval (.Subscript (.Subscript (.Name (Str.ofString y) p0) (.UnaryOp .USub (.Constant (.int 1) j1 p1) p2) p3) (.Constant (.int (k : Nat)) j2 p4) p5) X.env) = eval (.Subscript (.Subscript (.Name (Str.ofString y) p0) (.UnaryOp .USub (.Constant (.int 1) j1 p1) p2) p3) (.Constant (.int (k : Nat)) j2 p4) p5) X.env := by rfl)
    (hfew : ((backTo cpos (starEach [e] X.env)).all (fun x => !x.1) && (backToKw cpos (keywordEach [] X.env)).all (fun x => x.1.isSome)
      && decide ([e].length + ([] : List Keyword).length + (if ([] : List Keyword).isEmpty then 0 else 1) < 30)) = true := by rfl)
    (hline : (apos.endLine == cpos.line) = true := by rfl) (hs : starEach [e] X.env = (false, eval e X.env) :: starEach [] X.env := by rfl) (hplain : (backTo cpos (starEach [] X.env)).any (·.1) = false := by rfl)
    (hsw : swapsWith (.Call (.Attribute (.Subscript (.Subscript (.Name (Str.ofString y) p0) (.UnaryOp .USub (.Constant (.int 1) j1 p1) p2) p3) (.Constant (.int (k : Nat)) j2 p4) p5) "append" apos) [e] [] cpos) none pos.line X.env = pure false := by rfl) :
    So X (.Expr (.Call (.Attribute (.Subscript (.Subscript (.Name (Str.ofString y) p0) (.UnaryOp .USub (.Constant (.int 1) j1 p1) p2) p3) (.Constant (.int (k : Nat)) j2 p4) p5) "append" apos) [e] [] cpos) pos :: rest) ρ Φ (bnd (bnd (l[l.length - 1]?) (getK k)) fun _ => stX (bX f fun d => okX (addRow k l d)) rx G) := fun r z => by
  obtain ⟨ds0, z0, z⟩ := bnd_inv z
  obtain ⟨row, z1, z2⟩ := bnd_inv z0
  refine xs_cons fun H0 H1 σ H En S F => ?_
  obtain ⟨a, xs, L, e1, e2, rt, nd, ev0, eM0⟩ := gr_at S.ok hj
  subst ev0
  subst eM0
  obtain ⟨ndA, ndL⟩ := List.nodup_cons.mp nd
  obtain ⟨kc, k5, kset⟩ := kids_at z2
  have hn : l.length - 1 < l.length := (List.getElem?_eq_some_iff.mp z1).1
  have et : (l.map encRw)[l.length - 1]? = some (.lst (kids row)) := by rw [List.getElem?_map, z1]; rfl
  obtain ⟨v, M, g1, g2, g3, g4⟩ := rt.get ndL et
  have len := rt.len
  rw [List.length_map] at len
  cases g2 with
  | @lst a1 ys _ M1 hl rk =>
  obtain ⟨nd1, ndM⟩ := List.nodup_cons.mp g3
  obtain ⟨v2, M2, b1, b2, b3, b4⟩ := rk.get ndM kc
  cases b2 with
  | @lst a2 zs _ M3 hl2 rz =>
  obtain ⟨rz', eM⟩ := trs_vals rz
  subst eM
  have xa : atI xs (-1) = some (.ref a1) := by
    unfold atI ixN
    rw [if_neg (by omega), if_pos (by omega)]
    show xs[((xs.length : Nat) + (-1 : Int)).toNat]? = _
    rw [show ((xs.length : Nat) + (-1 : Int)).toNat = l.length - 1 from by omega]
    exact g1
  have ya : atI ys (k : Nat) = some (.ref a2) := by
    have : k < ys.length := by rw [rk.len]; exact k5
    unfold atI ixN
    rw [if_pos (by omega), if_pos (by omega)]
    exact b1
  have neg : Eo X (.UnaryOp .USub (.Constant (.int 1) j1 p1) p2) ρ (some (.int (-1))) := eo_neg (f := some (.int 1)) eo_int
  have base : PE X (.Subscript (.Subscript (.Name (Str.ofString y) p0) (.UnaryOp .USub (.Constant (.int 1) j1 p1) p2) p3) (.Constant (.int (k : Nat)) j2 p4) p5) _ := pe_ix ix_list (pe_ix ix_list (pe_var (pos := p0) hsl.h hv hsl.d hsl.c) (pe_c (e := .UnaryOp .USub (.Constant (.int 1) j1 p1) p2)) (fun _ _ => rfl)) (pe_int (i := (k : Nat)) (j := j2) (pos := p4)) (fun _ _ => rfl)
  refine ⟨_, ps_expr (pe_bm PySem.F.plainAttrs_list PySem.F.slot_list_append PySem.F.type_list_append mt_append base (pa_cons pe_c pa_nil hs) hbase hfew hline hs hplain) hsw, _, e1, neg _ rfl σ H _ S.ok fun w H2 ⟨s2, r2⟩ => ?_⟩
  have ev := (Rq.of r2).int
  subst ev
  refine ⟨a, xs, -1, .ref a1, rfl, rfl, .inl (.inl (s2 _ _ e2)), xa, ?_⟩
  refine ⟨a1, ys, (k : Nat), .ref a2, rfl, rfl, .inl (.inl (s2 _ _ hl)), ya, ?_⟩
  refine ⟨.inl ⟨rfl, _, .inl (.inl (s2 _ _ hl2))⟩, ?_⟩
  have S2 := S.mono s2
  rcases stX_inv z with ⟨h1, rfl⟩ | ⟨l', h1, h2⟩
  · rcases bX_inv h1 with ⟨h3, _⟩ | ⟨d, h3, h4⟩
    · exact he.2 h3 σ H2 _ S2.ok fun H' s' => F.ex _ hx' H' (S2.same.trans s')
    · obtain ⟨_, _, h5⟩ := okX_inv h4
      cases h5
  rcases bX_inv h1 with ⟨_, h3⟩ | ⟨d, h3, h4⟩
  · cases h3
  obtain ⟨l2, h5, h6⟩ := okX_inv h4
  cases h6
  unfold addRow at h5
  rw [z1, bnd_some, z2, bnd_some] at h5
  obtain ⟨ds', h6, h7⟩ := bnd_inv h5
  cases h7
  obtain ⟨h8, h9⟩ := lim_inv h6
  cases h9
  refine he.1 d h3 σ H2 _ S2.ok fun w H3 ⟨s3, r3⟩ => ?_
  have s23 := s2.trans s3
  have S3 := S2.mono s3
  have hl3 : H3 a2 = some (.lst zs) := s23 _ _ hl2
  have ha3 : H3 a = some (.lst xs) := s23 _ _ e2
  have ha1 : H3 a1 = some (.lst ys) := s23 _ _ hl
  have st : Stb H3 (upd H3 a2 (.lst (zs ++ [w]))) := stb_upd hl3 trivial
  have rt3 : TrsOk X.K H3 xs (l.map encRw) L := rt.mono (.of s23) fun x _ o ho => s23 x o ho
  have rk3 : TrsOk X.K H3 ys (kids row) M1 := rk.mono (.of s23) fun x _ o ho => s23 x o ho
  have rz3 := rz'.mono (.of s23)
  have m2 : a2 ∈ M1 := b4 a2 List.mem_cons_self
  have n12 : a1 ≠ a2 := fun zz => nd1 (zz ▸ m2)
  have m2L : a2 ∈ L := g4 a2 (List.mem_cons_of_mem _ m2)
  have n02 : a ≠ a2 := fun zz => ndA (zz ▸ m2L)
  obtain ⟨M', c1, c2, c3⟩ := TrsOk.chg st (t' := .lst ((ds0 ++ [d]).map .val)) (M' := [a2]) rk3 ndM b1 kc (.lst hl3 (trs_of rz3)) (fun x _ nx o ho => by rw [upd_ne (by simpa using nx)]; exact ho) (.lst upd_same (trs_of ((rz3.mono st).append (.cons (r3.mono st) .nil)))) (by simp) (fun x hx => .inl (by simpa using hx))
  have subM : ∀ x ∈ M', x ∈ M1 := fun x hx => by
    rcases c3 x hx with ⟨q, _⟩ | q
    · exact q
    · simp at q; rw [q]; exact m2
  obtain ⟨L', d1, d2, d3⟩ := TrsOk.chg st (t' := .lst ((kids row).set k (.lst ((ds0 ++ [d]).map .val)))) (M' := a1 :: M') rt3 ndL g1 et (.lst ha1 rk3) (fun x _ nx o ho => by rw [upd_ne (fun zz => nx (by rw [zz]; exact List.mem_cons_of_mem _ m2))]; exact ho) (.lst (by rw [upd_ne n12]; exact ha1) c1) (List.nodup_cons.mpr ⟨fun q => nd1 (subM _ q), c2⟩) (fun x hx => by
    rcases List.mem_cons.mp hx with rfl | q
    · exact .inl List.mem_cons_self
    · exact .inl (List.mem_cons_of_mem _ (subM x q)))
  have subL : ∀ x ∈ L', x ∈ L := fun x hx => by
    rcases d3 x hx with ⟨q, _⟩ | q
    · exact q
    · rcases List.mem_cons.mp q with rfl | q
      · exact g4 _ List.mem_cons_self
      · exact g4 _ (List.mem_cons_of_mem _ (subM x q))
  have es : encPT (l.set (l.length - 1) (putKr k row (ds0 ++ [d]))) = .lst ((l.map encRw).set (l.length - 1) (.lst ((kids row).set k (.lst ((ds0 ++ [d]).map .val))))) := by
    unfold encPT
    rw [List.map_set]
    show Tr.lst ((l.map encRw).set _ (.lst (kids (putKr k row _)))) = _
    rw [kset]
  have oN : Own X.K (upd H3 a2 (.lst (zs ++ [w]))) (.ref a) (GR (.ref a) (l.set (l.length - 1) (putKr k row (ds0 ++ [d]))) (a :: L')) (a :: L') := by
    refine gr_own (by
      rw [es]
      exact .lst (by rw [upd_ne n02]; exact ha3) d1) (List.nodup_cons.mpr ⟨fun q => ndA (subL _ q), d2⟩)
  have fin := S3.chg hj e1 (gr_own (.lst ha3 rt3) nd) st (fun x q hx nx => by
    rw [upd_ne (fun zz => nx (by rw [zz]; exact List.mem_cons_of_mem _ m2L))]; exact hx) oN (fun x hx => .inl (by
      rcases List.mem_cons.mp hx with rfl | q
      · exact List.mem_cons_self
      · exact List.mem_cons_of_mem _ (subL x q)))
  exact ⟨a2, zs, w, rfl, rfl, hl3, by rw [rz'.length]; exact h8, F.nx _ _ _ fin (h _ _ r h2)⟩
end
def PXF (E : XK) (cls : Value) (v0 : V) : Option (List PRow) → DL.Fin
  | some l => { nx := fun ρ => ∃ L, ρ[0]? = some (GR v0 l L), rt := fun _ _ => False }
  | none => { nx := fun _ => False, rt := fun _ _ => False, ex := exW E cls }
section
variable {P : Program} {w : World} {K : PySem.W.Frag} {mg : Str → Option Value} {base : Heap} {x qual : Str} {params : Arguments} {body : List Stmt} {scope : Scope} {kws : List (Str × V)} {f : Addr} {fd : FuncData} {N ps : List Str} {k : Nat} {cls : Value}
theorem fn_PX {m : List PRow → List D → Option (Option (List PRow))} (F : FunD K x qual params body scope [] kws f fd) (Sc : FnScope N ps scope) (len : ∀ s ds r, m s ds = some r → ds.length + 1 = ps.length) (hN : N ≠ [])
    (h : ∀ (v0 : V) (l : List PRow) (L : List Addr) (ds : List D) (cdv : Value) (A : Around) (outer : List Env) (s : Shared) (H : Hp) (E : XK), Room k (A.deeper (envOfC qual scope s.heap.objs.size f cdv)) → (m l ds).isSome = true → Takes (cxOf (L2.CX P w) P w K mg base N qual scope f cdv A outer s H E) (fun c d _ H => E c d H) →
      So (cxOf (L2.CX P w) P w K mg base N qual scope f cdv A outer s H E) body (startM (GR v0 l L) N.length ds) (PXF E cls v0) (m l ds)) : FnOk P w K mg base (L2.CX P w) (k + 1) f fd ps (SpPX K cls m) := by
  refine F.ok Sc (fun vs H Q E ⟨v0, ws, l, ds, o, L0, e, ow, r, hm, _⟩ => by rw [e, List.length_cons, r.length, ← len l ds _ hm]) (fun cdv A outer s H vs Q E hr ⟨v0, ws, l, ds, o, L0, e, ow0, r, hm, hq, hx⟩ => ?_)
  subst e
  have ow : Own K H v0 (GR v0 l L0) L0 := by
    cases ow0 with
    | tr r n => exact gr_own r n
  refine ⟨_, pss_c, h v0 l L0 ds cdv A outer s H E hr (by rw [hm]; rfl) (takes_of (E := E) rfl rfl rfl rfl) o hm ⟨H, fun y => y ∈ L0⟩ H (L2.start N (v0 :: ws)) H _ ⟨fun _ _ e _ => e, .refl _, sok_startM r ow hN, fun i b v L y e1' es o1 hy => ?_, fun i T e1' => ?_⟩ ?_⟩
  · cases i with
    | zero =>
      have e2 : GR v0 l L0 = b := by simpa [startM] using e1'
      subst e2
      obtain ⟨_, eL, _⟩ := gr_inv o1
      exact .inr (by rw [← eL]; exact hy)
    | succ i =>
      have := startB_no _ _ i b (by simpa [startM] using e1')
      rw [o1.is] at this; cases this
  · cases i with
    | zero => simp [startM, GR] at e1'
    | succ i => exact absurd (startB_no _ _ i _ (by simpa [startM] using e1')) (by simp [isOwn])
  · cases o with
    | some l' =>
      refine ⟨fun ρ σ H' S' ⟨L1, e⟩ => ?_, fun _ _ _ _ _ _ _ z => z.elim, fun _ _ _ _ z => z.elim, fun _ _ _ _ z => z.elim, fun _ _ _ _ _ _ z => z.elim, fun _ z => nomatch z⟩
      obtain ⟨u, M1, z1, z2⟩ := S'.ok.has 0 _ e rfl
      obtain ⟨rfl, rfl, r2, n2⟩ := gr_inv z2
      refine hq l' rfl H' M1 ⟨fun b xs hb => S'.same b _ hb fun z => ?_, fun b ob y hb => S'.same b _ hb fun z => ?_, fun b φ ic hb => S'.same b _ hb fun z => ?_⟩ (fun y oy hy n => S'.same y oy hy n) (.tr r2 n2) (fun y hy => ?_)
      · obtain ⟨o1, h1, h2⟩ := ow0.stands b z
        rw [hb] at h1; cases h1; exact h2
      · obtain ⟨o1, h1, h2⟩ := ow0.stands b z
        rw [hb] at h1; cases h1; exact h2
      · obtain ⟨o1, h1, h2⟩ := ow0.stands b z
        rw [hb] at h1; cases h1; exact h2 _ ic
      · rcases S'.fr 0 _ _ M1 y e z1 z2 hy with z | z
        · exact .inr z
        · exact .inl z
    | none => exact ⟨fun _ _ _ _ z => z.elim, fun _ _ _ _ _ _ _ z => z.elim, fun _ _ _ _ z => z.elim, fun _ _ _ _ z => z.elim, fun _ _ _ _ _ _ z => z.elim, fun W z H' kp => by cases z; exact hx rfl H' fun x q hq' nx => kp x q hq' nx⟩
end
section
variable {R : Type} {X : Cx} {ρ : Rho} {Φ : R → DL.Fin} {es : List Expr} {rest : List Stmt} {pos p p2 cpos : Pos} {E : XK} {cls : Value} {rx : R} {kk : Nat}
/-- fn(y, ..) alone -/
theorem so_callPX (j : Nat) {fn y : String} {l : List PRow} {m : List PRow → List D → Option (Option (List PRow))} {G : List PRow → Option R} (tk : Takes X (fun c d _ H => E c d H)) (hx' : (Φ rx).ex = exW E cls) (M : FrX X.prog X.w X.K X.mg X.base fn kk (SpPX X.K cls m)) (hr : Room kk X.A) (hsl : Sl X.N y j) {r : Option (List D)} (ha : Ao X es ρ r) (h : ∀ l', So X rest (ρ.set j (.tr (encPT l'))) Φ (G l')) (hj : ρ[j]? = some (.tr (encPT l)) := by rfl) (hv : Vis X.env.scope (Str.ofString y) := by first | exact Or.inl rfl | exact Or.inr (Or.inl rfl) | exact Or.inr (Or.inr rfl))
    (hg : Gl X (Str.ofString fn) := by rfl) (hdb : (Str.ofString fn == ("__debug__" : Str)) = false := by decide) (hst : starEach (.Name (Str.ofString y) p2 :: es) X.env = (false, eval (.Name (Str.ofString y) p2) X.env) :: starEach es X.env := by rfl) (hpl : (backTo cpos (starEach es X.env)).any (·.1) = false := by rfl)
    (hsw : swapsWith (.Call (.Name (Str.ofString fn) p) (.Name (Str.ofString y) p2 :: es) [] cpos) none pos.line X.env = pure false := by rfl) :
    So X (.Expr (.Call (.Name (Str.ofString fn) p) (.Name (Str.ofString y) p2 :: es) [] cpos) pos :: rest) ρ Φ (stX (bnd r (m l)) rx G) := fun r' z => by
  refine xs_cons fun H0 H1 σ H En S F => ?_
  obtain ⟨f, fd, ps, Fk, hm, hk, hb⟩ := M.h
  obtain ⟨a, xs, L, e1, e2, rt, nd⟩ := S.ok.tr hj
  refine ⟨_, ps_expr (pe_call Fk hr hg hm hk hb .nil (passes_call tk (fun _ _ _ _ h => h)) (pa_cons (pe_var hsl.h hv hsl.d hsl.c) pa_c hst) hdb hst hpl) hsw, _, e1, ?_⟩
  have own2 : ∀ H2, Same H H2 → Own X.K H2 (.ref a) (.tr (encPT l)) (a :: L) := fun H2 s2 => .tr (.lst (s2 _ _ e2) (rt.mono (.of s2) fun y _ o ho => s2 y o ho)) nd
  rcases stX_inv z with ⟨h1, rfl⟩ | ⟨l', h1, h2⟩
  · obtain ⟨ds, z1, z2⟩ := bnd_inv h1
    refine ha ds z1 σ H _ S.ok fun us H2 s2 r2 => ?_
    show SpPX X.K cls m ((V.ref a :: us) ++ []) H2 _ E
    rw [List.append_nil]
    refine ⟨.ref a, us, l, ds, none, a :: L, rfl, own2 H2 s2, r2, z2, fun _ z => (nomatch z), fun _ H' kp => F.ex _ hx' H' fun b o hb nw => ?_⟩
    refine kp b o (s2 _ _ (S.same b o hb nw)) fun hL => ?_
    rcases S.fr j _ _ _ b hj e1 (own2 H (fun _ _ z => z)) hL with q | q
    · rw [q] at hb; cases hb
    · exact nw q
  · obtain ⟨ds, z1, z2⟩ := bnd_inv h1
    refine ha ds z1 σ H _ S.ok fun us H2 s2 r2 => ?_
    show SpPX X.K cls m ((V.ref a :: us) ++ []) H2 _ E
    rw [List.append_nil]
    refine ⟨.ref a, us, l, ds, some l', a :: L, rfl, own2 H2 s2, r2, z2, fun l2 z H' L1 st kp o1 hL => ?_, fun z => nomatch z⟩
    cases z
    exact F.nx _ _ _ ((S.mono s2).chg hj e1 (own2 H2 s2) st kp o1 hL) (h _ _ h2)
end
end DL


/-! A dict of the top by texts, asked with get. -/
namespace DL
open PySem PySem.Spec PyProof.Rows L2
def tabL : List DictEntry → List (Str × Int) → Bool
  | [], [] => true
  | e :: es, q :: r => (match e.key, e.val with
    | .str x _, .int j _ => decide (x = q.1) && decide (j = q.2)
    | _, _ => false) && tabL es r
  | _, _ => false
def tabKB (K : PySem.W.Frag) (d : Addr) (kvs : List (Str × Int)) : Bool := match K.lookup d with
  | some ⟨_, _, .dict es _, _⟩ => tabL es.toList kvs
  | _ => false
inductive TabR : Option Int → Option Value → Prop
  | some (i : Int) (t : Tok) : TabR (some i) (some (.int i t))
  | none : TabR none none
theorem tabL_find : ∀ {es : List DictEntry} {kvs : List (Str × Int)}, tabL es kvs = true → ∀ z : Str, (es.any (·.refKey) = false) ∧ TabR (kvs.lookup z) ((es.find? (·.key.isStr z)).map (·.val))
  | [], [], _, z => ⟨rfl, .none⟩
  | [], _ :: _, h, _ => nomatch h
  | _ :: _, [], h, _ => nomatch h
  | e :: es, (k, i) :: r, h, z => by
    obtain ⟨eh, ek, ev⟩ := e
    unfold tabL at h
    obtain ⟨h1, h2⟩ := Bool.and_eq_true_iff.mp h
    obtain ⟨a1, a2⟩ := tabL_find h2 z
    cases ek with
    | str x t =>
      cases ev with
      | int j t' =>
        obtain ⟨c1, c2⟩ := Bool.and_eq_true_iff.mp h1
        have b1 : x = k := of_decide_eq_true c1
        have b2 : j = i := of_decide_eq_true c2
        subst b1; subst b2
        refine ⟨by rw [List.any_cons, a1]; rfl, ?_⟩
        rw [List.lookup_cons, List.find?_cons]
        by_cases hz : z = x
        · subst hz
          have e1 : (Value.str z t).isStr z = true := by simp [Value.isStr]
          simp only [e1, BEq.rfl]
          exact .some j t'
        · have e1 : (Value.str x t).isStr z = false := by simp [Value.isStr]; exact fun h => hz h.symm
          have e2 : (z == x) = false := by simpa using hz
          simp only [e1, e2]
          exact a2
      | _ => cases h1
    | _ => cases h1
/-- all that the table tells -/
structure KTab (K : PySem.W.Frag) (w : World) (d : Addr) (kvs : List (Str × Int)) : Prop where
  h : ∃ es n, KDict K w d es n ∧ ∀ z : Str, ∃ r, PySem.W.nsIn K d z = some r ∧ TabR (kvs.lookup z) r
theorem ktab_of {K : PySem.W.Frag} {w : World} {d : Addr} {kvs : List (Str × Int)} (D : ∃ es n, KDict K w d es n) (h : tabKB K d kvs = true) : KTab K w d kvs := by
  obtain ⟨es, n, D⟩ := D
  refine ⟨es, n, D, fun z => ?_⟩
  unfold tabKB at h
  rw [D.at_] at h
  obtain ⟨a1, a2⟩ := tabL_find h z
  refine ⟨_, ?_, a2⟩
  unfold PySem.W.nsIn
  rw [D.at_]
  show (match es.toList.find? (·.key.isStr z) with
    | some e => some (some e.val)
    | none => if es.toList.any (·.refKey) then none else some none) = _
  cases es.toList.find? (·.key.isStr z) with
  | some e => rfl
  | none => rw [a1]; rfl
def getKD (kvs : List (Str × Int)) : D → D → Option D
  | .str z, y => some (match kvs.lookup z with | some i => .int i | none => y)
  | _, _ => none
section
variable {X : Cx} {ρ : Rho} {a b : Expr} {f g : Option D} {p apos cpos : Pos} {s : String} {d : Addr} {kvs : List (Str × Int)}
theorem eo_kget (T : KTab X.K X.w d kvs) (hm : X.mg (Str.ofString s) = some (.ref d)) (ha : Eo X a ρ f) (hb : Eo X b ρ g) (hg : Gl X (Str.ofString s) := by rfl) (hdb : (Str.ofString s == ("__debug__" : Str)) = false := by decide) (m : M2 X (.Name (Str.ofString s) p) "get" apos a b cpos := by exact ⟨rfl, rfl, rfl, rfl⟩) :
    Eo X (.Call (.Attribute (.Name (Str.ofString s) p) "get" apos) [a, b] [] cpos) ρ (op2 (getKD kvs) f g) := fun r z => by
  obtain ⟨x, y, z1, z2, z3⟩ := op2_inv z
  obtain ⟨es, n, D, ht⟩ := T.h
  intro σ H Q S q'
  cases x with
  | str k =>
    cases z3
    refine ⟨fun σ' H' Q' => σ' = σ ∧ Q' = Q ∧ H' = H, ⟨fun pins st σ' H' Q' I hh => ?_⟩, rfl, rfl, rfl⟩
    obtain ⟨rfl, rfl, rfl⟩ := hh
    refine wpAny_Call_method m.base m.few m.line PySem.F.plainAttrs_dict PySem.F.slot_dict_get PySem.F.type_dict_get (thn ((pe_glob (pos := p) (v := .ref d) hg hm rfl hdb).run pins st σ' H' (fun v H1 => v = .ref d ∧ H1 = H') I ⟨rfl, rfl⟩) fun u s1 ⟨v, H1, I1, r1, ev, eH⟩ => ?_)
    subst ev
    subst eH
    obtain rfl : u = Value.ref d := r1
    refine ⟨kd_type D I1, fun c e => ?_, ?_⟩
    · cases e
      exact ⟨_, I1.kIn _ _ D.at_, rfl⟩
    rw [m.trees]
    refine Calls.callWith_builtin rfl (Calls.evalArgs_plain (Calls.spliced_cons (thn (pe_c.run pins s1 σ' H1 (fun v H2 => Same H1 H2 ∧ Rp X.K H2 v (.str k)) I1 (ha _ z1 σ' H1 _ S fun v H2 q => q)) fun iv s2 ⟨v1, H2, I2, ry, sm1, rp1⟩ =>
      Calls.spliced_cons (thn (pe_c.run pins s2 σ' H2 (fun v H3 => Same H2 H3 ∧ Rp X.K H3 v y) I2 (hb _ z2 σ' H2 _ (S.mono sm1) fun v H3 q => q)) fun fv s3 ⟨v2, H3, I3, rz, sm2, rp2⟩ => Calls.spliced_nil ?_))))
    have e1 := (Rq.of rp1).str
    subst e1
    obtain ⟨t, rfl⟩ := ry
    obtain ⟨r, hr, tr⟩ := ht k
    refine call_meetsIn PySem.F.slot_dict_get (kd_type D I3) PySem.F.entry_dict_get (PySem.F.args_dict_get_3 _ _ _) (meets_dict_get_default (strKind X.prog X.w) d (PySem.strKind_is X.prog X.w k t) D.low fv) ⟨_, PySem.W.mapOf_K (prog := X.prog) I3.kIn D.at_ D.lit, ?_⟩
    rw [PySem.W.find_K D.at_ hr]
    generalize kvs.lookup k = o at tr q'
    cases tr with
    | some i t => exact ⟨.int i, H3, I3.tok _, ⟨_, rfl⟩, q' _ H3 ⟨sm1.trans sm2, .int i⟩⟩
    | none => exact ⟨v2, H3, I3.tok _, rz, q' _ H3 ⟨sm1.trans sm2, rp2⟩⟩
  | _ => cases z3
end
end DL


/-! A call of a def that may raise, where it does not. -/
namespace DL
open PySem PySem.Spec PyProof.Rows L2
theorem passNo {X : Cx} : Passes (L2.CX X.prog X.w) X E0 := fun _ _ _ _ _ _ _ h => by
  obtain ⟨_, _, _, _, _, _, _, _, _, _, _, _, z⟩ := h
  exact z.elim
section
variable {X : Cx} {ρ : Rho} {e : Expr} {es : List Expr} {p pos : Pos} {E : XK} {cls : Value} {kk : Nat}
theorem eo_callX {fn : String} {m : List D → Option (Option D)} (M : FrX X.prog X.w X.K X.mg X.base fn kk (SpDX X.K cls m)) (hr : Room kk X.A) {r : Option (List D)} (ha : Ao X (e :: es) ρ r) (hg : Gl X (Str.ofString fn) := by rfl) (hdb : (Str.ofString fn == ("__debug__" : Str)) = false := by decide) (hst : starEach (e :: es) X.env = (false, eval e X.env) :: starEach es X.env := by rfl) (hpl : (backTo pos (starEach es X.env)).any (·.1) = false := by rfl) :
    Eo X (.Call (.Name (Str.ofString fn) p) (e :: es) [] pos) ρ (bnd (bnd r m) id) := fun d z => by
  obtain ⟨f, fd, ps, F, hm, hk, hb⟩ := M.h
  obtain ⟨o, z0, z3⟩ := bnd_inv z
  cases z3
  obtain ⟨ds, z1, z2⟩ := bnd_inv z0
  intro σ H Q S q'
  refine ⟨_, pe_call F hr hg hm hk hb .nil passNo pa_c hdb hst hpl, ha ds z1 σ H _ S fun us H2 s2 r2 => ?_⟩
  rw [List.append_nil]
  exact ⟨ds, some d, r2, z2, fun d' e' v H' s' rp => by cases e'; exact q' v H' ⟨s2.trans s', rp⟩, fun z => nomatch z⟩
end
end DL


/-! A def that tries what it gets, and asks what it caught with isinstance. -/
namespace DL
open PySem PySem.Spec PyProof.Rows L2
/-- ("told", d) or ("refused", True) -/
def TTr (K : PySem.W.Frag) (CS CD : Addr) : TTT := fun tl H Q =>
  tl (fun cls d H' => cls = .ref CD ∧ d = none ∧ PySem.W.exmOne K cls (.ref CS) = some true ∧ ∀ p o, H' p = none → o.dict = none → Q (.ref p) (upd H' p (.frz o (.tup [.str "refused", .bl true])))) H
    (fun v H' => ∀ p o, H' p = none → o.dict = none → Q (.ref p) (upd H' p (.frz o (.tup [.str "told", v]))))
def cTr : Option D → D
  | some d => .tuple [.str "told", d]
  | none => .tuple [.str "refused", .bool true]
theorem lamOk_r {K : PySem.W.Frag} {CS CD : Addr} (h : PySem.W.exmOne K (.ref CD) (.ref CS) = some true) : LamOk K (TTr K CS CD) (.ref CD) cTr := ⟨fun tl H Q o G h1 h2 => by
  refine h1 _ _ (fun d e v H' g r p ob hp ho => ?_) (fun e H' g => ⟨rfl, rfl, h, fun p ob hp ho => ?_⟩)
  · subst e
    exact h2 _ H' _ g (same_new hp) (rp_tupNew hp ho (.cons (.str _) (.cons r .nil)))
  · subst e
    exact h2 _ H' _ g (same_new hp) (rp_tupNew hp ho (.cons (.str _) (.cons (.bl true) .nil)))⟩
/-- what isinstance asks of the exception's class -/
structure IsC (K : PySem.W.Frag) (CD : Addr) : Prop where
  c : ExcC K CD
  v : PySem.W.kitOne K (.ref CD) (.type "ValueError") = some true
  s : PySem.W.kitOne K (.ref CD) (.ref CD) = some true
section
variable {X : Cx}
theorem is_ve {a CD : Addr} {oe : Obj} {pn : List (Addr × Obj)} {r1 r2 r3 r4 : Pos} (IC : IsC X.K CD) (hz : Zc (.ref CD) none oe) (hv : ∃ vs, oe.data = .fields vs) (hN : X.N[2]? = some ("e" : Str)) (hle : Vis X.env.scope "e") (hgi : Gl X "isinstance") (hmi : X.mg "isinstance" = none) (hgv : Gl X "ValueError") (hmv : X.mg "ValueError" = none)
    (h1 : starEach [.Name "e" r2, .Name "ValueError" r3] (X.suite a ((a, oe) :: pn)).env = (false, eval (.Name "e" r2) (X.suite a ((a, oe) :: pn)).env) :: starEach [.Name "ValueError" r3] (X.suite a ((a, oe) :: pn)).env := by rfl) (h2 : starEach [.Name "ValueError" r3] (X.suite a ((a, oe) :: pn)).env = (false, eval (.Name "ValueError" r3) (X.suite a ((a, oe) :: pn)).env) :: starEach [] (X.suite a ((a, oe) :: pn)).env := by rfl) :
    PE (X.suite a ((a, oe) :: pn)) (.Call (.Name "isinstance" r1) [.Name "e" r2, .Name "ValueError" r3] [] r4) (fun σ H Q => σ[2]? = some (some (.ref a)) ∧ Q (.bl true) H) := by
  have hp : PE (X.suite a ((a, oe) :: pn)) (.Name "e" r2) _ := pe_var (X := X.suite a ((a, oe) :: pn)) (i := 2) hN hle (by decide) (by decide)
  have hq : PE (X.suite a ((a, oe) :: pn)) (.Name "ValueError" r3) _ := pe_bltn (X := X.suite a ((a, oe) :: pn)) (v := .ty "ValueError") hgv hmv (by first | rfl | decide +kernel) rfl
  have hc := pe_callB (X := X.suite a ((a, oe) :: pn)) (p := r1) (pos := r4) (call_isE (pn := pn) (a := a) IC.c hz hv) hgi hmi (by first | rfl | decide +kernel) (pa_cons hp (pa_cons hq pa_nil h2) h1) (by decide) (by decide) h1 rfl
  exact ⟨fun pins s σ H Q I ⟨h, h'⟩ => hc.run pins s σ H Q I ⟨.ref a, h, .ty "ValueError", .type "ValueError", true, rfl, fun u hu => hu, IC.v, h'⟩⟩
theorem is_cl {a CD : Addr} {oe : Obj} {pn : List (Addr × Obj)} {r1 r2 r3 r4 : Pos} {nc : Str} (IC : IsC X.K CD) (hz : Zc (.ref CD) none oe) (hv : ∃ vs, oe.data = .fields vs) (hN : X.N[2]? = some ("e" : Str)) (hle : Vis X.env.scope "e") (hgi : Gl X "isinstance") (hmi : X.mg "isinstance" = none) (hgv : Gl X nc) (hmv : X.mg nc = some (.ref CD)) (hd : (nc == ("__debug__" : Str)) = false)
    (h1 : starEach [.Name "e" r2, .Name nc r3] (X.suite a ((a, oe) :: pn)).env = (false, eval (.Name "e" r2) (X.suite a ((a, oe) :: pn)).env) :: starEach [.Name nc r3] (X.suite a ((a, oe) :: pn)).env := by rfl) (h2 : starEach [.Name nc r3] (X.suite a ((a, oe) :: pn)).env = (false, eval (.Name nc r3) (X.suite a ((a, oe) :: pn)).env) :: starEach [] (X.suite a ((a, oe) :: pn)).env := by rfl) :
    PE (X.suite a ((a, oe) :: pn)) (.Call (.Name "isinstance" r1) [.Name "e" r2, .Name nc r3] [] r4) (fun σ H Q => σ[2]? = some (some (.ref a)) ∧ Q (.bl true) H) := by
  have hp : PE (X.suite a ((a, oe) :: pn)) (.Name "e" r2) _ := pe_var (X := X.suite a ((a, oe) :: pn)) (i := 2) hN hle (by decide) (by decide)
  have hq : PE (X.suite a ((a, oe) :: pn)) (.Name nc r3) _ := pe_glob (X := X.suite a ((a, oe) :: pn)) (v := .ref CD) hgv hmv rfl hd
  have hc := pe_callB (X := X.suite a ((a, oe) :: pn)) (p := r1) (pos := r4) (call_isE (pn := pn) (a := a) IC.c hz hv) hgi hmi (by first | rfl | decide +kernel) (pa_cons hp (pa_cons hq pa_nil h2) h1) (by decide) (by decide) h1 rfl
  exact ⟨fun pins s σ H Q I ⟨h, h'⟩ => hc.run pins s σ H Q I ⟨.ref a, h, .ref CD, .ref CD, true, rfl, fun u hu => hu, IC.s, h'⟩⟩
theorem told_gives {x e q nc : Str} {sg : Scope} {g CS CD : Addr} {cdg : Value} {j1 j2 k1 k2 : Nat} {p1 p2 p3 p4 p5 p6 p7 p8 p9 pb pc pd pe pf pg r1 r2 r3 r4 r5 r6 r7 r8 r9 : Pos} (IC : IsC X.K CD) (hge : sg.names.lookup e = some .globalImplicit) (hme : X.mg e = some (.ref CS)) (hde : (e == ("__debug__" : Str)) = false) (hlf : sg.names.lookup ("found" : Str) = some .local) (hle : sg.names.lookup ("e" : Str) = some .local)
    (hgi : sg.names.lookup ("isinstance" : Str) = some .globalImplicit) (hmi : X.mg "isinstance" = none) (hgv : sg.names.lookup ("ValueError" : Str) = some .globalImplicit) (hmv : X.mg "ValueError" = none) (hgc : sg.names.lookup nc = some .globalImplicit) (hmc : X.mg nc = some (.ref CD)) (hdc : (nc == ("__debug__" : Str)) = false) :
    LamX.GivesTo X ["deed", "found", "e"] x sg g cdg [.Try [.Assign [.Name "found" p1] (.Tuple [.Constant (.str "told") j1 p2, .Call (.Name "deed" p3) [] [] p4] k1 p5) p6] [.ExceptHandler (some (.Name e p7)) (some "e") [.Assign [.Name "found" p8] (.Tuple [.Constant (.str "refused") j2 p9, .BoolOp .And [.Call (.Name "isinstance" r1) [.Name "e" r2, .Name "ValueError" r3] [] r4, .Call (.Name "isinstance" r5) [.Name "e" r6, .Name nc r7] [] r8] r9] k2 pb) pc] pd] [] [] pe, .Return (some (.Name "found" pf)) pg] "deed" q (TTr X.K CS CD) := by
  intro f c' s H Q tl act hc h
  have hnd : (["deed", "found", "e"] : List Str).Nodup := by decide
  have hgl : Gl (cxOf C8.CX0 X.prog X.w X.K X.mg X.base ["deed", "found", "e"] x sg g cdg X.A X.stack s H C8.E0).nox e := hge
  refine ⟨_, pss_cons (ps_try_as (X := (cxOf C8.CX0 X.prog X.w X.K X.mg X.base ["deed", "found", "e"] x sg g cdg X.A X.stack s H C8.E0).nox) (c := .ref CS) (i := 2) (n := "e")
      (tb := fun W D σ H => ∃ Ech : XK, (∀ cls d σ' H', Ech cls d H' → σ'.length = 3 → W cls d σ' H') ∧ σ[0]? = some (some (.ref f)) ∧ H c' = some (LamX.CodeO c' q) ∧ ∃ Q0 : VK, tl Ech H Q0 ∧ ∀ v H', Q0 v H' → ∀ p o, H' p = none → o.dict = none → D.nx (σ.set 1 (some (.ref p))) (upd H' p (.frz o (.tup [.str "told", v]))))
      (ts := fun a cls d D σ H => cls = .ref CD ∧ d = none ∧ σ[2]? = some (some (.ref a)) ∧ ∀ p o, H p = none → o.dict = none → D.nx (σ.set 1 (some (.ref p))) (upd H p (.frz o (.tup [.str "refused", .bl true]))))
      rfl rfl hnd rfl hle ⟨hgl, hde, .inl hme⟩ LamX.takes0 (fun W pn xe tk _ => ?_) (fun a oe cls d pn hz hv => ?_)) (pss_one (ps_ret (pe_var (i := 1) rfl (.inl hlf) (by decide) (by decide)))), ?_⟩
  · refine ⟨fun pins s' σ H' D I h' => ?_⟩
    obtain ⟨Ech, hW, h1, h2, Q0, h3, h4⟩ := h'
    have hp := act _ pn xe Ech p3 p4 (takes_len tk rfl) hW
    refine (pss_one (ps_set (i := 1) (pos' := p1) (pos := p6) hnd rfl (.inl hlf) (pe_tupF (n := k1) (pos := p5) (pa_cons (pe_str (j := j1) (pos := p2)) (pa_cons (PE.up hp) pa_nil))) rfl (.inr hlf))).run pins s' σ H' D I ?_
    exact ⟨_, ⟨h1, h2, h3⟩, fun v H1 q => ⟨by show 2 ≤ sizeLine; rw [sizeLine_eq]; omega, fun p o hp ho => h4 v H1 q p o hp ho⟩⟩
  · refine ⟨fun pins s' σ H' D I h' => ?_⟩
    obtain ⟨rfl, rfl, h1, h2⟩ := h'
    have w1 := is_ve (X := (cxOf C8.CX0 X.prog X.w X.K X.mg X.base ["deed", "found", "e"] x sg g cdg X.A X.stack s H C8.E0).nox) (a := a) (pn := pn) (r1 := r1) (r2 := r2) (r3 := r3) (r4 := r4) IC hz hv rfl (.inl hle) hgi hmi hgv hmv
    have w2 := is_cl (X := (cxOf C8.CX0 X.prog X.w X.K X.mg X.base ["deed", "found", "e"] x sg g cdg X.A X.stack s H C8.E0).nox) (a := a) (pn := pn) (r1 := r5) (r2 := r6) (r3 := r7) (r4 := r8) (nc := nc) IC hz hv rfl (.inl hle) hgi hmi hgc hmc hdc
    have w3 := pe_tupF (n := k2) (pos := pb) (pa_cons (pe_str (X := ((cxOf C8.CX0 X.prog X.w X.K X.mg X.base ["deed", "found", "e"] x sg g cdg X.A X.stack s H C8.E0).nox).suite a ((a, oe) :: pn)) (x := "refused") (j := j2) (pos := p9)) (pa_cons (pe_and (pos := r9) w1 (pe_one w2)) pa_nil))
    refine (pss_one (ps_set (i := 1) (pos' := p8) (pos := pc) hnd rfl (.inl hlf) w3 rfl (.inr hlf))).run pins s' σ H' D I ?_
    refine ⟨h1, true, rfl, ?_⟩
    show (if true = true then _ else _)
    rw [if_pos rfl]
    exact ⟨h1, ⟨by show 2 ≤ sizeLine; rw [sizeLine_eq]; omega, fun p o hp ho => h2 p o hp ho⟩⟩
  · refine ⟨fun cls d H' => cls = .ref CD ∧ d = none ∧ PySem.W.exmOne X.K cls (.ref CS) = some true ∧ ∀ p o, H' p = none → o.dict = none → Q (.ref p) (upd H' p (.frz o (.tup [.str "refused", .bl true]))), fun cls d σ' H' ⟨e0, e1, e2, e3⟩ hl => ⟨true, e2, fun _ a _ => ⟨e0, e1, List.getElem?_set_self (by omega), fun p o hp ho => ⟨.ref p, ?_, e3 p o hp ho⟩⟩, fun hb => by cases hb⟩, rfl, hc, _, h, fun v H' q p o hp ho => ⟨.ref p, rfl, q p o hp ho⟩⟩
    rw [List.getElem?_set_ne (by decide), List.getElem?_set_self (by rw [List.length_set]; omega)]
end
section
variable {K : PySem.W.Frag} {mg : Str → Option Value} {f CS CD : Addr} {fd : FuncData} {params : Arguments} {sg : Scope} {s : String} {e nc : Str}
theorem lr_told {j1 j2 k1 k2 : Nat} {p1 p2 p3 p4 p5 p6 p7 p8 p9 pb pc pd pe pf pg r1 r2 r3 r4 r5 r6 r7 r8 r9 : Pos} (F : FunD K (Str.ofString s) (Str.ofString s) params [.Try [.Assign [.Name "found" p1] (.Tuple [.Constant (.str "told") j1 p2, .Call (.Name "deed" p3) [] [] p4] k1 p5) p6] [.ExceptHandler (some (.Name e p7)) (some "e") [.Assign [.Name "found" p8] (.Tuple [.Constant (.str "refused") j2 p9, .BoolOp .And [.Call (.Name "isinstance" r1) [.Name "e" r2, .Name "ValueError" r3] [] r4, .Call (.Name "isinstance" r5) [.Name "e" r6, .Name nc r7] [] r8] r9] k2 pb) pc] pd] [] [] pe, .Return (some (.Name "found" pf)) pg] sg [] [] f fd)
    (hm : mg (Str.ofString s) = some (.ref f)) (b : Binds K fd ["deed"] []) (Sc : FnScope ["deed", "found", "e"] ["deed"] sg) (hme : mg e = some (.ref CS)) (IC : IsC K CD) (hmi : mg "isinstance" = none) (hmv : mg "ValueError" = none) (hmc : mg nc = some (.ref CD)) (hge : sg.names.lookup e = some .globalImplicit) (hde : (e == ("__debug__" : Str)) = false) (hlf : sg.names.lookup ("found" : Str) = some .local) (hle : sg.names.lookup ("e" : Str) = some .local)
    (hgi : sg.names.lookup ("isinstance" : Str) = some .globalImplicit) (hgv : sg.names.lookup ("ValueError" : Str) = some .globalImplicit) (hgc : sg.names.lookup nc = some .globalImplicit) (hdc : (nc == ("__debug__" : Str)) = false) (hv : Vis sg "deed") (h3 : (Str.ofString s == ("__debug__" : Str)) = false) : Lr K mg s (TTr K CS CD) :=
  lr_of F hm b Sc rfl hv (by decide) (by decide) h3 fun X g cdv q e1 e2 => by subst e1; subst e2; exact told_gives IC hge hme hde hlf hle hgi hmi hgv hmv hgc hmc hdc
end
def isCB (K : PySem.W.Frag) (D : Addr) : Bool :=
  decide (PySem.W.findIn K (.ref D) "__getattribute__" = some (some (.builtin "BaseException.__getattribute__"))) && (decide (PySem.W.findIn K (.ref D) "__getattr__" = some none) && (decide (PySem.W.subIn K (.ref D) (.type "BaseException") = some true) && (PySem.W.hasDictIn K D &&
  (decide (PySem.W.findIn K (.ref D) "__class__" = some (some (.builtin "object.__class__"))) && (decide (PySem.W.specialIn K (.builtin "object.__class__") "__get__" = some (some (.builtin "getset_descriptor.__get__"))) && (decide (PySem.W.takesIn K (.builtin "object.__class__") = some true) && (decide (PySem.W.mroIn K D (.type "object") = some true) &&
  (decide (PySem.W.kitOne K (.ref D) (.type "ValueError") = some true) && decide (PySem.W.kitOne K (.ref D) (.ref D) = some true)))))))))
theorem isC_of {K : PySem.W.Frag} {D : Addr} (h : isCB K D = true) : IsC K D := by
  unfold isCB at h
  simp only [Bool.and_eq_true, decide_eq_true_eq] at h
  obtain ⟨h1, h2, h3, h4, h5, h6, h7, h8, h9, ha⟩ := h
  exact ⟨⟨h1, h2, h3, h4, h5, h6, h7, h8⟩, h9, ha⟩
end DL


/-! Small things for the printer: arguments, lambdas that call a def that may raise, an empty list of rows, rows as a datum. -/
namespace DL
open PySem PySem.Spec PyProof.Rows L2
def ar1 {R : Type} (m : D → Option R) : List D → Option R
  | [a] => m a
  | _ => none
theorem ar1_inv {R : Type} {m : D → Option R} {ds : List D} {r : R} (h : ar1 m ds = some r) : ∃ a, ds = [a] ∧ m a = some r := by
  match ds, h with
  | [a], h => exact ⟨a, rfl, h⟩
def frzR (r : PRow) : D := .list [r.1, r.2.1, .list r.2.2.1, .list r.2.2.2.1, .list r.2.2.2.2]
def frzP (l : List PRow) : D := .list (l.map frzR)
theorem trsD_vals : ∀ ds : List D, trsD (ds.map .val) = some ds
  | [] => rfl
  | d :: ds => by
    show (bnd (trD (.val d)) fun d => bnd (trsD (ds.map .val)) fun ds => some (d :: ds)) = _
    rw [trsD_vals ds]
    rfl
theorem trD_R (r : PRow) : trD (encRw r) = some (frzR r) := by
  obtain ⟨a, b, x, y, z⟩ := r
  unfold encRw kids
  simp only [trD, trsD, trsD_vals, bnd, frzR]
theorem trsD_P : ∀ l : List PRow, trsD (l.map encRw) = some (l.map frzR)
  | [] => rfl
  | r :: l => by
    show (bnd (trD (encRw r)) fun d => bnd (trsD (l.map encRw)) fun ds => some (d :: ds)) = _
    rw [trD_R, trsD_P l]
    rfl
theorem trD_P (l : List PRow) : trD (encPT l) = some (frzP l) := by
  unfold encPT
  show (bnd (trsD (l.map encRw)) fun ds => some (PyData.list ds)) = _
  rw [trsD_P]
  rfl
section
variable {R : Type} {X : Cx} {ρ : Rho} {Φ : R → DL.Fin} {e a b : Expr} {es : List Expr} {rest : List Stmt} {pos pos' p p1 p2 : Pos} {E : XK} {cls : Value} {f : Option (Option D)}
theorem so_newRows (i : Nat) {x : Str} {G : Option R} (hN : X.N.Nodup) (h : So X rest (ρ.set i (.tr (encPT []))) Φ G) (hi : X.N[i]? = some x := by rfl) (hx : Loc X.env.scope x := by first | exact Or.inl rfl | exact Or.inr rfl) {lp : Pos} (hs : swapsWith (.List [] lp) (some (.Name x pos')) pos.line X.env = pure false := by rfl) (hf : X.fn x = true ∨ X.env.scope.names.lookup x = some .local := by first | exact .inl rfl | exact .inr rfl | assumption) :
    So X (.Assign [.Name x pos'] (.List [] lp) pos :: rest) ρ Φ G := fun r z =>
  xs_cons fun H0 H1 σ H E S F => ⟨_, ps_set hN hi hx pe_c hs hf, ntr_e _ rfl σ H _ S.ok fun v H' L s r' n d => F.nx _ _ _ (S.setNew s d (.tr r' n)) (h r z)⟩
theorem emx_of (h : EoX X E cls e ρ f) : EmX X E cls e ρ (fun _ : Unit => ρ) (bnd f fun o => some (o, ())) := fun r z => by
  obtain ⟨o, z1, z2⟩ := bnd_inv z
  cases z2
  intro H0 H1 σ H Q Sk q1 q2
  cases o with
  | some d => exact h.1 d z1 σ H _ Sk.ok fun v H' ⟨s, r⟩ => q1 d rfl v H' (Sk.mono s) (.of s) r
  | none => exact h.2 z1 σ H _ Sk.ok fun H' s => q2 rfl H' (Sk.mono s) (.of s)
end
end DL


/-! text * n -/
namespace DL
open PySem PySem.Spec PyProof.Rows L2
def mulT : D → D → Option D
  | .str a, .int k => if 0 ≤ k ∧ k ≤ 1000 ∧ a.length ≤ 10000 then some (.str (Txt.mul a k)) else none
  | x, y => mulX x y
theorem op_mulS {X : Cx} : OpR X (binaryOp .Mult) (fun x y H Q => ∃ (a : Str) (k : Int), x = .str a ∧ y = .int k ∧ 0 ≤ k ∧ k ≤ 1000 ∧ a.length ≤ 10000 ∧ Q (.str (Txt.mul a k)) H) := by
  intro pins s σ H x y v u Q I rx ry h
  obtain ⟨a, k, rfl, rfl, h1, h2, h3, q⟩ := h
  obtain ⟨t, rfl⟩ := rx
  obtain ⟨t', rfl⟩ := ry
  exact SB.mul (mulOk_of 10000 1000 h3 (by omega) (by omega) (by omega) (by omega)) fun t'' n => ⟨.str _, H, I.tok _, ⟨_, rfl⟩, q⟩
theorem of_mulT {X : Cx} : OpF X (binaryOp .Mult) mulT := fun x y d h => by
  unfold mulT at h
  split at h
  · split at h
    · rename_i a k hk
      cases h
      exact ⟨.val (.str (Txt.mul a k)), fun H u v Q ru rv q => ⟨_, op_mulS, a, k, ru.str, rv.int, hk.1, hk.2.1, hk.2.2, q _ H ⟨.refl H, .str _⟩⟩, .val⟩
    · cases h
  · exact of_mulX x y d h
end DL


/-! An exception that leaves a list comprehension: what the block's calls let out is taken by the def around. -/
namespace DL
open PySem PySem.Spec PyProof.Rows L2
section
variable {Y : Cx} {xe : Value → Shared → Prop} {pins : List (Addr × Obj)} {σ : L2.St} {H : Hp} {s s' : Shared}
theorem ok_xe (k : Y.Ok) : ({ Y with xe := xe } : Cx).Ok where
  mod := k.mod
  kind := k.kind
  glob := k.glob
  blt := k.blt
  above := k.above
  inj := k.inj
  has := k.has
  cab := k.cab
  hd := k.hd
  frames := k.frames
  stk := k.stk
  exf := k.exf
  bs := k.bs
  bsz := k.bsz
  noex := k.noex
  exfs := k.exfs
  funs := k.funs
  frf := k.frf
theorem inv_xe (I : Inv Y pins σ H s) : Inv { Y with xe := xe } pins σ H s where
  ok := ok_xe I.ok
  os := I.os
  bare := I.bare
  base := I.base
  loc := I.loc
  cell := I.cell
  free := I.free
  freeC := I.freeC
  pin := I.pin
  hok := I.hok
  len := I.len
/-- what a call let out, with the state that it stands over -/
structure Fly (Y : Cx) (E : XK) (a : Addr) (s' : Shared) (B : Heap) (sI : Shared) (pins : List (Addr × Obj)) (σ : L2.St) (H : Hp) (cls : Value) (d : Option Addr) : Prop where
  inv : Inv Y pins σ H sI
  gr : ∀ b o, sI.heap.get? b = some o → b ∉ frs Y.stack → B.get? b = some o
  up : sI.heap.UpToSlots s'.heap
  fl : HandSPX.FlyingZ B Y.stack a (Zc cls d) s'.heap
  na : H a = none
  os : s'.os = sI.os
  ag : AllBare s'.gens
  w : E cls d H
theorem fly_of {E : XK} {u : Value} (I : Inv Y pins σ H s) (c : L2.CX Y.prog Y.w Y.stack H s E u s') : ∃ a B sI H' cls d, u = .ref a ∧ Fly Y E a s' B sI pins σ H' cls d := by
  obtain ⟨a, B, H', cls, d, rfl, fl, hok, ub, na, os, ag, hE⟩ := c
  have sB : ∀ b o, B.get? b = some o → s'.heap.get? b = some o := fl.1
  obtain ⟨G, gin, gout⟩ := restrict s'.heap (fun b => decide (b ∈ frs Y.stack) || (B.get? b).isSome)
  have fr : ∀ b, b ∈ frs Y.stack → G.get? b = s'.heap.get? b := fun b h => gin b (by simp [h])
  have gr : ∀ b o, B.get? b = some o → G.get? b = some o := fun b o h => (gin b (by simp [h])).trans (sB b o h)
  have back : ∀ b o, G.get? b = some o → s'.heap.get? b = some o ∧ (b ∈ frs Y.stack ∨ B.get? b = some o) := fun b o h => by
    by_cases hp : (decide (b ∈ frs Y.stack) || (B.get? b).isSome) = true
    · rw [gin b hp] at h
      refine ⟨h, ?_⟩
      rw [Bool.or_eq_true] at hp
      rcases hp with hp | hp
      · exact .inl (of_decide_eq_true hp)
      · obtain ⟨o', q⟩ := Option.isSome_iff_exists.mp hp
        have z := sB b o' q
        rw [h] at z
        cases z
        exact .inr q
    · rw [gout b (by simpa using hp)] at h
      cases h
  have un : Un (frs Y.stack) [] H H' s.heap G :=
    { keep := fun b o e n h _ => gr b o (ub.keep b o e n h)
      slot := fun b o e n h _ => by
        obtain ⟨sl, q⟩ := ub.slot b o e h
        exact ⟨sl, (fr b h).trans q⟩
      free := fun b o e n _ => ub.free b o e n
      there := fun b o e _ => by
        by_cases h : b ∈ frs Y.stack
        · obtain ⟨sl, q⟩ := ub.slot b o e h
          exact ⟨_, (fr b h).trans q⟩
        · obtain ⟨o', q⟩ := ub.there b o e h
          exact ⟨o', gr b o' q⟩
      tups := ub.tups
      frzs := ub.frzs
      tbls := ub.tbls }
  exact ⟨a, B, { s with heap := G, gens := s'.gens, drawn := s'.drawn, toks := s'.toks }, H', cls, d, rfl,
    { inv := I.call (ch := []) un (hok.kept gr) ag (fun _ z => nomatch z)
      gr := fun b o e h => by
        obtain ⟨_, q⟩ := back b o e
        exact q.resolve_left h
      up := Heap.UpToSlots.of_keeps fun b o e => (back b o e).1
      fl := fl
      na := na
      os := os
      ag := ag
      w := hE }⟩
end
theorem sub_none {B B' : Heap} (sub : ∀ b o, B'.get? b = some o → B.get? b = some o) {b : Addr} (h : B.get? b = none) : B'.get? b = none := by
  cases e : B'.get? b with
  | none => rfl
  | some o =>
    rw [sub b o e] at h
    cases h
theorem flying_sub {B B' : Heap} {l : List Env} {a : Addr} {Z : Obj → Prop} {h : Heap} (sub : ∀ b o, B'.get? b = some o → B.get? b = some o) (f : HandSPX.FlyingZ B l a Z h) : HandSPX.FlyingZ B' l a Z h := by
  obtain ⟨x1, x2, x3, oe, vs, T, oT, ts, y1, y2, y3, y4, y5, y6, y7, y8, y9⟩ := f
  exact ⟨fun b o q => x1 b o (sub b o q), sub_none sub x2, funFrames_none x3 fun L hL => sub_none sub (x3.mem hL).1, oe, vs, T, oT, ts, y1, y2, y3, y4, sub_none sub y5, y6, y7, y8, y9⟩
theorem ns_data {h : Heap} {C : Addr} {m : Str → Option Value} (n : h.Ns C m) {o : Obj} {vs : Array Value} (e : h.get? C = some o) (hd : o.data = .fields vs) : False := by
  obtain ⟨oL, es, ep, hoL, hdL, _⟩ := n
  rw [e] at hoL
  cases hoL
  rw [hd] at hdL
  cases hdL
theorem held_but {B : Heap} {l : List Env} {a L C : Addr} {Z : Obj → Prop} {h h2 : Heap} {m m2 : Str → Option Value} (hb : B.get? C = none) (n : h.Ns C m) (n2 : h2.Ns C m2) (sb : Heap.SameBut C h h2) (f : HandSPX.HeldZ B l a Z L h) : HandSPX.HeldZ B l a Z L h2 := by
  obtain ⟨x1, x2, x3, oe, vs, T, oT, ts, y1, y2, y3, y4, y5, y6, y7, y8, y9⟩ := f
  have ka : a ≠ C := fun z => ns_data n (z ▸ y1) y3
  have kT : T ≠ C := fun z => ns_data n (z ▸ y7) y8
  refine ⟨fun b o q => (sb.2 b fun z => ?_).trans (x1 b o q), x2, Heap.FunFrames.sameBut sb n2 x3, oe, vs, T, oT, ts, (sb.2 a ka).trans y1, y2, y3, y4, y5, y6, (sb.2 T kT).trans y7, y8, y9⟩
  rw [z, hb] at q
  cases q
/-- the block's context -/
abbrev blx (X : Cx) (s : Shared) (H : Hp) (scope : Scope) (ce : Env) (fp : List Addr) (xe : Value → Shared → Prop) : Cx := { X.blk s H scope ce fp with xe := xe }
/-- what its exceptions owe -/
abbrev blkX (X : Cx) (ce : Env) : Value → Shared → Prop := notedBy (model X.prog X.w) X.A ce (CompFails (model X.prog X.w) X.A X.xe ce)
/-- such a context lets out what E says -/
abbrev BlkX (X : Cx) (scope : Scope) (E : XK) (P : Cx → Prop) : Prop := ∀ (s : Shared) (H : Hp) (C : Addr) (cl : List (Str × Addr)) (fp : List Addr) (xe : Value → Shared → Prop), Passes (L2.CX X.prog X.w) (blx X s H scope (compEnvC scope cl C X.env) fp xe) E → P (blx X s H scope (compEnvC scope cl C X.env) fp xe)
section
variable {X : Cx} {pins : List (Addr × Obj)} {σ : L2.St} {H : Hp} {s : Shared} {E : XK}
theorem passes_blk {scope : Scope} {ce : Env} {fp : List Addr} (tk : Takes X fun c d _ H => E c d H) (hs : X.stack = X.env :: X.outer) (hf : X.env.frame = some X.env.locals) (I : Inv X pins σ H s)
    (hfp : ∀ b ∈ fp, FpOk X pins H b ∧ b < s.heap.objs.size) (cL : ce.locals = s.heap.objs.size) (cF : ce.frame = X.env.frame) : Passes (L2.CX X.prog X.w) (blx X s H scope ce fp (blkX X ce)) E := by
  intro pinsY σY HY sY u s' IY c
  obtain ⟨a, B, sI, H', cls, d, rfl, F⟩ := fly_of IY c
  obtain ⟨I', gr, up, fl, na, os, ag, hE⟩ := F
  have hfr : X.A.frames = some (X.env :: X.outer) := by rw [I.ok.frames, hs]
  have hC : H' ce.locals = none := I'.free
  obtain ⟨mC, nC, _⟩ := I'.loc
  have nC : sI.heap.Ns ce.locals mC := nC
  -- the ground without the block's names
  obtain ⟨B', b1, b2⟩ := restrict B fun b => !decide (b = ce.locals)
  have sub : ∀ b o, B'.get? b = some o → B.get? b = some o := fun b o q => by
    by_cases z : b = ce.locals
    · rw [b2 b (by simp [z])] at q
      cases q
    · rw [← b1 b (by simp [z])]
      exact q
  have bC : B'.get? ce.locals = none := b2 _ (by simp)
  have fl' : HandSPX.FlyingZ B' (X.env :: X.outer) a (Zc cls d) s'.heap := flying_sub sub (by rw [← hs]; exact fl)
  show wpAny _ _ (noteFrame (.ref a) ce) _ _ s'
  rw [noteFrame_env _ cF]
  refine HandSPX.looks_onZ Zc.steady hfr hf fl' fun h1 hh up1 => ?_
  have n1 : h1.Ns ce.locals mC := Heap.Ns.upToSlots (Heap.Ns.upToSlots nC up) up1
  refine ⟨mC, n1, fun h2 m2 n2 sb => ?_⟩
  have hh2 := held_but bC n1 n2 sb hh
  obtain ⟨oe, vs, T, oT, ts, y1, y2, y3, y4, y5⟩ := id hh2.2.2.2
  unfold PySem.passOn
  refine wpAny_bind (wpAny_field y1 y3 y4 ?_)
  rw [if_neg (show ¬ ((Value.ref T == Value.none) = true) from by simp), cF, hf]
  refine wpAny_bind (HandSPX.setFlight_onZ hh2 fun h3 hh3 up3 => wpAny_throw (tk _ _ ?_))
  -- back in the def
  have J : Inv X pins σ H' sI := I.call' (ch := fp) I'.os I'.base I'.hok I'.bare fun b hb => ⟨(hfp b hb).1.2.2.2.1, (hfp b hb).1.2.1, (hfp b hb).1.2.2.2.2.1, (hfp b hb).1.2.2.2.2.2⟩
  have fC : FpOk X pins H' ce.locals := by
    rw [cL] at hC ⊢
    exact I.fpOk (Nat.le_refl _) hC
  obtain ⟨G, g1, g2⟩ := restrict sI.heap fun b => !decide (b = ce.locals)
  have gs : ∀ b o, G.get? b = some o → b ≠ ce.locals ∧ sI.heap.get? b = some o := fun b o q => by
    by_cases z : b = ce.locals
    · rw [g2 b (by simp [z])] at q
      cases q
    · rw [g1 b (by simp [z])] at q
      exact ⟨z, q⟩
  have J' : Inv X pins σ H' { sI with heap := G, toks := sI.toks } := J.turned (it := ce.locals) (fun b o hb q => by rw [g1 b (by simp [hb])]; exact q) fC.1 fC.2.1 fC.2.2.2.1 fC.2.2.2.2.1 fC.2.2.2.2.2
  refine ⟨a, B', { sI with heap := G, toks := sI.toks }, pins, σ, H', cls, d, rfl, J', fun b o q hb => ?_, fun b o q hnf => ?_, .inr (.inr (by rw [hs]; exact hh3)), na, os, ag, hE⟩
  · obtain ⟨z, q'⟩ := gs b o q
    rw [b1 b (by simp [z])]
    exact gr b o q' hb
  · obtain ⟨z, q'⟩ := gs b o q
    obtain ⟨sl, q1⟩ := up b o q' hnf
    obtain ⟨sl1, q2⟩ := up1 b _ q1 hnf
    have q3 := (sb.2 b z).trans q2
    obtain ⟨sl2, q4⟩ := up3 b _ q3 hnf
    exact ⟨sl2, q4⟩
end
end DL


/-! A list comprehension whose element may raise. -/
namespace DL
open PySem PySem.Spec PyProof.Rows L2
section
variable {X : Cx} {E : XK}
theorem pe_lcX {elt tg iter : Expr} {scope : Scope} {own : List (Str × Nat)} {pos : Pos} {wi : TI} {g : TG} {te : TE} (hc : X.calm = true) (hN : X.N.Nodup) (tk : Takes X fun c d _ H => E c d H) (hst : X.stack = X.env :: X.outer) (hf : X.env.frame = some X.env.locals)
    (hi : PI X tg iter wi) (ok : BlkOk X.N X.env.scope scope own) (hg : BlkX X scope E fun Y => PG Y tg g) (he : BlkX X scope E fun Y => PE Y elt te) (hs : ∀ x, foldedSetIterable iter X.env x = pure x) :
    PE X (.ListComp elt [⟨tg, iter, [], 0⟩] scope pos) (tLc wi g tYes te (own.map (·.2))) := by
  refine ⟨fun pins s σ H Q I h => ?_⟩
  rw [eval_ListComp]
  have clo : closureFor scope X.env = pure (cloFrom X.env.cells scope.names []) := closure_ok fun y hy e => (ok.free y hy e).elim (fun k => I.ok.has _ (.inl k)) (fun k => I.ok.has _ (.inr k))
  refine comprehension_at (use := none) rfl hs clo ok.kind (fun y hy e => (ok.uniq y hy).trans (congrArg some e)) (thn (hi.run pins s σ H _ I h) fun _ s1 hx => thn hx fun _ s2 hy => ?_)
  obtain ⟨it, fp, tn, J, H2, rfl, I2, T, t2, f2, q⟩ := hy
  refine wpAny_newObj_type (newEnv_comp ?_) (by show 0 ≤ sizeLine; decide)
  obtain ⟨D, hD⟩ : ∃ D, s2.heap.objs.size = D := ⟨_, rfl⟩
  have nD : H2 D = none := I2.hok.fresh (Nat.le_of_eq hD)
  obtain ⟨W, ⟨m0, w0⟩, turn⟩ := q D nD
  obtain ⟨s3, hs3⟩ : ∃ s3 : Shared, ({ s2 with heap := s2.heap.push { cls := .type "list", data := .seq ([] : List Value).toArray } } : Shared) = s3 := ⟨_, rfl⟩
  have heap3 : s3.heap = s2.heap.push { cls := .type "list", data := .seq ([] : List Value).toArray } := by rw [← hs3]
  have kp3 : ∀ b o, s2.heap.get? b = some o → s3.heap.get? b = some o := fun b o e => by rw [heap3]; exact Heap.get?_push_of_some _ e
  have I3 : Inv X pins σ (upd H2 D (.lst [])) s3 := by
    subst hs3
    exact I2.laid (t' := s2.toks) (fun b o e => Heap.get?_push_of_some _ e) (Nat.le_of_eq hD) ⟨Nat.zero_le _, [], 0, .nil, by rw [← hD]; exact Heap.get?_push_size _ rfl⟩
  have lt2 : ∀ b ∈ fp, b < s2.heap.objs.size := fun b hb => (T.obj _ _ t2 b hb).elim fun o z => Heap.lt_size z.1
  obtain ⟨H3, hH3⟩ : ∃ H3, upd H2 D (.lst []) = H3 := ⟨_, rfl⟩
  have f3 : ∀ b ∈ fp, FpOk X pins H3 b ∧ b < s3.heap.objs.size := fun b hb => by
    have l := lt2 b hb
    obtain ⟨z0, z⟩ := f2 b hb
    refine ⟨⟨?_, z⟩, ?_⟩
    · rw [← hH3, upd_ne fun e => by rw [e, hD] at l; exact Nat.lt_irrefl _ l]
      exact z0
    · rw [heap3, Heap.size_push]
      exact Nat.lt_succ_of_lt l
  have nfp : ∀ b ∈ fp, H3 b = none := fun b hb => (f3 b hb).1.1
  have t3 : tn 0 s3.heap := T.keep _ _ _ t2 fun b _ o e => kp3 b o e
  rw [hH3] at I3 w0
  have I4 := block_start I3 ok hN f3
  show codeAny _ _ (.compStart (.ListComp elt [⟨tg, iter, [], 0⟩] scope pos) 0 (.ref it) (.ref s2.heap.objs.size) (compEnvC scope (cellsFrom (({ s2 with heap := s2.heap.push { cls := .type "list", data := .seq ([] : List Value).toArray } } : Shared).heap.objs.size + 1) scope.names (cloFrom X.env.cells scope.names [])) ({ s2 with heap := s2.heap.push { cls := .type "list", data := .seq ([] : List Value).toArray } } : Shared).heap.objs.size X.env))
    (compEnds (model X.prog X.w) X.A X.xe none (EP X pins σ Q) (.ref s2.heap.objs.size) (compEnvC scope (cellsFrom (({ s2 with heap := s2.heap.push { cls := .type "list", data := .seq ([] : List Value).toArray } } : Shared).heap.objs.size + 1) scope.names (cloFrom X.env.cells scope.names [])) ({ s2 with heap := s2.heap.push { cls := .type "list", data := .seq ([] : List Value).toArray } } : Shared).heap.objs.size X.env))
    { ({ s2 with heap := s2.heap.push { cls := .type "list", data := .seq ([] : List Value).toArray } } : Shared) with heap := pushCells (({ s2 with heap := s2.heap.push { cls := .type "list", data := .seq ([] : List Value).toArray } } : Shared).heap.push { cls := .type "dict", data := .dict #[] }) scope.names }
  rw [hs3, hD]
  have G0 := hg s3 H3 s3.heap.objs.size (cellsFrom (s3.heap.objs.size + 1) scope.names (cloFrom X.env.cells scope.names [])) fp
  have E0 := he s3 H3 s3.heap.objs.size (cellsFrom (s3.heap.objs.size + 1) scope.names (cloFrom X.env.cells scope.names [])) fp
  obtain ⟨ce, hce⟩ : ∃ ce, compEnvC scope (cellsFrom (s3.heap.objs.size + 1) scope.names (cloFrom X.env.cells scope.names [])) s3.heap.objs.size X.env = ce := ⟨_, rfl⟩
  have cL : ce.locals = s3.heap.objs.size := by subst hce; rfl
  have cF : ce.frame = X.env.frame := by subst hce; rfl
  rw [hce] at I4 G0 E0 ⊢
  have pas := passes_blk (scope := scope) tk hst hf I3 f3 cL cF
  have PGo := G0 (blkX X ce) pas
  have PEl := E0 (blkX X ce) pas
  obtain ⟨s4, hs4⟩ : ∃ s4 : Shared, ({ s3 with heap := pushCells (s3.heap.push { cls := .type "dict", data := .dict #[] }) scope.names } : Shared) = s4 := ⟨_, rfl⟩
  have t4 : tn 0 s4.heap := T.keep _ _ _ t3 fun b _ o e => by rw [← hs4]; exact pushCells_keeps _ _ _ _ (Heap.get?_push_of_some _ e)
  rw [hs4] at I4 ⊢
  have J4 : Inv (blx X s3 H3 scope ce fp (blkX X ce)) [] (wipe σ (own.map (·.2))) H3 s4 := inv_xe I4
  have fps : ∀ {σ' : L2.St} {H' : Hp} {s' : Shared}, Inv (blx X s3 H3 scope ce fp (blkX X ce)) [] σ' H' s' → (∀ b ∈ fp, H' b = none) → ∀ b ∈ fp, FpOk (blx X s3 H3 scope ce fp (blkX X ce)) [] H' b := fun {σ' H' s'} J hn b hb =>
    ⟨hn b hb, (J.ok.exf b hb).1, J.ok.exfs b hb, .inl hb, (J.ok.exf b hb).2 |> fun z x c e => z x c e, fun p hp => by
      rcases List.mem_append.mp (show p ∈ ([] : List (Addr × Obj)) ++ [] from hp) with z | z <;> cases z⟩
  have loop : codeAny (model X.prog X.w) X.A (.compLoop (.ListComp elt [⟨tg, iter, [], 0⟩] scope pos) 0 (.ref it) (.ref D) ce) (compEnds (model X.prog X.w) X.A X.xe none (EP X pins σ Q) (.ref D) ce) s4 := by
    refine compLoop_any (fun n s' => ∃ i H', Inv (blx X s3 H3 scope ce fp (blkX X ce)) [] (wipe σ (own.map (·.2))) H' s' ∧ tn i s'.heap ∧ (∀ b ∈ fp, H' b = none) ∧ W i n H') (fun n s5 ⟨i, H5, J5, t5, n5, w5⟩ => ?_) m0 ⟨0, H3, J4, t4, nfp, w0⟩
    rcases turn i n H5 w5 with ⟨stop, qq⟩ | ⟨go, Nx, hNx, step⟩
    · refine thnF (T.done (blx X s3 H3 scope ce fp (blkX X ce)) rfl rfl rfl hc i [] s5 _ H5 (fun _ _ => False) J5 (fps J5 n5) t5 stop) fun r s6 ⟨hr, J6⟩ => ?_
      subst hr
      have I7 : Inv X pins σ H5 s6 := I3.call' (ch := fp) J6.os J6.base J6.hok J6.bare fun b hb => by
        obtain ⟨_, z1, _, z2, z3, z4⟩ := (f3 b hb).1
        exact ⟨z2, z1, z3, z4⟩
      have nC : H5 s3.heap.objs.size = none := by rw [← cL]; exact J6.free
      obtain ⟨m, hn, _⟩ := J6.loc
      have hn : s6.heap.Ns ce.locals m := hn
      obtain ⟨f0, f1, _, fa, fb, fc⟩ := I3.fpOk (Nat.le_refl _) nC
      show ∃ m, s6.heap.Ns ce.locals m ∧ _
      refine ⟨m, hn, fun h7 sb => ⟨.ref D, H5, I7.turned (t' := s6.toks) (it := s3.heap.objs.size) (fun b o hb e => (sb.2 b (by rw [cL]; exact hb)).trans e) f0 f1 fa fb fc, rfl, qq⟩⟩
    · refine thnF (T.item (blx X s3 H3 scope ce fp (blkX X ce)) rfl rfl rfl hc i [] s5 _ H5 (fun _ _ => False) J5 (fps J5 n5) t5 go) fun r s6 ⟨u, hr, h6⟩ => ?_
      subst hr
      refine thnF h6 fun _ s7 ⟨x, H7, J7, r7, y7, t7, n7⟩ => ?_
      have P7 := J7.pinned (fps J7 n7) (T.obj _ _ t7)
      refine thn (PGo.run _ s7 _ H7 x u _ P7 r7 (step x H7 y7)) fun _ s8 ⟨σ8, H8, J8, hw8, q8⟩ => ?_
      refine wpAny_tests_nil ?_
      rw [if_pos rfl]
      have q8 : te σ8 H8 _ := q8
      refine thn (PEl.run _ s8 σ8 H8 _ J8 q8) fun z s9 ⟨yv, H9, J9, r9, acc, hD9, hz9, nx⟩ => ?_
      refine app_ok (X := blx X s3 H3 scope ce fp (blkX X ce)) J9 hD9 hz9 r9 fun s10 J10 => ?_
      obtain ⟨m', hm, w'⟩ := hNx _ nx
      have pin' : ∀ b ∈ fp, ∀ o, s7.heap.get? b = some o → s10.heap.get? b = some o ∧ (upd H9 D (.lst (acc ++ [yv]))) b = none := fun b hb o e => by
        have z := J10.pin (b, o) (List.mem_append_right _ (List.mem_append_right _ (mem_pinsAt hb e)))
        exact ⟨z.1, z.2.1⟩
      refine ⟨m', hm, i + 1, _, (J10.unpinned (pins := [])).weak (by rw [← hw8, wipe_length]) (fun j v e => ?_), T.keep _ _ _ t7 fun b hb o e => (pin' b hb o e).1, fun b hb => ?_, w'⟩
      · rw [← hw8] at e
        exact (wipe_some e).1
      · obtain ⟨o, e, _⟩ := T.obj _ _ t7 b hb
        exact (pin' b hb o e).2
  exact codeAny_compStart_list loop (T.self X.A 0 _ _ _ t4 loop)
end
end DL


/-! [f(x) for x in xs] where f may raise; tuple(..) of it. -/
namespace DL
open PySem PySem.Spec PyProof.Rows L2
def lcX (F : D → Option (Option D)) : List D → Option (Option (List D))
  | [] => some (some [])
  | x :: xs => bX (F x) fun d => bX (lcX F xs) fun ds => some (some (d :: ds))
def cEX (X : Cx) (scope : Scope) (E : XK) (e : Expr) : TE := fun σ H Q => BlkX X scope E fun Y => cE Y e σ H Q
def cGX (X : Cx) (scope : Scope) (E : XK) (e : Expr) : TG := fun v σ H Q => BlkX X scope E fun Y => cG Y e v σ H Q
section
variable {X : Cx} {E : XK} {scope : Scope} {e : Expr}
theorem pe_cX : BlkX X scope E fun Y => PE Y e (cEX X scope E e) := fun s H C cl fp xe ps => ⟨fun pins s' σ H' Q I h => pe_c.run pins s' σ H' Q I (h s H C cl fp xe ps)⟩
theorem pg_cX : BlkX X scope E fun Y => PG Y e (cGX X scope E e) := fun s H C cl fp xe ps => ⟨fun pins s' σ H' v u Q I r h => pg_c.run pins s' σ H' v u Q I r (h s H C cl fp xe ps)⟩
end
theorem bX_none {α β : Type} {g : α → Option (Option β)} : bX (some none) g = some none := rfl
theorem bX_some {α β : Type} {a : α} {g : α → Option (Option β)} : bX (some (some a)) g = g a := rfl
theorem bX_cat {f : Option (Option (List D))} {ds : List D} {d : D} : bX (bX f fun es => some (some (d :: es))) (fun es => some (some (ds ++ es))) = bX f fun es => some (some ((ds ++ [d]) ++ es)) := by
  cases f with
  | none => rfl
  | some o =>
    cases o with
    | none => rfl
    | some es =>
      show some (some (ds ++ (d :: es))) = some (some ((ds ++ [d]) ++ es))
      rw [List.append_assoc]
      rfl
section
variable {X : Cx} {E : XK} {cls : Value} {ρ : Rho} {elt tg iter : Expr} {scope : Scope} {own : List (Str × Nat)} {is : List Nat} {yl : Bool} {σ : L2.St} {H : Hp} {Q : VK}
theorem lcX_run (xs : List D) {ρ' : D → Rho} {F : D → Option (Option D)} (hi : EvIq X tg iter ρ yl xs) (hg : ∀ x ∈ xs, BlkX X scope E fun Y => EvG Y yl tg (wipeB ρ (own.map (·.2))) x (ρ' x) is) (hw : ∀ i ∈ is, i ∈ own.map (·.2))
    (he : ∀ x ∈ xs, BlkX X scope E fun Y => EoX Y E cls elt (ρ' x) (F x)) {o : Option (List D)} (ho : lcX F xs = some o) (S : SOk X.K ρ σ H)
    (q1 : ∀ ds, o = some ds → ∀ v H', RS X.K (.new ds) H v H' → Q v H') (q2 : o = none → ∀ H', Same H H' → E cls none H') :
    tLc (cI X tg iter) (cGX X scope E tg) tYes (cEX X scope E elt) (own.map (·.2)) σ H Q := by
  refine hi σ H _ S fun J H1 s1 hz w => fun L hL => ?_
  refine lc_it w (fun i H2 => Same H1 H2 ∧ ∃ acc ds, H2 L = some (.lst acc) ∧ acc.length ≤ i ∧ RpAll X.K H2 acc ds ∧ bX (lcX F (xs.drop i)) (fun es => some (some (ds ++ es))) = some o)
    ⟨same_new hL, [], [], upd_same, Nat.le_refl _, .nil, ?_⟩ (fun i H2 _ h => h.1) (fun i x H2 H3 hlt ⟨s2, acc, ds, hacc, hal, racc, hf⟩ ⟨s3, d, hd, rd⟩ => ?_) (fun H2 ⟨s2, acc, ds, hacc, hal, racc, hf⟩ => ?_)
  · rw [List.drop_zero, ho]
    cases o <;> rfl
  · rw [List.getElem?_eq_getElem hlt] at hd
    have ed : xs[i] = d := Option.some.inj hd
    subst ed
    have hp : xs[i] ∈ xs := List.getElem_mem hlt
    rw [List.drop_eq_getElem_cons hlt] at hf
    have s13 : Same H1 H3 := s2.trans s3
    have SW := (S.mono s1).wiped (vs := own.map (·.2))
    intro s₀ H₀ C cl fp xe pz
    refine (hg _ hp s₀ H₀ C cl fp xe pz).run _ _ _ _ (SW.mono s13) rd fun σ2 S2 w2 => ⟨(w2 _ hw).trans ?_, ?_⟩
    · have ww : ∀ us : List Nat, wipe (wipe σ us) us = wipe σ us := by
        intro us
        apply List.ext_getElem?
        intro j
        by_cases hj : j ∈ us
        · have a1 : ∀ τ : L2.St, j ∈ us → (wipe τ us)[j]? = (τ[j]?).map fun _ => none := by
            intro τ _
            induction us with
            | nil => cases hj
            | cons u us ih =>
              unfold wipe
              by_cases hu : u = j
              · subst hu
                by_cases hl : u < τ.length
                · rw [List.getElem?_set_self (by rw [wipe_length]; exact hl), List.getElem?_eq_getElem hl]; rfl
                · rw [List.getElem?_eq_none (by rw [List.length_set, wipe_length]; omega), List.getElem?_eq_none (by omega)]; rfl
              · rw [List.getElem?_set_ne hu]
                have hj' : j ∈ us := List.mem_of_ne_of_mem (fun z => hu z.symm) hj
                exact ih hj' hj'
          rw [a1 _ hj, a1 _ hj]
          cases σ[j]? <;> rfl
        · rw [wipe_out hj]
      exact ww _
    · unfold tYes
      refine L2.iteT ?_
      intro s₂ H₂ C2 cl2 fp2 xe2 pz2
      have el := he _ hp s₂ H₂ C2 cl2 fp2 xe2 pz2
      have hf' : bX (bX (F xs[i]) fun d => bX (lcX F (xs.drop (i + 1))) fun ds => some (some (d :: ds))) (fun es => some (some (ds ++ es))) = some o := hf
      cases hF : F xs[i] with
      | none =>
        rw [hF] at hf'
        cases hf'
      | some o1 =>
        rw [hF] at hf' el
        cases o1 with
        | none =>
          cases hf'
          exact el.2 rfl σ2 H3 _ S2 fun H' s' => q2 rfl H' ((s1.trans s13).trans s')
        | some d1 =>
          rw [bX_some, bX_cat] at hf'
          refine el.1 d1 rfl σ2 H3 _ S2 fun y H5 ⟨s5, r5⟩ => ?_
          have hL5 : H5 L = some (.lst acc) := (s3.trans s5) _ _ hacc
          refine ⟨acc, hL5, by omega, same_mut (s13.trans s5) hL, acc ++ [y], ds ++ [d1], upd_same, by simp; omega, ?_, hf'⟩
          have st : Stb H5 (upd H5 L (.lst (acc ++ [y]))) := stb_upd hL5 trivial
          exact ((racc.mono (.of (s3.trans s5))).mono st).append (.cons (r5.mono st) .nil)
  · rw [List.drop_length] at hf
    have e : some (some (ds ++ [])) = some o := hf
    rw [List.append_nil] at e
    cases e
    exact q1 ds rfl _ H2 ⟨s1.trans s2, L, acc, rfl, s1.free hL, hacc, racc⟩
end
section
variable {X : Cx} {E : XK} {cls : Value} {ρ : Rho} {elt tg iter : Expr} {scope : Scope} {is : List Nat} {yl : Bool} {it : Option (List D)} {ρ2 : D → Rho} {F : D → Option (Option D)} {pos p p2 : Pos}
theorem ex_lc (tk : Takes X fun c d _ H => E c d H) (hN : X.N.Nodup) (ok : blkC X.N X.env.scope scope (ownOf X.N scope) = true)
    (hi : Iq X tg iter ρ yl it) (hg : BlkX X scope E fun Y => Tg Y yl tg (wipeB ρ ((ownOf X.N scope).map (·.2))) dec1 ρ2 is) (he : ∀ v, BlkX X scope E fun Y => EoX Y E cls elt (ρ2 v) (F v))
    (hw : (is.all fun i => ((ownOf X.N scope).map (·.2)).contains i) = true) (hc : X.calm = true := by rfl) (hst : X.stack = X.env :: X.outer := by rfl) (hf : X.env.frame = some X.env.locals := by rfl) (hs : ∀ x, foldedSetIterable iter X.env x = pure x := by intro _; rfl) :
    EoX X E cls (.ListComp elt [⟨tg, iter, [], 0⟩] scope pos) ρ (bnd it fun xs => bX (lcX F xs) fun ds => okX (some (.list ds))) := by
  have hw' : ∀ i ∈ is, i ∈ (ownOf X.N scope).map (·.2) := fun i h => by simpa using List.all_eq_true.mp hw i h
  have all : ∀ {xs : List D} {o : Option (List D)}, it = some xs → lcX F xs = some o → ∀ σ H Q, SOk X.K ρ σ H → (∀ ds, o = some ds → ∀ v H', RS X.K (.new ds) H v H' → Q v H') → (o = none → ∀ H', Same H H' → E cls none H') → cE X (.ListComp elt [⟨tg, iter, [], 0⟩] scope pos) σ H Q := by
    intro xs o hx ho σ H Q S q1 q2
    exact ⟨_, pe_lcX hc hN tk hst hf pi_c (blkOk_by ok) pg_cX pe_cX hs, lcX_run xs (ρ' := ρ2) (hi xs hx) (fun x _ s₀ H₀ C cl fp xe pz => hg s₀ H₀ C cl fp xe pz x x rfl) hw' (fun x _ => he x) ho S q1 q2⟩
  refine ⟨fun d z => ?_, fun z => ?_⟩
  · obtain ⟨xs, hx, z⟩ := bnd_inv z
    rcases bX_inv z with ⟨_, z⟩ | ⟨ds, h1, z⟩
    · cases z
    obtain ⟨_, z1, z2⟩ := okX_inv z
    cases z1
    cases z2
    have e : Ev X (.ListComp elt [⟨tg, iter, [], 0⟩] scope pos) ρ (.new ds) := fun σ H Q S q => all hx h1 σ H Q S (fun ds' e => by cases e; exact q) fun e => nomatch e
    exact e.fz
  · obtain ⟨xs, hx, z⟩ := bnd_inv z
    rcases bX_inv z with ⟨h1, _⟩ | ⟨ds, h1, z⟩
    · exact fun σ H Q S q => all hx h1 σ H Q S (fun _ e => nomatch e) fun _ => q
    · obtain ⟨_, z1, z2⟩ := okX_inv z
      cases z2
/-- tuple(e), int(e) .. where e may raise -/
theorem ex_t1 {T st : String} {e1 : Expr} {F : D → Option D} {f : Option (Option D)} (o : CaF X (.type T) F) (hm : Nb X.mg st (.type T)) (h1 : EoX X E cls e1 ρ f) (hg : Gl X (Str.ofString st) := by rfl) (s1 : starEach [e1] X.env = (false, eval e1 X.env) :: starEach [] X.env := by rfl) (hpl : (backTo pos (starEach [] X.env)).any (·.1) = false := by rfl) :
    EoX X E cls (.Call (.Name (Str.ofString st) p) [e1] [] pos) ρ (bX f fun x => okX (F x)) := by
  refine ⟨fun d z => ?_, fun z => ?_⟩
  · rcases bX_inv z with ⟨_, z⟩ | ⟨x, h2, z⟩
    · cases z
    obtain ⟨v, z1, z2⟩ := okX_inv z
    cases z2
    have e2 : Eo X e1 ρ (some x) := fun d z => by cases z; exact h1.1 _ h2
    exact eo_t1 o hm e2.u hg s1 hpl _ z1
  · rcases bX_inv z with ⟨h2, _⟩ | ⟨x, h2, z⟩
    · intro σ H Q S q
      have t : EvA X [e1] ρ [] ∨ True := .inr trivial
      exact ⟨_, pe_callTy (call_c) hg hm.h hm.v (pa_cons pe_c pa_nil s1) hm.n hm.d s1 hpl, h1.2 h2 σ H _ S q⟩
    · obtain ⟨v, z1, z2⟩ := okX_inv z
      cases z2
/-- a call where the context lets it out -/
theorem ex_callP {fn : String} {m : List D → Option (Option D)} {e : Expr} {es : List Expr} {kk : Nat} (ps : Passes (L2.CX X.prog X.w) X E) (M : FrX X.prog X.w X.K X.mg X.base fn kk (SpDX X.K cls m)) (hr : Room kk X.A) {r : Option (List D)} (ha : Ao X (e :: es) ρ r) (hg : Gl X (Str.ofString fn) := by rfl) (hdb : (Str.ofString fn == ("__debug__" : Str)) = false := by decide) (hst : starEach (e :: es) X.env = (false, eval e X.env) :: starEach es X.env := by rfl) (hpl : (backTo pos (starEach es X.env)).any (·.1) = false := by rfl) :
    EoX X E cls (.Call (.Name (Str.ofString fn) p) (e :: es) [] pos) ρ (bnd r m) := by
  obtain ⟨f, fd, pl, F, hm, hk, hb⟩ := M.h
  refine ⟨fun d z => ?_, fun z => ?_⟩
  · obtain ⟨ds, z1, z2⟩ := bnd_inv z
    intro σ H Q S q'
    refine ⟨_, pe_call F hr hg hm hk hb .nil ps pa_c hdb hst hpl, ha ds z1 σ H _ S fun us H2 s2 r2 => ?_⟩
    rw [List.append_nil]
    exact ⟨ds, some d, r2, z2, fun d' e' v H' s' rp => by cases e'; exact q' v H' ⟨s2.trans s', rp⟩, fun z => nomatch z⟩
  · obtain ⟨ds, z1, z2⟩ := bnd_inv z
    intro σ H Q S q'
    refine ⟨_, pe_call F hr hg hm hk hb .nil ps pa_c hdb hst hpl, ha ds z1 σ H _ S fun us H2 s2 r2 => ?_⟩
    rw [List.append_nil]
    exact ⟨ds, none, r2, z2, fun d' e' => (nomatch e'), fun _ H' s' => q' H' (s2.trans s')⟩
end
end DL


namespace DL
open PySem PySem.Spec PyProof.Rows L2
/-! the reckoning of the program's defs and of the laws' helpers -/
def m__law_cell_at (a_script a_k : D) : Option D :=
  (iteT (op2 ltB (some a_k) (op1 lenD (some a_script)))
  (bnd (op2 ixD (some a_script) (some a_k)) fun d => some d)
  (bnd (some (.int 0)) fun d => some d))
def m__law_mixed (a_script a_k : D) : Option D :=
  (bnd (op2 modD (op2 mulD (op2 addD (op2 addD (op2 m__law_cell_at (some a_script) (some a_k)) (op2 mulD (some (.int 7919)) (some a_k))) (some (.int 1))) (some (.int 48271))) (some (.int 2147483647))) fun x_drawn1 =>
  (bnd (op2 modD (op2 addD (op2 addD (op2 mulD (some x_drawn1) (some x_drawn1)) (op2 mulD (some (.int 7)) (some x_drawn1))) (some a_k)) (some (.int 2147483629))) fun d => some d))
def m__law_drawn (a_number a_k : D) : Option D :=
  (bnd (op2 modD (op2 mulD (op2 addD (op2 addD (some a_number) (op2 mulD (some (.int 104729)) (some a_k))) (some (.int 17))) (some (.int 69621))) (some (.int 2147483647))) fun x_drawn1 =>
  (bnd (op2 modD (op2 addD (op2 addD (op2 mulD (some x_drawn1) (some x_drawn1)) (op2 mulD (some (.int 3)) (some x_drawn1))) (some a_k)) (some (.int 2147483629))) fun d => some d))
def m__law_part (a_number a_name : D) : Option D :=
  (bnd (tupV (some [])) fun x_faces1 =>
  (bnd (tupV (some [])) fun x_wants2 =>
  (bnd (tupV (some [])) fun x_hooks3 =>
  (bnd (op1 enumI (tupV (arg1 (some (.str "f")) (arg1 (some (.str "g")) (arg1 (some (.str "h")) (some [])))))) fun l => bnd (forD (fun (s4 : D × D) x => bnd (dec2 x) fun v5 =>
    (bnd (op2 divD (op2 m__law_drawn (some a_number) (some v5.1)) (some (.int 4))) fun x_drawn6 =>
    (bnd (iteT (op2 eqB (op2 modD (some x_drawn6) (some (.int 3))) (some (.int 0)))
    (bnd (op2 addD (some s4.1) (tupV (arg1 (tupV (arg1 (some v5.2) (arg1 (op2 addD (some (.int 1)) (op2 modD (op2 divD (some x_drawn6) (some (.int 4))) (some (.int 4)))) (some [])))) (some [])))) fun x_faces8 =>
      (some (Nx.nx x_faces8)))
    (some (Nx.nx s4.1))) (jn fun (j7 : D) =>
    (iteT (op2 eqB (op2 modD (some x_drawn6) (some (.int 4))) (some (.int 1)))
    (bnd (op2 addD (some (.int 1)) (op2 modD (op2 divD (some x_drawn6) (some (.int 4))) (some (.int 3)))) fun x_low9 =>
      (bnd (tupV (arg1 (some v5.2) (arg1 (some x_low9) (arg1 (op2 minD (some (.int 9)) (op2 addD (some x_low9) (op2 modD (op2 divD (some x_drawn6) (some (.int 16))) (some (.int 4))))) (arg1 (boV (op2 gtB (op2 modD (op2 divD (some x_drawn6) (some (.int 64))) (some (.int 3))) (some (.int 0)))) (some [])))))) fun x_want10 =>
      (bnd (op2 addD (some s4.2) (tupV (arg1 (some x_want10) (some [])))) fun x_wants11 =>
      (some (Lp.go (j7, x_wants11))))))
    (some (Lp.go (j7, s4.2)))))))) l (x_faces1, x_wants2)) (jn fun (s4 : D × D) =>
  (bnd (op1 rangeI (op2 modD (some a_number) (some (.int 4)))) fun l => bnd (forD (fun (s12 : D) x => bnd (dec1 x) fun v13 =>
    (bnd (op2 divD (op2 m__law_drawn (some a_number) (op2 addD (some (.int 10)) (some v13))) (some (.int 4))) fun x_drawn14 =>
    (bnd (tupV (arg1 (some (.str "plus")) (arg1 (some (.str "times")) (arg1 (some (.str "set")) (arg1 (some (.str "stop")) (arg1 (some (.str "fail")) (arg1 (some (.str "plus")) (some [])))))))) fun x_words15 =>
    (bnd (op2 ixD (some x_words15) (op2 modD (some x_drawn14) (some (.int 6)))) fun x_word16 =>
    (bnd (op2 addD (tupV (arg1 (some x_word16) (some []))) (op2 mulD (tupV (arg1 (op2 modD (op2 divD (some x_drawn14) (some (.int 8))) (op2 ixD (tupV (arg1 (some (.int 1000)) (arg1 (some (.int 5)) (some [])))) (op2 modD (op2 divD (some x_drawn14) (some (.int 8192))) (some (.int 2))))) (some []))) (op1 intD (boV (op2 neB (some x_word16) (some (.str "stop"))))))) fun x_deed17 =>
    (bnd (op2 ixD (tupV (arg1 (some (.str "go")) (arg1 (some (.str "end")) (some [])))) (op2 modD (op2 divD (some x_drawn14) (some (.int 16384))) (some (.int 2)))) fun x_hook18 =>
    (bnd (op2 addD (some s12) (tupV (arg1 (tupV (arg1 (some x_hook18) (arg1 (op2 ixD (tupV (arg1 (some (.int 0)) (arg1 (op1 negD (some (.int 1))) (arg1 (some (.int 5)) (arg1 (op1 negD (some (.int 9))) (some [])))))) (op2 modD (op2 divD (some x_drawn14) (some (.int 32768))) (some (.int 4)))) (arg1 (some x_deed17) (some []))))) (some [])))) fun x_hooks19 =>
    (some (Lp.go x_hooks19))))))))) l x_hooks3) (jn fun (s12 : D) =>
  (bnd (tupV (arg1 (some a_name) (arg1 (op2 addD (some (.int 1)) (op2 modD (op2 divD (some a_number) (some (.int 4))) (some (.int 4)))) (arg1 (some s4.1) (arg1 (op3s cutF (some s4.2) (slP (op2 modD (op2 divD (some a_number) (some (.int 64))) (some (.int 2)))) (some none)) (arg1 (some s12) (some []))))))) fun d => some d))))))))
def m__law_house (a_number : D) : Option D :=
  (bnd (tupV (some [])) fun x_found1 =>
  (bnd (op1 enumI (tupV (arg1 (some (.str "a")) (arg1 (some (.str "b")) (arg1 (some (.str "c")) (arg1 (some (.str "d")) (arg1 (some (.str "e")) (arg1 (some (.str "log")) (some []))))))))) fun l => bnd (forD (fun (s2 : D) x => bnd (dec2 x) fun v3 =>
    (bnd (op2 divD (op2 m__law_drawn (some a_number) (op2 addD (some (.int 20)) (some v3.1))) (some (.int 4))) fun x_drawn4 =>
    (iteT (op2 gtB (op2 modD (some x_drawn4) (some (.int 8))) (op2 modD (some a_number) (some (.int 4))))
    (bnd (op2 addD (some s2) (tupV (arg1 (op2 m__law_part (op2 divD (some x_drawn4) (some (.int 8))) (some v3.2)) (some [])))) fun x_found5 =>
      (some (Lp.go x_found5)))
    (some (Lp.go s2))))) l x_found1) (jn fun (s2 : D) =>
  (bnd (some s2) fun d => some d))))
def m__law_edges (a_number : D) : Option D :=
  (bnd (op3s cutF (some (.str "abcdefg")) (some none) (slP (op2 addD (some (.int 4)) (op2 modD (some a_number) (some (.int 3)))))) fun x_long1 =>
  (bnd (op1 tupD (lsV (lcD (op1 rangeI (op2 addD (some (.int 2)) (op2 modD (op2 divD (some a_number) (some (.int 16))) (some (.int 3))))) fun x => bnd (dec1 x) fun v3 => keepE (some true) (tupV (arg1 (op2 ixD (some (.str "fghij")) (some v3)) (arg1 (op2 addD (some (.int 8)) (op2 modD (op2 divD (some a_number) (some (.int 4))) (some (.int 3)))) (some []))))))) fun x_faces2 =>
  (bnd (op1 tupD (lsV (lcD (op1 rangeI (op2 addD (some (.int 2)) (op2 modD (op2 divD (some a_number) (some (.int 64))) (some (.int 3))))) fun x => bnd (dec1 x) fun v5 => keepE (some true) (tupV (arg1 (op2 ixD (some (.str "fghij")) (some v5)) (arg1 (some (.int 1)) (arg1 (some (.int 9)) (arg1 (boV (op2 eqB (some v5) (some (.int 1)))) (some []))))))))) fun x_wants4 =>
  (bnd (op2 mulD (tupV (arg1 (tupV (arg1 (some x_long1) (arg1 (some (.int 9)) (arg1 (tupV (arg1 (some (.str "plus")) (arg1 (op2 addD (some (.int 998)) (op2 modD (op2 divD (some a_number) (some (.int 256))) (some (.int 3)))) (some [])))) (some []))))) (some []))) (op2 addD (some (.int 2)) (op2 modD (op2 divD (some a_number) (some (.int 1024))) (some (.int 3))))) fun x_hooks6 =>
  (bnd (tupV (arg1 (some (.str "a")) (arg1 (some (.int 1)) (arg1 (tupV (some [])) (arg1 (tupV (some [])) (arg1 (tupV (some [])) (some []))))))) fun x_plain7 =>
  (bnd (tupV (arg1 (tupV (arg1 (some (.str "a")) (arg1 (some (.int 1)) (arg1 (some x_faces2) (arg1 (tupV (some [])) (arg1 (tupV (some [])) (some []))))))) (arg1 (tupV (arg1 (some (.str "a")) (arg1 (some (.int 9)) (arg1 (tupV (some [])) (arg1 (some x_wants4) (arg1 (tupV (some [])) (some []))))))) (arg1 (tupV (arg1 (some (.str "a")) (arg1 (some (.int 1)) (arg1 (tupV (some [])) (arg1 (tupV (some [])) (arg1 (some x_hooks6) (some []))))))) (arg1 (tupV (arg1 (some x_long1) (arg1 (some (.int 1)) (arg1 (tupV (some [])) (arg1 (tupV (some [])) (arg1 (tupV (some [])) (some []))))))) (some [])))))) fun x_found8 =>
  (bnd (op2 addD (some x_found8) (tupV (arg1 (tupV (arg1 (some x_plain7) (some []))) (arg1 (tupV (arg1 (tupV (arg1 (some x_long1) (arg1 (some (.int 1)) (arg1 (tupV (some [])) (arg1 (tupV (some [])) (arg1 (tupV (some [])) (some []))))))) (some []))) (some []))))) fun d => some d)))))))
def m_are_rising (a_some : D) : Option D :=
  (bnd (op1 allD (lsV (lcD (op2 zipI (op3s cutF (some a_some) (some none) (slP (op1 negD (some (.int 1))))) (op3s cutF (some a_some) (slP (some (.int 1))) (some none))) fun x => bnd (dec2 x) fun v1 => keepE (some true) (boV (op2 ltB (some v1.1) (some v1.2)))))) fun d => some d)
def m_part_rows (a_part : D) : Option D :=
  (bnd (some a_part) fun x => bnd (dec5 x) fun v1 =>
  (bnd (lstV (arg1 (lsV (lstV (arg1 (some (.str "part")) (arg1 (some v1.1) (arg1 (some v1.2.1) (some [])))))) (some []))) fun x_rows2 =>
  (bnd (bnd (lcD (op1 itD (some v1.2.2.1)) fun x => bnd (dec2 x) fun v4 => keepE (some true) (lsV (lstV (arg1 (some (.str "face")) (arg1 (some v4.1) (arg1 (some v4.2) (some []))))))) (exL x_rows2)) fun x_rows5 =>
  (bnd (bnd (lcD (op1 itD (some v1.2.2.2.1)) fun x => bnd (dec4 x) fun v7 => keepE (some true) (lsV (lstV (arg1 (op2 ixD (lsV (lstV (arg1 (some (.str "may")) (arg1 (some (.str "must")) (some []))))) (op1 intD (some v7.2.2.2))) (arg1 (some v7.1) (arg1 (some v7.2.1) (arg1 (some v7.2.2.1) (some [])))))))) (exL x_rows5)) fun x_rows8 =>
  (bnd (bnd (lcD (op1 itD (some v1.2.2.2.2)) fun x => bnd (dec3 x) fun v10 => keepE (some true) (op2 addD (lsV (lstV (arg1 (some (.str "hook")) (arg1 (some v10.1) (arg1 (some v10.2.1) (some [])))))) (lsV (op1 listN (some v10.2.2))))) (exL x_rows8)) fun x_rows11 =>
  (some (.list x_rows11)))))))
def m__law_give (a_part a_want : D) : Option D :=
  (bnd (boV (op2 neB (lsV (lcD (op1 itD (op2 ixD (some a_part) (some (.int 2)))) fun x => bnd (dec2 x) fun v1 => keepE (andT (op2 eqB (some v1.1) (op2 ixD (some a_want) (some (.int 0)))) (chT leB leB (op2 ixD (some a_want) (some (.int 1))) (some v1.2) (op2 ixD (some a_want) (some (.int 2))))) (some v1.2))) (lsV (lstV (some []))))) fun d => some d)
def m__law_stand (a_house : D) : Option D :=
  (bnd (lsV (op1 listN (some a_house))) fun x_parts1 =>
  (bnd (op1 rangeI (some (.int 7))) fun l => bnd (forD (fun (s2 : D) x => bnd (dec1 x) fun v3 =>
    (bnd (lstV (some [])) fun x_kept4 =>
    (bnd (op1 itD (some s2)) fun l => bnd (forD (fun (s5 : List D) x => bnd (dec1 x) fun v6 =>
      (bnd (some (.bool true)) fun x_good7 =>
      (bnd (op1 itD (op2 ixD (some v6) (some (.int 3)))) fun l => bnd (forD (fun (s8 : D) x => bnd (dec1 x) fun v9 =>
        (bnd (lsV (lcD (op1 itD (some s2)) fun x => bnd (dec1 x) fun v11 => keepE (andT (op2 neB (op2 ixD (some v11) (some (.int 0))) (op2 ixD (some v6) (some (.int 0)))) (tB (op2 m__law_give (some v11) (some v9)))) (some v11))) fun x_others10 =>
        (bnd (boV (andT (tB (some s8)) (orT (op2 neB (some x_others10) (lsV (lstV (some [])))) (notT (tB (op2 ixD (some v9) (some (.int 3)))))))) fun x_good12 =>
        (some (Lp.go x_good12))))) l x_good7) (jn fun (s8 : D) =>
      (iteT (tB (some s8))
      (bnd (op1 (apL s5) (some v6)) fun x_kept14 =>
        (some (Lp.go x_kept14)))
      (some (Lp.go s5))))))) l x_kept4) (jn fun (s5 : List D) =>
    (some (Lp.go (.list s5))))))) l x_parts1) (jn fun (s2 : D) =>
  (bnd (some s2) fun d => some d))))
def m_make_of (a_part a_face : D) : Option D :=
  (bnd (op3 getD3 (dcV (op1 dictN (op2 ixD (some a_part) (some (.int 2))))) (some a_face) (some (.int 0))) fun d => some d)
def m_gives (a_part a_want : D) : Option D :=
  (bnd (boV (chT leB leB (op2 ixD (some a_want) (some (.int 1))) (op2 m_make_of (some a_part) (op2 ixD (some a_want) (some (.int 0)))) (op2 ixD (some a_want) (some (.int 2))))) fun d => some d)
def m_givers_for (a_parts a_name a_want : D) : Option D :=
  (bnd (lsV (lcD (op1 itD (some a_parts)) fun x => bnd (dec1 x) fun v1 => keepE (andT (op2 neB (op2 ixD (some v1) (some (.int 0))) (some a_name)) (tB (op2 m_gives (some v1) (some a_want)))) (some v1))) fun d => some d)
def m_lacks (a_parts a_part : D) : Option D :=
  (bnd (lsV (lcD (op1 itD (op2 ixD (some a_part) (some (.int 3)))) fun x => bnd (dec1 x) fun v1 => keepE (andT (tB (op2 ixD (some v1) (some (.int 3)))) (op2 eqB (op1 lenD (op3 m_givers_for (some a_parts) (op2 ixD (some a_part) (some (.int 0))) (some v1))) (some (.int 0)))) (op2 ixD (some v1) (some (.int 0))))) fun d => some d)
def m_standing_parts (a_house : D) : Option D :=
  (bnd (lsV (op1 listN (some a_house))) fun x_parts1 =>
  (bnd (lsV (lcD (op1 itD (some x_parts1)) fun x => bnd (dec1 x) fun v3 => keepE (op2 eqB (op1 lenD (op2 m_lacks (some x_parts1) (some v3))) (some (.int 0))) (some v3))) fun x_left2 =>
  (bnd (whileD (fun (s4 : D × D) => (op2 ltB (op1 lenD (some s4.2)) (op1 lenD (some s4.1)))) (fun (s4 : D × D) =>
    (bnd (some s4.2) fun x_parts5 =>
    (bnd (lsV (lcD (op1 itD (some x_parts5)) fun x => bnd (dec1 x) fun v7 => keepE (op2 eqB (op1 lenD (op2 m_lacks (some x_parts5) (some v7))) (some (.int 0))) (some v7))) fun x_left6 =>
    (some (Lp.go (x_parts5, x_left6)))))) 4096 (x_parts1, x_left2)) (jn fun (s4 : D × D) =>
  (bnd (some s4.1) fun d => some d)))))
def m_standing (a_house : D) : Option D :=
  (bnd (op1 tupD (lsV (lcD (op1 itD (op1 m_standing_parts (some a_house))) fun x => bnd (dec1 x) fun v1 => keepE (some true) (op2 ixD (some v1) (some (.int 0)))))) fun d => some d)
def m_lacking (a_house : D) : Option D :=
  (bnd (op1 m_standing_parts (some a_house)) fun x_parts1 =>
  (bnd (lstV (some [])) fun x_found2 =>
  (bnd (op1 itD (some a_house)) fun l => bnd (forD (fun (s3 : List D) x => bnd (dec1 x) fun v4 =>
    (iteT (op2 ninB (some v4) (some x_parts1))
    (bnd (bnd (lcD (op1 itD (op2 m_lacks (some x_parts1) (some v4))) fun x => bnd (dec1 x) fun v6 => keepE (some true) (tupV (arg1 (op2 ixD (some v4) (some (.int 0))) (arg1 (some v6) (some []))))) (exL s3)) fun x_found7 =>
      (some (Lp.go x_found7)))
    (some (Lp.go s3)))) l x_found2) (jn fun (s3 : List D) =>
  (bnd (op1 tupD (lsV (op1 sortN (some (.list s3))))) fun d => some d)))))
def m__law_giver (a_parts a_name a_want : D) : Option D :=
  (bnd (lsV (lcD (op1 itD (some a_parts)) fun x => bnd (dec1 x) fun v2 => keepE (andT (op2 neB (op2 ixD (some v2) (some (.int 0))) (some a_name)) (tB (op2 m__law_give (some v2) (some a_want)))) (tupV (arg1 (op2 subD (some (.int 0)) (op2 ixD (dcV (op1 dictN (op2 ixD (some v2) (some (.int 2))))) (op2 ixD (some a_want) (some (.int 0))))) (arg1 (op2 ixD (some v2) (some (.int 0))) (some [])))))) fun x_some1 =>
  (bnd (op2 ixD (op2 ixD (op2 addD (lsV (op1 sortN (some x_some1))) (lsV (lstV (arg1 (tupV (arg1 (some (.int 0)) (arg1 (some .none) (some [])))) (some []))))) (some (.int 0))) (some (.int 1))) fun d => some d))
def m_giver_among (a_parts a_name a_want : D) : Option D :=
  (bnd (some .none) fun x_best1 =>
  (bnd (op1 itD (op3 m_givers_for (some a_parts) (some a_name) (some a_want))) fun l => bnd (forD (fun (s2 : D) x => bnd (dec1 x) fun v3 =>
    (iteT (orT (op1 isNB (some s2)) (op2 gtB (op2 m_make_of (some v3) (op2 ixD (some a_want) (some (.int 0)))) (op2 m_make_of (some s2) (op2 ixD (some a_want) (some (.int 0))))))
    (bnd (some v3) fun x_best4 =>
      (some (Lp.go x_best4)))
    (some (Lp.go s2)))) l x_best1) (jn fun (s2 : D) =>
  (iteT (op1 isNB (some s2))
  (bnd (some .none) fun d => some d)
  (bnd (op2 ixD (some s2) (some (.int 0))) fun d => some d)))))
def m_giver (a_house a_name a_face : D) : Option D :=
  (bnd (op2 ixD (lsV (lcD (op1 itD (some a_house)) fun x => bnd (dec1 x) fun v2 => keepE (op2 eqB (op2 ixD (some v2) (some (.int 0))) (some a_name)) (some v2))) (some (.int 0))) fun x_part1 =>
  (bnd (op2 ixD (lsV (lcD (op1 itD (op2 ixD (some x_part1) (some (.int 3)))) fun x => bnd (dec1 x) fun v4 => keepE (op2 eqB (op2 ixD (some v4) (some (.int 0))) (some a_face)) (some v4))) (some (.int 0))) fun x_want3 =>
  (bnd (op3 m_giver_among (op1 m_standing_parts (some a_house)) (some a_name) (some x_want3)) fun d => some d)))
def m__law_holds (a_parts : D) : Option D :=
  (bnd (op1 itD (some a_parts)) fun l => bnd (forD (fun (s1 : Unit) x => bnd (dec1 x) fun v2 =>
    (bnd (op1 itD (op2 ixD (some v2) (some (.int 3)))) fun l => bnd (forD (fun (s3 : Unit) x => bnd (dec1 x) fun v4 =>
      (bnd (lsV (lcD (op1 itD (some a_parts)) fun x => bnd (dec1 x) fun v6 => keepE (andT (op2 neB (op2 ixD (some v6) (some (.int 0))) (op2 ixD (some v2) (some (.int 0)))) (tB (op2 m__law_give (some v6) (some v4)))) (some v6))) fun x_some5 =>
      (iteT (andT (tB (op2 ixD (some v4) (some (.int 3)))) (op2 eqB (some x_some5) (lsV (lstV (some [])))))
      (bnd (some (.bool false)) fun d => some (Lp.out (Lp.out d)))
      (some (Lp.go ()))))) l ()) (jn fun (s3 : Unit) =>
    (some (Lp.go ()))))) l ()) (jn fun (s1 : Unit) =>
  (bnd (some (.bool true)) fun d => some d)))
def m__law_wants (a_part : D) : Option D :=
  (bnd (lsV (lcD (op1 itD (op2 ixD (some a_part) (some (.int 3)))) fun x => bnd (dec1 x) fun v1 => keepE (some true) (op2 ixD (some v1) (some (.int 0))))) fun d => some d)
def m_givers (a_house : D) : Option D :=
  (bnd (op1 m_standing_parts (some a_house)) fun x_parts1 =>
  (bnd (some []) fun x_found2 =>
  (bnd (op1 itD (some x_parts1)) fun l => bnd (forD (fun (s3 : List (D × D)) x => bnd (dec1 x) fun v4 =>
    (bnd (lsV (lcD (op1 itD (op2 ixD (some v4) (some (.int 3)))) fun x => bnd (dec1 x) fun v6 => keepE (some true) (op3 m_giver_among (some x_parts1) (op2 ixD (some v4) (some (.int 0))) (some v6)))) fun x_some5 =>
    (bnd (op2 (putN s3) (op2 ixD (some v4) (some (.int 0))) (lsV (lcD (op1 itD (some x_some5)) fun x => bnd (dec1 x) fun v7 => keepE (op1 isNNB (some v7)) (some v7)))) fun x_found8 =>
    (some (Lp.go x_found8))))) l x_found2) (jn fun (s3 : List (D × D)) =>
  (some (.dict s3))))))
def m_order (a_house : D) : Option D :=
  (bnd (op1 m_givers (some a_house)) fun x_book1 =>
  (bnd (lstV (some [])) fun x_found2 =>
  (bnd (op1 itD (lsV (op1 listN (some x_book1)))) fun l => bnd (forD (fun (s3 : List D) x => bnd (dec1 x) fun v4 =>
    (bnd (lsV (lcD (op1 itD (some x_book1)) fun x => bnd (dec1 x) fun v6 => keepE (andT (op2 ninB (some v6) (some (.list s3))) (tB (op1 allD (lsV (lcD (op1 itD (op2 ixD (some x_book1) (some v6))) fun x => bnd (dec1 x) fun v7 => keepE (some true) (boV (op2 inB (some v7) (some (.list s3))))))))) (some v6))) fun x_ready5 =>
    (iteT (op2 gtB (op1 lenD (some x_ready5)) (some (.int 0)))
    (bnd (op1 (apL s3) (op2 ixD (some x_ready5) (some (.int 0)))) fun x_found9 =>
      (some (Lp.go x_found9)))
    (some (Lp.go s3))))) l x_found2) (jn fun (s3 : List D) =>
  (bnd (op1 tupD (some (.list s3))) fun d => some d)))))
def m_stuck (a_house : D) : Option D :=
  (bnd (op1 m_order (some a_house)) fun x_begun1 =>
  (bnd (op1 tupD (lsV (lcD (op1 itD (op1 m_givers (some a_house))) fun x => bnd (dec1 x) fun v2 => keepE (op2 ninB (some v2) (some x_begun1)) (some v2)))) fun d => some d))
def m_leans (a_house a_name : D) : Option D :=
  (bnd (op1 m_givers (some a_house)) fun x_book1 =>
  (bnd (lstV (some [])) fun x_found2 =>
  (bnd (op1 listN (op2 ixD (some x_book1) (some a_name))) fun x_todo3 =>
  (bnd (whileD (fun (s4 : List D × List D) => (op2 gtB (op1 lenD (some (.list s4.2))) (some (.int 0)))) (fun (s4 : List D × List D) =>
    (bnd (popL s4.2) fun x_one5 =>
    (iteT (op2 ninB (some x_one5.2) (some (.list s4.1)))
    (bnd (op1 (apL s4.1) (some x_one5.2)) fun x_found7 =>
      (bnd (bnd (op1 itL (op2 ixD (some x_book1) (some x_one5.2))) (exL x_one5.1)) fun x_todo9 =>
      (some (Lp.go (x_found7, x_todo9)))))
    (some (Lp.go (s4.1, x_one5.1)))))) 4096 (x_found2, x_todo3)) (jn fun (s4 : List D × List D) =>
  (bnd (op1 tupD (lsV (op1 sortN (some (.list s4.1))))) fun d => some d))))))
def m_chain (a_house a_hook : D) : Option D :=
  (bnd (dcV (op1 dictN (lsV (lcD (op1 itD (some a_house)) fun x => bnd (dec1 x) fun v2 => keepE (some true) (tupV (arg1 (op2 ixD (some v2) (some (.int 0))) (arg1 (some v2) (some [])))))))) fun x_book1 =>
  (bnd (lstV (some [])) fun x_found3 =>
  (bnd (op1 enumI (op1 m_order (some a_house))) fun l => bnd (forD (fun (s4 : List D) x => bnd (dec2 x) fun v5 =>
    (bnd (op1 enumI (op2 ixD (op2 ixD (some x_book1) (some v5.2)) (some (.int 4)))) fun l => bnd (forD (fun (s6 : List D) x => bnd (dec2 x) fun v7 =>
      (iteT (op2 eqB (op2 ixD (some v7.2) (some (.int 0))) (some a_hook))
      (bnd (op1 (apL s6) (tupV (arg1 (op2 ixD (some v7.2) (some (.int 1))) (arg1 (some v5.1) (arg1 (some v7.1) (arg1 (some v5.2) (arg1 (op2 ixD (some v7.2) (some (.int 2))) (some [])))))))) fun x_found9 =>
        (some (Lp.go x_found9)))
      (some (Lp.go s6)))) l s4) (jn fun (s6 : List D) =>
    (some (Lp.go s6))))) l x_found3) (jn fun (s4 : List D) =>
  (bnd (op1 tupD (lsV (lcD (op1 itD (lsV (op1 sortN (some (.list s4))))) fun x => bnd (dec5 x) fun v11 => keepE (some true) (tupV (arg1 (some v11.2.2.2.1) (arg1 (some v11.1) (arg1 (some v11.2.2.2.2) (some [])))))))) fun d => some d)))))
def m_pulled (a_house a_hook a_worth : D) : Option D :=
  (bnd (op1 itD (op2 m_chain (some a_house) (some a_hook))) fun l => bnd (forD (fun (s1 : D) x => bnd (dec3 x) fun v2 =>
    (bnd (op2 ixD (some v2.2.2) (some (.int 0))) fun x_word3 =>
    (iteT (op2 eqB (some x_word3) (some (.str "stop")))
    (bnd (tupV (arg1 (some s1) (arg1 (some .none) (some [])))) fun d => some (Lp.out d))
    (iteT (andT (op2 eqB (some x_word3) (some (.str "fail"))) (op2 geB (some s1) (op2 ixD (some v2.2.2) (some (.int 1)))))
    (bnd (tupV (arg1 (some s1) (arg1 (some v2.1) (some [])))) fun d => some (Lp.out d))
    (iteT (op2 eqB (some x_word3) (some (.str "plus")))
    (bnd (op2 modD (op2 addD (some s1) (op2 ixD (some v2.2.2) (some (.int 1)))) (some (.int 1000))) fun x_worth4 =>
      (some (Lp.go x_worth4)))
    (iteT (op2 eqB (some x_word3) (some (.str "times")))
      (bnd (op2 modD (op2 mulD (some s1) (op2 ixD (some v2.2.2) (some (.int 1)))) (some (.int 1000))) fun x_worth5 =>
        (some (Lp.go x_worth5)))
      (iteT (op2 eqB (some x_word3) (some (.str "set")))
        (bnd (op2 ixD (some v2.2.2) (some (.int 1))) fun x_worth6 =>
          (some (Lp.go x_worth6)))
        (some (Lp.go s1))))))))) l a_worth) (jn fun (s1 : D) =>
  (bnd (tupV (arg1 (some s1) (arg1 (some .none) (some [])))) fun d => some d)))
def m_lost (a_house a_name : D) : Option D :=
  (bnd (op1 m_order (op1 tupD (lsV (lcD (op1 itD (some a_house)) fun x => bnd (dec1 x) fun v2 => keepE (op2 neB (op2 ixD (some v2) (some (.int 0))) (some a_name)) (some v2))))) fun x_left1 =>
  (bnd (op1 tupD (lsV (op1 sortN (lsV (lcD (op1 itD (op1 m_order (some a_house))) fun x => bnd (dec1 x) fun v3 => keepE (andT (op2 neB (some v3) (some a_name)) (op2 ninB (some v3) (some x_left1))) (some v3)))))) fun d => some d))
def m__law_givers (a_house : D) : Option D :=
  (bnd (op1 m__law_stand (some a_house)) fun x_parts1 =>
  (bnd (some []) fun x_found2 =>
  (bnd (op1 itD (some x_parts1)) fun l => bnd (forD (fun (s3 : List (D × D)) x => bnd (dec1 x) fun v4 =>
    (bnd (lsV (lcD (op1 itD (op2 ixD (some v4) (some (.int 3)))) fun x => bnd (dec1 x) fun v6 => keepE (some true) (op3 m__law_giver (some x_parts1) (op2 ixD (some v4) (some (.int 0))) (some v6)))) fun x_some5 =>
    (bnd (op2 (putN s3) (op2 ixD (some v4) (some (.int 0))) (lsV (lcD (op1 itD (some x_some5)) fun x => bnd (dec1 x) fun v7 => keepE (op1 isNNB (some v7)) (some v7)))) fun x_found8 =>
    (some (Lp.go x_found8))))) l x_found2) (jn fun (s3 : List (D × D)) =>
  (some (.dict s3))))))
def m__law_order (a_house : D) : Option D :=
  (bnd (op1 m__law_givers (some a_house)) fun x_book1 =>
  (bnd (lstV (some [])) fun x_found2 =>
  (bnd (lsV (op1 sortN (some x_book1))) fun x_left3 =>
  (bnd (whileD (fun (s4 : List D × D) => (op2 neB (some s4.2) (lsV (lstV (some []))))) (fun (s4 : List D × D) =>
    (bnd (lsV (lcD (op1 itD (some s4.2)) fun x => bnd (dec1 x) fun v6 => keepE (op2 eqB (lsV (lcD (op1 itD (op2 ixD (some x_book1) (some v6))) fun x => bnd (dec1 x) fun v7 => keepE (op2 ninB (some v7) (some (.list s4.1))) (some v7))) (lsV (lstV (some [])))) (some v6))) fun x_ready5 =>
    (iteT (op2 eqB (some x_ready5) (lsV (lstV (some []))))
    (some (Lp.brk (s4.1, s4.2)))
    (bnd (op1 (apL s4.1) (op2 ixD (some x_ready5) (some (.int 0)))) fun x_found9 =>
    (bnd (lsV (lcD (op1 itD (some s4.2)) fun x => bnd (dec1 x) fun v11 => keepE (op2 neB (some v11) (op2 ixD (some x_ready5) (some (.int 0)))) (some v11))) fun x_left10 =>
    (some (Lp.go (x_found9, x_left10)))))))) 4096 (x_found2, x_left3)) (jn fun (s4 : List D × D) =>
  (bnd (op1 tupD (some (.list s4.1))) fun d => some d))))))
def m_ring (a_house a_name : D) : Option D :=
  (bnd (op1 m_givers (some a_house)) fun x_book1 =>
  (bnd (op1 m_stuck (some a_house)) fun x_names2 =>
  (bnd (lstV (arg1 (some a_name) (some []))) fun x_way3 =>
  (bnd (whileD (fun (s4 : List D) => (op2 eqB (op2 cntD (some (.list s4)) (op2 ixD (some (.list s4)) (op1 negD (some (.int 1))))) (some (.int 1)))) (fun (s4 : List D) =>
    (bnd (op1 (apL s4) (op2 ixD (lsV (lcD (op1 itD (op2 ixD (some x_book1) (op2 ixD (some (.list s4)) (op1 negD (some (.int 1)))))) fun x => bnd (dec1 x) fun v6 => keepE (op2 inB (some v6) (some x_names2)) (some v6))) (some (.int 0)))) fun x_way7 =>
    (some (Lp.go x_way7)))) 4096 x_way3) (jn fun (s4 : List D) =>
  (bnd (op1 tupD (op3s cutF (some (.list s4)) (slP (op2 idxLD (some (.list s4)) (op2 ixD (some (.list s4)) (op1 negD (some (.int 1)))))) (slP (op1 negD (some (.int 1)))))) fun d => some d))))))
def m__law_chain (a_house a_hook : D) : Option D :=
  (bnd (lsV (lstV (some []))) fun x_found1 =>
  (bnd (op2 rangeI2 (op1 negD (some (.int 9))) (some (.int 10))) fun l => bnd (forD (fun (s2 : D) x => bnd (dec1 x) fun v3 =>
    (bnd (op1 itD (op1 m__law_order (some a_house))) fun l => bnd (forD (fun (s4 : D) x => bnd (dec1 x) fun v5 =>
      (bnd (op2 ixD (lsV (lcD (op1 itD (some a_house)) fun x => bnd (dec1 x) fun v7 => keepE (op2 eqB (op2 ixD (some v7) (some (.int 0))) (some v5)) (some v7))) (some (.int 0))) fun x_part6 =>
      (bnd (op2 addD (some s4) (lsV (lcD (op1 itD (op2 ixD (some x_part6) (some (.int 4)))) fun x => bnd (dec1 x) fun v9 => keepE (andT (op2 eqB (op2 ixD (some v9) (some (.int 0))) (some a_hook)) (op2 eqB (op2 ixD (some v9) (some (.int 1))) (some v3))) (tupV (arg1 (some v5) (arg1 (some v3) (arg1 (op2 ixD (some v9) (some (.int 2))) (some [])))))))) fun x_found8 =>
      (some (Lp.go x_found8))))) l s2) (jn fun (s4 : D) =>
    (some (Lp.go s4))))) l x_found1) (jn fun (s2 : D) =>
  (bnd (some s2) fun d => some d))))
def m__law_pulled (a_house a_hook a_worth : D) : Option D :=
  (bnd (op1 itD (op2 m__law_chain (some a_house) (some a_hook))) fun l => bnd (forD (fun (s1 : D) x => bnd (dec3 x) fun v2 =>
    (iteT (op2 eqB (op2 ixD (some v2.2.2) (some (.int 0))) (some (.str "stop")))
    (some (Lp.brk s1))
    (iteT (andT (op2 eqB (op2 ixD (some v2.2.2) (some (.int 0))) (some (.str "fail"))) (op2 geB (some s1) (op2 ixD (some v2.2.2) (some (.int 1)))))
    (bnd (tupV (arg1 (some s1) (arg1 (some v2.1) (some [])))) fun d => some (Lp.out d))
    (bnd (dcV (dspV (dp1 (some (.str "plus")) (op2 addD (some s1) (op2 ixD (some v2.2.2) (some (.int 1)))) (dp1 (some (.str "times")) (op2 mulD (some s1) (op2 ixD (some v2.2.2) (some (.int 1)))) (dp1 (some (.str "set")) (op2 ixD (some v2.2.2) (some (.int 1))) (dp1 (some (.str "fail")) (some s1) (some []))))))) fun x_some3 =>
    (bnd (op2 modD (op2 ixD (some x_some3) (op2 ixD (some v2.2.2) (some (.int 0)))) (some (.int 1000))) fun x_worth4 =>
    (some (Lp.go x_worth4))))))) l a_worth) (jn fun (s1 : D) =>
  (bnd (tupV (arg1 (some s1) (arg1 (some .none) (some [])))) fun d => some d)))
def m__law_less (a_house : D) : Option D :=
  (bnd (tupV (some [])) fun x_found1 =>
  (bnd (op1 itD (some a_house)) fun l => bnd (forD (fun (s2 : D) x => bnd (dec1 x) fun v3 =>
    (bnd (tupV (some [])) fun x_hooks4 =>
    (bnd (op1 itD (op2 ixD (some v3) (some (.int 4)))) fun l => bnd (forD (fun (s5 : D) x => bnd (dec3 x) fun v6 =>
      (bnd (op2 addD (some s5) (tupV (arg1 (tupV (arg1 (some v6.1) (arg1 (op2 maxD (op1 negD (some (.int 9))) (op2 subD (some v6.2.1) (some (.int 1)))) (arg1 (some v6.2.2) (some []))))) (some [])))) fun x_hooks7 =>
      (some (Lp.go x_hooks7)))) l x_hooks4) (jn fun (s5 : D) =>
    (bnd (op2 addD (some s2) (tupV (arg1 (op2 addD (op3s cutF (some v3) (some none) (slP (some (.int 4)))) (tupV (arg1 (some s5) (some [])))) (some [])))) fun x_found8 =>
    (some (Lp.go x_found8))))))) l x_found1) (jn fun (s2 : D) =>
  (bnd (some s2) fun d => some d))))
def m__law_one_by_one (a_some a_worth : D) : Option D :=
  (bnd (op1 itD (some a_some)) fun l => bnd (forD (fun (s1 : D) x => bnd (dec3 x) fun v2 =>
    (bnd (tupV (arg1 (some v2.1) (arg1 (some (.int 1)) (arg1 (tupV (some [])) (arg1 (tupV (some [])) (arg1 (tupV (arg1 (tupV (arg1 (some (.str "go")) (arg1 (some (.int 0)) (arg1 (some v2.2.2) (some []))))) (some []))) (some []))))))) fun x_own3 =>
    (bnd (op3 m_pulled (tupV (arg1 (some x_own3) (some []))) (some (.str "go")) (some s1)) fun x => bnd (dec2 x) fun v4 =>
    (iteT (orT (op1 isNNB (some v4.2)) (op2 eqB (some v2.2.2) (tupV (arg1 (some (.str "stop")) (some [])))))
    (bnd (tupV (arg1 (some v4.1) (arg1 (some v4.2) (some [])))) fun d => some (Lp.out d))
    (some (Lp.go v4.1)))))) l a_worth) (jn fun (s1 : D) =>
  (bnd (tupV (arg1 (some s1) (arg1 (some .none) (some [])))) fun d => some d)))
def m__law_houses (a_choices a_names : D) : Option D :=
  (bnd (lsV (lstV (arg1 (tupV (some [])) (some [])))) fun x_found1 =>
  (bnd (op1 itD (some a_names)) fun l => bnd (forD (fun (s2 : D) x => bnd (dec1 x) fun v3 =>
    (bnd (lsV (lcD (op1 itD (some a_choices)) fun x => bnd (dec1 x) fun v5 => keepE (op2 eqB (op2 ixD (some v5) (some (.int 0))) (some v3)) (some v5))) fun x_makes4 =>
    (bnd (lsV (lstV (some []))) fun x_more6 =>
    (bnd (op1 itD (some s2)) fun l => bnd (forD (fun (s7 : D) x => bnd (dec1 x) fun v8 =>
      (bnd (op2 addD (op2 addD (some s7) (lsV (lstV (arg1 (some v8) (some []))))) (lsV (lcD (op1 itD (some x_makes4)) fun x => bnd (dec1 x) fun v10 => keepE (some true) (op2 addD (some v8) (tupV (arg1 (some v10) (some []))))))) fun x_more9 =>
      (some (Lp.go x_more9)))) l x_more6) (jn fun (s7 : D) =>
    (bnd (some s7) fun x_found11 =>
    (some (Lp.go x_found11)))))))) l x_found1) (jn fun (s2 : D) =>
  (bnd (some s2) fun d => some d))))
def m_houses_of (a_choices : D) : Option D :=
  (bnd (lsV (lstV (arg1 (tupV (some [])) (some [])))) fun x_found1 =>
  (bnd (op1 itD (lsV (op1 sortSetN (lsV (lcD (op1 itD (some a_choices)) fun x => bnd (dec1 x) fun v3 => keepE (some true) (op2 ixD (some v3) (some (.int 0)))))))) fun l => bnd (forD (fun (s2 : D) x => bnd (dec1 x) fun v4 =>
    (bnd (lsV (lcD (op1 itD (some a_choices)) fun x => bnd (dec1 x) fun v6 => keepE (op2 eqB (op2 ixD (some v6) (some (.int 0))) (some v4)) (some v6))) fun x_makes5 =>
    (bnd (op1 listN (some s2)) fun x_longer7 =>
    (bnd (op1 itD (some s2)) fun l => bnd (forD (fun (s8 : List D) x => bnd (dec1 x) fun v9 =>
      (bnd (bnd (lcD (op1 itD (some x_makes5)) fun x => bnd (dec1 x) fun v11 => keepE (some true) (op2 addD (some v9) (tupV (arg1 (some v11) (some []))))) (exL s8)) fun x_longer12 =>
      (some (Lp.go x_longer12)))) l x_longer7) (jn fun (s8 : List D) =>
    (some (Lp.go (.list s8)))))))) l x_found1) (jn fun (s2 : D) =>
  (bnd (some s2) fun d => some d))))
def m_chosen (a_choices a_wanted : D) : Option D :=
  (bnd (some .none) fun x_best1 =>
  (bnd (op1 itD (op1 m_houses_of (some a_choices))) fun l => bnd (forD (fun (s2 : D) x => bnd (dec1 x) fun v3 =>
    (bnd (op1 tupD (lsV (lcD (op1 itD (some v3)) fun x => bnd (dec1 x) fun v5 => keepE (some true) (op2 ixD (some v5) (some (.int 0)))))) fun x_names4 =>
    (iteT (andT (tB (op1 allD (lsV (lcD (op1 itD (some a_wanted)) fun x => bnd (dec1 x) fun v6 => keepE (some true) (boV (op2 inB (some v6) (some x_names4))))))) (op2 eqB (op1 lenD (op1 m_order (some v3))) (op1 lenD (some v3))))
    (bnd (tupV (arg1 (op1 lenD (some v3)) (arg1 (some x_names4) (arg1 (op1 tupD (lsV (lcD (op1 itD (some v3)) fun x => bnd (dec1 x) fun v8 => keepE (some true) (op2 subD (some (.int 0)) (op2 ixD (some v8) (some (.int 1))))))) (some []))))) fun x_look7 =>
      (iteT (orT (op1 isNB (some s2)) (op2 ltB (some x_look7) (op2 ixD (some s2) (some (.int 0)))))
      (bnd (tupV (arg1 (some x_look7) (arg1 (some v3) (some [])))) fun x_best9 =>
        (some (Lp.go x_best9)))
      (some (Lp.go s2))))
    (some (Lp.go s2))))) l x_best1) (jn fun (s2 : D) =>
  (iteT (op1 isNB (some s2))
  (bnd (some .none) fun d => some d)
  (bnd (op2 ixD (some s2) (some (.int 1))) fun d => some d)))))
def m__law_choices (a_number a_many : D) : Option D :=
  (bnd (tupV (some [])) fun x_found1 =>
  (bnd (op1 rangeI (some a_many)) fun l => bnd (forD (fun (s2 : D) x => bnd (dec1 x) fun v3 =>
    (bnd (op2 divD (op2 m__law_drawn (some a_number) (op2 addD (some (.int 50)) (some v3))) (some (.int 4))) fun x_drawn4 =>
    (bnd (op2 m__law_part (op2 divD (some x_drawn4) (some (.int 8))) (op2 ixD (tupV (arg1 (some (.str "a")) (arg1 (some (.str "b")) (arg1 (some (.str "c")) (arg1 (some (.str "d")) (some [])))))) (op2 modD (some x_drawn4) (some (.int 4))))) fun x_part5 =>
    (iteT (op2 ninB (tupV (arg1 (op2 ixD (some x_part5) (some (.int 0))) (arg1 (op2 ixD (some x_part5) (some (.int 1))) (some [])))) (lsV (lcD (op1 itD (some s2)) fun x => bnd (dec1 x) fun v6 => keepE (some true) (tupV (arg1 (op2 ixD (some v6) (some (.int 0))) (arg1 (op2 ixD (some v6) (some (.int 1))) (some [])))))))
    (bnd (op2 addD (some s2) (tupV (arg1 (some x_part5) (some [])))) fun x_found7 =>
      (some (Lp.go x_found7)))
    (some (Lp.go s2)))))) l x_found1) (jn fun (s2 : D) =>
  (bnd (some s2) fun d => some d))))
end DL


namespace DL
open PySem PySem.Spec PyProof.Rows L2
/-! the reckoning of is_part, is_house, and the law's own -/
def mx__law_edges (a_number : D) : Option D :=
  (bnd (op3s cutX (some (.str "abcdefg")) (some none) (slP (op2 addD (some (.int 4)) (op2 modD (some a_number) (some (.int 3)))))) fun x_long1 =>
  (bnd (op1 tupD (lsV (lcD (op1 rangeI (op2 addD (some (.int 2)) (op2 modD (op2 divD (some a_number) (some (.int 16))) (some (.int 3))))) fun x => bnd (dec1 x) fun v3 => keepE (some true) (tupV (arg1 (op2 ixD (some (.str "fghij")) (some v3)) (arg1 (op2 addD (some (.int 8)) (op2 modD (op2 divD (some a_number) (some (.int 4))) (some (.int 3)))) (some []))))))) fun x_faces2 =>
  (bnd (op1 tupD (lsV (lcD (op1 rangeI (op2 addD (some (.int 2)) (op2 modD (op2 divD (some a_number) (some (.int 64))) (some (.int 3))))) fun x => bnd (dec1 x) fun v5 => keepE (some true) (tupV (arg1 (op2 ixD (some (.str "fghij")) (some v5)) (arg1 (some (.int 1)) (arg1 (some (.int 9)) (arg1 (boV (op2 eqB (some v5) (some (.int 1)))) (some []))))))))) fun x_wants4 =>
  (bnd (op2 mulX (tupV (arg1 (tupV (arg1 (some x_long1) (arg1 (some (.int 9)) (arg1 (tupV (arg1 (some (.str "plus")) (arg1 (op2 addD (some (.int 998)) (op2 modD (op2 divD (some a_number) (some (.int 256))) (some (.int 3)))) (some [])))) (some []))))) (some []))) (op2 addD (some (.int 2)) (op2 modD (op2 divD (some a_number) (some (.int 1024))) (some (.int 3))))) fun x_hooks6 =>
  (bnd (tupV (arg1 (some (.str "a")) (arg1 (some (.int 1)) (arg1 (tupV (some [])) (arg1 (tupV (some [])) (arg1 (tupV (some [])) (some []))))))) fun x_plain7 =>
  (bnd (tupV (arg1 (tupV (arg1 (some (.str "a")) (arg1 (some (.int 1)) (arg1 (some x_faces2) (arg1 (tupV (some [])) (arg1 (tupV (some [])) (some []))))))) (arg1 (tupV (arg1 (some (.str "a")) (arg1 (some (.int 9)) (arg1 (tupV (some [])) (arg1 (some x_wants4) (arg1 (tupV (some [])) (some []))))))) (arg1 (tupV (arg1 (some (.str "a")) (arg1 (some (.int 1)) (arg1 (tupV (some [])) (arg1 (tupV (some [])) (arg1 (some x_hooks6) (some []))))))) (arg1 (tupV (arg1 (some x_long1) (arg1 (some (.int 1)) (arg1 (tupV (some [])) (arg1 (tupV (some [])) (arg1 (tupV (some [])) (some []))))))) (some [])))))) fun x_found8 =>
  (bnd (op2 addD (some x_found8) (tupV (arg1 (tupV (arg1 (some x_plain7) (some []))) (arg1 (tupV (arg1 (tupV (arg1 (some x_long1) (arg1 (some (.int 1)) (arg1 (tupV (some [])) (arg1 (tupV (some [])) (arg1 (tupV (some [])) (some []))))))) (some []))) (some []))))) fun d => some d)))))))
def mx_are_rising (a_some : D) : Option D :=
  (bnd (op1 allD (lsV (lcD (op2 zipX (op3s cutX (some a_some) (some none) (slP (op1 negD (some (.int 1))))) (op3s cutX (some a_some) (slP (some (.int 1))) (some none))) fun x => bnd (dec2 x) fun v1 => keepE (some true) (boV (op2 ltB (some v1.1) (some v1.2)))))) fun d => some d)
def mx_are_tuples (a_thing a_size : D) : Option D :=
  (iteT (orT (notT (tB (boV (op1 (isiD "tuple") (some a_thing))))) (op2 gtB (op1 lenD (some a_thing)) (some (.int 3))))
  (bnd (some (.bool false)) fun d => some d)
  (bnd (op1 allD (lsV (lcD (op1 itD (some a_thing)) fun x => bnd (dec1 x) fun v1 => keepE (some true) (boV (andT (tB (boV (op1 (isiD "tuple") (some v1)))) (op2 eqB (op1 lenD (some v1)) (some a_size))))))) fun d => some d))
def mx_is_name (a_thing : D) : Option D :=
  (bnd (boV (andT (tB (boV (op1 (isiD "str") (some a_thing)))) (andT (chT leB leB (some (.int 1)) (op1 lenD (some a_thing)) (some (.int 5))) (tB (op1 allD (lsV (lcD (op1 itD (some a_thing)) fun x => bnd (dec1 x) fun v1 => keepE (some true) (boV (op2 inX (some v1) (some (.str "abcdefghijklmnopqrstuvwxyz"))))))))))) fun d => some d)
def mx_is_whole (a_thing a_low a_high : D) : Option D :=
  (bnd (boV (andT (tB (boV (op1 (isiD "int") (some a_thing)))) (andT (notT (tB (boV (op1 (isiD "bool") (some a_thing))))) (chT leB leB (some a_low) (some a_thing) (some a_high))))) fun d => some d)
def mx_are_faces (a_thing : D) : Option D :=
  (iteT (orT (notT (tB (op2 mx_are_tuples (some a_thing) (some (.int 2))))) (notT (tB (op1 allD (lsV (lcD (op1 itD (some a_thing)) fun x => bnd (dec1 x) fun v1 => keepE (some true) (boV (andT (tB (op1 mx_is_name (op2 ixD (some v1) (some (.int 0))))) (tB (op3 mx_is_whole (op2 ixD (some v1) (some (.int 1))) (some (.int 1)) (some (.int 9))))))))))))
  (bnd (some (.bool false)) fun d => some d)
  (bnd (op1 mx_are_rising (lsV (lcD (op1 itD (some a_thing)) fun x => bnd (dec1 x) fun v2 => keepE (some true) (op2 ixD (some v2) (some (.int 0)))))) fun d => some d))
def mx_is_want (a_thing : D) : Option D :=
  (iteT (orT (notT (tB (op1 mx_is_name (op2 ixD (some a_thing) (some (.int 0)))))) (orT (notT (tB (op3 mx_is_whole (op2 ixD (some a_thing) (some (.int 1))) (some (.int 1)) (some (.int 9))))) (notT (tB (op3 mx_is_whole (op2 ixD (some a_thing) (some (.int 2))) (op2 ixD (some a_thing) (some (.int 1))) (some (.int 9)))))))
  (bnd (some (.bool false)) fun d => some d)
  (bnd (boV (op1 (isiD "bool") (op2 ixD (some a_thing) (some (.int 3))))) fun d => some d))
def mx_are_wants (a_thing : D) : Option D :=
  (iteT (orT (notT (tB (op2 mx_are_tuples (some a_thing) (some (.int 4))))) (notT (tB (op1 allD (lsV (lcD (op1 itD (some a_thing)) fun x => bnd (dec1 x) fun v1 => keepE (some true) (op1 mx_is_want (some v1))))))))
  (bnd (some (.bool false)) fun d => some d)
  (bnd (boV (op2 eqB (op1 lenSetD (lsV (lcD (op1 itD (some a_thing)) fun x => bnd (dec1 x) fun v2 => keepE (some true) (op2 ixD (some v2) (some (.int 0)))))) (op1 lenD (some a_thing)))) fun d => some d))
def mx_is_deed (a_thing : D) : Option D :=
  (iteT (orT (notT (tB (boV (op1 (isiD "tuple") (some a_thing))))) (orT (op2 eqB (op1 lenD (some a_thing)) (some (.int 0))) (notT (tB (boV (op1 (isiD "str") (op2 ixD (some a_thing) (some (.int 0)))))))))
  (bnd (some (.bool false)) fun d => some d)
  (iteT (op2 eqB (op2 ixD (some a_thing) (some (.int 0))) (some (.str "stop")))
  (bnd (boV (op2 eqB (op1 lenD (some a_thing)) (some (.int 1)))) fun d => some d)
  (bnd (boV (andT (op2 inX (op2 ixD (some a_thing) (some (.int 0))) (some (.tuple [.str "plus", .str "times", .str "set", .str "fail"]))) (andT (op2 eqB (op1 lenD (some a_thing)) (some (.int 2))) (tB (op3 mx_is_whole (op2 ixD (some a_thing) (some (.int 1))) (some (.int 0)) (op2 subD (some (.int 1000)) (some (.int 1)))))))) fun d => some d)))
def mx_are_hooks (a_thing : D) : Option D :=
  (iteT (notT (tB (op2 mx_are_tuples (some a_thing) (some (.int 3)))))
  (bnd (some (.bool false)) fun d => some d)
  (bnd (op1 itD (some a_thing)) fun l => bnd (forD (fun (s1 : Unit) x => bnd (dec3 x) fun v2 =>
    (iteT (orT (notT (tB (op1 mx_is_name (some v2.1)))) (orT (notT (tB (op3 mx_is_whole (some v2.2.1) (op2 subD (some (.int 0)) (some (.int 9))) (some (.int 9))))) (notT (tB (op1 mx_is_deed (some v2.2.2))))))
    (bnd (some (.bool false)) fun d => some (Lp.out d))
    (some (Lp.go ())))) l ()) (jn fun (s1 : Unit) =>
  (bnd (some (.bool true)) fun d => some d))))
def mx_is_part (a_thing : D) : Option D :=
  (iteT (orT (notT (tB (boV (op1 (isiD "tuple") (some a_thing))))) (orT (op2 neB (op1 lenD (some a_thing)) (some (.int 5))) (orT (notT (tB (op1 mx_is_name (op2 ixD (some a_thing) (some (.int 0)))))) (notT (tB (op3 mx_is_whole (op2 ixD (some a_thing) (some (.int 1))) (some (.int 1)) (some (.int 9))))))))
  (bnd (some (.bool false)) fun d => some d)
  (bnd (boV (andT (tB (op1 mx_are_faces (op2 ixD (some a_thing) (some (.int 2))))) (andT (tB (op1 mx_are_wants (op2 ixD (some a_thing) (some (.int 3))))) (tB (op1 mx_are_hooks (op2 ixD (some a_thing) (some (.int 4)))))))) fun d => some d))
def mx_is_house (a_thing : D) : Option D :=
  (iteT (orT (notT (tB (boV (op1 (isiD "tuple") (some a_thing))))) (orT (op2 gtB (op1 lenD (some a_thing)) (some (.int 6))) (notT (tB (op1 allD (lsV (lcD (op1 itD (some a_thing)) fun x => bnd (dec1 x) fun v1 => keepE (some true) (op1 mx_is_part (some v1)))))))))
  (bnd (some (.bool false)) fun d => some d)
  (bnd (op1 mx_are_rising (lsV (lcD (op1 itD (some a_thing)) fun x => bnd (dec1 x) fun v2 => keepE (some true) (op2 ixD (some v2) (some (.int 0)))))) fun d => some d))
def mx__law_is_name (a_thing : D) : Option D :=
  (iteT (orT (notT (tB (boV (op1 (isiD "str") (some a_thing))))) (notT (chT leB leB (some (.int 1)) (op1 lenD (some a_thing)) (some (.int 5)))))
  (bnd (some (.bool false)) fun d => some d)
  (bnd (boV (op2 eqB (lsV (lcD (op1 itD (some a_thing)) fun x => bnd (dec1 x) fun v1 => keepE (notT (chT leB leB (some (.str "a")) (some v1) (some (.str "z")))) (some v1))) (lsV (lstV (some []))))) fun d => some d))
def mx__law_from (a_thing a_low a_high : D) : Option D :=
  (bnd (boV (andT (tB (boV (op1 (isiD "int") (some a_thing)))) (andT (notT (tB (boV (op1 (isiD "bool") (some a_thing))))) (chT leB leB (some a_low) (some a_thing) (some a_high))))) fun d => some d)
def mx__law_is_face (a_thing : D) : Option D :=
  (bnd (boV (andT (tB (op1 mx__law_is_name (op2 ixD (some a_thing) (some (.int 0))))) (tB (op3 mx__law_from (op2 ixD (some a_thing) (some (.int 1))) (some (.int 1)) (some (.int 9)))))) fun d => some d)
def mx__law_is_want (a_thing : D) : Option D :=
  (iteT (orT (notT (tB (op1 mx__law_is_face (op3s cutX (some a_thing) (some none) (slP (some (.int 2))))))) (notT (tB (op3 mx__law_from (op2 ixD (some a_thing) (some (.int 2))) (op2 ixD (some a_thing) (some (.int 1))) (some (.int 9))))))
  (bnd (some (.bool false)) fun d => some d)
  (bnd (boV (op1 (isiD "bool") (op2 ixD (some a_thing) (some (.int 3))))) fun d => some d))
def mx__law_is_hook (a_thing : D) : Option D :=
  (iteT (orT (notT (tB (op1 mx__law_is_name (op2 ixD (some a_thing) (some (.int 0)))))) (orT (notT (tB (op3 mx__law_from (op2 ixD (some a_thing) (some (.int 1))) (op1 negD (some (.int 9))) (some (.int 9))))) (notT (tB (boV (op1 (isiD "tuple") (op2 ixD (some a_thing) (some (.int 2)))))))))
  (bnd (some (.bool false)) fun d => some d)
  (iteT (orT (op2 eqB (op2 ixD (some a_thing) (some (.int 2))) (tupV (some []))) (notT (tB (boV (op1 (isiD "str") (op2 ixD (op2 ixD (some a_thing) (some (.int 2))) (some (.int 0))))))))
  (bnd (some (.bool false)) fun d => some d)
  (iteT (op2 eqB (op2 ixD (op2 ixD (some a_thing) (some (.int 2))) (some (.int 0))) (some (.str "stop")))
  (bnd (boV (op2 eqB (op1 lenD (op2 ixD (some a_thing) (some (.int 2)))) (some (.int 1)))) fun d => some d)
  (bnd (boV (andT (op2 inX (op2 ixD (op2 ixD (some a_thing) (some (.int 2))) (some (.int 0))) (tupV (arg1 (some (.str "plus")) (arg1 (some (.str "times")) (arg1 (some (.str "set")) (arg1 (some (.str "fail")) (some []))))))) (andT (op2 eqB (op1 lenD (op2 ixD (some a_thing) (some (.int 2)))) (some (.int 2))) (tB (op3 mx__law_from (op2 ixD (op2 ixD (some a_thing) (some (.int 2))) (some (.int 1))) (some (.int 0)) (some (.int 999))))))) fun d => some d))))
def mx__law_is_part (a_thing : D) : Option D :=
  (iteT (orT (notT (tB (boV (op1 (isiD "tuple") (some a_thing))))) (orT (op2 neB (op1 lenD (some a_thing)) (some (.int 5))) (notT (tB (op1 mx__law_is_face (op3s cutX (some a_thing) (some none) (slP (some (.int 2)))))))))
  (bnd (some (.bool false)) fun d => some d)
  (bnd (op1 itD (tupV (arg1 (tupV (arg1 (op2 ixD (some a_thing) (some (.int 2))) (arg1 (some (.int 2)) (some [])))) (arg1 (tupV (arg1 (op2 ixD (some a_thing) (some (.int 3))) (arg1 (some (.int 4)) (some [])))) (arg1 (tupV (arg1 (op2 ixD (some a_thing) (some (.int 4))) (arg1 (some (.int 3)) (some [])))) (some [])))))) fun l => bnd (forD (fun (s1 : Unit) x => bnd (dec2 x) fun v2 =>
    (iteT (orT (notT (tB (boV (op1 (isiD "tuple") (some v2.1))))) (op2 gtB (op1 lenD (some v2.1)) (some (.int 3))))
    (bnd (some (.bool false)) fun d => some (Lp.out d))
    (bnd (op1 itD (some v2.1)) fun l => bnd (forD (fun (s3 : Unit) x => bnd (dec1 x) fun v4 =>
      (iteT (orT (notT (tB (boV (op1 (isiD "tuple") (some v4))))) (op2 neB (op1 lenD (some v4)) (some v2.2)))
      (bnd (some (.bool false)) fun d => some (Lp.out (Lp.out d)))
      (iteT (orT (andT (op2 eqB (some v2.2) (some (.int 2))) (notT (tB (op1 mx__law_is_face (some v4))))) (andT (op2 eqB (some v2.2) (some (.int 3))) (notT (tB (op1 mx__law_is_hook (some v4))))))
      (bnd (some (.bool false)) fun d => some (Lp.out (Lp.out d)))
      (iteT (andT (op2 eqB (some v2.2) (some (.int 4))) (notT (tB (op1 mx__law_is_want (some v4)))))
      (bnd (some (.bool false)) fun d => some (Lp.out (Lp.out d)))
      (some (Lp.go ())))))) l ()) (jn fun (s3 : Unit) =>
    (some (Lp.go ())))))) l ()) (jn fun (s1 : Unit) =>
  (bnd (lsV (lcD (op1 itD (op2 ixD (some a_thing) (some (.int 2)))) fun x => bnd (dec1 x) fun v7 => keepE (some true) (op2 ixD (some v7) (some (.int 0))))) fun x_faces6 =>
  (bnd (lsV (lcD (op1 itD (op2 ixD (some a_thing) (some (.int 3)))) fun x => bnd (dec1 x) fun v9 => keepE (some true) (op2 ixD (some v9) (some (.int 0))))) fun x_wants8 =>
  (bnd (boV (andT (op2 eqB (some x_faces6) (lsV (op1 sortSetN (some x_faces6)))) (op2 eqB (op1 lenSetD (some x_wants8)) (op1 lenD (some x_wants8))))) fun d => some d))))))
def mx__law_is_house (a_thing : D) : Option D :=
  (iteT (orT (notT (tB (boV (op1 (isiD "tuple") (some a_thing))))) (orT (op2 gtB (op1 lenD (some a_thing)) (some (.int 6))) (op2 neB (lsV (lcD (op1 itD (some a_thing)) fun x => bnd (dec1 x) fun v1 => keepE (notT (tB (op1 mx__law_is_part (some v1)))) (some v1))) (lsV (lstV (some []))))))
  (bnd (some (.bool false)) fun d => some d)
  (bnd (lsV (lcD (op1 itD (some a_thing)) fun x => bnd (dec1 x) fun v3 => keepE (some true) (op2 ixD (some v3) (some (.int 0))))) fun x_names2 =>
  (bnd (boV (op2 eqB (some x_names2) (lsV (op1 sortSetN (some x_names2))))) fun d => some d)))
end DL


namespace DL
open PySem PySem.Spec PyProof.Rows L2
/-! the reckoning of texts: written, read -/
def kv_SIZES : List (Str × Int) := [("part", 3), ("face", 3), ("must", 4), ("may", 4)]
def mx_part_rows (a_part : D) : Option D :=
  (bnd (some a_part) fun x => bnd (dec5 x) fun v1 =>
  (bnd (lstV (arg1 (lsV (lstV (arg1 (some (.str "part")) (arg1 (some v1.1) (arg1 (some v1.2.1) (some [])))))) (some []))) fun x_rows2 =>
  (bnd (bnd (lcD (op1 itD (some v1.2.2.1)) fun x => bnd (dec2 x) fun v4 => keepE (some true) (lsV (lstV (arg1 (some (.str "face")) (arg1 (some v4.1) (arg1 (some v4.2) (some []))))))) (exL x_rows2)) fun x_rows5 =>
  (bnd (bnd (lcD (op1 itD (some v1.2.2.2.1)) fun x => bnd (dec4 x) fun v7 => keepE (some true) (lsV (lstV (arg1 (op2 ixD (lsV (lstV (arg1 (some (.str "may")) (arg1 (some (.str "must")) (some []))))) (op1 intD (some v7.2.2.2))) (arg1 (some v7.1) (arg1 (some v7.2.1) (arg1 (some v7.2.2.1) (some [])))))))) (exL x_rows5)) fun x_rows8 =>
  (bnd (bnd (lcD (op1 itD (some v1.2.2.2.2)) fun x => bnd (dec3 x) fun v10 => keepE (some true) (op2 addD (lsV (lstV (arg1 (some (.str "hook")) (arg1 (some v10.1) (arg1 (some v10.2.1) (some [])))))) (lsV (op1 listN (some v10.2.2))))) (exL x_rows8)) fun x_rows11 =>
  (some (.list x_rows11)))))))
def mx_written (a_house : D) : Option D :=
  (bnd (some (.str "")) fun x_found1 =>
  (bnd (op1 itD (some a_house)) fun l => bnd (forD (fun (s2 : D) x => bnd (dec1 x) fun v3 =>
    (bnd (op1 itD (op1 mx_part_rows (some v3))) fun l => bnd (forD (fun (s4 : D) x => bnd (dec1 x) fun v5 =>
      (bnd (op2 addD (op2 addD (some s4) (op2 joinD (some (.str " ")) (lsV (lcD (op1 itD (some v5)) fun x => bnd (dec1 x) fun v7 => keepE (some true) (op1 strD (some v7)))))) (some (.str "\n"))) fun x_found6 =>
      (some (Lp.go x_found6)))) l s2) (jn fun (s4 : D) =>
    (some (Lp.go s4))))) l x_found1) (jn fun (s2 : D) =>
  (bnd (some s2) fun d => some d))))
def mx_need (a_good : D) : Option (Option D) :=
  (iteT (notT (tB (some a_good)))
  (some none)
  (some (some .none)))
def mx_number_in (a_word : D) : Option (Option D) :=
  (bnd (op3s cutX (some a_word) (slP (op1 intX (boV (op2 startsB (some a_word) (some (.str "-")))))) (some none)) fun x_figures1 =>
  (stX (bnd (arg1 (boV (andT (chT leB leB (some (.int 1)) (op1 lenD (some x_figures1)) (some (.int 3))) (tB (op1 allD (lsV (lcD (op1 itD (some x_figures1)) fun x => bnd (dec1 x) fun v2 => keepE (some true) (boV (op2 inX (some v2) (some (.str "0123456789")))))))))) (some [])) (ar1 mx_need)) none fun _ =>
  (iteT (tB (boV (op2 startsB (some a_word) (some (.str "-")))))
  (stX (okX (op2 subD (some (.int 0)) (op1 intX (some x_figures1)))) none fun d => some (some d))
  (stX (okX (op1 intX (some x_figures1))) none fun d => some (some d)))))
def mx_numbers_in (a_words : D) : Option (Option D) :=
  (stX (bX (bnd (op1 itD (some a_words)) fun xs => bX (lcX (fun v1 => bnd (arg1 (some v1) (some [])) (ar1 mx_number_in)) xs) fun ds => okX (some (.list ds))) fun x => okX (tupD x)) none fun d => some (some d))
def mx_put_row (l_ : List PRow) (a_words : D) : Option (Option (List PRow)) :=
  (iteT (op2 eqB (op2 ixD (some a_words) (some (.int 0))) (some (.str "hook")))
  (stX (bnd (arg1 (boV (op2 inX (op1 lenD (some a_words)) (tupV (arg1 (some (.int 4)) (arg1 (some (.int 5)) (some [])))))) (some [])) (ar1 mx_need)) none fun _ =>
    (stX (bX (okX (tupV (arg1 (op2 ixD (some a_words) (some (.int 3))) (some [])))) fun x => bX (bnd (arg1 (op3s cutX (some a_words) (slP (some (.int 4))) (some none)) (some [])) (ar1 mx_numbers_in)) fun y => okX (addD x y)) none fun x_deed1 =>
    (bnd (bnd (l_[l_.length - 1]?) (getK 4)) fun _ => stX (bX (bX (bX (okX (op2 ixD (some a_words) (some (.int 1)))) fun d => bX (bX (bnd (arg1 (op2 ixD (some a_words) (some (.int 2))) (some [])) (ar1 mx_number_in)) fun d => bX (bX (okX (some x_deed1)) fun d => bX (some (some [])) fun ds => some (some (d :: ds))) fun ds => some (some (d :: ds))) fun ds => some (some (d :: ds))) fun ds => okX (tupV (some ds))) fun d => okX (addRow 4 l_ d)) none fun l2 =>
    (some (some l2)))))
  (iteT (op2 eqB (op2 ixD (some a_words) (some (.int 0))) (some (.str "face")))
    (bnd (bnd (l_[l_.length - 1]?) (getK 2)) fun _ => stX (bX (bX (okX (tupV (arg1 (op2 ixD (some a_words) (some (.int 1))) (some [])))) fun x => bX (bnd (arg1 (op3s cutX (some a_words) (slP (some (.int 2))) (some none)) (some [])) (ar1 mx_numbers_in)) fun y => okX (addD x y)) fun d => okX (addRow 2 l_ d)) none fun l4 =>
      (some (some l4)))
    (bnd (bnd (l_[l_.length - 1]?) (getK 3)) fun _ => stX (bX (bX (bX (okX (tupV (arg1 (op2 ixD (some a_words) (some (.int 1))) (some [])))) fun x => bX (bnd (arg1 (op3s cutX (some a_words) (slP (some (.int 2))) (some none)) (some [])) (ar1 mx_numbers_in)) fun y => okX (addD x y)) fun x => bX (okX (tupV (arg1 (boV (op2 eqB (op2 ixD (some a_words) (some (.int 0))) (some (.str "must")))) (some [])))) fun y => okX (addD x y)) fun d => okX (addRow 3 l_ d)) none fun l6 =>
      (some (some l6)))))
def mx_read (a_text : D) : Option (Option D) :=
  (stX (bnd (arg1 (boV (op1 (isiD "str") (some a_text))) (some [])) (ar1 mx_need)) none fun _ =>
  (bnd (op1 itD (op3s cutX (lsV (op2 splitD (some a_text) (some (.str "\n")))) (some none) (slP (op1 negD (some (.int 1)))))) fun l => bnd (forD (fun (s1 : List PRow) x => bnd (dec1 x) fun v2 =>
    (bnd (lsV (op2 splitD (some v2) (some (.str " ")))) fun x_words3 =>
    (stX (bnd (arg1 (boV (orT (op2 eqB (op2 ixD (some x_words3) (some (.int 0))) (some (.str "hook"))) (op2 eqB (op1 lenD (some x_words3)) (op2 (getKD kv_SIZES) (op2 ixD (some x_words3) (some (.int 0))) (some (.int 0)))))) (some [])) (ar1 mx_need)) (Lp.out none) fun _ =>
    (iteT (op2 eqB (op2 ixD (some x_words3) (some (.int 0))) (some (.str "part")))
    (stX (bX (okX (op2 ixD (some x_words3) (some (.int 1)))) fun x => bX (bnd (arg1 (op2 ixD (some x_words3) (some (.int 2))) (some [])) (ar1 mx_number_in)) fun y => okX (addP s1 x y)) (Lp.out none) fun l4 =>
      (some (Lp.go l4)))
    (stX (bnd (arg1 (boV (op2 gtB (some (.int (s1.length : Nat))) (some (.int 0)))) (some [])) (ar1 mx_need)) (Lp.out none) fun _ =>
      (stX (bnd (arg1 (some x_words3) (some [])) (ar1 (mx_put_row s1))) (Lp.out none) fun l5 =>
      (some (Lp.go l5)))))))) l ([] : List PRow)) (jn fun (s1 : List PRow) =>
  (bnd (op1 tupD (lsV (lcD (op1 itD (some (frzP s1))) fun x => bnd (dec1 x) fun v7 => keepE (some true) (tupV (arg1 (op2 ixD (some v7) (some (.int 0))) (arg1 (op2 ixD (some v7) (some (.int 1))) (arg1 (op1 tupD (op2 ixD (some v7) (some (.int 2)))) (arg1 (op1 tupD (op2 ixD (some v7) (some (.int 3)))) (arg1 (op1 tupD (op2 ixD (some v7) (some (.int 4)))) (some [])))))))))) fun x_found6 =>
  (stX (bnd (arg1 (boV (andT (tB (op1 mx_is_house (some x_found6))) (op2 eqB (op1 mx_written (some x_found6)) (some a_text)))) (some [])) (ar1 mx_need)) none fun _ =>
  (stX (okX (some x_found6)) none fun d => some (some d)))))))
end DL


namespace DL
open PySem PySem.Spec PyProof.Rows L2

def m_law_K04 (a_script : D) : Option D :=
  (bnd (op2 m__law_mixed (some a_script) (some (.int 0))) fun x_number1 =>
  (bnd (lstV (arg1 (some (.str "part a 1")) (arg1 (some (.str "part a 0\n")) (arg1 (some (.str "part a 10\n")) (arg1 (some (.str "part a 01\n")) (arg1 (some (.str "part a 1 \n")) (some []))))))) fun x_bad2 =>
  (bnd (op2 addN (some (.list x_bad2)) (lsV (lstV (arg1 (some (.str " part a 1\n")) (arg1 (some (.str "part  a 1\n")) (arg1 (some (.str "\n")) (some []))))))) fun x_bad3 =>
  (bnd (op2 addN (some (.list x_bad3)) (lsV (lstV (arg1 (some (.str "part abcdef 1\n")) (arg1 (some (.str "part A 1\n")) (arg1 (some (.str "part a\n")) (arg1 (some (.str "part a 1\n\n")) (arg1 (some (.str "face f 1\n")) (arg1 (some (.str "Part a 1\n")) (some [])))))))))) fun x_bad4 =>
  (bnd (op1 (apL x_bad4) (some (.str "part a 1 1\n"))) fun x_bad6 =>
  (bnd (op2 addN (some (.list x_bad6)) (lsV (lstV (arg1 (some (.str "part b 1\npart a 1\n")) (arg1 (some (.str "part a 1\npart a 2\n")) (arg1 (some (.str "part a 1\nface g 1\nface f 1\n")) (some []))))))) fun x_bad7 =>
  (bnd (op2 addN (some (.list x_bad7)) (lsV (lstV (arg1 (some (.str "part a 1\nface f 1\nface f 2\n")) (arg1 (some (.str "part a 1\nmust f 3 2\n")) (arg1 (some (.str "part a 1\nmust f 1 2\nmay f 1 2\n")) (some []))))))) fun x_bad8 =>
  (bnd (op2 addN (some (.list x_bad8)) (lsV (lstV (arg1 (some (.str "part a 1\nmust f 1 2\nface g 1\n")) (arg1 (some (.str "part a 1\nhook go 0 stop\nmay f 1 2\n")) (some [])))))) fun x_bad9 =>
  (bnd (op1 (apL x_bad9) (some (.str "part a 1\nmust f 0 2\n"))) fun x_bad11 =>
  (bnd (op2 addN (some (.list x_bad11)) (lsV (lstV (arg1 (some (.str "part a 1\nhook go 10 stop\n")) (arg1 (some (.str "part a 1\nhook go -10 stop\n")) (arg1 (some (.str "part a 1\nhook go -0 stop\n")) (some []))))))) fun x_bad12 =>
  (bnd (op2 addN (some (.list x_bad12)) (lsV (lstV (arg1 (some (.str "part a 1\nhook go +1 stop\n")) (arg1 (some (.str "part a 1\nhook go 0 stop 1\n")) (arg1 (some (.str "part a 1\nhook go 0 plus\n")) (some []))))))) fun x_bad13 =>
  (bnd (op2 addN (some (.list x_bad13)) (lsV (lstV (arg1 (some (.str "part a 1\nhook go 0 plus 1000\n")) (arg1 (some (.str "part a 1\nhook go 0 minus 1\n")) (arg1 (some (.str "part a 1\nhook go 0 set -1\n")) (some []))))))) fun x_bad14 =>
  (bnd (op2 addN (some (.list x_bad14)) (lsV (lstV (arg1 (some (.str "part a 1\nface e 1\nface f 1\nface g 1\nface h 1\n")) (arg1 (op2 addD (some (.str "part a 1\n")) (op2 mulT (some (.str "hook go 0 stop\n")) (some (.int 4)))) (some [])))))) fun x_bad15 =>
  (bnd (op1 (apL x_bad15) (op2 joinD (some (.str "")) (lsV (lcD (op1 itD (some (.str "abcdefg"))) fun x => bnd (dec1 x) fun v17 => keepE (some true) (op2 addD (op2 addD (some (.str "part ")) (some v17)) (some (.str " 1\n"))))))) fun x_bad18 =>
  (bnd (lstV (arg1 (some (.str "")) (arg1 (some (.str "part a 1\n")) (arg1 (some (.str "part abcde 9\n")) (arg1 (some (.str "part a 1\nmust g 1 9\nmay f 9 9\n")) (arg1 (some (.str "part a 1\nhook go -9 plus 999\n")) (some []))))))) fun x_good19 =>
  (bnd (op2 addN (some (.list x_good19)) (lsV (lstV (arg1 (op2 addD (some (.str "part a 1\n")) (op2 mulT (some (.str "hook go 9 stop\n")) (some (.int 3)))) (arg1 (some (.str "part a 1\nface e 1\nface f 9\nface g 1\n")) (some [])))))) fun x_good20 =>
  (bnd (op1 (apL x_good20) (op2 joinD (some (.str "")) (lsV (lcD (op1 itD (some (.str "abcdef"))) fun x => bnd (dec1 x) fun v22 => keepE (some true) (op2 addD (op2 addD (some (.str "part ")) (some v22)) (some (.str " 1\n"))))))) fun x_good23 =>
  (bnd (op1 rangeI (some (.int 8))) fun l => bnd (forD (fun (s24 : Unit) x => bnd (dec1 x) fun v25 =>
    (bnd (op2 ixD (some (.list x_bad18)) (op2 modD (op2 addD (op2 divD (some x_number1) (some (.int 7))) (op2 mulT (some (.int 11)) (some v25))) (op1 lenD (some (.list x_bad18))))) fun x_wrong26 =>
    (bnd (bnd (bnd (bnd (bnd (arg1 (some x_wrong26) (some [])) (ar1 mx_read)) fun o => some (o, ())) fun q => some (cTr q.1, q.2)) fun q27 => bnd (bnd (tupV (arg1 (some (.str "refused")) (arg1 (some (.bool true)) (some [])))) fun d => some (d, ())) fun r => bnd (neB q27.1 r.1) fun t => some (t, r.2)) fun q29 =>
    (iteT (some q29.1)
    (bnd (some (.bool false)) fun d => some (Lp.out d))
    (some (Lp.go ())))))) l ()) (jn fun (s24 : Unit) =>
  (bnd (boV (op2 eqB (lsV (lcD (op1 itL (some (.list x_good23))) fun x => bnd (dec1 x) fun v31 => keepE (op2 neB (op1 mx_written (bnd (bnd (arg1 (some v31) (some [])) (ar1 mx_read)) id)) (some v31)) (some v31))) (lsV (lstV (some []))))) fun d => some d))))))))))))))))))))
end DL


/-! What the defs come to on parts and houses. -/
namespace DL
open PySem PySem.Spec PyProof.Rows L2
/-! ### small facts -/
@[simp] theorem ixP0 (p : Part) : ixD (encP p) (.int 0) = some (.str p.name) := rfl
@[simp] theorem ixP1 (p : Part) : ixD (encP p) (.int 1) = some (.int p.make) := rfl
@[simp] theorem ixP2 (p : Part) : ixD (encP p) (.int 2) = some (.tuple (p.faces.map encF)) := rfl
@[simp] theorem ixP3 (p : Part) : ixD (encP p) (.int 3) = some (.tuple (p.wants.map encW)) := rfl
@[simp] theorem ixP4 (p : Part) : ixD (encP p) (.int 4) = some (.tuple (p.hooks.map encK)) := rfl
@[simp] theorem ixW0 (p : Want) : ixD (encW p) (.int 0) = some (.str p.face) := rfl
@[simp] theorem ixW1 (p : Want) : ixD (encW p) (.int 1) = some (.int p.low) := rfl
@[simp] theorem ixW2 (p : Want) : ixD (encW p) (.int 2) = some (.int p.high) := rfl
@[simp] theorem ixW3 (p : Want) : ixD (encW p) (.int 3) = some (.bool p.must) := rfl
@[simp] theorem ixK0 (p : Hook) : ixD (encK p) (.int 0) = some (.str p.hook) := rfl
@[simp] theorem ixK1 (p : Hook) : ixD (encK p) (.int 1) = some (.int p.rank) := rfl
@[simp] theorem ixK2 (p : Hook) : ixD (encK p) (.int 2) = some (encDeed p) := rfl
@[simp] theorem dec2F (f : Str × Int) : dec2 (encF f) = some (.str f.1, .int f.2) := rfl
@[simp] theorem dec2SS (f : Str × Str) : dec2 (encSS f) = some (.str f.1, .str f.2) := rfl
@[simp] theorem ixT0 (a : D) (l : List D) : ixD (.tuple (a :: l)) (.int 0) = some a := atI_zero a l
@[simp] theorem ixL0 (a : D) (l : List D) : ixD (.list (a :: l)) (.int 0) = some a := atI_zero a l
@[simp] theorem itD_l (ds : List D) : itD (.list ds) = some ds := rfl
@[simp] theorem itD_t (ds : List D) : itD (.tuple ds) = some ds := rfl
@[simp] theorem itD_h (h : House) : itD (encH h) = some (h.map encP) := rfl
@[simp] theorem listN_l (ds : List D) : listN (.list ds) = some ds := rfl
@[simp] theorem listN_t (ds : List D) : listN (.tuple ds) = some ds := rfl
@[simp] theorem listN_h (h : House) : listN (encH h) = some (h.map encP) := rfl
@[simp] theorem tupD_l (ds : List D) : tupD (.list ds) = some (.tuple ds) := rfl
@[simp] theorem lenD_l (ds : List D) : lenD (.list ds) = some (.int (ds.length : Nat)) := rfl
@[simp] theorem lenD_t (ds : List D) : lenD (.tuple ds) = some (.int (ds.length : Nat)) := rfl
@[simp] theorem lenD_h (h : House) : lenD (encH h) = some (.int (h.length : Nat)) := by rw [encH, lenD_t, List.length_map]
@[simp] theorem addD_i (a b : Int) : addD (.int a) (.int b) = some (.int (a + b)) := rfl
@[simp] theorem subD_i (a b : Int) : subD (.int a) (.int b) = some (.int (a - b)) := rfl
@[simp] theorem negD_i (a : Int) : negD (.int a) = some (.int (-a)) := rfl
@[simp] theorem ltB_i (a b : Int) : ltB (.int a) (.int b) = some (decide (a < b)) := rfl
@[simp] theorem leB_i (a b : Int) : leB (.int a) (.int b) = some (decide (a ≤ b)) := rfl
@[simp] theorem gtB_i (a b : Int) : gtB (.int a) (.int b) = some (decide (b < a)) := rfl
@[simp] theorem geB_i (a b : Int) : geB (.int a) (.int b) = some (decide (b ≤ a)) := rfl
@[simp] theorem eqB_i (a b : Int) : eqB (.int a) (.int b) = some (decide (a = b)) := by rw [← eqv_int]; rfl
@[simp] theorem eqB_s (a b : Str) : eqB (.str a) (.str b) = some (decide (a = b)) := by rw [← eqv_str]; rfl
@[simp] theorem neB_s (a b : Str) : neB (.str a) (.str b) = some (!decide (a = b)) := by rw [← eqv_str]; rfl
@[simp] theorem neB_i (a b : Int) : neB (.int a) (.int b) = some (!decide (a = b)) := by rw [← eqv_int]; rfl
@[simp] theorem isNB_eq (x : D) : isNB x = some (isNon x) := rfl
@[simp] theorem isNNB_eq (x : D) : isNNB x = some (!isNon x) := rfl
@[simp] theorem lstV_nil : lstV (some []) = some [] := rfl
@[simp] theorem tupV_nil : tupV (some []) = some (.tuple []) := rfl
@[simp] theorem tupV1 (a : D) : tupV (some [a]) = some (.tuple [a]) := rfl
@[simp] theorem tupV2 (a b : D) : tupV (some [a, b]) = some (.tuple [a, b]) := rfl
@[simp] theorem tupV3 (a b c : D) : tupV (some [a, b, c]) = some (.tuple [a, b, c]) := rfl
@[simp] theorem tupV4 (a b c d : D) : tupV (some [a, b, c, d]) = some (.tuple [a, b, c, d]) := rfl
@[simp] theorem tupV5 (a b c d e : D) : tupV (some [a, b, c, d, e]) = some (.tuple [a, b, c, d, e]) := rfl
@[simp] theorem tupV6 (a b c d e f : D) : tupV (some [a, b, c, d, e, f]) = some (.tuple [a, b, c, d, e, f]) := rfl
@[simp] theorem lstV1 (a : D) : lstV (some [a]) = some [a] := rfl
@[simp] theorem lstV2 (a b : D) : lstV (some [a, b]) = some [a, b] := rfl
@[simp] theorem lstV3 (a b c : D) : lstV (some [a, b, c]) = some [a, b, c] := rfl
@[simp] theorem intD_b (b : Bool) : intD (.bool b) = some (.int (if b then 1 else 0)) := rfl
@[simp] theorem intD_i (b : Int) : intD (.int b) = some (.int b) := rfl
@[simp] theorem minD_i (a b : Int) : minD (.int a) (.int b) = some (.int (if b < a then b else a)) := rfl
@[simp] theorem keepE_some (t : Bool) (d : D) : keepE (some t) (some d) = some (if t = true then some d else none) := by cases t <;> rfl
theorem mulD_i {a b : Int} (h : (-(2 ^ 64) < a ∧ a < 2 ^ 64) ∨ (-(2 ^ 64) < b ∧ b < 2 ^ 64)) : mulD (.int a) (.int b) = some (.int (a * b)) := if_pos h
theorem divD_i {a b : Int} (h : 0 < b ∧ b < 1073741824) : divD (.int a) (.int b) = some (.int (a / b)) := if_pos h
theorem modD_i {a b : Int} (h : 0 < b) : modD (.int a) (.int b) = some (.int (a % b)) := if_pos h
theorem addD_t {a b : List D} (h : a.length + b.length ≤ 1000000) : addD (.tuple a) (.tuple b) = some (.tuple (a ++ b)) := if_pos (by rw [sizeLine_eq]; omega)
theorem addD_l {a b : List D} (h : a.length + b.length ≤ 1000000) : addD (.list a) (.list b) = some (.list (a ++ b)) := if_pos (by rw [sizeLine_eq]; omega)
theorem addN_l {a b : List D} (h : a.length + b.length ≤ 1000000) : addN (.list a) (.list b) = some (a ++ b) := if_pos (by rw [sizeLine_eq]; omega)
theorem plB_of {n : Nat} {d : D} (h : Pl n d) (hn : n ≤ 64 := by decide) : plB d = true := by
  unfold plB
  rw [h.lay, decide_eq_true (Nat.le_trans h.dep hn)]; rfl
theorem plBs_of {n : Nat} {ds : List D} (h : PlAll n ds) (hn : n ≤ 63 := by decide) : plBs ds = true := by
  unfold plBs
  rw [h.lay, decide_eq_true (Nat.le_trans h.dep hn)]; rfl
theorem eqB_pl {n m : Nat} {x y : D} (h : Pl n x) (k : Pl m y) (hn : n ≤ 64 := by decide) (hm : m ≤ 64 := by decide) : eqB x y = some (PyData.eqv x y) := if_pos (by rw [plB_of h hn, plB_of k hm]; simp)
theorem neB_pl {n m : Nat} {x y : D} (h : Pl n x) (k : Pl m y) (hn : n ≤ 64 := by decide) (hm : m ≤ 64 := by decide) : neB x y = some (!PyData.eqv x y) := if_pos (by rw [plB_of h hn, plB_of k hm]; simp)
theorem eqB_nil {n : Nat} {ds : List D} (h : PlAll n ds) (hn : n + 1 ≤ 64 := by decide) : eqB (.list ds) (.list []) = some ds.isEmpty := by rw [eqB_pl (pl_lst h) (pl_lst (n := 0) pla_nil) hn, eqv_nilL]
theorem neB_nil {n : Nat} {ds : List D} (h : PlAll n ds) (hn : n + 1 ≤ 64 := by decide) : neB (.list ds) (.list []) = some (!ds.isEmpty) := by rw [neB_pl (pl_lst h) (pl_lst (n := 0) pla_nil) hn, eqv_nilL]
theorem inB_l {n m : Nat} {x : D} {ds : List D} (h : Pl n x) (k : PlAll m ds) (hn : n ≤ 64 := by decide) (hm : m ≤ 63 := by decide) : inB x (.list ds) = some (ds.any fun z => PyData.eqv z x) := if_pos (by rw [plB_of h hn, plBs_of k hm]; simp)
theorem inB_t {n m : Nat} {x : D} {ds : List D} (h : Pl n x) (k : PlAll m ds) (hn : n ≤ 64 := by decide) (hm : m ≤ 63 := by decide) : inB x (.tuple ds) = some (ds.any fun z => PyData.eqv z x) := if_pos (by rw [plB_of h hn, plBs_of k hm]; simp)
theorem fl_map (l : List Str) : (l.map PyData.str).all flD = true := by rw [List.all_map]; exact List.all_eq_true.mpr fun _ _ => rfl
@[simp] theorem inB_sl (n : Str) (l : List Str) : inB (.str n) (.list (l.map .str)) = some (decide (n ∈ l)) := by rw [← any_str]; exact if_pos (by rw [fl_map]; rfl)
@[simp] theorem inB_st (n : Str) (l : List Str) : inB (.str n) (.tuple (l.map .str)) = some (decide (n ∈ l)) := by rw [← any_str]; exact if_pos (by rw [fl_map]; rfl)
@[simp] theorem ninB_eq (x y : D) : ninB x y = notT (inB x y) := rfl
theorem eqTs {l m : List Str} (hl : OkS l) (hm : OkS m) : eqB (.tuple (l.map .str)) (.tuple (m.map .str)) = some (decide (l = m)) := by
  rw [eqB_pl (pl_tup (pl_strs (n := 0) hl)) (pl_tup (pl_strs (n := 0) hm)), PyData.eqv, eqv_strs]
theorem neTs {l m : List Str} (hl : OkS l) (hm : OkS m) : neB (.tuple (l.map .str)) (.tuple (m.map .str)) = some (!decide (l = m)) := by
  rw [neB_pl (pl_tup (pl_strs (n := 0) hl)) (pl_tup (pl_strs (n := 0) hm)), PyData.eqv, eqv_strs]
theorem soB_map {α : Type} {l : List α} {f : α → D} (s : Sh) (h : ∀ a ∈ l, shOk s (f a) = true) (h1 : ∀ a ∈ l, shOf (f a) = some s) (ht : shTop s = true := by rfl) (hd : shDep s ≤ 8 := by decide) : soB (l.map f) = true := by
  unfold soB
  rw [Bool.or_eq_true]
  refine .inl ?_
  cases l with
  | nil => rfl
  | cons a l =>
    rw [List.map_cons, soS, h1 a List.mem_cons_self]
    simp only
    rw [ht, decide_eq_true hd, ← List.map_cons, List.all_map, show (a :: l).all (shOk s ∘ f) = true from List.all_eq_true.mpr (fun x hx => h x hx)]
    rfl
theorem sortN_s (l : List Str) : sortN (.list (l.map .str)) = some ((sortS l).map .str) := by
  rw [← sortS_map]; exact if_pos (soB_map .str (fun _ _ => rfl) fun _ _ => rfl)
theorem sortN_st (l : List Str) : sortN (.tuple (l.map .str)) = some ((sortS l).map .str) := by
  rw [← sortS_map]; exact if_pos (soB_map .str (fun _ _ => rfl) fun _ _ => rfl)
theorem allStr_map : ∀ (l : List Str), allStr (l.map .str) = some l
  | [] => rfl
  | s :: l => by rw [List.map_cons, allStr, allStr_map l]; rfl
theorem allB_map : ∀ (l : List Bool), allB (l.map .bool) = some l
  | [] => rfl
  | s :: l => by rw [List.map_cons, allB, allB_map l]; rfl
theorem allD_map {α : Type} (l : List α) (f : α → Bool) : allD (.list (l.map fun a => .bool (f a))) = some (.bool (l.all f)) := by
  have e1 : (l.map fun p => PyData.bool (f p)) = (l.map f).map .bool := by rw [List.map_map]; rfl
  rw [e1, allD, allB_map, bnd_some, List.all_map]; rfl
/-! ### draws -/
theorem q_cell_at (ns : List Int) (k : Nat) : m__law_cell_at (.list (ns.map .int)) (.int (k : Nat)) = some (.int (cellAt ns (k : Nat))) := by
  unfold m__law_cell_at cellAt
  simp only [op1_some, op2_some, lenD_l, ltB_i, iteT_some, List.length_map, decide_eq_true_eq, bnd_some]
  split
  · rename_i h
    have hk : k < ns.length := by omega
    show bnd (atI _ _) _ = _
    rw [atI_g (by omega) (by simpa using h)]
    simp [List.getD_eq_getElem?_getD, hk]
  · rfl
theorem q_mixed (ns : List Int) (k : Nat) (hk : (k : Int) < 1000) : m__law_mixed (.list (ns.map .int)) (.int (k : Nat)) = some (.int (mixed ns (k : Nat))) := by
  have b := mixed0_b ns (k : Nat)
  unfold m__law_mixed
  simp only [op2_some, q_cell_at]
  rw [mulD_i (.inr ⟨by omega, by omega⟩)]
  simp only [op2_some, addD_i]
  rw [mulD_i (.inr ⟨by decide, by decide⟩), op2_some, modD_i (by decide), bnd_some]
  show bnd (op2 modD (op2 addD (op2 addD (op2 mulD (some (.int (mixed0 ns (k : Nat)))) (some (.int (mixed0 ns (k : Nat))))) (op2 mulD (some (.int 7)) (some (.int (mixed0 ns (k : Nat)))))) _) _) _ = _
  simp only [op2_some]
  rw [mulD_i (.inr ⟨by omega, by omega⟩), mulD_i (.inr ⟨by omega, by omega⟩)]
  simp only [op2_some, addD_i]
  rw [modD_i (by decide), bnd_some]
  rfl
theorem q_drawn (n k : Int) (hk : 0 ≤ k ∧ k < 1000) : m__law_drawn (.int n) (.int k) = some (.int (drawn n k)) := by
  have b := drawn0_b n k
  unfold m__law_drawn
  simp only [op2_some]
  rw [mulD_i (.inr ⟨by omega, by omega⟩)]
  simp only [op2_some, addD_i]
  rw [mulD_i (.inr ⟨by decide, by decide⟩), op2_some, modD_i (by decide), bnd_some]
  show bnd (op2 modD (op2 addD (op2 addD (op2 mulD (some (.int (drawn0 n k))) (some (.int (drawn0 n k)))) (op2 mulD (some (.int 3)) (some (.int (drawn0 n k))))) _) _) _ = _
  simp only [op2_some]
  rw [mulD_i (.inr ⟨by omega, by omega⟩), mulD_i (.inr ⟨by omega, by omega⟩)]
  simp only [op2_some, addD_i]
  rw [modD_i (by decide), bnd_some]
  rfl
end DL


namespace DL
open PySem PySem.Spec PyProof.Rows L2
local macro_rules | `(tactic| walk_at "ev") => `(tactic| try simp only [bnd_some, op1_some, op2_some, op3_some, op4_some, op3s_some, slP_int, boV_some, tB_some, lsV_some, dcV_some, lcD_some, arg1_some, dec1_eq, dec2_eq, dec3_eq, dec4_eq, dec5_eq, jn_nx, jn_rt, iteT_true, iteT_false, notT_some, andT_some, orT_some, andT_false, orT_true, andT_true, orT_false, ixP0, ixP1, ixP2, ixP3, ixP4, ixW0, ixW1, ixW2, ixW3, ixK0, ixK1, ixK2, dec2F, dec2SS, ixT0, ixL0, itD_l, itD_t, itD_h, itL_eq, listN_l, listN_t, listN_h, tupD_l, lenD_l, lenD_t, lenD_h, addD_i, subD_i, negD_i, ltB_i, leB_i, gtB_i, geB_i, eqB_i, eqB_s, neB_s, neB_i, isNB_eq, isNNB_eq, lstV_nil, tupV_nil, tupV1, tupV2, tupV3, tupV4, tupV5, tupV6, lstV1, lstV2, lstV3, intD_b, intD_i, minD_i, keepE_some, keepE_true, keepE_false, inB_sl, inB_st, ninB_eq, List.length_map, if_true, if_false, Bool.false_eq_true])
/-! The law: texts typed by hand. -/
open TL
def h4 : Str := "hook go 0 stop\n"
def badT : List Str := ([
  "part a 1", "part a 0\n", "part a 10\n", "part a 01\n", "part a 1 \n",
  " part a 1\n", "part  a 1\n", "\n",
  "part abcdef 1\n", "part A 1\n", "part a\n", "part a 1\n\n", "face f 1\n", "Part a 1\n",
  "part a 1 1\n",
  "part b 1\npart a 1\n", "part a 1\npart a 2\n", "part a 1\nface g 1\nface f 1\n"] : List Str) ++ ([
  "part a 1\nface f 1\nface f 2\n", "part a 1\nmust f 3 2\n", "part a 1\nmust f 1 2\nmay f 1 2\n",
  "part a 1\nmust f 1 2\nface g 1\n", "part a 1\nhook go 0 stop\nmay f 1 2\n",
  "part a 1\nmust f 0 2\n",
  "part a 1\nhook go 10 stop\n", "part a 1\nhook go -10 stop\n", "part a 1\nhook go -0 stop\n",
  "part a 1\nhook go +1 stop\n", "part a 1\nhook go 0 stop 1\n", "part a 1\nhook go 0 plus\n",
  "part a 1\nhook go 0 plus 1000\n", "part a 1\nhook go 0 minus 1\n", "part a 1\nhook go 0 set -1\n",
  "part a 1\nface e 1\nface f 1\nface g 1\nface h 1\n", "part a 1\nhook go 0 stop\nhook go 0 stop\nhook go 0 stop\nhook go 0 stop\n",
  "part a 1\npart b 1\npart c 1\npart d 1\npart e 1\npart f 1\npart g 1\n"] : List Str)
def goodT : List Str := ["", "part a 1\n", "part abcde 9\n", "part a 1\nmust g 1 9\nmay f 9 9\n", "part a 1\nhook go -9 plus 999\n",
  "part a 1\nhook go 9 stop\nhook go 9 stop\nhook go 9 stop\n", "part a 1\nface e 1\nface f 9\nface g 1\n",
  "part a 1\npart b 1\npart c 1\npart d 1\npart e 1\npart f 1\n"]
def badD : List D := badT.map .str
def goodD : List D := goodT.map .str
theorem bad_len : badD.length = 36 := by kernel_rfl
def stepB (wrong : D) : Option (Lp Unit D) :=
    (bnd (bnd (bnd (bnd (bnd (arg1 (some wrong) (some [])) (ar1 mx_read)) fun o => some (o, ())) fun q => some (cTr q.1, q.2)) fun q27 => bnd (bnd (tupV (arg1 (some (.str "refused")) (arg1 (some (.bool true)) (some [])))) fun d => some (d, ())) fun r => bnd (neB q27.1 r.1) fun t => some (t, r.2)) fun q29 =>
    (iteT (some q29.1)
    (bnd (some (.bool false)) fun d => some (Lp.out d))
    (some (Lp.go ()))))
def goes : Option (Lp Unit D) → Bool
  | some (.go ()) => true
  | _ => false
theorem goes_of {o : Option (Lp Unit D)} (h : goes o = true) : o = some (.go ()) := by
  unfold goes at h
  split at h
  · rfl
  · cases h
theorem bad_all : (badD.all fun d => goes (stepB d)) = true := by kernel_rfl
theorem bad_at (i : Int) : ∃ d, ixD (.list badD) (.int (i % 36)) = some d ∧ stepB d = some (.go ()) := by
  have h1 := Int.emod_nonneg i (b := 36) (by omega)
  have h2 := Int.emod_lt_of_pos i (b := 36) (by omega)
  obtain ⟨k, ek⟩ : ∃ k : Nat, i % 36 = (k : Int) := ⟨(i % 36).toNat, by omega⟩
  have hk : k < badD.length := by rw [bad_len]; omega
  refine ⟨badD[k], ?_, goes_of (List.all_eq_true.mp bad_all _ (List.getElem_mem hk))⟩
  rw [ek]
  show atI badD ((k : Nat) : Int) = _
  unfold atI ixN
  rw [if_pos (by omega), if_pos (by omega)]
  exact List.getElem?_eq_getElem hk
theorem good_ok : (bnd (boV (op2 eqB (lsV (lcD (op1 itL (some (.list goodD))) fun x => bnd (dec1 x) fun v31 => keepE (op2 neB (op1 mx_written (bnd (bnd (arg1 (some v31) (some [])) (ar1 mx_read)) id)) (some v31)) (some v31))) (lsV (lstV (some []))))) fun d => some d) = some (.bool true) := by kernel_rfl
theorem law_K04 (ns : List Int) (hl : ns.length ≤ 63) : m_law_K04 (.list (ns.map .int)) = some (.bool true) := by
  unfold m_law_K04
  refine bnd_to (.int (mixed ns 0)) (q_mixed ns 0 (by decide)) ?_
  generalize mixed ns 0 = n
  refine bnd_to (badD.take 5) (by kernel_rfl) ?_
  refine bnd_to (badD.take 8) (by kernel_rfl) ?_
  refine bnd_to (badD.take 14) (by kernel_rfl) ?_
  refine bnd_to (badD.take 15) (by kernel_rfl) ?_
  refine bnd_to (badD.take 18) (by kernel_rfl) ?_
  refine bnd_to (badD.take 21) (by kernel_rfl) ?_
  refine bnd_to (badD.take 23) (by kernel_rfl) ?_
  refine bnd_to (badD.take 24) (by kernel_rfl) ?_
  refine bnd_to (badD.take 27) (by kernel_rfl) ?_
  refine bnd_to (badD.take 30) (by kernel_rfl) ?_
  refine bnd_to (badD.take 33) (by kernel_rfl) ?_
  refine bnd_to (badD.take 35) (by kernel_rfl) ?_
  refine bnd_to badD (by kernel_rfl) ?_
  refine bnd_to (goodD.take 5) (by kernel_rfl) ?_
  refine bnd_to (goodD.take 7) (by kernel_rfl) ?_
  refine bnd_to goodD (by kernel_rfl) ?_
  refine bnd_to ((List.range 8).map fun k => .int ((k : Nat) : Int)) rfl ?_
  refine for_toU (fun k : Nat => .int (k : Int)) (List.range 8) (fun k _ => ?_) good_ok
  obtain ⟨d, h1, h2⟩ := bad_at (n / 7 + 11 * k)
  refine bnd_to (.int (k : Int)) rfl ?_
  refine bnd_to d ?_ h2
  have e : op2 modD (op2 addD (op2 divD (some (.int n)) (some (.int 7))) (op2 mulT (some (.int 11)) (some (.int (k : Int))))) (op1 lenD (some (.list badD))) = some (.int ((n / 7 + 11 * k) % 36)) := by
    have e1 : op1 lenD (some (.list badD)) = some (.int 36) := by
      show some (PyData.int (badD.length : Int)) = _
      rw [bad_len]
      rfl
    rw [e1]
    show op2 modD (op2 addD (op2 divD (some (.int n)) (some (.int 7))) (some (.int (11 * k)))) (some (.int 36)) = _
    rw [op2_some, divD_i (by omega), op2_some, addD_i, op2_some, modD_i (by omega)]
  show op2 ixD (some (.list badD)) (op2 modD (op2 addD (op2 divD (some (.int n)) (some (.int 7))) (op2 mulT (some (.int 11)) (some (.int (k : Int))))) (op1 lenD (some (.list badD)))) = some d
  rw [e, op2_some, h1]
end DL


namespace DL.K04
open PySem PySem.Spec PyProof.Rows L2 DL
def top (i : Nat) : Stmt := PySem.Challenge.pw_parthost_k04_whole_nothing_else_read.main.body.getD i (.Pass ⟨0, 0, 0, 0⟩)
def cst (i j : Nat) : Stmt := match top i with
  | .ClassDef _ _ _ body _ _ _ _ _ _ _ => body.getD j (.Pass ⟨0, 0, 0, 0⟩)
  | _ => .Pass ⟨0, 0, 0, 0⟩
abbrev FnP (K : PySem.W.Frag) (x q : Str) (st : Stmt) (f : Addr) (fd : FuncData) : Prop := FunD K x q (defArgs st) (defBody st) (defScope st) [] [] f fd
/-- what the top has left -/
structure Facts (w : World) (K : PySem.W.Frag) (mg : Str → Option Value) where
  C_NoText : Addr
  m_NoText : mg "NoText" = some (.ref C_NoText)
  C_HostError : Addr
  m_HostError : mg "HostError" = some (.ref C_HostError)
  ex_NoText : PySem.W.excIn K C_NoText He.veBase "ValueError.__new__" = true ∧ PySem.W.keepIn K (.ref C_NoText) = true ∧ PySem.W.subIn K (.ref C_NoText) (.type "BaseException") = some true ∧ PySem.W.typeIn K (.ref C_NoText) = some (.type "type")
  xm_NoText_HostError : PySem.W.exmOne K (.ref C_NoText) (.ref C_HostError) = some true
  isc_NoText : IsC K C_NoText
  f__law_cell_at : Addr
  fd__law_cell_at : FuncData
  F__law_cell_at : FnP K "_law_cell_at" "_law_cell_at" (top 37) f__law_cell_at fd__law_cell_at
  b__law_cell_at : Binds K fd__law_cell_at ["script", "k"] []
  m__law_cell_at : mg "_law_cell_at" = some (.ref f__law_cell_at)
  f__law_mixed : Addr
  fd__law_mixed : FuncData
  F__law_mixed : FnP K "_law_mixed" "_law_mixed" (top 38) f__law_mixed fd__law_mixed
  b__law_mixed : Binds K fd__law_mixed ["script", "k"] []
  m__law_mixed : mg "_law_mixed" = some (.ref f__law_mixed)
  f__law_told : Addr
  fd__law_told : FuncData
  F__law_told : FnP K "_law_told" "_law_told" (top 39) f__law_told fd__law_told
  b__law_told : Binds K fd__law_told ["deed"] []
  m__law_told : mg "_law_told" = some (.ref f__law_told)
  f_need : Addr
  fd_need : FuncData
  F_need : FnP K "need" "need" (top 31) f_need fd_need
  b_need : Binds K fd_need ["good"] []
  m_need : mg "need" = some (.ref f_need)
  f_number_in : Addr
  fd_number_in : FuncData
  F_number_in : FnP K "number_in" "number_in" (top 32) f_number_in fd_number_in
  b_number_in : Binds K fd_number_in ["word"] []
  m_number_in : mg "number_in" = some (.ref f_number_in)
  f_numbers_in : Addr
  fd_numbers_in : FuncData
  F_numbers_in : FnP K "numbers_in" "numbers_in" (top 33) f_numbers_in fd_numbers_in
  b_numbers_in : Binds K fd_numbers_in ["words"] []
  m_numbers_in : mg "numbers_in" = some (.ref f_numbers_in)
  f_put_row : Addr
  fd_put_row : FuncData
  F_put_row : FnP K "put_row" "put_row" (top 34) f_put_row fd_put_row
  b_put_row : Binds K fd_put_row ["parts", "words"] []
  m_put_row : mg "put_row" = some (.ref f_put_row)
  f_are_rising : Addr
  fd_are_rising : FuncData
  F_are_rising : FnP K "are_rising" "are_rising" (top 15) f_are_rising fd_are_rising
  b_are_rising : Binds K fd_are_rising ["some"] []
  m_are_rising : mg "are_rising" = some (.ref f_are_rising)
  f_are_tuples : Addr
  fd_are_tuples : FuncData
  F_are_tuples : FnP K "are_tuples" "are_tuples" (top 14) f_are_tuples fd_are_tuples
  b_are_tuples : Binds K fd_are_tuples ["thing", "size"] []
  m_are_tuples : mg "are_tuples" = some (.ref f_are_tuples)
  f_is_name : Addr
  fd_is_name : FuncData
  F_is_name : FnP K "is_name" "is_name" (top 12) f_is_name fd_is_name
  b_is_name : Binds K fd_is_name ["thing"] []
  m_is_name : mg "is_name" = some (.ref f_is_name)
  f_is_whole : Addr
  fd_is_whole : FuncData
  F_is_whole : FnP K "is_whole" "is_whole" (top 13) f_is_whole fd_is_whole
  b_is_whole : Binds K fd_is_whole ["thing", "low", "high"] []
  m_is_whole : mg "is_whole" = some (.ref f_is_whole)
  f_are_faces : Addr
  fd_are_faces : FuncData
  F_are_faces : FnP K "are_faces" "are_faces" (top 16) f_are_faces fd_are_faces
  b_are_faces : Binds K fd_are_faces ["thing"] []
  m_are_faces : mg "are_faces" = some (.ref f_are_faces)
  f_is_want : Addr
  fd_is_want : FuncData
  F_is_want : FnP K "is_want" "is_want" (top 17) f_is_want fd_is_want
  b_is_want : Binds K fd_is_want ["thing"] []
  m_is_want : mg "is_want" = some (.ref f_is_want)
  f_are_wants : Addr
  fd_are_wants : FuncData
  F_are_wants : FnP K "are_wants" "are_wants" (top 18) f_are_wants fd_are_wants
  b_are_wants : Binds K fd_are_wants ["thing"] []
  m_are_wants : mg "are_wants" = some (.ref f_are_wants)
  f_is_deed : Addr
  fd_is_deed : FuncData
  F_is_deed : FnP K "is_deed" "is_deed" (top 19) f_is_deed fd_is_deed
  b_is_deed : Binds K fd_is_deed ["thing"] []
  m_is_deed : mg "is_deed" = some (.ref f_is_deed)
  f_are_hooks : Addr
  fd_are_hooks : FuncData
  F_are_hooks : FnP K "are_hooks" "are_hooks" (top 20) f_are_hooks fd_are_hooks
  b_are_hooks : Binds K fd_are_hooks ["thing"] []
  m_are_hooks : mg "are_hooks" = some (.ref f_are_hooks)
  f_is_part : Addr
  fd_is_part : FuncData
  F_is_part : FnP K "is_part" "is_part" (top 21) f_is_part fd_is_part
  b_is_part : Binds K fd_is_part ["thing"] []
  m_is_part : mg "is_part" = some (.ref f_is_part)
  f_is_house : Addr
  fd_is_house : FuncData
  F_is_house : FnP K "is_house" "is_house" (top 22) f_is_house fd_is_house
  b_is_house : Binds K fd_is_house ["thing"] []
  m_is_house : mg "is_house" = some (.ref f_is_house)
  f_part_rows : Addr
  fd_part_rows : FuncData
  F_part_rows : FnP K "part_rows" "part_rows" (top 25) f_part_rows fd_part_rows
  b_part_rows : Binds K fd_part_rows ["part"] []
  m_part_rows : mg "part_rows" = some (.ref f_part_rows)
  f_written : Addr
  fd_written : FuncData
  F_written : FnP K "written" "written" (top 26) f_written fd_written
  b_written : Binds K fd_written ["house"] []
  m_written : mg "written" = some (.ref f_written)
  f_read : Addr
  fd_read : FuncData
  F_read : FnP K "read" "read" (top 35) f_read fd_read
  b_read : Binds K fd_read ["text"] []
  m_read : mg "read" = some (.ref f_read)
  f_law : Addr
  fd_law : FuncData
  F_law : FnP K "law" "law" (top 40) f_law fd_law
  b_law : Binds K fd_law ["script"] []
  m_law : mg "law" = some (.ref f_law)
  n_len : mg "len" = none
  n_isinstance : mg "isinstance" = none
  n_int : mg "int" = none
  n_all : mg "all" = none
  n_tuple : mg "tuple" = none
  n_zip : mg "zip" = none
  n_str : mg "str" = none
  n_bool : mg "bool" = none
  n_set : mg "set" = none
  n_list : mg "list" = none
  n_range : mg "range" = none
  n_ValueError : mg "ValueError" = none
  k_MOST_FIGURES : ∃ t, mg "MOST_FIGURES" = some (.int 3 t)
  k_FIGURES : ∃ t, mg "FIGURES" = some (.str "0123456789" t)
  k_MOST_EACH : ∃ t, mg "MOST_EACH" = some (.int 3 t)
  k_LONGEST : ∃ t, mg "LONGEST" = some (.int 5 t)
  k_LETTERS : ∃ t, mg "LETTERS" = some (.str "abcdefghijklmnopqrstuvwxyz" t)
  k_MOST_MAKE : ∃ t, mg "MOST_MAKE" = some (.int 9 t)
  k_WITH_WORTH : ∃ p, mg "WITH_WORTH" = some (.ref p) ∧ ∀ H, Rp K H (.ref p) (.tuple [.str "plus", .str "times", .str "set", .str "fail"])
  k_RING : ∃ t, mg "RING" = some (.int 1000 t)
  k_MOST_RANK : ∃ t, mg "MOST_RANK" = some (.int 9 t)
  k_MOST_PARTS : ∃ t, mg "MOST_PARTS" = some (.int 6 t)
  k_ROW_END : ∃ t, mg "ROW_END" = some (.str "\n" t)
  D_SIZES : Addr
  m_SIZES : mg "SIZES" = some (.ref D_SIZES)
  kt_SIZES : KTab K w D_SIZES kv_SIZES
  cd_law : Addr
  hc_law : fd_law.code = .ref cd_law
  tb_law : Addr
def Facts.TL {w : World} {K : PySem.W.Frag} {mg : Str → Option Value} (T : Facts w K mg) : TabL := [(T.tb_law, lamN "law")]
structure Tabd {w : World} {K : PySem.W.Frag} {mg : Str → Option Value} (T : Facts w K mg) (base : Heap) : Prop where
  tb_law : LamX.TabB base mg T.cd_law T.tb_law
section
variable {P : Program} {w : World} {K : PySem.W.Frag} {mg : Str → Option Value} {base : Heap}
theorem sc__law_cell_at : FnScope ["script", "k"] ["script", "k"] (defScope (top 37)) := ⟨rfl, rfl, rfl, by decide +kernel, rfl, by decide +kernel, by decide +kernel⟩
theorem ok__law_cell_at (T : Facts w K mg) : FnD P w K mg base 1 T.f__law_cell_at T.fd__law_cell_at ["script", "k"] (g2 m__law_cell_at) := by
  refine fn_2 T.F__law_cell_at sc__law_cell_at rfl (fun a_script a_k cdv A outer s H E hr => ?_)
  have nd := sc__law_cell_at.nd
  have ru := A65.of hr
  have s_script : Sl ["script", "k"] "script" 0 := ⟨rfl, by decide, by decide⟩
  have s_k : Sl ["script", "k"] "k" 1 := ⟨rfl, by decide, by decide⟩
  have n_len : Nb mg "len" (.builtin "len") := ⟨T.n_len, by decide +kernel, by decide, by decide⟩
  unfold m__law_cell_at
  show So _ _ [.val a_script, .val a_k] _ _
  refine so_ifT (et_cmpF (cm_lt ru) (Eo.u (eo_v s_k)) (Eo.u (eo_b1 ca_len n_len (Eo.u (eo_v s_script))))) ?_ ?_
  · exact so_ret (fun d => d) (eo_ix ru (Eo.u (eo_v s_script)) (eo_v s_k))
  exact so_ret (fun d => d) eo_int
theorem sc__law_mixed : FnScope ["script", "k", "drawn"] ["script", "k"] (defScope (top 38)) := ⟨rfl, rfl, rfl, by decide +kernel, rfl, by decide +kernel, by decide +kernel⟩
theorem ok__law_mixed (T : Facts w K mg) : FnD P w K mg base 2 T.f__law_mixed T.fd__law_mixed ["script", "k"] (g2 m__law_mixed) := by
  refine fn_2 T.F__law_mixed sc__law_mixed rfl (fun a_script a_k cdv A outer s H E hr => ?_)
  have nd := sc__law_mixed.nd
  have ru := A65.of hr
  have s_script : Sl ["script", "k", "drawn"] "script" 0 := ⟨rfl, by decide, by decide⟩
  have s_k : Sl ["script", "k", "drawn"] "k" 1 := ⟨rfl, by decide, by decide⟩
  have s_drawn : Sl ["script", "k", "drawn"] "drawn" 2 := ⟨rfl, by decide, by decide⟩
  have c__law_cell_at : Cl P w K mg base "_law_cell_at" 1 (g2 m__law_cell_at) := ⟨_, _, _, ok__law_cell_at T, T.m__law_cell_at, T.F__law_cell_at.kp, T.b__law_cell_at⟩
  unfold m__law_mixed
  show So _ _ [.val a_script, .val a_k, .un] _ _
  refine so_set 2 nd (eo_bin of_mod (Eo.u (eo_bin of_mul (Eo.u (eo_bin of_add (Eo.u (eo_bin of_add (Eo.u (eo_c2 c__law_cell_at (hr.mono (by decide)) (eo_v s_script) (eo_v s_k))) (Eo.u (eo_bin of_mul (Eo.u eo_int) (Eo.u (eo_v s_k)))))) (Eo.u eo_int))) (Eo.u eo_int))) (Eo.u eo_int)) (fun x_drawn1 => ?_)
  exact so_ret (fun d => d) (eo_bin of_mod (Eo.u (eo_bin of_add (Eo.u (eo_bin of_add (Eo.u (eo_bin of_mul (Eo.u (eo_v s_drawn)) (Eo.u (eo_v s_drawn)))) (Eo.u (eo_bin of_mul (Eo.u eo_int) (Eo.u (eo_v s_drawn)))))) (Eo.u (eo_v s_k)))) (Eo.u eo_int))
theorem sc__law_told : FnScope ["deed", "found", "e"] ["deed"] (defScope (top 39)) := ⟨rfl, rfl, rfl, by decide +kernel, rfl, by decide +kernel, by decide +kernel⟩
theorem ok__law_told (T : Facts w K mg) : Lr K mg "_law_told" (TTr K T.C_HostError T.C_NoText) := lr_told T.F__law_told T.m__law_told T.b__law_told sc__law_told T.m_HostError T.isc_NoText T.n_isinstance T.n_ValueError T.m_NoText rfl (by decide) rfl rfl rfl rfl rfl (by decide) (Or.inl rfl) (by decide)
theorem sc_need : FnScope ["good"] ["good"] (defScope (top 31)) := ⟨rfl, rfl, rfl, by decide +kernel, rfl, by decide +kernel, by decide +kernel⟩
theorem ok_need (T : Facts w K mg) : FnOk P w K mg base (L2.CX P w) 1 T.f_need T.fd_need ["good"] (SpDX K (.ref T.C_NoText) (ar1 mx_need)) := by
  refine fn_DX T.F_need sc_need (fun ds r h => by obtain ⟨_, rfl, _⟩ := ar1_inv h; rfl) (fun ds cdv A outer s H E hr hz tk => ?_)
  have nd := sc_need.nd
  have ru := A65.of hr
  have s_good : Sl ["good"] "good" 0 := ⟨rfl, by decide, by decide⟩
  obtain ⟨r0, hz⟩ := Option.isSome_iff_exists.mp hz
  obtain ⟨a_good, rfl, _⟩ := ar1_inv hz
  clear hz
  show So _ _ [.val a_good] _ (mx_need a_good)
  unfold mx_need
  refine so_ifE (et_n (et_v (eo_v s_good))) ?_ ?_
  · exact so_raise (r := none) tk rfl rfl T.m_NoText (by decide) T.ex_NoText
  · exact so_nil rfl
theorem sc_number_in : FnScope ["word", "figures", "sign"] ["word"] (defScope (top 32)) := ⟨rfl, rfl, rfl, by decide +kernel, rfl, by decide +kernel, by decide +kernel⟩
theorem ok_number_in (T : Facts w K mg) : FnOk P w K mg base (L2.CX P w) 2 T.f_number_in T.fd_number_in ["word"] (SpDX K (.ref T.C_NoText) (ar1 mx_number_in)) := by
  refine fn_DX T.F_number_in sc_number_in (fun ds r h => by obtain ⟨_, rfl, _⟩ := ar1_inv h; rfl) (fun ds cdv A outer s H E hr hz tk => ?_)
  have nd := sc_number_in.nd
  have ru := A65.of hr
  have s_word : Sl ["word", "figures", "sign"] "word" 0 := ⟨rfl, by decide, by decide⟩
  have s_figures : Sl ["word", "figures", "sign"] "figures" 1 := ⟨rfl, by decide, by decide⟩
  have s_sign : Sl ["word", "figures", "sign"] "sign" 2 := ⟨rfl, by decide, by decide⟩
  have c_need : FrX P w K mg base "need" 1 (SpDX K (.ref T.C_NoText) (ar1 mx_need)) := ⟨_, _, _, ok_need T, T.m_need, T.F_need.kp, T.b_need⟩
  have n_int : Nb mg "int" (.type "int") := ⟨T.n_int, by decide +kernel, by decide, by decide⟩
  have n_all : Nb mg "all" (.builtin "all") := ⟨T.n_all, by decide +kernel, by decide, by decide⟩
  have n_len : Nb mg "len" (.builtin "len") := ⟨T.n_len, by decide +kernel, by decide, by decide⟩
  have k_MOST_FIGURES := T.k_MOST_FIGURES
  have k_FIGURES := T.k_FIGURES
  obtain ⟨r0, hz⟩ := Option.isSome_iff_exists.mp hz
  obtain ⟨a_word, rfl, _⟩ := ar1_inv hz
  clear hz
  show So _ _ [.val a_word, .un, .un] _ (mx_number_in a_word)
  unfold mx_number_in
  refine so_set 1 nd (eo_cutX (Eo.u (eo_v s_word)) (po_s (eo_t1 ca_intX n_int (Eo.u (eo_starts (eo_v s_word) eo_str)))) po_n) (fun x_figures1 => ?_)
  refine so_exprX (rx := none) rfl (ex_call tk c_need (hr.mono (by decide)) (ao_cons (eo_a (eo_chain cm_le cm_le eo_int (eo_b1 ca_len n_len (Eo.u (eo_v s_figures))) (eo_gint k_MOST_FIGURES)) (eo_1 (eo_tb (eo_b1 ca_all n_all (Eo.u (En.o (en_lc nd (by kernel_rfl) (Io.q (io_v (eo_v s_figures))) (fun _ _ _ _ _ => (tg_1 (Tn.mk' s_sign nd))) (fun v2 => fun _ _ _ _ _ => ts_nil) (fun v2 => fun _ _ _ _ _ => (eo_cmp (cm_inX ru) (Eo.u (eo_v s_sign)) (Eo.u (eo_gstr k_FIGURES)))) (by kernel_rfl)))))))) ao_nil)) ?_
  refine so_ifT (et_v (eo_starts (eo_v s_word) eo_str)) ?_ ?_
  · exact so_retX (rx := none) (fun d => (some d)) rfl (ex_o (eo_bin of_sub (Eo.u eo_int) (Eo.u (eo_t1 ca_intX n_int (Eo.u (eo_v s_figures))))))
  exact so_retX (rx := none) (fun d => (some d)) rfl (ex_o (eo_t1 ca_intX n_int (Eo.u (eo_v s_figures))))
theorem sc_numbers_in : FnScope ["words", "word"] ["words"] (defScope (top 33)) := ⟨rfl, rfl, rfl, by decide +kernel, rfl, by decide +kernel, by decide +kernel⟩
theorem ok_numbers_in (T : Facts w K mg) : FnOk P w K mg base (L2.CX P w) 3 T.f_numbers_in T.fd_numbers_in ["words"] (SpDX K (.ref T.C_NoText) (ar1 mx_numbers_in)) := by
  refine fn_DX T.F_numbers_in sc_numbers_in (fun ds r h => by obtain ⟨_, rfl, _⟩ := ar1_inv h; rfl) (fun ds cdv A outer s H E hr hz tk => ?_)
  have nd := sc_numbers_in.nd
  have ru := A65.of hr
  have s_words : Sl ["words", "word"] "words" 0 := ⟨rfl, by decide, by decide⟩
  have s_word : Sl ["words", "word"] "word" 1 := ⟨rfl, by decide, by decide⟩
  have c_number_in : FrX P w K mg base "number_in" 2 (SpDX K (.ref T.C_NoText) (ar1 mx_number_in)) := ⟨_, _, _, ok_number_in T, T.m_number_in, T.F_number_in.kp, T.b_number_in⟩
  have n_tuple : Nb mg "tuple" (.type "tuple") := ⟨T.n_tuple, by decide +kernel, by decide, by decide⟩
  obtain ⟨r0, hz⟩ := Option.isSome_iff_exists.mp hz
  obtain ⟨a_words, rfl, _⟩ := ar1_inv hz
  clear hz
  show So _ _ [.val a_words, .un] _ (mx_numbers_in a_words)
  unfold mx_numbers_in
  exact so_retX (rx := none) (fun d => (some d)) rfl (ex_t1 ca_tup n_tuple (ex_lc tk nd (by kernel_rfl) (Io.q (io_v (eo_v s_words))) (fun _ _ _ _ _ _ _ => (tg_1 (Tn.mk' s_word nd))) (fun v1 _ _ _ _ _ _ pz => ex_callP pz c_number_in (hr.mono (by decide)) (ao_cons (eo_v s_word) ao_nil)) (by kernel_rfl)))
theorem sc_put_row : FnScope ["parts", "words", "deed"] ["parts", "words"] (defScope (top 34)) := ⟨rfl, rfl, rfl, by decide +kernel, rfl, by decide +kernel, by decide +kernel⟩
theorem ok_put_row (T : Facts w K mg) : FnOk P w K mg base (L2.CX P w) 4 T.f_put_row T.fd_put_row ["parts", "words"] (SpPX K (.ref T.C_NoText) (fun l => ar1 (mx_put_row l))) := by
  refine fn_PX T.F_put_row sc_put_row (fun s ds r h => by obtain ⟨_, rfl, _⟩ := ar1_inv h; rfl) (by decide) (fun v0 l_ L_ ds cdv A outer s H E hr hz tk => ?_)
  have nd := sc_put_row.nd
  have ru := A65.of hr
  have s_parts : Sl ["parts", "words", "deed"] "parts" 0 := ⟨rfl, by decide, by decide⟩
  have s_words : Sl ["parts", "words", "deed"] "words" 1 := ⟨rfl, by decide, by decide⟩
  have s_deed : Sl ["parts", "words", "deed"] "deed" 2 := ⟨rfl, by decide, by decide⟩
  have c_need : FrX P w K mg base "need" 1 (SpDX K (.ref T.C_NoText) (ar1 mx_need)) := ⟨_, _, _, ok_need T, T.m_need, T.F_need.kp, T.b_need⟩
  have c_numbers_in : FrX P w K mg base "numbers_in" 3 (SpDX K (.ref T.C_NoText) (ar1 mx_numbers_in)) := ⟨_, _, _, ok_numbers_in T, T.m_numbers_in, T.F_numbers_in.kp, T.b_numbers_in⟩
  have c_number_in : FrX P w K mg base "number_in" 2 (SpDX K (.ref T.C_NoText) (ar1 mx_number_in)) := ⟨_, _, _, ok_number_in T, T.m_number_in, T.F_number_in.kp, T.b_number_in⟩
  have n_len : Nb mg "len" (.builtin "len") := ⟨T.n_len, by decide +kernel, by decide, by decide⟩
  obtain ⟨r0, hz⟩ := Option.isSome_iff_exists.mp hz
  obtain ⟨a_words, rfl, _⟩ := ar1_inv hz
  clear hz
  show So _ _ [GR v0 l_ L_, .val a_words, .un] _ (mx_put_row l_ a_words)
  unfold mx_put_row
  refine so_ifE (et_cmpF (cm_eq ru) (Eo.u (eo_ix ru (Eo.u (eo_v s_words)) eo_int)) (Eo.u eo_str)) ?_ ?_
  · refine so_exprX (rx := none) rfl (ex_call tk c_need (hr.mono (by decide)) (ao_cons (eo_cmp (cm_inX ru) (Eo.u (eo_b1 ca_len n_len (Eo.u (eo_v s_words)))) (Eo.u (eo_tup (ao_cons eo_int (ao_cons eo_int ao_nil))))) ao_nil)) ?_
    refine so_setX (rx := none) 2 rfl nd (ex_bin of_add (ex_o (eo_tup (ao_cons (eo_ix ru (Eo.u (eo_v s_words)) eo_int) ao_nil))) (ex_call tk c_numbers_in (hr.mono (by decide)) (ao_cons (eo_cutX (Eo.u (eo_v s_words)) (po_s eo_int) po_n) ao_nil))) (fun x_deed1 => ?_)
    show So _ _ [GR v0 l_ L_, .val a_words, .val x_deed1] _ _
    refine so_dappG (rx := none) 0 4 rfl s_parts (ex_tup (ax_cons (ex_o (eo_ix ru (Eo.u (eo_v s_words)) eo_int)) (ax_cons (ex_call tk c_number_in (hr.mono (by decide)) (ao_cons (eo_ix ru (Eo.u (eo_v s_words)) eo_int) ao_nil)) (ax_cons (ex_o (eo_v s_deed)) ax_nil)))) (fun l2 m3 => ?_)
    show So _ _ [GR v0 l2 m3, .val a_words, .val x_deed1] _ _
    exact so_nil ⟨_, rfl⟩
  · refine so_ifE (et_cmpF (cm_eq ru) (Eo.u (eo_ix ru (Eo.u (eo_v s_words)) eo_int)) (Eo.u eo_str)) ?_ ?_
    · refine so_dappG (rx := none) 0 2 rfl s_parts (ex_bin of_add (ex_o (eo_tup (ao_cons (eo_ix ru (Eo.u (eo_v s_words)) eo_int) ao_nil))) (ex_call tk c_numbers_in (hr.mono (by decide)) (ao_cons (eo_cutX (Eo.u (eo_v s_words)) (po_s eo_int) po_n) ao_nil))) (fun l4 m5 => ?_)
      show So _ _ [GR v0 l4 m5, .val a_words, .un] _ _
      exact so_nil ⟨_, rfl⟩
    · refine so_dappG (rx := none) 0 3 rfl s_parts (ex_bin of_add (ex_bin of_add (ex_o (eo_tup (ao_cons (eo_ix ru (Eo.u (eo_v s_words)) eo_int) ao_nil))) (ex_call tk c_numbers_in (hr.mono (by decide)) (ao_cons (eo_cutX (Eo.u (eo_v s_words)) (po_s eo_int) po_n) ao_nil))) (ex_o (eo_tup (ao_cons (eo_cmp (cm_eq ru) (Eo.u (eo_ix ru (Eo.u (eo_v s_words)) eo_int)) (Eo.u eo_str)) ao_nil)))) (fun l6 m7 => ?_)
      show So _ _ [GR v0 l6 m7, .val a_words, .un] _ _
      exact so_nil ⟨_, rfl⟩
theorem sc_are_rising : FnScope ["some", "one", "other"] ["some"] (defScope (top 15)) := ⟨rfl, rfl, rfl, by decide +kernel, rfl, by decide +kernel, by decide +kernel⟩
theorem ok_are_rising (T : Facts w K mg) : FnD P w K mg base 1 T.f_are_rising T.fd_are_rising ["some"] (g1 mx_are_rising) := by
  refine fn_1 T.F_are_rising sc_are_rising rfl (fun a_some cdv A outer s H E hr => ?_)
  have nd := sc_are_rising.nd
  have ru := A65.of hr
  have s_some : Sl ["some", "one", "other"] "some" 0 := ⟨rfl, by decide, by decide⟩
  have s_one : Sl ["some", "one", "other"] "one" 1 := ⟨rfl, by decide, by decide⟩
  have s_other : Sl ["some", "one", "other"] "other" 2 := ⟨rfl, by decide, by decide⟩
  have n_all : Nb mg "all" (.builtin "all") := ⟨T.n_all, by decide +kernel, by decide, by decide⟩
  have n_zip : Nb mg "zip" (.type "zip") := ⟨T.n_zip, by decide +kernel, by decide, by decide⟩
  unfold mx_are_rising
  show So _ _ [.val a_some, .un, .un] _ _
  exact so_ret (fun d => d) (eo_b1 ca_all n_all (Eo.u (En.o (en_lc nd (by kernel_rfl) (Io.q (io_zipX n_zip (eo_cutX (Eo.u (eo_v s_some)) po_n (po_s (eo_neg eo_int))) (eo_cutX (Eo.u (eo_v s_some)) (po_s eo_int) po_n))) (fun _ _ _ _ _ => (tg_2 (Tn.mk' s_one nd) (Tn.mk' s_other nd))) (fun v1 => fun _ _ _ _ _ => ts_nil) (fun v1 => fun _ _ _ _ _ => (eo_cmp (cm_lt ru) (Eo.u (eo_v s_one)) (Eo.u (eo_v s_other)))) (by kernel_rfl)))))
theorem sc_are_tuples : FnScope ["thing", "size", "part"] ["thing", "size"] (defScope (top 14)) := ⟨rfl, rfl, rfl, by decide +kernel, rfl, by decide +kernel, by decide +kernel⟩
theorem ok_are_tuples (T : Facts w K mg) : FnD P w K mg base 1 T.f_are_tuples T.fd_are_tuples ["thing", "size"] (g2 mx_are_tuples) := by
  refine fn_2 T.F_are_tuples sc_are_tuples rfl (fun a_thing a_size cdv A outer s H E hr => ?_)
  have nd := sc_are_tuples.nd
  have ru := A65.of hr
  have s_thing : Sl ["thing", "size", "part"] "thing" 0 := ⟨rfl, by decide, by decide⟩
  have s_size : Sl ["thing", "size", "part"] "size" 1 := ⟨rfl, by decide, by decide⟩
  have s_part : Sl ["thing", "size", "part"] "part" 2 := ⟨rfl, by decide, by decide⟩
  have n_all : Nb mg "all" (.builtin "all") := ⟨T.n_all, by decide +kernel, by decide, by decide⟩
  have n_isinstance : Nb mg "isinstance" (.builtin "isinstance") := ⟨T.n_isinstance, by decide +kernel, by decide, by decide⟩
  have n_tuple : Nb mg "tuple" (.type "tuple") := ⟨T.n_tuple, by decide +kernel, by decide, by decide⟩
  have n_len : Nb mg "len" (.builtin "len") := ⟨T.n_len, by decide +kernel, by decide, by decide⟩
  have k_MOST_EACH := T.k_MOST_EACH
  unfold mx_are_tuples
  show So _ _ [.val a_thing, .val a_size, .un] _ _
  refine so_ifT (et_w (ew_o (et_n (et_v (eo_isi n_isinstance n_tuple (Eo.u (eo_v s_thing))))) (ew_o1 (et_cmpF (cm_gt ru) (Eo.u (eo_b1 ca_len n_len (Eo.u (eo_v s_thing)))) (Eo.u (eo_gint k_MOST_EACH)))))) ?_ ?_
  · exact so_ret (fun d => d) eo_bl
  exact so_ret (fun d => d) (eo_b1 ca_all n_all (Eo.u (En.o (en_lc nd (by kernel_rfl) (Io.q (io_v (eo_v s_thing))) (fun _ _ _ _ _ => (tg_1 (Tn.mk' s_part nd))) (fun v1 => fun _ _ _ _ _ => ts_nil) (fun v1 => fun _ _ _ _ _ => (eo_a (eo_tb (eo_isi n_isinstance n_tuple (Eo.u (eo_v s_part)))) (eo_1 (eo_cmp (cm_eq ru) (Eo.u (eo_b1 ca_len n_len (Eo.u (eo_v s_part)))) (Eo.u (eo_v s_size)))))) (by kernel_rfl)))))
theorem sc_is_name : FnScope ["thing", "sign"] ["thing"] (defScope (top 12)) := ⟨rfl, rfl, rfl, by decide +kernel, rfl, by decide +kernel, by decide +kernel⟩
theorem ok_is_name (T : Facts w K mg) : FnD P w K mg base 1 T.f_is_name T.fd_is_name ["thing"] (g1 mx_is_name) := by
  refine fn_1 T.F_is_name sc_is_name rfl (fun a_thing cdv A outer s H E hr => ?_)
  have nd := sc_is_name.nd
  have ru := A65.of hr
  have s_thing : Sl ["thing", "sign"] "thing" 0 := ⟨rfl, by decide, by decide⟩
  have s_sign : Sl ["thing", "sign"] "sign" 1 := ⟨rfl, by decide, by decide⟩
  have n_isinstance : Nb mg "isinstance" (.builtin "isinstance") := ⟨T.n_isinstance, by decide +kernel, by decide, by decide⟩
  have n_str : Nb mg "str" (.type "str") := ⟨T.n_str, by decide +kernel, by decide, by decide⟩
  have n_all : Nb mg "all" (.builtin "all") := ⟨T.n_all, by decide +kernel, by decide, by decide⟩
  have n_len : Nb mg "len" (.builtin "len") := ⟨T.n_len, by decide +kernel, by decide, by decide⟩
  have k_LONGEST := T.k_LONGEST
  have k_LETTERS := T.k_LETTERS
  unfold mx_is_name
  show So _ _ [.val a_thing, .un] _ _
  exact so_ret (fun d => d) (eo_a (eo_tb (eo_isi n_isinstance n_str (Eo.u (eo_v s_thing)))) (eo_a (eo_chain cm_le cm_le eo_int (eo_b1 ca_len n_len (Eo.u (eo_v s_thing))) (eo_gint k_LONGEST)) (eo_1 (eo_tb (eo_b1 ca_all n_all (Eo.u (En.o (en_lc nd (by kernel_rfl) (Io.q (io_v (eo_v s_thing))) (fun _ _ _ _ _ => (tg_1 (Tn.mk' s_sign nd))) (fun v1 => fun _ _ _ _ _ => ts_nil) (fun v1 => fun _ _ _ _ _ => (eo_cmp (cm_inX ru) (Eo.u (eo_v s_sign)) (Eo.u (eo_gstr k_LETTERS)))) (by kernel_rfl)))))))))
theorem sc_is_whole : FnScope ["thing", "low", "high"] ["thing", "low", "high"] (defScope (top 13)) := ⟨rfl, rfl, rfl, by decide +kernel, rfl, by decide +kernel, by decide +kernel⟩
theorem ok_is_whole (T : Facts w K mg) : FnD P w K mg base 1 T.f_is_whole T.fd_is_whole ["thing", "low", "high"] (g3 mx_is_whole) := by
  refine fn_3 T.F_is_whole sc_is_whole rfl (fun a_thing a_low a_high cdv A outer s H E hr => ?_)
  have nd := sc_is_whole.nd
  have ru := A65.of hr
  have s_thing : Sl ["thing", "low", "high"] "thing" 0 := ⟨rfl, by decide, by decide⟩
  have s_low : Sl ["thing", "low", "high"] "low" 1 := ⟨rfl, by decide, by decide⟩
  have s_high : Sl ["thing", "low", "high"] "high" 2 := ⟨rfl, by decide, by decide⟩
  have n_isinstance : Nb mg "isinstance" (.builtin "isinstance") := ⟨T.n_isinstance, by decide +kernel, by decide, by decide⟩
  have n_int : Nb mg "int" (.type "int") := ⟨T.n_int, by decide +kernel, by decide, by decide⟩
  have n_bool : Nb mg "bool" (.type "bool") := ⟨T.n_bool, by decide +kernel, by decide, by decide⟩
  unfold mx_is_whole
  show So _ _ [.val a_thing, .val a_low, .val a_high] _ _
  exact so_ret (fun d => d) (eo_a (eo_tb (eo_isi n_isinstance n_int (Eo.u (eo_v s_thing)))) (eo_a (eo_n (eo_tb (eo_isi n_isinstance n_bool (Eo.u (eo_v s_thing))))) (eo_1 (eo_chain cm_le cm_le (eo_v s_low) (eo_v s_thing) (eo_v s_high)))))
theorem sc_are_faces : FnScope ["thing", "part"] ["thing"] (defScope (top 16)) := ⟨rfl, rfl, rfl, by decide +kernel, rfl, by decide +kernel, by decide +kernel⟩
theorem ok_are_faces (T : Facts w K mg) : FnD P w K mg base 2 T.f_are_faces T.fd_are_faces ["thing"] (g1 mx_are_faces) := by
  refine fn_1 T.F_are_faces sc_are_faces rfl (fun a_thing cdv A outer s H E hr => ?_)
  have nd := sc_are_faces.nd
  have ru := A65.of hr
  have s_thing : Sl ["thing", "part"] "thing" 0 := ⟨rfl, by decide, by decide⟩
  have s_part : Sl ["thing", "part"] "part" 1 := ⟨rfl, by decide, by decide⟩
  have c_are_rising : Cl P w K mg base "are_rising" 1 (g1 mx_are_rising) := ⟨_, _, _, ok_are_rising T, T.m_are_rising, T.F_are_rising.kp, T.b_are_rising⟩
  have c_are_tuples : Cl P w K mg base "are_tuples" 1 (g2 mx_are_tuples) := ⟨_, _, _, ok_are_tuples T, T.m_are_tuples, T.F_are_tuples.kp, T.b_are_tuples⟩
  have c_is_name : Cl P w K mg base "is_name" 1 (g1 mx_is_name) := ⟨_, _, _, ok_is_name T, T.m_is_name, T.F_is_name.kp, T.b_is_name⟩
  have c_is_whole : Cl P w K mg base "is_whole" 1 (g3 mx_is_whole) := ⟨_, _, _, ok_is_whole T, T.m_is_whole, T.F_is_whole.kp, T.b_is_whole⟩
  have n_all : Nb mg "all" (.builtin "all") := ⟨T.n_all, by decide +kernel, by decide, by decide⟩
  have k_MOST_MAKE := T.k_MOST_MAKE
  unfold mx_are_faces
  show So _ _ [.val a_thing, .un] _ _
  refine so_ifT (et_w (ew_o (et_n (et_v (eo_c2 c_are_tuples (hr.mono (by decide)) (eo_v s_thing) eo_int))) (ew_o1 (et_n (et_v (eo_b1 ca_all n_all (Eo.u (En.o (en_lc nd (by kernel_rfl) (Io.q (io_v (eo_v s_thing))) (fun _ _ _ _ _ => (tg_1 (Tn.mk' s_part nd))) (fun v1 => fun _ _ _ _ _ => ts_nil) (fun v1 => fun _ _ _ _ _ => (eo_a (eo_tb (eo_c1 c_is_name (hr.mono (by decide)) (eo_ix ru (Eo.u (eo_v s_part)) eo_int))) (eo_1 (eo_tb (eo_c3 c_is_whole (hr.mono (by decide)) (eo_ix ru (Eo.u (eo_v s_part)) eo_int) eo_int (eo_gint k_MOST_MAKE)))))) (by kernel_rfl)))))))))) ?_ ?_
  · exact so_ret (fun d => d) eo_bl
  exact so_ret (fun d => d) (eo_c1 c_are_rising (hr.mono (by decide)) (En.o (en_lc nd (by kernel_rfl) (Io.q (io_v (eo_v s_thing))) (fun _ _ _ _ _ => (tg_1 (Tn.mk' s_part nd))) (fun v2 => fun _ _ _ _ _ => ts_nil) (fun v2 => fun _ _ _ _ _ => (eo_ix ru (Eo.u (eo_v s_part)) eo_int)) (by kernel_rfl))))
theorem sc_is_want : FnScope ["thing"] ["thing"] (defScope (top 17)) := ⟨rfl, rfl, rfl, by decide +kernel, rfl, by decide +kernel, by decide +kernel⟩
theorem ok_is_want (T : Facts w K mg) : FnD P w K mg base 2 T.f_is_want T.fd_is_want ["thing"] (g1 mx_is_want) := by
  refine fn_1 T.F_is_want sc_is_want rfl (fun a_thing cdv A outer s H E hr => ?_)
  have nd := sc_is_want.nd
  have ru := A65.of hr
  have s_thing : Sl ["thing"] "thing" 0 := ⟨rfl, by decide, by decide⟩
  have c_is_name : Cl P w K mg base "is_name" 1 (g1 mx_is_name) := ⟨_, _, _, ok_is_name T, T.m_is_name, T.F_is_name.kp, T.b_is_name⟩
  have c_is_whole : Cl P w K mg base "is_whole" 1 (g3 mx_is_whole) := ⟨_, _, _, ok_is_whole T, T.m_is_whole, T.F_is_whole.kp, T.b_is_whole⟩
  have n_isinstance : Nb mg "isinstance" (.builtin "isinstance") := ⟨T.n_isinstance, by decide +kernel, by decide, by decide⟩
  have n_bool : Nb mg "bool" (.type "bool") := ⟨T.n_bool, by decide +kernel, by decide, by decide⟩
  have k_MOST_MAKE := T.k_MOST_MAKE
  unfold mx_is_want
  show So _ _ [.val a_thing] _ _
  refine so_ifT (et_w (ew_o (et_n (et_v (eo_c1 c_is_name (hr.mono (by decide)) (eo_ix ru (Eo.u (eo_v s_thing)) eo_int)))) (ew_o (et_n (et_v (eo_c3 c_is_whole (hr.mono (by decide)) (eo_ix ru (Eo.u (eo_v s_thing)) eo_int) eo_int (eo_gint k_MOST_MAKE)))) (ew_o1 (et_n (et_v (eo_c3 c_is_whole (hr.mono (by decide)) (eo_ix ru (Eo.u (eo_v s_thing)) eo_int) (eo_ix ru (Eo.u (eo_v s_thing)) eo_int) (eo_gint k_MOST_MAKE)))))))) ?_ ?_
  · exact so_ret (fun d => d) eo_bl
  exact so_ret (fun d => d) (eo_isi n_isinstance n_bool (Eo.u (eo_ix ru (Eo.u (eo_v s_thing)) eo_int)))
theorem sc_are_wants : FnScope ["thing", "part"] ["thing"] (defScope (top 18)) := ⟨rfl, rfl, rfl, by decide +kernel, rfl, by decide +kernel, by decide +kernel⟩
theorem ok_are_wants (T : Facts w K mg) : FnD P w K mg base 3 T.f_are_wants T.fd_are_wants ["thing"] (g1 mx_are_wants) := by
  refine fn_1 T.F_are_wants sc_are_wants rfl (fun a_thing cdv A outer s H E hr => ?_)
  have nd := sc_are_wants.nd
  have ru := A65.of hr
  have s_thing : Sl ["thing", "part"] "thing" 0 := ⟨rfl, by decide, by decide⟩
  have s_part : Sl ["thing", "part"] "part" 1 := ⟨rfl, by decide, by decide⟩
  have c_are_tuples : Cl P w K mg base "are_tuples" 1 (g2 mx_are_tuples) := ⟨_, _, _, ok_are_tuples T, T.m_are_tuples, T.F_are_tuples.kp, T.b_are_tuples⟩
  have c_is_want : Cl P w K mg base "is_want" 2 (g1 mx_is_want) := ⟨_, _, _, ok_is_want T, T.m_is_want, T.F_is_want.kp, T.b_is_want⟩
  have n_len : Nb mg "len" (.builtin "len") := ⟨T.n_len, by decide +kernel, by decide, by decide⟩
  have n_all : Nb mg "all" (.builtin "all") := ⟨T.n_all, by decide +kernel, by decide, by decide⟩
  have n_set : Nb mg "set" (.type "set") := ⟨T.n_set, by decide +kernel, by decide, by decide⟩
  unfold mx_are_wants
  show So _ _ [.val a_thing, .un] _ _
  refine so_ifT (et_w (ew_o (et_n (et_v (eo_c2 c_are_tuples (hr.mono (by decide)) (eo_v s_thing) eo_int))) (ew_o1 (et_n (et_v (eo_b1 ca_all n_all (Eo.u (En.o (en_lc nd (by kernel_rfl) (Io.q (io_v (eo_v s_thing))) (fun _ _ _ _ _ => (tg_1 (Tn.mk' s_part nd))) (fun v1 => fun _ _ _ _ _ => ts_nil) (fun v1 => fun _ _ _ _ _ => (eo_c1 c_is_want (hr.mono (by decide)) (eo_v s_part))) (by kernel_rfl)))))))))) ?_ ?_
  · exact so_ret (fun d => d) eo_bl
  exact so_ret (fun d => d) (eo_cmp (cm_eq ru) (Eo.u (eo_lenset n_len n_set (Eo.u (En.o (en_lc nd (by kernel_rfl) (Io.q (io_v (eo_v s_thing))) (fun _ _ _ _ _ => (tg_1 (Tn.mk' s_part nd))) (fun v2 => fun _ _ _ _ _ => ts_nil) (fun v2 => fun _ _ _ _ _ => (eo_ix ru (Eo.u (eo_v s_part)) eo_int)) (by kernel_rfl)))))) (Eo.u (eo_b1 ca_len n_len (Eo.u (eo_v s_thing)))))
theorem sc_is_deed : FnScope ["thing"] ["thing"] (defScope (top 19)) := ⟨rfl, rfl, rfl, by decide +kernel, rfl, by decide +kernel, by decide +kernel⟩
theorem ok_is_deed (T : Facts w K mg) : FnD P w K mg base 2 T.f_is_deed T.fd_is_deed ["thing"] (g1 mx_is_deed) := by
  refine fn_1 T.F_is_deed sc_is_deed rfl (fun a_thing cdv A outer s H E hr => ?_)
  have nd := sc_is_deed.nd
  have ru := A65.of hr
  have s_thing : Sl ["thing"] "thing" 0 := ⟨rfl, by decide, by decide⟩
  have c_is_whole : Cl P w K mg base "is_whole" 1 (g3 mx_is_whole) := ⟨_, _, _, ok_is_whole T, T.m_is_whole, T.F_is_whole.kp, T.b_is_whole⟩
  have n_isinstance : Nb mg "isinstance" (.builtin "isinstance") := ⟨T.n_isinstance, by decide +kernel, by decide, by decide⟩
  have n_tuple : Nb mg "tuple" (.type "tuple") := ⟨T.n_tuple, by decide +kernel, by decide, by decide⟩
  have n_len : Nb mg "len" (.builtin "len") := ⟨T.n_len, by decide +kernel, by decide, by decide⟩
  have n_str : Nb mg "str" (.type "str") := ⟨T.n_str, by decide +kernel, by decide, by decide⟩
  obtain ⟨kp_WITH_WORTH, km_WITH_WORTH, kr_WITH_WORTH⟩ := T.k_WITH_WORTH
  have k_RING := T.k_RING
  unfold mx_is_deed
  show So _ _ [.val a_thing] _ _
  refine so_ifT (et_w (ew_o (et_n (et_v (eo_isi n_isinstance n_tuple (Eo.u (eo_v s_thing))))) (ew_o (et_cmpF (cm_eq ru) (Eo.u (eo_b1 ca_len n_len (Eo.u (eo_v s_thing)))) (Eo.u eo_int)) (ew_o1 (et_n (et_v (eo_isi n_isinstance n_str (Eo.u (eo_ix ru (Eo.u (eo_v s_thing)) eo_int))))))))) ?_ ?_
  · exact so_ret (fun d => d) eo_bl
  refine so_ifT (et_cmpF (cm_eq ru) (Eo.u (eo_ix ru (Eo.u (eo_v s_thing)) eo_int)) (Eo.u eo_str)) ?_ ?_
  · exact so_ret (fun d => d) (eo_cmp (cm_eq ru) (Eo.u (eo_b1 ca_len n_len (Eo.u (eo_v s_thing)))) (Eo.u eo_int))
  exact so_ret (fun d => d) (eo_a (eo_cmp (cm_inX ru) (Eo.u (eo_ix ru (Eo.u (eo_v s_thing)) eo_int)) (Eo.u (eo_gtup km_WITH_WORTH kr_WITH_WORTH))) (eo_a (eo_cmp (cm_eq ru) (Eo.u (eo_b1 ca_len n_len (Eo.u (eo_v s_thing)))) (Eo.u eo_int)) (eo_1 (eo_tb (eo_c3 c_is_whole (hr.mono (by decide)) (eo_ix ru (Eo.u (eo_v s_thing)) eo_int) eo_int (eo_bin of_sub (Eo.u (eo_gint k_RING)) (Eo.u eo_int)))))))
theorem sc_are_hooks : FnScope ["thing", "hook", "rank", "deed"] ["thing"] (defScope (top 20)) := ⟨rfl, rfl, rfl, by decide +kernel, rfl, by decide +kernel, by decide +kernel⟩
theorem ok_are_hooks (T : Facts w K mg) : FnD P w K mg base 3 T.f_are_hooks T.fd_are_hooks ["thing"] (g1 mx_are_hooks) := by
  refine fn_1 T.F_are_hooks sc_are_hooks rfl (fun a_thing cdv A outer s H E hr => ?_)
  have nd := sc_are_hooks.nd
  have ru := A65.of hr
  have s_thing : Sl ["thing", "hook", "rank", "deed"] "thing" 0 := ⟨rfl, by decide, by decide⟩
  have s_hook : Sl ["thing", "hook", "rank", "deed"] "hook" 1 := ⟨rfl, by decide, by decide⟩
  have s_rank : Sl ["thing", "hook", "rank", "deed"] "rank" 2 := ⟨rfl, by decide, by decide⟩
  have s_deed : Sl ["thing", "hook", "rank", "deed"] "deed" 3 := ⟨rfl, by decide, by decide⟩
  have c_are_tuples : Cl P w K mg base "are_tuples" 1 (g2 mx_are_tuples) := ⟨_, _, _, ok_are_tuples T, T.m_are_tuples, T.F_are_tuples.kp, T.b_are_tuples⟩
  have c_is_name : Cl P w K mg base "is_name" 1 (g1 mx_is_name) := ⟨_, _, _, ok_is_name T, T.m_is_name, T.F_is_name.kp, T.b_is_name⟩
  have c_is_whole : Cl P w K mg base "is_whole" 1 (g3 mx_is_whole) := ⟨_, _, _, ok_is_whole T, T.m_is_whole, T.F_is_whole.kp, T.b_is_whole⟩
  have c_is_deed : Cl P w K mg base "is_deed" 2 (g1 mx_is_deed) := ⟨_, _, _, ok_is_deed T, T.m_is_deed, T.F_is_deed.kp, T.b_is_deed⟩
  have k_MOST_RANK := T.k_MOST_RANK
  unfold mx_are_hooks
  show So _ _ [.val a_thing, .un, .un, .un] _ _
  refine so_ifT (et_n (et_v (eo_c2 c_are_tuples (hr.mono (by decide)) (eo_v s_thing) eo_int))) ?_ ?_
  · exact so_ret (fun d => d) eo_bl
  refine so_for (fun (s1 : Unit) => [.val a_thing, .un, .un, .un]) (by repeat (first | exact le_nil | apply le_cons | apply le_un)) (io_v (eo_v s_thing)) (fun s1 => (tg_3 (Tn.mk' s_hook nd) (Tn.mk' s_rank nd) (Tn.mk' s_deed nd))) (fun s1 v2 => ?_) (fun s1 => ?_)
  · refine so_ifE (et_w (ew_o (et_n (et_v (eo_c1 c_is_name (hr.mono (by decide)) (eo_v s_hook)))) (ew_o (et_n (et_v (eo_c3 c_is_whole (hr.mono (by decide)) (eo_v s_rank) (eo_bin of_sub (Eo.u eo_int) (Eo.u (eo_gint k_MOST_RANK))) (eo_gint k_MOST_RANK)))) (ew_o1 (et_n (et_v (eo_c1 c_is_deed (hr.mono (by decide)) (eo_v s_deed)))))))) ?_ ?_
    · exact so_ret (fun d => (Lp.out d)) eo_bl
    · exact so_go (by repeat (first | exact le_nil | apply le_cons | apply le_un))
  exact so_ret (fun d => d) eo_bl
theorem sc_is_part : FnScope ["thing"] ["thing"] (defScope (top 21)) := ⟨rfl, rfl, rfl, by decide +kernel, rfl, by decide +kernel, by decide +kernel⟩
theorem ok_is_part (T : Facts w K mg) : FnD P w K mg base 4 T.f_is_part T.fd_is_part ["thing"] (g1 mx_is_part) := by
  refine fn_1 T.F_is_part sc_is_part rfl (fun a_thing cdv A outer s H E hr => ?_)
  have nd := sc_is_part.nd
  have ru := A65.of hr
  have s_thing : Sl ["thing"] "thing" 0 := ⟨rfl, by decide, by decide⟩
  have c_are_faces : Cl P w K mg base "are_faces" 2 (g1 mx_are_faces) := ⟨_, _, _, ok_are_faces T, T.m_are_faces, T.F_are_faces.kp, T.b_are_faces⟩
  have c_are_wants : Cl P w K mg base "are_wants" 3 (g1 mx_are_wants) := ⟨_, _, _, ok_are_wants T, T.m_are_wants, T.F_are_wants.kp, T.b_are_wants⟩
  have c_are_hooks : Cl P w K mg base "are_hooks" 3 (g1 mx_are_hooks) := ⟨_, _, _, ok_are_hooks T, T.m_are_hooks, T.F_are_hooks.kp, T.b_are_hooks⟩
  have c_is_name : Cl P w K mg base "is_name" 1 (g1 mx_is_name) := ⟨_, _, _, ok_is_name T, T.m_is_name, T.F_is_name.kp, T.b_is_name⟩
  have c_is_whole : Cl P w K mg base "is_whole" 1 (g3 mx_is_whole) := ⟨_, _, _, ok_is_whole T, T.m_is_whole, T.F_is_whole.kp, T.b_is_whole⟩
  have n_isinstance : Nb mg "isinstance" (.builtin "isinstance") := ⟨T.n_isinstance, by decide +kernel, by decide, by decide⟩
  have n_tuple : Nb mg "tuple" (.type "tuple") := ⟨T.n_tuple, by decide +kernel, by decide, by decide⟩
  have n_len : Nb mg "len" (.builtin "len") := ⟨T.n_len, by decide +kernel, by decide, by decide⟩
  have k_MOST_MAKE := T.k_MOST_MAKE
  unfold mx_is_part
  show So _ _ [.val a_thing] _ _
  refine so_ifT (et_w (ew_o (et_n (et_v (eo_isi n_isinstance n_tuple (Eo.u (eo_v s_thing))))) (ew_o (et_cmpF (cm_ne ru) (Eo.u (eo_b1 ca_len n_len (Eo.u (eo_v s_thing)))) (Eo.u eo_int)) (ew_o (et_n (et_v (eo_c1 c_is_name (hr.mono (by decide)) (eo_ix ru (Eo.u (eo_v s_thing)) eo_int)))) (ew_o1 (et_n (et_v (eo_c3 c_is_whole (hr.mono (by decide)) (eo_ix ru (Eo.u (eo_v s_thing)) eo_int) eo_int (eo_gint k_MOST_MAKE))))))))) ?_ ?_
  · exact so_ret (fun d => d) eo_bl
  exact so_ret (fun d => d) (eo_a (eo_tb (eo_c1 c_are_faces (hr.mono (by decide)) (eo_ix ru (Eo.u (eo_v s_thing)) eo_int))) (eo_a (eo_tb (eo_c1 c_are_wants (hr.mono (by decide)) (eo_ix ru (Eo.u (eo_v s_thing)) eo_int))) (eo_1 (eo_tb (eo_c1 c_are_hooks (hr.mono (by decide)) (eo_ix ru (Eo.u (eo_v s_thing)) eo_int))))))
theorem sc_is_house : FnScope ["thing", "part"] ["thing"] (defScope (top 22)) := ⟨rfl, rfl, rfl, by decide +kernel, rfl, by decide +kernel, by decide +kernel⟩
theorem ok_is_house (T : Facts w K mg) : FnD P w K mg base 5 T.f_is_house T.fd_is_house ["thing"] (g1 mx_is_house) := by
  refine fn_1 T.F_is_house sc_is_house rfl (fun a_thing cdv A outer s H E hr => ?_)
  have nd := sc_is_house.nd
  have ru := A65.of hr
  have s_thing : Sl ["thing", "part"] "thing" 0 := ⟨rfl, by decide, by decide⟩
  have s_part : Sl ["thing", "part"] "part" 1 := ⟨rfl, by decide, by decide⟩
  have c_are_rising : Cl P w K mg base "are_rising" 1 (g1 mx_are_rising) := ⟨_, _, _, ok_are_rising T, T.m_are_rising, T.F_are_rising.kp, T.b_are_rising⟩
  have c_is_part : Cl P w K mg base "is_part" 4 (g1 mx_is_part) := ⟨_, _, _, ok_is_part T, T.m_is_part, T.F_is_part.kp, T.b_is_part⟩
  have n_isinstance : Nb mg "isinstance" (.builtin "isinstance") := ⟨T.n_isinstance, by decide +kernel, by decide, by decide⟩
  have n_tuple : Nb mg "tuple" (.type "tuple") := ⟨T.n_tuple, by decide +kernel, by decide, by decide⟩
  have n_len : Nb mg "len" (.builtin "len") := ⟨T.n_len, by decide +kernel, by decide, by decide⟩
  have n_all : Nb mg "all" (.builtin "all") := ⟨T.n_all, by decide +kernel, by decide, by decide⟩
  have k_MOST_PARTS := T.k_MOST_PARTS
  unfold mx_is_house
  show So _ _ [.val a_thing, .un] _ _
  refine so_ifT (et_w (ew_o (et_n (et_v (eo_isi n_isinstance n_tuple (Eo.u (eo_v s_thing))))) (ew_o (et_cmpF (cm_gt ru) (Eo.u (eo_b1 ca_len n_len (Eo.u (eo_v s_thing)))) (Eo.u (eo_gint k_MOST_PARTS))) (ew_o1 (et_n (et_v (eo_b1 ca_all n_all (Eo.u (En.o (en_lc nd (by kernel_rfl) (Io.q (io_v (eo_v s_thing))) (fun _ _ _ _ _ => (tg_1 (Tn.mk' s_part nd))) (fun v1 => fun _ _ _ _ _ => ts_nil) (fun v1 => fun _ _ _ _ _ => (eo_c1 c_is_part (hr.mono (by decide)) (eo_v s_part))) (by kernel_rfl))))))))))) ?_ ?_
  · exact so_ret (fun d => d) eo_bl
  exact so_ret (fun d => d) (eo_c1 c_are_rising (hr.mono (by decide)) (En.o (en_lc nd (by kernel_rfl) (Io.q (io_v (eo_v s_thing))) (fun _ _ _ _ _ => (tg_1 (Tn.mk' s_part nd))) (fun v2 => fun _ _ _ _ _ => ts_nil) (fun v2 => fun _ _ _ _ _ => (eo_ix ru (Eo.u (eo_v s_part)) eo_int)) (by kernel_rfl))))
theorem sc_part_rows : FnScope ["part", "name", "make", "faces", "wants", "hooks", "rows", "face", "version", "low", "high", "must", "hook", "rank", "deed"] ["part"] (defScope (top 25)) := ⟨rfl, rfl, rfl, by decide +kernel, rfl, by decide +kernel, by decide +kernel⟩
theorem ok_part_rows (T : Facts w K mg) : FnD P w K mg base 1 T.f_part_rows T.fd_part_rows ["part"] (g1 mx_part_rows) := by
  refine fn_1 T.F_part_rows sc_part_rows rfl (fun a_part cdv A outer s H E hr => ?_)
  have nd := sc_part_rows.nd
  have ru := A65.of hr
  have s_part : Sl ["part", "name", "make", "faces", "wants", "hooks", "rows", "face", "version", "low", "high", "must", "hook", "rank", "deed"] "part" 0 := ⟨rfl, by decide, by decide⟩
  have s_name : Sl ["part", "name", "make", "faces", "wants", "hooks", "rows", "face", "version", "low", "high", "must", "hook", "rank", "deed"] "name" 1 := ⟨rfl, by decide, by decide⟩
  have s_make : Sl ["part", "name", "make", "faces", "wants", "hooks", "rows", "face", "version", "low", "high", "must", "hook", "rank", "deed"] "make" 2 := ⟨rfl, by decide, by decide⟩
  have s_faces : Sl ["part", "name", "make", "faces", "wants", "hooks", "rows", "face", "version", "low", "high", "must", "hook", "rank", "deed"] "faces" 3 := ⟨rfl, by decide, by decide⟩
  have s_wants : Sl ["part", "name", "make", "faces", "wants", "hooks", "rows", "face", "version", "low", "high", "must", "hook", "rank", "deed"] "wants" 4 := ⟨rfl, by decide, by decide⟩
  have s_hooks : Sl ["part", "name", "make", "faces", "wants", "hooks", "rows", "face", "version", "low", "high", "must", "hook", "rank", "deed"] "hooks" 5 := ⟨rfl, by decide, by decide⟩
  have s_rows : Sl ["part", "name", "make", "faces", "wants", "hooks", "rows", "face", "version", "low", "high", "must", "hook", "rank", "deed"] "rows" 6 := ⟨rfl, by decide, by decide⟩
  have s_face : Sl ["part", "name", "make", "faces", "wants", "hooks", "rows", "face", "version", "low", "high", "must", "hook", "rank", "deed"] "face" 7 := ⟨rfl, by decide, by decide⟩
  have s_version : Sl ["part", "name", "make", "faces", "wants", "hooks", "rows", "face", "version", "low", "high", "must", "hook", "rank", "deed"] "version" 8 := ⟨rfl, by decide, by decide⟩
  have s_low : Sl ["part", "name", "make", "faces", "wants", "hooks", "rows", "face", "version", "low", "high", "must", "hook", "rank", "deed"] "low" 9 := ⟨rfl, by decide, by decide⟩
  have s_high : Sl ["part", "name", "make", "faces", "wants", "hooks", "rows", "face", "version", "low", "high", "must", "hook", "rank", "deed"] "high" 10 := ⟨rfl, by decide, by decide⟩
  have s_must : Sl ["part", "name", "make", "faces", "wants", "hooks", "rows", "face", "version", "low", "high", "must", "hook", "rank", "deed"] "must" 11 := ⟨rfl, by decide, by decide⟩
  have s_hook : Sl ["part", "name", "make", "faces", "wants", "hooks", "rows", "face", "version", "low", "high", "must", "hook", "rank", "deed"] "hook" 12 := ⟨rfl, by decide, by decide⟩
  have s_rank : Sl ["part", "name", "make", "faces", "wants", "hooks", "rows", "face", "version", "low", "high", "must", "hook", "rank", "deed"] "rank" 13 := ⟨rfl, by decide, by decide⟩
  have s_deed : Sl ["part", "name", "make", "faces", "wants", "hooks", "rows", "face", "version", "low", "high", "must", "hook", "rank", "deed"] "deed" 14 := ⟨rfl, by decide, by decide⟩
  have n_list : Nb mg "list" (.type "list") := ⟨T.n_list, by decide +kernel, by decide, by decide⟩
  have n_int : Nb mg "int" (.type "int") := ⟨T.n_int, by decide +kernel, by decide, by decide⟩
  unfold mx_part_rows
  show So _ _ [.val a_part, .un, .un, .un, .un, .un, .un, .un, .un, .un, .un, .un, .un, .un, .un] _ _
  refine so_unpack (eo_v s_part) (tg_5 (Tn.mk' s_name nd) (Tn.mk' s_make nd) (Tn.mk' s_faces nd) (Tn.mk' s_wants nd) (Tn.mk' s_hooks nd)) (fun v1 => ?_)
  refine so_new 6 nd (en_lst (ao_cons (En.o (en_lst (ao_cons eo_str (ao_cons (eo_v s_name) (ao_cons (eo_v s_make) ao_nil))))) ao_nil)) (fun x_rows2 => ?_)
  refine so_extend 6 s_rows rfl (by first | exact Or.inl rfl | exact Or.inr (Or.inl rfl) | exact Or.inr (Or.inr rfl)) (en_lc nd (by kernel_rfl) (Io.q (io_v (eo_v s_faces))) (fun _ _ _ _ _ => (tg_2 (Tn.mk' s_face nd) (Tn.mk' s_version nd))) (fun v4 => fun _ _ _ _ _ => ts_nil) (fun v4 => fun _ _ _ _ _ => (En.o (en_lst (ao_cons eo_str (ao_cons (eo_v s_face) (ao_cons (eo_v s_version) ao_nil)))))) (by kernel_rfl)) (fun x_rows5 => ?_)
  refine so_extend 6 s_rows rfl (by first | exact Or.inl rfl | exact Or.inr (Or.inl rfl) | exact Or.inr (Or.inr rfl)) (en_lc nd (by kernel_rfl) (Io.q (io_v (eo_v s_wants))) (fun _ _ _ _ _ => (tg_4 (Tn.mk' s_face nd) (Tn.mk' s_low nd) (Tn.mk' s_high nd) (Tn.mk' s_must nd))) (fun v7 => fun _ _ _ _ _ => ts_nil) (fun v7 => fun _ _ _ _ _ => (En.o (en_lst (ao_cons (eo_ix ru (Eo.u (En.o (en_lst (ao_cons eo_str (ao_cons eo_str ao_nil))))) (eo_t1 ca_int n_int (Eo.u (eo_v s_must)))) (ao_cons (eo_v s_face) (ao_cons (eo_v s_low) (ao_cons (eo_v s_high) ao_nil))))))) (by kernel_rfl)) (fun x_rows8 => ?_)
  refine so_extend 6 s_rows rfl (by first | exact Or.inl rfl | exact Or.inr (Or.inl rfl) | exact Or.inr (Or.inr rfl)) (en_lc nd (by kernel_rfl) (Io.q (io_v (eo_v s_hooks))) (fun _ _ _ _ _ => (tg_3 (Tn.mk' s_hook nd) (Tn.mk' s_rank nd) (Tn.mk' s_deed nd))) (fun v10 => fun _ _ _ _ _ => ts_nil) (fun v10 => fun _ _ _ _ _ => (eo_bin of_add (Eo.u (En.o (en_lst (ao_cons eo_str (ao_cons (eo_v s_hook) (ao_cons (eo_v s_rank) ao_nil)))))) (Eo.u (En.o (en_t1 cn_list n_list (Eo.u (eo_v s_deed))))))) (by kernel_rfl)) (fun x_rows11 => ?_)
  exact so_retOwn (fun d => d) 6 s_rows
theorem sc_written : FnScope ["house", "found", "part", "row", "word"] ["house"] (defScope (top 26)) := ⟨rfl, rfl, rfl, by decide +kernel, rfl, by decide +kernel, by decide +kernel⟩
theorem ok_written (T : Facts w K mg) : FnD P w K mg base 2 T.f_written T.fd_written ["house"] (g1 mx_written) := by
  refine fn_1 T.F_written sc_written rfl (fun a_house cdv A outer s H E hr => ?_)
  have nd := sc_written.nd
  have ru := A65.of hr
  have s_house : Sl ["house", "found", "part", "row", "word"] "house" 0 := ⟨rfl, by decide, by decide⟩
  have s_found : Sl ["house", "found", "part", "row", "word"] "found" 1 := ⟨rfl, by decide, by decide⟩
  have s_part : Sl ["house", "found", "part", "row", "word"] "part" 2 := ⟨rfl, by decide, by decide⟩
  have s_row : Sl ["house", "found", "part", "row", "word"] "row" 3 := ⟨rfl, by decide, by decide⟩
  have s_word : Sl ["house", "found", "part", "row", "word"] "word" 4 := ⟨rfl, by decide, by decide⟩
  have c_part_rows : Cl P w K mg base "part_rows" 1 (g1 mx_part_rows) := ⟨_, _, _, ok_part_rows T, T.m_part_rows, T.F_part_rows.kp, T.b_part_rows⟩
  have n_str : Nb mg "str" (.type "str") := ⟨T.n_str, by decide +kernel, by decide, by decide⟩
  have k_ROW_END := T.k_ROW_END
  unfold mx_written
  show So _ _ [.val a_house, .un, .un, .un, .un] _ _
  refine so_set 1 nd eo_str (fun x_found1 => ?_)
  refine so_for (fun (s2 : D) => [.val a_house, .val s2, .un, .un, .un]) (by repeat (first | exact le_nil | apply le_cons | apply le_un)) (io_v (eo_v s_house)) (fun s2 => (tg_1 (Tn.mk' s_part nd))) (fun s2 v3 => ?_) (fun s2 => ?_)
  · refine so_for (fun (s4 : D) => [.val a_house, .val s4, .val v3, .un, .un]) (by repeat (first | exact le_nil | apply le_cons | apply le_un)) (io_v (eo_c1 c_part_rows (hr.mono (by decide)) (eo_v s_part))) (fun s4 => (tg_1 (Tn.mk' s_row nd))) (fun s4 v5 => ?_) (fun s4 => ?_)
    · refine so_set 1 nd (eo_bin of_add (Eo.u (eo_bin of_add (Eo.u (eo_v s_found)) (Eo.u (eo_join eo_str (Eo.u (En.o (en_lc nd (by kernel_rfl) (Io.q (io_v (eo_v s_row))) (fun _ _ _ _ _ => (tg_1 (Tn.mk' s_word nd))) (fun v7 => fun _ _ _ _ _ => ts_nil) (fun v7 => fun _ _ _ _ _ => (eo_t1 ca_str n_str (Eo.u (eo_v s_word)))) (by kernel_rfl)))))))) (Eo.u (eo_gstr k_ROW_END))) (fun x_found6 => ?_)
      exact so_go (by repeat (first | exact le_nil | apply le_cons | apply le_un))
    exact so_go (by repeat (first | exact le_nil | apply le_cons | apply le_un))
  exact so_ret (fun d => d) (eo_v s_found)
theorem sc_read : FnScope ["text", "parts", "row", "words", "found", "part"] ["text"] (defScope (top 35)) := ⟨rfl, rfl, rfl, by decide +kernel, rfl, by decide +kernel, by decide +kernel⟩
theorem ok_read (T : Facts w K mg) : FnOk P w K mg base (L2.CX P w) 6 T.f_read T.fd_read ["text"] (SpDX K (.ref T.C_NoText) (ar1 mx_read)) := by
  refine fn_DX T.F_read sc_read (fun ds r h => by obtain ⟨_, rfl, _⟩ := ar1_inv h; rfl) (fun ds cdv A outer s H E hr hz tk => ?_)
  have nd := sc_read.nd
  have ru := A65.of hr
  have s_text : Sl ["text", "parts", "row", "words", "found", "part"] "text" 0 := ⟨rfl, by decide, by decide⟩
  have s_parts : Sl ["text", "parts", "row", "words", "found", "part"] "parts" 1 := ⟨rfl, by decide, by decide⟩
  have s_row : Sl ["text", "parts", "row", "words", "found", "part"] "row" 2 := ⟨rfl, by decide, by decide⟩
  have s_words : Sl ["text", "parts", "row", "words", "found", "part"] "words" 3 := ⟨rfl, by decide, by decide⟩
  have s_found : Sl ["text", "parts", "row", "words", "found", "part"] "found" 4 := ⟨rfl, by decide, by decide⟩
  have s_part : Sl ["text", "parts", "row", "words", "found", "part"] "part" 5 := ⟨rfl, by decide, by decide⟩
  have c_need : FrX P w K mg base "need" 1 (SpDX K (.ref T.C_NoText) (ar1 mx_need)) := ⟨_, _, _, ok_need T, T.m_need, T.F_need.kp, T.b_need⟩
  have c_put_row : FrX P w K mg base "put_row" 4 (SpPX K (.ref T.C_NoText) (fun l => ar1 (mx_put_row l))) := ⟨_, _, _, ok_put_row T, T.m_put_row, T.F_put_row.kp, T.b_put_row⟩
  have c_is_house : Cl P w K mg base "is_house" 5 (g1 mx_is_house) := ⟨_, _, _, ok_is_house T, T.m_is_house, T.F_is_house.kp, T.b_is_house⟩
  have c_written : Cl P w K mg base "written" 2 (g1 mx_written) := ⟨_, _, _, ok_written T, T.m_written, T.F_written.kp, T.b_written⟩
  have c_number_in : FrX P w K mg base "number_in" 2 (SpDX K (.ref T.C_NoText) (ar1 mx_number_in)) := ⟨_, _, _, ok_number_in T, T.m_number_in, T.F_number_in.kp, T.b_number_in⟩
  have n_tuple : Nb mg "tuple" (.type "tuple") := ⟨T.n_tuple, by decide +kernel, by decide, by decide⟩
  have n_isinstance : Nb mg "isinstance" (.builtin "isinstance") := ⟨T.n_isinstance, by decide +kernel, by decide, by decide⟩
  have n_str : Nb mg "str" (.type "str") := ⟨T.n_str, by decide +kernel, by decide, by decide⟩
  have n_len : Nb mg "len" (.builtin "len") := ⟨T.n_len, by decide +kernel, by decide, by decide⟩
  have k_ROW_END := T.k_ROW_END
  have kt_SIZES := T.kt_SIZES
  have km_SIZES := T.m_SIZES
  obtain ⟨r0, hz⟩ := Option.isSome_iff_exists.mp hz
  obtain ⟨a_text, rfl, _⟩ := ar1_inv hz
  clear hz
  show So _ _ [.val a_text, .un, .un, .un, .un, .un] _ (mx_read a_text)
  unfold mx_read
  refine so_exprX (rx := none) rfl (ex_call tk c_need (hr.mono (by decide)) (ao_cons (eo_isi n_isinstance n_str (Eo.u (eo_v s_text))) ao_nil)) ?_
  refine so_newRows 1 nd ?_
  show So _ _ [.val a_text, .tr (encPT ([] : List PRow)), .un, .un, .un, .un] _ _
  refine so_for (hp := passes_of rfl) (fun (s1 : List PRow) => [.val a_text, .tr (encPT s1), .un, .un, .un, .un]) (by repeat (first | exact le_nil | apply le_cons | apply le_un)) (io_v (eo_cutX (Eo.u (En.o (en_split (eo_v s_text) (eo_gstr k_ROW_END)))) po_n (po_s (eo_neg eo_int)))) (fun s1 => (tg_1 (Tn.mk' s_row nd))) (fun s1 v2 => ?_) (fun s1 => ?_)
  · refine so_set 3 nd (En.o (en_split (eo_v s_row) eo_str)) (fun x_words3 => ?_)
    refine so_exprX (rx := (Lp.out none)) rfl (ex_call tk c_need (hr.mono (by decide)) (ao_cons (eo_r (eo_cmp (cm_eq ru) (Eo.u (eo_ix ru (Eo.u (eo_v s_words)) eo_int)) (Eo.u eo_str)) (eo_1 (eo_cmp (cm_eq ru) (Eo.u (eo_b1 ca_len n_len (Eo.u (eo_v s_words)))) (Eo.u (eo_kget kt_SIZES km_SIZES (eo_ix ru (Eo.u (eo_v s_words)) eo_int) eo_int))))) ao_nil)) ?_
    refine so_ifE (et_cmpF (cm_eq ru) (Eo.u (eo_ix ru (Eo.u (eo_v s_words)) eo_int)) (Eo.u eo_str)) ?_ ?_
    · refine so_rowX (rx := (Lp.out none)) 1 rfl s_parts (ex_o (eo_ix ru (Eo.u (eo_v s_words)) eo_int)) (ex_call tk c_number_in (hr.mono (by decide)) (ao_cons (eo_ix ru (Eo.u (eo_v s_words)) eo_int) ao_nil)) (fun l4 => ?_)
      show So _ _ [.val a_text, .tr (encPT l4), .val v2, .val x_words3, .un, .un] _ _
      exact so_go (by repeat (first | exact le_nil | apply le_cons | apply le_un))
    · refine so_exprX (rx := (Lp.out none)) rfl (ex_call tk c_need (hr.mono (by decide)) (ao_cons (eo_cmp (cm_gt ru) (Eo.u (eo_lentr 1 n_len s_parts)) (Eo.u eo_int)) ao_nil)) ?_
      refine so_callPX (rx := (Lp.out none)) 1 tk rfl c_put_row (hr.mono (by decide)) s_parts (ao_cons (eo_v s_words) ao_nil) (fun l5 => ?_)
      show So _ _ [.val a_text, .tr (encPT l5), .val v2, .val x_words3, .un, .un] _ _
      exact so_go (by repeat (first | exact le_nil | apply le_cons | apply le_un))
  refine so_freeze 1 (trD_P s1) ?_
  show So _ _ [.val a_text, .val (frzP s1), .un, .un, .un, .un] _ _
  refine so_set 4 nd (eo_t1 ca_tup n_tuple (Eo.u (En.o (en_lc nd (by kernel_rfl) (Io.q (io_v (eo_v s_parts))) (fun _ _ _ _ _ => (tg_1 (Tn.mk' s_part nd))) (fun v7 => fun _ _ _ _ _ => ts_nil) (fun v7 => fun _ _ _ _ _ => (eo_tup (ao_cons (eo_ix ru (Eo.u (eo_v s_part)) eo_int) (ao_cons (eo_ix ru (Eo.u (eo_v s_part)) eo_int) (ao_cons (eo_t1 ca_tup n_tuple (Eo.u (eo_ix ru (Eo.u (eo_v s_part)) eo_int))) (ao_cons (eo_t1 ca_tup n_tuple (Eo.u (eo_ix ru (Eo.u (eo_v s_part)) eo_int))) (ao_cons (eo_t1 ca_tup n_tuple (Eo.u (eo_ix ru (Eo.u (eo_v s_part)) eo_int))) ao_nil))))))) (by kernel_rfl))))) (fun x_found6 => ?_)
  refine so_exprX (rx := none) rfl (ex_call tk c_need (hr.mono (by decide)) (ao_cons (eo_a (eo_tb (eo_c1 c_is_house (hr.mono (by decide)) (eo_v s_found))) (eo_1 (eo_cmp (cm_eq ru) (Eo.u (eo_c1 c_written (hr.mono (by decide)) (eo_v s_found))) (Eo.u (eo_v s_text))))) ao_nil)) ?_
  exact so_retX (rx := none) (fun d => (some d)) rfl (ex_o (eo_v s_found))
theorem sc_law : FnScope ["script", "number", "bad", "name", "good", "k", "wrong", "text", "."] ["script"] (defScope (top 40)) := ⟨rfl, rfl, rfl, by decide +kernel, rfl, by decide +kernel, by decide +kernel⟩
theorem ok_law (T : Facts w K mg) (B : Tabd T base) : FnOk P w K mg base CX0 9 T.f_law T.fd_law ["script"] (SpDT K T.TL m_law_K04) := by
  refine fn_DT 8 T.F_law T.hc_law sc_law rfl (notVis (by rfl)) (fun a_script A outer s H E hr => ?_)
  have nd := sc_law.nd
  have ru := A65.of hr
  have s_script : Sl ["script", "number", "bad", "name", "good", "k", "wrong", "text", "."] "script" 0 := ⟨rfl, by decide, by decide⟩
  have s_number : Sl ["script", "number", "bad", "name", "good", "k", "wrong", "text", "."] "number" 1 := ⟨rfl, by decide, by decide⟩
  have s_bad : Sl ["script", "number", "bad", "name", "good", "k", "wrong", "text", "."] "bad" 2 := ⟨rfl, by decide, by decide⟩
  have s_name : Sl ["script", "number", "bad", "name", "good", "k", "wrong", "text", "."] "name" 3 := ⟨rfl, by decide, by decide⟩
  have s_good : Sl ["script", "number", "bad", "name", "good", "k", "wrong", "text", "."] "good" 4 := ⟨rfl, by decide, by decide⟩
  have s_k : Sl ["script", "number", "bad", "name", "good", "k", "wrong", "text", "."] "k" 5 := ⟨rfl, by decide, by decide⟩
  have s_wrong : Sl ["script", "number", "bad", "name", "good", "k", "wrong", "text", "."] "wrong" 6 := ⟨rfl, by decide, by decide⟩
  have s_text : Sl ["script", "number", "bad", "name", "good", "k", "wrong", "text", "."] "text" 7 := ⟨rfl, by decide, by decide⟩
  have c__law_mixed : Cl P w K mg base "_law_mixed" 2 (g2 m__law_mixed) := ⟨_, _, _, ok__law_mixed T, T.m__law_mixed, T.F__law_mixed.kp, T.b__law_mixed⟩
  have L__law_told := ok__law_told T
  have c_read : FrX P w K mg base "read" 6 (SpDX K (.ref T.C_NoText) (ar1 mx_read)) := ⟨_, _, _, ok_read T, T.m_read, T.F_read.kp, T.b_read⟩
  have c_written : Cl P w K mg base "written" 2 (g1 mx_written) := ⟨_, _, _, ok_written T, T.m_written, T.F_written.kp, T.b_written⟩
  have n_range : Nb mg "range" (.type "range") := ⟨T.n_range, by decide +kernel, by decide, by decide⟩
  have n_len : Nb mg "len" (.builtin "len") := ⟨T.n_len, by decide +kernel, by decide, by decide⟩
  have tB_ := B.tb_law
  have hm_ : (T.tb_law, lamN "law") ∈ T.TL := by show _ ∈ [(T.tb_law, lamN "law")]; simp
  have hu_ : ∀ p ∈ T.TL, p.1 = T.tb_law → p.2 = lamN "law" := by
    show ∀ p ∈ [(T.tb_law, lamN "law")], _
    intro p hp e
    simp only [List.mem_cons, List.not_mem_nil, or_false] at hp
    rcases hp with rfl
    · rfl
  unfold m_law_K04
  show So _ _ [.val a_script, .un, .un, .un, .un, .un, .un, .un, .tab T.TL] _ _
  refine so_set 1 nd (eo_c2 c__law_mixed (hr.mono (by decide)) (eo_v s_script) eo_int) (fun x_number1 => ?_)
  refine so_new 2 nd (en_lst (ao_cons eo_str (ao_cons eo_str (ao_cons eo_str (ao_cons eo_str (ao_cons eo_str ao_nil)))))) (fun x_bad2 => ?_)
  refine so_new 2 nd (en_addL (eu_vo s_bad) (Eo.u (En.o (en_lst (ao_cons eo_str (ao_cons eo_str (ao_cons eo_str ao_nil))))))) (fun x_bad3 => ?_)
  refine so_new 2 nd (en_addL (eu_vo s_bad) (Eo.u (En.o (en_lst (ao_cons eo_str (ao_cons eo_str (ao_cons eo_str (ao_cons eo_str (ao_cons eo_str (ao_cons eo_str ao_nil)))))))))) (fun x_bad4 => ?_)
  refine so_append 2 s_bad rfl (by first | exact Or.inl rfl | exact Or.inr (Or.inl rfl) | exact Or.inr (Or.inr rfl)) eo_str (fun x_bad6 => ?_)
  refine so_new 2 nd (en_addL (eu_vo s_bad) (Eo.u (En.o (en_lst (ao_cons eo_str (ao_cons eo_str (ao_cons eo_str ao_nil))))))) (fun x_bad7 => ?_)
  refine so_new 2 nd (en_addL (eu_vo s_bad) (Eo.u (En.o (en_lst (ao_cons eo_str (ao_cons eo_str (ao_cons eo_str ao_nil))))))) (fun x_bad8 => ?_)
  refine so_new 2 nd (en_addL (eu_vo s_bad) (Eo.u (En.o (en_lst (ao_cons eo_str (ao_cons eo_str ao_nil)))))) (fun x_bad9 => ?_)
  refine so_append 2 s_bad rfl (by first | exact Or.inl rfl | exact Or.inr (Or.inl rfl) | exact Or.inr (Or.inr rfl)) eo_str (fun x_bad11 => ?_)
  refine so_new 2 nd (en_addL (eu_vo s_bad) (Eo.u (En.o (en_lst (ao_cons eo_str (ao_cons eo_str (ao_cons eo_str ao_nil))))))) (fun x_bad12 => ?_)
  refine so_new 2 nd (en_addL (eu_vo s_bad) (Eo.u (En.o (en_lst (ao_cons eo_str (ao_cons eo_str (ao_cons eo_str ao_nil))))))) (fun x_bad13 => ?_)
  refine so_new 2 nd (en_addL (eu_vo s_bad) (Eo.u (En.o (en_lst (ao_cons eo_str (ao_cons eo_str (ao_cons eo_str ao_nil))))))) (fun x_bad14 => ?_)
  refine so_new 2 nd (en_addL (eu_vo s_bad) (Eo.u (En.o (en_lst (ao_cons eo_str (ao_cons (eo_bin of_add (Eo.u eo_str) (Eo.u (eo_bin of_mulT (Eo.u eo_str) (Eo.u eo_int)))) ao_nil)))))) (fun x_bad15 => ?_)
  refine so_append 2 s_bad rfl (by first | exact Or.inl rfl | exact Or.inr (Or.inl rfl) | exact Or.inr (Or.inr rfl)) (eo_join eo_str (Eo.u (En.o (en_lc nd (by kernel_rfl) (Io.q (io_v eo_str)) (fun _ _ _ _ _ => (tg_1 (Tn.mk' s_name nd))) (fun v17 => fun _ _ _ _ _ => ts_nil) (fun v17 => fun _ _ _ _ _ => (eo_bin of_add (Eo.u (eo_bin of_add (Eo.u eo_str) (Eo.u (eo_v s_name)))) (Eo.u eo_str))) (by kernel_rfl))))) (fun x_bad18 => ?_)
  refine so_new 4 nd (en_lst (ao_cons eo_str (ao_cons eo_str (ao_cons eo_str (ao_cons eo_str (ao_cons eo_str ao_nil)))))) (fun x_good19 => ?_)
  refine so_new 4 nd (en_addL (eu_vo s_good) (Eo.u (En.o (en_lst (ao_cons (eo_bin of_add (Eo.u eo_str) (Eo.u (eo_bin of_mulT (Eo.u eo_str) (Eo.u eo_int)))) (ao_cons eo_str ao_nil)))))) (fun x_good20 => ?_)
  refine so_append 4 s_good rfl (by first | exact Or.inl rfl | exact Or.inr (Or.inl rfl) | exact Or.inr (Or.inr rfl)) (eo_join eo_str (Eo.u (En.o (en_lc nd (by kernel_rfl) (Io.q (io_v eo_str)) (fun _ _ _ _ _ => (tg_1 (Tn.mk' s_name nd))) (fun v22 => fun _ _ _ _ _ => ts_nil) (fun v22 => fun _ _ _ _ _ => (eo_bin of_add (Eo.u (eo_bin of_add (Eo.u eo_str) (Eo.u (eo_v s_name)))) (Eo.u eo_str))) (by kernel_rfl))))) (fun x_good23 => ?_)
  refine so_for (fun (s24 : Unit) => [.val a_script, .val x_number1, .own x_bad18, .un, .own x_good23, .un, .un, .un, .tab (T.TL)]) (by repeat (first | exact le_nil | apply le_cons | apply le_un)) (io_range n_range eo_int) (fun s24 => (tg_1 (Tn.mk' s_k nd))) (fun s24 v25 => ?_) (fun s24 => ?_)
  · refine so_set 6 nd (eo_ix ru (eu_vo s_bad) (eo_bin of_mod (Eo.u (eo_bin of_add (Eo.u (eo_bin of_div (Eo.u (eo_v s_number)) (Eo.u eo_int))) (Eo.u (eo_bin of_mulT (Eo.u eo_int) (Eo.u (eo_v s_k)))))) (Eo.u (eo_b1 ca_len n_len (eu_vo s_bad))))) (fun x_wrong26 => ?_)
    refine so_ifEM (fun (z30 : Unit) => [.val a_script, .val x_number1, .own x_bad18, .un, .own x_good23, .val v25, .val x_wrong26, .un, .tab (T.TL)]) (emT_cmp (fun (z28 : Unit) => [.val a_script, .val x_number1, .own x_bad18, .un, .own x_good23, .val v25, .val x_wrong26, .un, .tab (T.TL)]) (cm_ne ru) (em_lam 8 (k := 6) (cls := .ref T.C_NoText) L__law_told (lamOk_r T.xm_NoText_HostError) tB_ rfl hm_ hu_ (hr.mono (by decide)) (fun A outer sh H E f c hr tk => have ru := A65.of hr; emx_of (ex_call tk c_read (hr.mono (by decide)) (ao_cons (eo_v s_wrong) ao_nil))) (LamX.lamS_by (by kernel_rfl)) rfl (one_last (ρ := [.val a_script, .val x_number1, .own x_bad18, .un, .own x_good23, .val v25, .val x_wrong26, .un]) rfl)) (fun q27 => (em_o () (eo_tup (ao_cons eo_str (ao_cons eo_bl ao_nil))) (by repeat (first | exact le_nil | apply le_cons | apply le_un))))) (fun q29 => ?_) (fun q29 => ?_)
    · exact so_ret (fun d => (Lp.out d)) eo_bl
    · exact so_go (by repeat (first | exact le_nil | apply le_cons | apply le_un))
  exact so_ret (fun d => d) (eo_cmp (cm_eq ru) (Eo.u (En.o (en_lc nd (by kernel_rfl) (iq_own (eu_vo s_good)) (fun _ _ _ _ _ => (tg_1 (Tn.mk' s_text nd))) (fun v31 => fun _ _ _ _ _ => (ts_one (et_cmpF (cm_ne ru) (Eo.u (eo_c1 c_written (hr.mono (by decide)) (eo_callX c_read (hr.mono (by decide)) (ao_cons (eo_v s_text) ao_nil)))) (Eo.u (eo_v s_text))))) (fun v31 => fun _ _ _ _ _ => (eo_v s_text)) (by kernel_rfl)))) (Eo.u (En.o (en_lst ao_nil))))
end
def d__law_cell_at : He.DefD := ⟨("_law_cell_at", none), "_law_cell_at", "_law_cell_at", defArgs (top 37), defBody (top 37), defScope (top 37), [], []⟩
def d__law_mixed : He.DefD := ⟨("_law_mixed", none), "_law_mixed", "_law_mixed", defArgs (top 38), defBody (top 38), defScope (top 38), [], []⟩
def d__law_told : He.DefD := ⟨("_law_told", none), "_law_told", "_law_told", defArgs (top 39), defBody (top 39), defScope (top 39), [], []⟩
def d_need : He.DefD := ⟨("need", none), "need", "need", defArgs (top 31), defBody (top 31), defScope (top 31), [], []⟩
def d_number_in : He.DefD := ⟨("number_in", none), "number_in", "number_in", defArgs (top 32), defBody (top 32), defScope (top 32), [], []⟩
def d_numbers_in : He.DefD := ⟨("numbers_in", none), "numbers_in", "numbers_in", defArgs (top 33), defBody (top 33), defScope (top 33), [], []⟩
def d_put_row : He.DefD := ⟨("put_row", none), "put_row", "put_row", defArgs (top 34), defBody (top 34), defScope (top 34), [], []⟩
def d_are_rising : He.DefD := ⟨("are_rising", none), "are_rising", "are_rising", defArgs (top 15), defBody (top 15), defScope (top 15), [], []⟩
def d_are_tuples : He.DefD := ⟨("are_tuples", none), "are_tuples", "are_tuples", defArgs (top 14), defBody (top 14), defScope (top 14), [], []⟩
def d_is_name : He.DefD := ⟨("is_name", none), "is_name", "is_name", defArgs (top 12), defBody (top 12), defScope (top 12), [], []⟩
def d_is_whole : He.DefD := ⟨("is_whole", none), "is_whole", "is_whole", defArgs (top 13), defBody (top 13), defScope (top 13), [], []⟩
def d_are_faces : He.DefD := ⟨("are_faces", none), "are_faces", "are_faces", defArgs (top 16), defBody (top 16), defScope (top 16), [], []⟩
def d_is_want : He.DefD := ⟨("is_want", none), "is_want", "is_want", defArgs (top 17), defBody (top 17), defScope (top 17), [], []⟩
def d_are_wants : He.DefD := ⟨("are_wants", none), "are_wants", "are_wants", defArgs (top 18), defBody (top 18), defScope (top 18), [], []⟩
def d_is_deed : He.DefD := ⟨("is_deed", none), "is_deed", "is_deed", defArgs (top 19), defBody (top 19), defScope (top 19), [], []⟩
def d_are_hooks : He.DefD := ⟨("are_hooks", none), "are_hooks", "are_hooks", defArgs (top 20), defBody (top 20), defScope (top 20), [], []⟩
def d_is_part : He.DefD := ⟨("is_part", none), "is_part", "is_part", defArgs (top 21), defBody (top 21), defScope (top 21), [], []⟩
def d_is_house : He.DefD := ⟨("is_house", none), "is_house", "is_house", defArgs (top 22), defBody (top 22), defScope (top 22), [], []⟩
def d_part_rows : He.DefD := ⟨("part_rows", none), "part_rows", "part_rows", defArgs (top 25), defBody (top 25), defScope (top 25), [], []⟩
def d_written : He.DefD := ⟨("written", none), "written", "written", defArgs (top 26), defBody (top 26), defScope (top 26), [], []⟩
def d_read : He.DefD := ⟨("read", none), "read", "read", defArgs (top 35), defBody (top 35), defScope (top 35), [], []⟩
def d_law : He.DefD := ⟨("law", none), "law", "law", defArgs (top 40), defBody (top 40), defScope (top 40), [], []⟩
def fn : List He.DefD := [d__law_cell_at, d__law_mixed, d__law_told, d_need, d_number_in, d_numbers_in, d_put_row, d_are_rising, d_are_tuples, d_is_name, d_is_whole, d_are_faces, d_is_want, d_are_wants, d_is_deed, d_are_hooks, d_is_part, d_is_house, d_part_rows, d_written, d_read, d_law]
def fa : List He.Fa := [.glo "_law_cell_at", .glo "_law_mixed", .glo "_law_told", .glo "need", .glo "number_in", .glo "numbers_in", .glo "put_row", .glo "are_rising", .glo "are_tuples", .glo "is_name", .glo "is_whole", .glo "are_faces", .glo "is_want", .glo "are_wants", .glo "is_deed", .glo "are_hooks", .glo "is_part", .glo "is_house", .glo "part_rows", .glo "written", .glo "read", .glo "law", .free "len", .free "isinstance", .free "int", .free "all", .free "tuple", .free "zip", .free "str", .free "bool", .free "set", .free "list", .free "range", .free "ValueError", .int "MOST_FIGURES" 3, .str "FIGURES" "0123456789", .int "MOST_EACH" 3, .int "LONGEST" 5, .str "LETTERS" "abcdefghijklmnopqrstuvwxyz", .int "MOST_MAKE" 9, .glo "WITH_WORTH", .int "RING" 1000, .int "MOST_RANK" 9, .int "MOST_PARTS" 6, .str "ROW_END" "\n", .glo "SIZES", .glo "NoText", .glo "HostError", .exc "NoText", .exm "NoText" "HostError" true]
def tf : List He.Defn := [("law", none)]
def ts : List He.Tab := [(fun K => He.ga K "SIZES", ["part", "face", "must", "may"])]
def ex : PySem.W.Frag → Bool := fun K => (tupIn K "WITH_WORTH" (["plus", "times", "set", "fail"] : List Str) && (tabKB K (He.ga K "SIZES") kv_SIZES && (isCB K (He.ga K "NoText") && true)))
abbrev R : PySem.W.OpenRow := PySem.W.OpenLaw.row PySem.Challenge.rw_parthost_k04_whole_nothing_else_read
abbrev hk : PySem.W.Hook := He.hookX 4 fa fn ts tf ex
def ob (s : PySem.W.SharedT) : He.AlX := He.obsX 4 fa fn ts tf ex (HandSHeadRun.getT s)
theorem ob_eq (s : PySem.W.SharedT) : ob s = hk.obs s.abs := He.obsX_eq (HandSHeadRun.getT_eq s)
def wOf (w : World) (b : Bool) : World := { w with params := { w.params with followText := fun row => match decide (row = "special-get-raises") with | true => b | false => w.params.followText row } }
theorem wOf_eq (w : World) : wOf w (w.params.followText "special-get-raises") = w := by
  have hf : (fun row => match decide (row = "special-get-raises") with | true => w.params.followText "special-get-raises" | false => w.params.followText row) = w.params.followText := by
    funext row
    by_cases h : row = "special-get-raises"
    · subst h; simp
    · simp [h]
  unfold wOf
  rw [hf]
set_option maxHeartbeats 0 in
theorem run (w : World) : HandSHeadRun.RunEq R (PySem.W.view R.prog [40]) hk ob 4000 ((["is_name", "is_whole", "are_tuples", "are_rising", "are_faces", "is_want", "are_wants", "is_deed", "are_hooks", "is_part", "is_house", "part_rows", "written", "need", "number_in", "numbers_in", "put_row", "read", "_law_cell_at", "_law_mixed"] : List Str) ++ (["_law_told", "LETTERS", "LONGEST", "MOST_MAKE", "MOST_RANK", "RING", "MOST_EACH", "MOST_PARTS", "WITH_WORTH", "ROW_END", "FIGURES", "MOST_FIGURES", "SIZES", "HostError", "NoText"] : List Str)) w := by
  have k : ∀ b, HandSHeadRun.RunEq R (PySem.W.view R.prog [40]) hk ob 4000 ((["is_name", "is_whole", "are_tuples", "are_rising", "are_faces", "is_want", "are_wants", "is_deed", "are_hooks", "is_part", "is_house", "part_rows", "written", "need", "number_in", "numbers_in", "put_row", "read", "_law_cell_at", "_law_mixed"] : List Str) ++ (["_law_told", "LETTERS", "LONGEST", "MOST_MAKE", "MOST_RANK", "RING", "MOST_EACH", "MOST_PARTS", "WITH_WORTH", "ROW_END", "FIGURES", "MOST_FIGURES", "SIZES", "HostError", "NoText"] : List Str)) (wOf w b) := by
    intro b os
    cases b <;> kernel_rfl
  exact wOf_eq w ▸ k _
theorem facts {P : Program} {w : World} {K : PySem.W.Frag} {h : Heap} {mg : Str → Option Value} {f : Addr} (X : K.In h) (G : h.Ns mainGlobals mg) (hfa : mg ("law" : Str) = some (.ref f)) (cx : He.SaysX fa fn ts tf ex w h K) :
    ∃ fd : FuncData, (∀ (s : Shared) (v : Value), BindsTo s fd ⟨[v], []⟩ [("script", v)]) ∧ ∀ base : Heap, K.In base → base.Ns mainGlobals mg → (∀ p ∈ tf.map (He.cT K), LamX.TabB base mg p.1 p.2) → FnOk P w K mg base CX0 9 f fd ["script"] (SpDT K (tlOf K tf) m_law_K04) := by
  have c := cx.t.d
  obtain ⟨fd__law_cell_at, F__law_cell_at⟩ := c.def_ 0 (d := d__law_cell_at) rfl
  obtain ⟨fd__law_mixed, F__law_mixed⟩ := c.def_ 1 (d := d__law_mixed) rfl
  obtain ⟨fd__law_told, F__law_told⟩ := c.def_ 2 (d := d__law_told) rfl
  obtain ⟨fd_need, F_need⟩ := c.def_ 3 (d := d_need) rfl
  obtain ⟨fd_number_in, F_number_in⟩ := c.def_ 4 (d := d_number_in) rfl
  obtain ⟨fd_numbers_in, F_numbers_in⟩ := c.def_ 5 (d := d_numbers_in) rfl
  obtain ⟨fd_put_row, F_put_row⟩ := c.def_ 6 (d := d_put_row) rfl
  obtain ⟨fd_are_rising, F_are_rising⟩ := c.def_ 7 (d := d_are_rising) rfl
  obtain ⟨fd_are_tuples, F_are_tuples⟩ := c.def_ 8 (d := d_are_tuples) rfl
  obtain ⟨fd_is_name, F_is_name⟩ := c.def_ 9 (d := d_is_name) rfl
  obtain ⟨fd_is_whole, F_is_whole⟩ := c.def_ 10 (d := d_is_whole) rfl
  obtain ⟨fd_are_faces, F_are_faces⟩ := c.def_ 11 (d := d_are_faces) rfl
  obtain ⟨fd_is_want, F_is_want⟩ := c.def_ 12 (d := d_is_want) rfl
  obtain ⟨fd_are_wants, F_are_wants⟩ := c.def_ 13 (d := d_are_wants) rfl
  obtain ⟨fd_is_deed, F_is_deed⟩ := c.def_ 14 (d := d_is_deed) rfl
  obtain ⟨fd_are_hooks, F_are_hooks⟩ := c.def_ 15 (d := d_are_hooks) rfl
  obtain ⟨fd_is_part, F_is_part⟩ := c.def_ 16 (d := d_is_part) rfl
  obtain ⟨fd_is_house, F_is_house⟩ := c.def_ 17 (d := d_is_house) rfl
  obtain ⟨fd_part_rows, F_part_rows⟩ := c.def_ 18 (d := d_part_rows) rfl
  obtain ⟨fd_written, F_written⟩ := c.def_ 19 (d := d_written) rfl
  obtain ⟨fd_read, F_read⟩ := c.def_ 20 (d := d_read) rfl
  obtain ⟨fd_law, F_law⟩ := c.def_ 21 (d := d_law) rfl
  have m__law_cell_at := He.glo_ok X G (c.fact 0 (f := .glo "_law_cell_at") rfl)
  have m__law_mixed := He.glo_ok X G (c.fact 1 (f := .glo "_law_mixed") rfl)
  have m__law_told := He.glo_ok X G (c.fact 2 (f := .glo "_law_told") rfl)
  have m_need := He.glo_ok X G (c.fact 3 (f := .glo "need") rfl)
  have m_number_in := He.glo_ok X G (c.fact 4 (f := .glo "number_in") rfl)
  have m_numbers_in := He.glo_ok X G (c.fact 5 (f := .glo "numbers_in") rfl)
  have m_put_row := He.glo_ok X G (c.fact 6 (f := .glo "put_row") rfl)
  have m_are_rising := He.glo_ok X G (c.fact 7 (f := .glo "are_rising") rfl)
  have m_are_tuples := He.glo_ok X G (c.fact 8 (f := .glo "are_tuples") rfl)
  have m_is_name := He.glo_ok X G (c.fact 9 (f := .glo "is_name") rfl)
  have m_is_whole := He.glo_ok X G (c.fact 10 (f := .glo "is_whole") rfl)
  have m_are_faces := He.glo_ok X G (c.fact 11 (f := .glo "are_faces") rfl)
  have m_is_want := He.glo_ok X G (c.fact 12 (f := .glo "is_want") rfl)
  have m_are_wants := He.glo_ok X G (c.fact 13 (f := .glo "are_wants") rfl)
  have m_is_deed := He.glo_ok X G (c.fact 14 (f := .glo "is_deed") rfl)
  have m_are_hooks := He.glo_ok X G (c.fact 15 (f := .glo "are_hooks") rfl)
  have m_is_part := He.glo_ok X G (c.fact 16 (f := .glo "is_part") rfl)
  have m_is_house := He.glo_ok X G (c.fact 17 (f := .glo "is_house") rfl)
  have m_part_rows := He.glo_ok X G (c.fact 18 (f := .glo "part_rows") rfl)
  have m_written := He.glo_ok X G (c.fact 19 (f := .glo "written") rfl)
  have m_read := He.glo_ok X G (c.fact 20 (f := .glo "read") rfl)
  have m_law := He.glo_ok X G (c.fact 21 (f := .glo "law") rfl)
  have n_len := He.free_ok X G (c.fact 22 (f := .free "len") rfl)
  have n_isinstance := He.free_ok X G (c.fact 23 (f := .free "isinstance") rfl)
  have n_int := He.free_ok X G (c.fact 24 (f := .free "int") rfl)
  have n_all := He.free_ok X G (c.fact 25 (f := .free "all") rfl)
  have n_tuple := He.free_ok X G (c.fact 26 (f := .free "tuple") rfl)
  have n_zip := He.free_ok X G (c.fact 27 (f := .free "zip") rfl)
  have n_str := He.free_ok X G (c.fact 28 (f := .free "str") rfl)
  have n_bool := He.free_ok X G (c.fact 29 (f := .free "bool") rfl)
  have n_set := He.free_ok X G (c.fact 30 (f := .free "set") rfl)
  have n_list := He.free_ok X G (c.fact 31 (f := .free "list") rfl)
  have n_range := He.free_ok X G (c.fact 32 (f := .free "range") rfl)
  have n_ValueError := He.free_ok X G (c.fact 33 (f := .free "ValueError") rfl)
  have k_MOST_FIGURES := He.int_ok X G (c.fact 34 (f := .int "MOST_FIGURES" 3) rfl)
  have k_FIGURES := He.str_ok X G (c.fact 35 (f := .str "FIGURES" "0123456789") rfl)
  have k_MOST_EACH := He.int_ok X G (c.fact 36 (f := .int "MOST_EACH" 3) rfl)
  have k_LONGEST := He.int_ok X G (c.fact 37 (f := .int "LONGEST" 5) rfl)
  have k_LETTERS := He.str_ok X G (c.fact 38 (f := .str "LETTERS" "abcdefghijklmnopqrstuvwxyz") rfl)
  have k_MOST_MAKE := He.int_ok X G (c.fact 39 (f := .int "MOST_MAKE" 9) rfl)
  have g_WITH_WORTH := He.glo_ok X G (c.fact 40 (f := .glo "WITH_WORTH") rfl)
  have k_RING := He.int_ok X G (c.fact 41 (f := .int "RING" 1000) rfl)
  have k_MOST_RANK := He.int_ok X G (c.fact 42 (f := .int "MOST_RANK" 9) rfl)
  have k_MOST_PARTS := He.int_ok X G (c.fact 43 (f := .int "MOST_PARTS" 6) rfl)
  have k_ROW_END := He.str_ok X G (c.fact 44 (f := .str "ROW_END" "\n") rfl)
  have m_SIZES := He.glo_ok X G (c.fact 45 (f := .glo "SIZES") rfl)
  have m_NoText := He.glo_ok X G (c.fact 46 (f := .glo "NoText") rfl)
  have m_HostError := He.glo_ok X G (c.fact 47 (f := .glo "HostError") rfl)
  have ex_NoText := He.exc_ok (c.fact 48 (f := .exc "NoText") rfl)
  have xm_NoText_HostError := He.exm_ok (c.fact 49 (f := .exm "NoText" "HostError" true) rfl)
  have e := hfa.symm.trans m_law
  cases e
  have mo0 : (tupIn K "WITH_WORTH" (["plus", "times", "set", "fail"] : List Str) && (tabKB K (He.ga K "SIZES") kv_SIZES && (isCB K (He.ga K "NoText") && true))) = true := cx.more
  obtain ⟨tu_WITH_WORTH, mo1⟩ := Bool.and_eq_true_iff.mp mo0
  obtain ⟨tk_SIZES, mo2⟩ := Bool.and_eq_true_iff.mp mo1
  obtain ⟨isc_NoText, mo3⟩ := Bool.and_eq_true_iff.mp mo2
  have b := FunD.bindsA (ps := ["script"]) F_law fun _ _ _ _ _ _ us hl => match us, hl with | [_], _ => rfl
  refine ⟨fd_law, fun s v => b s [v] rfl, fun base _ _ tb => ?_⟩
  exact ok_law (P := P) (w := w) (base := base) ⟨_,
    m_NoText,
    _,
    m_HostError,
    ex_NoText,
    xm_NoText_HostError,
    isC_of isc_NoText,
    _,
    fd__law_cell_at,
    F__law_cell_at,
    FunD.bindsN (ps := ["script", "k"]) F__law_cell_at fun _ _ _ _ _ _ us hl => match us, hl with | [_, _], _ => rfl,
    m__law_cell_at,
    _,
    fd__law_mixed,
    F__law_mixed,
    FunD.bindsN (ps := ["script", "k"]) F__law_mixed fun _ _ _ _ _ _ us hl => match us, hl with | [_, _], _ => rfl,
    m__law_mixed,
    _,
    fd__law_told,
    F__law_told,
    FunD.bindsN (ps := ["deed"]) F__law_told fun _ _ _ _ _ _ us hl => match us, hl with | [_], _ => rfl,
    m__law_told,
    _,
    fd_need,
    F_need,
    FunD.bindsN (ps := ["good"]) F_need fun _ _ _ _ _ _ us hl => match us, hl with | [_], _ => rfl,
    m_need,
    _,
    fd_number_in,
    F_number_in,
    FunD.bindsN (ps := ["word"]) F_number_in fun _ _ _ _ _ _ us hl => match us, hl with | [_], _ => rfl,
    m_number_in,
    _,
    fd_numbers_in,
    F_numbers_in,
    FunD.bindsN (ps := ["words"]) F_numbers_in fun _ _ _ _ _ _ us hl => match us, hl with | [_], _ => rfl,
    m_numbers_in,
    _,
    fd_put_row,
    F_put_row,
    FunD.bindsN (ps := ["parts", "words"]) F_put_row fun _ _ _ _ _ _ us hl => match us, hl with | [_, _], _ => rfl,
    m_put_row,
    _,
    fd_are_rising,
    F_are_rising,
    FunD.bindsN (ps := ["some"]) F_are_rising fun _ _ _ _ _ _ us hl => match us, hl with | [_], _ => rfl,
    m_are_rising,
    _,
    fd_are_tuples,
    F_are_tuples,
    FunD.bindsN (ps := ["thing", "size"]) F_are_tuples fun _ _ _ _ _ _ us hl => match us, hl with | [_, _], _ => rfl,
    m_are_tuples,
    _,
    fd_is_name,
    F_is_name,
    FunD.bindsN (ps := ["thing"]) F_is_name fun _ _ _ _ _ _ us hl => match us, hl with | [_], _ => rfl,
    m_is_name,
    _,
    fd_is_whole,
    F_is_whole,
    FunD.bindsN (ps := ["thing", "low", "high"]) F_is_whole fun _ _ _ _ _ _ us hl => match us, hl with | [_, _, _], _ => rfl,
    m_is_whole,
    _,
    fd_are_faces,
    F_are_faces,
    FunD.bindsN (ps := ["thing"]) F_are_faces fun _ _ _ _ _ _ us hl => match us, hl with | [_], _ => rfl,
    m_are_faces,
    _,
    fd_is_want,
    F_is_want,
    FunD.bindsN (ps := ["thing"]) F_is_want fun _ _ _ _ _ _ us hl => match us, hl with | [_], _ => rfl,
    m_is_want,
    _,
    fd_are_wants,
    F_are_wants,
    FunD.bindsN (ps := ["thing"]) F_are_wants fun _ _ _ _ _ _ us hl => match us, hl with | [_], _ => rfl,
    m_are_wants,
    _,
    fd_is_deed,
    F_is_deed,
    FunD.bindsN (ps := ["thing"]) F_is_deed fun _ _ _ _ _ _ us hl => match us, hl with | [_], _ => rfl,
    m_is_deed,
    _,
    fd_are_hooks,
    F_are_hooks,
    FunD.bindsN (ps := ["thing"]) F_are_hooks fun _ _ _ _ _ _ us hl => match us, hl with | [_], _ => rfl,
    m_are_hooks,
    _,
    fd_is_part,
    F_is_part,
    FunD.bindsN (ps := ["thing"]) F_is_part fun _ _ _ _ _ _ us hl => match us, hl with | [_], _ => rfl,
    m_is_part,
    _,
    fd_is_house,
    F_is_house,
    FunD.bindsN (ps := ["thing"]) F_is_house fun _ _ _ _ _ _ us hl => match us, hl with | [_], _ => rfl,
    m_is_house,
    _,
    fd_part_rows,
    F_part_rows,
    FunD.bindsN (ps := ["part"]) F_part_rows fun _ _ _ _ _ _ us hl => match us, hl with | [_], _ => rfl,
    m_part_rows,
    _,
    fd_written,
    F_written,
    FunD.bindsN (ps := ["house"]) F_written fun _ _ _ _ _ _ us hl => match us, hl with | [_], _ => rfl,
    m_written,
    _,
    fd_read,
    F_read,
    FunD.bindsN (ps := ["text"]) F_read fun _ _ _ _ _ _ us hl => match us, hl with | [_], _ => rfl,
    m_read,
    _,
    fd_law,
    F_law,
    FunD.bindsN (ps := ["script"]) F_law fun _ _ _ _ _ _ us hl => match us, hl with | [_], _ => rfl,
    m_law,
    n_len,
    n_isinstance,
    n_int,
    n_all,
    n_tuple,
    n_zip,
    n_str,
    n_bool,
    n_set,
    n_list,
    n_range,
    n_ValueError,
    k_MOST_FIGURES,
    k_FIGURES,
    k_MOST_EACH,
    k_LONGEST,
    k_LETTERS,
    k_MOST_MAKE,
    ⟨_, g_WITH_WORTH, fun H => tupIn_ok tu_WITH_WORTH H⟩,
    k_RING,
    k_MOST_RANK,
    k_MOST_PARTS,
    k_ROW_END,
    _, m_SIZES, ktab_of (cx.t.tab 0) tk_SIZES,
    _,
    code_of F_law,
    (He.cT K ("law", none)).2⟩ ⟨tb _ (List.mem_map_of_mem (f := He.cT K) (show (("law", none) : He.Defn) ∈ tf by simp [tf]))⟩
end DL.K04
open PySem PySem.W PySem.Calls PyProof.Rows
set_option maxHeartbeats 0 in
set_option maxRecDepth 100000 in
theorem PySem.Challenge.cw_parthost_k04_whole_nothing_else_read_holds : PySem.Challenge.rw_parthost_k04_whole_nothing_else_read.Holds := by
  w_on; o_law
  refine HandSHeadRun.head_any (r := OpenLaw.row PySem.Challenge.rw_parthost_k04_whole_nothing_else_read) (q := view (OpenLaw.row PySem.Challenge.rw_parthost_k04_whole_nothing_else_read).prog [40]) (H := DL.K04.hk) (ob := DL.K04.ob) (M := 4000) (loose := ((["is_name", "is_whole", "are_tuples", "are_rising", "are_faces", "is_want", "are_wants", "is_deed", "are_hooks", "is_part", "is_house", "part_rows", "written", "need", "number_in", "numbers_in", "put_row", "read", "_law_cell_at", "_law_mixed"] : List Str) ++ (["_law_told", "LETTERS", "LONGEST", "MOST_MAKE", "MOST_RANK", "RING", "MOST_EACH", "MOST_PARTS", "WITH_WORTH", "ROW_END", "FIGURES", "MOST_FIGURES", "SIZES", "HostError", "NoText"] : List Str))) (d := HandSHeadRun.topDef (OpenLaw.row PySem.Challenge.rw_parthost_k04_whole_nothing_else_read).prog 40) (kwd := []) DL.K04.ob_eq
    (by kernel_rfl) (fun s => by kernel_rfl) DL.K04.run (by kernel_rfl) (by kernel_rfl) (by kernel_rfl) (by rfl) (by first | assumption | decide +kernel) (by decide +kernel) ⟨rfl, rfl, rfl, rfl, rfl, by decide +kernel⟩ ?hw ?hc
  case hw => w_witness2
  case hc =>
    refine LamX.walk_ofTsE (l := PySem.Challenge.rw_parthost_k04_whole_nothing_else_read) (n := 63) (k := 9) (x := "script") (CX := fun _ => L2.CX0) rfl (by decide) (by kernel_rfl) ⟨rfl, by decide, by decide⟩ ?F (fun _ _ _ _ _ z => z)
    intro w mg fa h Y G hmg0
    obtain ⟨K, KX, c⟩ := Y
    have hmg : mg ("law" : PySem.Str) = some (.ref fa) := by
      have e : (HandSHeadRun.topDef (OpenLaw.row PySem.Challenge.rw_parthost_k04_whole_nothing_else_read).prog 40).name = ("law" : PySem.Str) := by kernel_rfl
      rw [← e]
      exact hmg0
    obtain ⟨fd, hb, hF⟩ := DL.K04.facts (P := (PySem.Challenge.rw_parthost_k04_whole_nothing_else_read).prog) (w := w) KX G hmg c
    refine ⟨K, KX, fd, DL.K04.tf.map (He.cT K), DL.SpDT K (DL.tlOf K DL.K04.tf) DL.m_law_K04, fun p hp => ?_, fun p hp => ?_, fun p hp => ?_, hb, fun H a ns hl _ hT hS => DL.law_inT (DL.tabs_tl hT) hS (DL.law_K04 ns hl), hF⟩
    · obtain ⟨d, hd, rfl⟩ := List.mem_map.mp hp
      exact c.empty d hd
    · obtain ⟨d, hd, rfl⟩ := List.mem_map.mp hp
      exact c.out d hd
    · obtain ⟨d, hd, rfl⟩ := List.mem_map.mp hp
      exact PySem.W.codeHd_of_K KX (c.hd d hd)

