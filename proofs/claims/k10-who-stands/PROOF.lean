import PyProof.Rows.All
import Wide.All
import OpenK.AllK
import Wide.FinOn
import KE.KStateDown
import Lean
import HandS.ForMost
import HandS.More
import HandS.WordsExc
import HandS.Defaults
import HandS.Flow
import HandS.Deep
import HandS.Walk
import HandS.TupAny
import HandS.TupLe
import HandS.TupMul
import HandS.Style
import HandS.Zip
import KE.GoesEnum
import KE.KDictPairs
import KE.SortCalls
import HandS.Head0
import HandS.Head1
import HandS.Head2
import HandS.HeadEnd
import HandS.HeadHook1
import HandS.HeadHook2
import PySem.Challenge.RW_parthost_k10_who_stands
set_option Elab.async false
set_option linter.all false
set_option maxRecDepth 100000
set_option maxHeartbeats 4000000
set_option autoImplicit false
/-! The data layer: what an expression, a statement comes to, as plain data. -/
namespace DL
open PySem PySem.Spec PyProof.Rows L2

abbrev D := PyData

/-! ### stable heaps -/
/-- what can never change is as it was -/
def Stb (H H' : Hp) : Prop := (∀ b xs, H b = some (.tup xs) → H' b = some (.tup xs)) ∧ ∀ b o u, H b = some (.frz o u) → H' b = some (.frz o u)
theorem Stb.refl (H : Hp) : Stb H H := ⟨fun _ _ h => h, fun _ _ _ h => h⟩
theorem Stb.trans {H H1 H2 : Hp} (a : Stb H H1) (b : Stb H1 H2) : Stb H H2 := ⟨fun c xs h => b.1 c xs (a.1 c xs h), fun c o u h => b.2 c o u (a.2 c o u h)⟩
theorem Stb.of {H H' : Hp} (s : Same H H') : Stb H H' := ⟨fun b xs h => s b _ h, fun b o u h => s b _ h⟩
theorem same_new {H : Hp} {p : Addr} {o : HO} (h : H p = none) : Same H (upd H p o) := fun b x e => by
  rw [upd_ne (ne_of_none e h)]
  exact e
theorem same_mut {H H' : Hp} {p : Addr} {o : HO} (e : Same H H') (h : H p = none) : Same H (upd H' p o) := fun b x q => by
  rw [upd_ne (ne_of_none q h)]
  exact e b x q
/-- a thing that may change is changed -/
theorem stb_upd {H : Hp} {p : Addr} {u o : HO} (h : H p = some u) (mu : Mut (some u)) : Stb H (upd H p o) := by
  refine ⟨fun b xs e => ?_, fun b ob x e => ?_⟩
  · rw [upd_ne (fun z => by subst z; rw [h] at e; cases e; exact mu)]; exact e
  · rw [upd_ne (fun z => by subst z; rw [h] at e; cases e; exact mu)]; exact e
theorem stb_new {H : Hp} {p : Addr} {o : HO} (h : H p = none) : Stb H (upd H p o) := .of (same_new h)

/-! ### a value stands for a datum, for ever -/
/-- a tuple without a dict of its own -/
def PlT (K : PySem.W.Frag) (H : Hp) (a : Addr) (xs : List V) : Prop := (∃ o, H a = some (.frz o (.tup xs)) ∧ o.dict = none) ∨
  ∃ (o : Obj) (its : Array Value) (n : Nat), K.lookup a = some o ∧ o.cls = .type "tuple" ∧ o.dict = none ∧ o.data = .seq its n ∧ its.size ≤ sizeLine ∧ Vals xs its.toList
theorem PlT.sq {K : PySem.W.Frag} {H : Hp} {a : Addr} {xs : List V} (h : PlT K H a xs) : SqT K H a xs := by
  rcases h with ⟨o, h, _⟩ | ⟨o, its, n, h1, h2, _, h3, h4, h5⟩
  · exact .inl (.inr ⟨o, h⟩)
  · exact .inr ⟨o, its, n, h1, h2, h3, h4, h5⟩
theorem PlT.stb {K : PySem.W.Frag} {H H' : Hp} {a : Addr} {xs : List V} (s : Stb H H') (h : PlT K H a xs) : PlT K H' a xs := by
  rcases h with ⟨o, h, q⟩ | h
  · exact .inl ⟨o, s.2 _ _ _ h, q⟩
  · exact .inr h
/-- a list that never changes -/
def FzL (K : PySem.W.Frag) (H : Hp) (a : Addr) (xs : List V) : Prop := (∃ o, H a = some (.frz o (.lst xs))) ∨
  ∃ (o : Obj) (its : Array Value) (n : Nat), K.lookup a = some o ∧ o.cls = .type "list" ∧ o.dict = none ∧ o.data = .seq its n ∧ its.size ≤ sizeLine ∧ Vals xs its.toList
theorem FzL.sq {K : PySem.W.Frag} {H : Hp} {a : Addr} {xs : List V} (h : FzL K H a xs) : SqL K H a xs := by
  rcases h with ⟨o, h⟩ | h
  · exact .inl (.inr ⟨o, h⟩)
  · exact .inr h
theorem FzL.stb {K : PySem.W.Frag} {H H' : Hp} {a : Addr} {xs : List V} (s : Stb H H') (h : FzL K H a xs) : FzL K H' a xs := by
  rcases h with ⟨o, h⟩ | h
  · exact .inl ⟨o, s.2 _ _ _ h⟩
  · exact .inr h
/-- a new tuple is laid -/
theorem inv_tup {X : Cx} {pins : List (Addr × Obj)} {σ : L2.St} {H : Hp} {s : Shared} {h' : Heap} {t' : Nat} {p : Addr} {o : Obj} {xs : List V} {us : List Value} {n : Nat} (I : Inv X pins σ H s) (k : ∀ b u, s.heap.get? b = some u → h'.get? b = some u) (hp : s.heap.objs.size ≤ p) (e : h'.get? p = some o) (hc : o.cls = .type "tuple") (hd : o.data = .seq us.toArray n) (r : Vals xs us) (z : xs.length ≤ sizeLine) :
    Inv X pins σ (upd H p (.frz o (.tup xs))) { s with heap := h', toks := t' } := I.laid k hp ⟨e, z, us, r, ⟨o, e, hc, n, hd⟩⟩
theorem inv_pl {X : Cx} {pins : List (Addr × Obj)} {σ : L2.St} {H : Hp} {s : Shared} {a : Addr} {xs : List V} (I : Inv X pins σ H s) (h : PlT X.K H a xs) : ∃ (o : Obj) (its : List Value) (n : Nat), s.heap.get? a = some o ∧ o.cls = .type "tuple" ∧ o.dict = none ∧ o.data = .seq its.toArray n ∧ Vals xs its ∧ xs.length ≤ sizeLine := by
  rcases h with ⟨o, h, q⟩ | ⟨o, its, n, h1, h2, h3, h4, h5, h6⟩
  · obtain ⟨e, z, its, r, ⟨o', e', hc, n, hd⟩⟩ := I.hok a _ h
    rw [e] at e'
    cases e'
    exact ⟨o, its, n, e, hc, q, hd, r, z⟩
  · refine ⟨o, its.toList, n, I.kIn a o h1, h2, h3, by simpa using h4, h6, ?_⟩
    have e := h6.length
    simp only [Array.length_toList] at e
    omega
mutual
inductive Rp (K : PySem.W.Frag) (H : Hp) : V → D → Prop
  | non : Rp K H .non .none
  | bl (b : Bool) : Rp K H (.bl b) (.bool b)
  | int (i : Int) : Rp K H (.int i) (.int i)
  | str (x : Str) : Rp K H (.str x) (.str x)
  | tup {a : Addr} {xs : List V} {ds : List D} : PlT K H a xs → RpAll K H xs ds → Rp K H (.ref a) (.tuple ds)
  | lst {a : Addr} {xs : List V} {ds : List D} : FzL K H a xs → RpAll K H xs ds → Rp K H (.ref a) (.list ds)
  | dct {a : Addr} {o : Obj} {kvs : List (Key × V)} {es : List (D × D)} : H a = some (.frz o (.dK kvs)) → RpKV K H kvs es → Rp K H (.ref a) (.dict es)
inductive RpAll (K : PySem.W.Frag) (H : Hp) : List V → List D → Prop
  | nil : RpAll K H [] []
  | cons {v : V} {vs : List V} {d : D} {ds : List D} : Rp K H v d → RpAll K H vs ds → RpAll K H (v :: vs) (d :: ds)
inductive RpKV (K : PySem.W.Frag) (H : Hp) : List (Key × V) → List (D × D) → Prop
  | nil : RpKV K H [] []
  | int {i : Int} {v : V} {vs : List (Key × V)} {d : D} {ds : List (D × D)} : Rp K H v d → RpKV K H vs ds → RpKV K H ((.inl i, v) :: vs) ((.int i, d) :: ds)
  | str {x : Str} {v : V} {vs : List (Key × V)} {d : D} {ds : List (D × D)} : Rp K H v d → RpKV K H vs ds → RpKV K H ((.inr x, v) :: vs) ((.str x, d) :: ds)
end
section
variable {K : PySem.W.Frag} {H H' : Hp}
theorem sqT_stb {a : Addr} {xs : List V} (s : Stb H H') (h : SqT K H a xs) : SqT K H' a xs := by
  rcases h with (h | ⟨o, h⟩) | h
  · exact .inl (.inl (s.1 _ _ h))
  · exact .inl (.inr ⟨o, s.2 _ _ _ h⟩)
  · exact .inr h
mutual
theorem Rp.mono (s : Stb H H') : ∀ {v : V} {d : D}, Rp K H v d → Rp K H' v d
  | _, _, .non => .non
  | _, _, .bl b => .bl b
  | _, _, .int i => .int i
  | _, _, .str x => .str x
  | _, _, .tup h a => .tup (h.stb s) (RpAll.mono s a)
  | _, _, .lst h a => .lst (h.stb s) (RpAll.mono s a)
  | _, _, .dct h a => .dct (s.2 _ _ _ h) (RpKV.mono s a)
theorem RpAll.mono (s : Stb H H') : ∀ {vs : List V} {ds : List D}, RpAll K H vs ds → RpAll K H' vs ds
  | _, _, .nil => .nil
  | _, _, .cons h t => .cons (Rp.mono s h) (RpAll.mono s t)
theorem RpKV.mono (s : Stb H H') : ∀ {vs : List (Key × V)} {ds : List (D × D)}, RpKV K H vs ds → RpKV K H' vs ds
  | _, _, .nil => .nil
  | _, _, .int h t => .int (Rp.mono s h) (RpKV.mono s t)
  | _, _, .str h t => .str (Rp.mono s h) (RpKV.mono s t)
end
theorem RpAll.length : ∀ {vs : List V} {ds : List D}, RpAll K H vs ds → vs.length = ds.length
  | _, _, .nil => rfl
  | _, _, .cons _ t => congrArg (· + 1) (RpAll.length t)
theorem RpAll.append : ∀ {vs ws : List V} {ds es : List D}, RpAll K H vs ds → RpAll K H ws es → RpAll K H (vs ++ ws) (ds ++ es)
  | _, _, _, _, .nil, s => s
  | _, _, _, _, .cons h t, s => .cons h (RpAll.append t s)
theorem RpAll.get : ∀ {vs : List V} {ds : List D} {i : Nat} {d : D}, RpAll K H vs ds → ds[i]? = some d → ∃ v, vs[i]? = some v ∧ Rp K H v d
  | _, _, _, _, .nil, e => by simp at e
  | _, _, 0, _, .cons h _, e => by simp at e; subst e; exact ⟨_, rfl, h⟩
  | _, _, i + 1, d, .cons _ t, e => by
    obtain ⟨v, h1, h2⟩ := RpAll.get (i := i) (d := d) t (by simpa using e)
    exact ⟨v, by simpa using h1, h2⟩
theorem RpAll.got : ∀ {vs : List V} {ds : List D} {i : Nat} {v : V}, RpAll K H vs ds → vs[i]? = some v → ∃ d, ds[i]? = some d ∧ Rp K H v d
  | _, _, _, _, .nil, e => by simp at e
  | _, _, 0, _, .cons h _, e => by simp at e; subst e; exact ⟨_, rfl, h⟩
  | _, _, i + 1, v, .cons _ t, e => by
    obtain ⟨d, h1, h2⟩ := RpAll.got (i := i) (v := v) t (by simpa using e)
    exact ⟨d, by simpa using h1, h2⟩
theorem RpAll.take : ∀ {vs : List V} {ds : List D} (n : Nat), RpAll K H vs ds → RpAll K H (vs.take n) (ds.take n)
  | _, _, 0, _ => .nil
  | _, _, _ + 1, .nil => .nil
  | _, _, n + 1, .cons h t => .cons h (RpAll.take n t)
theorem RpAll.drop : ∀ {vs : List V} {ds : List D} (n : Nat), RpAll K H vs ds → RpAll K H (vs.drop n) (ds.drop n)
  | _, _, 0, r => r
  | _, _, _ + 1, .nil => .nil
  | _, _, n + 1, .cons _ t => RpAll.drop n t
theorem RpAll.reverse : ∀ {vs : List V} {ds : List D}, RpAll K H vs ds → RpAll K H vs.reverse ds.reverse
  | _, _, .nil => .nil
  | _, _, .cons h t => by
    rw [List.reverse_cons, List.reverse_cons]
    exact (RpAll.reverse t).append (.cons h .nil)
theorem RpAll.dropLast {vs : List V} {ds : List D} (h : RpAll K H vs ds) : RpAll K H vs.dropLast ds.dropLast := by
  rw [List.dropLast_eq_take, List.dropLast_eq_take, h.length]
  exact h.take _
theorem RpAll.of_paired : ∀ {vs : List V} {ds : List D}, Paired (Rp K H) vs ds → RpAll K H vs ds
  | _, _, .nil => .nil
  | _, _, .cons h t => .cons h (RpAll.of_paired t)
theorem RpAll.paired : ∀ {vs : List V} {ds : List D}, RpAll K H vs ds → Paired (Rp K H) vs ds
  | _, _, .nil => .nil
  | _, _, .cons h t => .cons h (RpAll.paired t)
theorem RpAll.perm {vs ws : List V} (p : vs.Perm ws) : ∀ {ds : List D}, RpAll K H vs ds → ∃ es, ds.Perm es ∧ RpAll K H ws es := by
  induction p with
  | nil => intro ds h; cases h; exact ⟨[], .nil, .nil⟩
  | cons x _ ih =>
    intro ds h
    cases h with
    | cons h t =>
      obtain ⟨es, p1, r⟩ := ih t
      exact ⟨_, p1.cons _, .cons h r⟩
  | swap x y l =>
    intro ds h
    cases h with
    | cons h t =>
      cases t with
      | cons h2 t => exact ⟨_, .swap _ _ _, .cons h2 (.cons h t)⟩
  | trans _ _ ih1 ih2 =>
    intro ds h
    obtain ⟨es, p1, r1⟩ := ih1 h
    obtain ⟨fs, p2, r2⟩ := ih2 r1
    exact ⟨fs, p1.trans p2, r2⟩

/-! ### a value that can be read as a datum now: it is one, or a list, a dict of one's own -/
inductive Rq (K : PySem.W.Frag) (H : Hp) : V → D → Prop
  | of {v : V} {d : D} : Rp K H v d → Rq K H v d
  | own {a : Addr} {xs : List V} {ds : List D} : H a = some (.lst xs) → RpAll K H xs ds → Rq K H (.ref a) (.list ds)
  | dct {a : Addr} {kvs : List (Key × V)} {es : List (D × D)} : H a = some (.dK kvs) → RpKV K H kvs es → Rq K H (.ref a) (.dict es)
theorem Rq.mono (s : Same H H') {v : V} {d : D} : Rq K H v d → Rq K H' v d
  | .of h => .of (h.mono (.of s))
  | .own h a => .own (s _ _ h) (a.mono (.of s))
  | .dct h a => .dct (s _ _ h) (a.mono (.of s))
/-- the list, the tuple behind it -/
theorem Rq.lst {v : V} {ds : List D} (h : Rq K H v (.list ds)) : ∃ a xs, v = .ref a ∧ SqL K H a xs ∧ RpAll K H xs ds := by
  cases h with
  | of h => cases h with | lst h a => exact ⟨_, _, rfl, h.sq, a⟩
  | own h a => exact ⟨_, _, rfl, .inl (.inl h), a⟩
theorem Rp.tupI {v : V} {ds : List D} (h : Rp K H v (.tuple ds)) : ∃ a xs, v = .ref a ∧ SqT K H a xs ∧ RpAll K H xs ds := by
  cases h with | tup h a => exact ⟨_, _, rfl, h.sq, a⟩
theorem Rq.tup {v : V} {ds : List D} (h : Rq K H v (.tuple ds)) : ∃ a xs, v = .ref a ∧ SqT K H a xs ∧ RpAll K H xs ds := by
  cases h with | of h => exact h.tupI
theorem Rq.tupP {v : V} {ds : List D} (h : Rq K H v (.tuple ds)) : ∃ a xs, v = .ref a ∧ PlT K H a xs ∧ RpAll K H xs ds := by
  cases h with | of h => cases h with | tup h a => exact ⟨_, _, rfl, h, a⟩
theorem Rq.int {v : V} {i : Int} (h : Rq K H v (.int i)) : v = .int i := by
  cases h with | of h => cases h; rfl
theorem Rq.str {v : V} {x : Str} (h : Rq K H v (.str x)) : v = .str x := by
  cases h with | of h => cases h; rfl
theorem Rq.bl {v : V} {b : Bool} (h : Rq K H v (.bool b)) : v = .bl b := by
  cases h with | of h => cases h; rfl
theorem Rq.non {v : V} (h : Rq K H v .none) : v = .non := by
  cases h with | of h => cases h; rfl
theorem Rp.is_non {v : V} {d : D} (h : Rp K H v d) : (v = .non) ↔ d = .none := by
  cases h <;> simp
theorem Rq.is_non {v : V} {d : D} (h : Rq K H v d) : (v = .non) ↔ d = .none := by
  cases h with
  | of h => exact h.is_non
  | own => simp
  | dct => simp
mutual
def nod : D → Bool
  | .none => true
  | .bool _ => true
  | .int _ => true
  | .str _ => true
  | .list xs => nods xs
  | .tuple xs => nods xs
  | .dict _ => false
def nods : List D → Bool
  | [] => true
  | x :: xs => nod x && nods xs
end
mutual
theorem Rp.dp : ∀ {v : V} {d : D}, nod d = true → Rp K H v d → Dp K H v d
  | _, _, _, .non => .non
  | _, _, _, .bl b => .bl b
  | _, _, _, .int i => .int i
  | _, _, _, .str x => .str x
  | _, _, n, .tup h a => .tup h.sq (RpAll.dp (by simpa [nod] using n) a)
  | _, _, n, .lst h a => .lst h.sq (RpAll.dp (by simpa [nod] using n) a)
  | _, _, n, .dct _ _ => by simp [nod] at n
theorem RpAll.dp : ∀ {vs : List V} {ds : List D}, nods ds = true → RpAll K H vs ds → DpAll K H vs ds
  | _, _, _, .nil => .nil
  | _, _, n, .cons h t => by
    simp only [nods, Bool.and_eq_true] at n
    exact .cons (Rp.dp n.1 h) (RpAll.dp n.2 t)
end
theorem Rq.dp {v : V} {d : D} (n : nod d = true) (h : Rq K H v d) : Dp K H v d := by
  cases h with
  | of h => exact h.dp n
  | own h a => exact .lst (.inl (.inl h)) (a.dp (by simpa [nod] using n))
  | dct => simp [nod] at n
end

/-- .. or a pair that a walk has just made -/
def RY (yl : Bool) (K : PySem.W.Frag) (H : Hp) (v : V) (d : D) : Prop := Rp K H v d ∨ (yl = true ∧ ∃ a xs ds, v = .ref a ∧ d = .tuple ds ∧ SqT K H a xs ∧ RpAll K H xs ds)
theorem RY.tup {yl : Bool} {K : PySem.W.Frag} {H : Hp} {v : V} {ds : List D} (h : RY yl K H v (.tuple ds)) : ∃ a xs, v = .ref a ∧ SqT K H a xs ∧ RpAll K H xs ds := by
  rcases h with h | ⟨_, a, xs, ds', e1, e2, h1, h2⟩
  · exact h.tupI
  · cases e2
    exact ⟨a, xs, e1, h1, h2⟩
theorem RY.no {K : PySem.W.Frag} {H : Hp} {v : V} {d : D} (h : RY false K H v d) : Rp K H v d := by
  rcases h with h | ⟨e, _⟩
  · exact h
  · cases e
/-! ### the names' slots -/
inductive B where
  /-- nothing is known -/
  | un
  /-- a datum -/
  | val (d : D)
  /-- a list, a dict of one's own, that may be changed -/
  | own (ds : List D) | dic (es : List (D × D))
abbrev Rho := List B
def isOwn : B → Bool
  | .own _ => true
  | .dic _ => true
  | _ => false
structure SOk (K : PySem.W.Frag) (ρ : Rho) (σ : L2.St) (H : Hp) : Prop where
  len : ρ.length = σ.length
  val : ∀ (i : Nat) d, ρ[i]? = some (.val d) → ∃ v, σ[i]? = some (some v) ∧ Rp K H v d
  own : ∀ (i : Nat) ds, ρ[i]? = some (.own ds) → ∃ a xs, σ[i]? = some (some (.ref a)) ∧ H a = some (.lst xs) ∧ RpAll K H xs ds
  dic : ∀ (i : Nat) es, ρ[i]? = some (.dic es) → ∃ a kvs, σ[i]? = some (some (.ref a)) ∧ H a = some (.dK kvs) ∧ RpKV K H kvs es
  apart : ∀ (i j : Nat) b c a, ρ[i]? = some b → ρ[j]? = some c → isOwn b = true → isOwn c = true → σ[i]? = some (some (.ref a)) → σ[j]? = some (some (.ref a)) → i = j
section
variable {K : PySem.W.Frag} {ρ : Rho} {σ : L2.St} {H H' : Hp}
theorem SOk.mono (s : Same H H') (h : SOk K ρ σ H) : SOk K ρ σ H' := by
  refine ⟨h.len, fun i d e => ?_, fun i ds e => ?_, fun i es e => ?_, h.apart⟩
  · obtain ⟨v, e1, r⟩ := h.val i d e
    exact ⟨v, e1, r.mono (.of s)⟩
  · obtain ⟨a, xs, e1, e2, r⟩ := h.own i ds e
    exact ⟨a, xs, e1, s _ _ e2, r.mono (.of s)⟩
  · obtain ⟨a, xs, e1, e2, r⟩ := h.dic i es e
    exact ⟨a, xs, e1, s _ _ e2, r.mono (.of s)⟩
/-- a stable change that leaves one's own things -/
theorem SOk.stb (s : Stb H H') (k : ∀ (i : Nat) b a u, ρ[i]? = some b → isOwn b = true → σ[i]? = some (some (.ref a)) → H a = some u → H' a = some u) (h : SOk K ρ σ H) : SOk K ρ σ H' := by
  refine ⟨h.len, fun i d e => ?_, fun i ds e => ?_, fun i es e => ?_, h.apart⟩
  · obtain ⟨v, e1, r⟩ := h.val i d e
    exact ⟨v, e1, r.mono s⟩
  · obtain ⟨a, xs, e1, e2, r⟩ := h.own i ds e
    exact ⟨a, xs, e1, k i _ a _ e rfl e1 e2, r.mono s⟩
  · obtain ⟨a, xs, e1, e2, r⟩ := h.dic i es e
    exact ⟨a, xs, e1, k i _ a _ e rfl e1 e2, r.mono s⟩
/-- forgetting slots -/
theorem SOk.weak {ρ' : Rho} {σ' : L2.St} (h : SOk K ρ σ H) (hl : ρ'.length = σ'.length) (w : ∀ (i : Nat) b, ρ'[i]? = some b → b ≠ .un → ρ[i]? = some b ∧ σ'[i]? = σ[i]?) : SOk K ρ' σ' H := by
  refine ⟨hl, fun i d e => ?_, fun i ds e => ?_, fun i es e => ?_, fun i j b c a e1 e2 o1 o2 s1 s2 => ?_⟩
  · obtain ⟨e', q⟩ := w i _ e (by simp)
    rw [q]; exact h.val i d e'
  · obtain ⟨e', q⟩ := w i _ e (by simp)
    rw [q]; exact h.own i ds e'
  · obtain ⟨e', q⟩ := w i _ e (by simp)
    rw [q]; exact h.dic i es e'
  · obtain ⟨e1', q1⟩ := w i b e1 (by rintro rfl; cases o1)
    obtain ⟨e2', q2⟩ := w j c e2 (by rintro rfl; cases o2)
    exact h.apart i j b c a e1' e2' o1 o2 (by rw [← q1]; exact s1) (by rw [← q2]; exact s2)
/-- a datum is stored -/
theorem SOk.set {i : Nat} {v : V} {d : D} (h : SOk K ρ σ H) (r : Rp K H v d) : SOk K (ρ.set i (.val d)) (σ.set i (some v)) H := by
  have hl := h.len
  have ne : ∀ (j : Nat) b, (ρ.set i (.val d))[j]? = some b → j ≠ i → ρ[j]? = some b ∧ (σ.set i (some v))[j]? = σ[j]? := fun j b e n => by
    rw [List.getElem?_set_ne (Ne.symm n)] at e
    exact ⟨e, List.getElem?_set_ne (Ne.symm n)⟩
  have at_ : ∀ b, (ρ.set i (.val d))[i]? = some b → b = .val d ∧ (σ.set i (some v))[i]? = some (some v) := fun b e => by
    by_cases hi : i < ρ.length
    · rw [List.getElem?_set_self hi] at e
      cases e
      exact ⟨rfl, List.getElem?_set_self (by omega)⟩
    · rw [List.getElem?_eq_none (by rw [List.length_set]; omega)] at e; cases e
  refine ⟨by simpa using hl, fun j d' e => ?_, fun j ds e => ?_, fun j es e => ?_, fun j k b c a e1 e2 o1 o2 s1 s2 => ?_⟩
  · by_cases hj : j = i
    · subst hj
      obtain ⟨q, e'⟩ := at_ _ e
      cases q
      exact ⟨v, e', r⟩
    · obtain ⟨e', q⟩ := ne j _ e hj
      rw [q]; exact h.val j d' e'
  · by_cases hj : j = i
    · subst hj; obtain ⟨q, _⟩ := at_ _ e; cases q
    · obtain ⟨e', q⟩ := ne j _ e hj
      rw [q]; exact h.own j ds e'
  · by_cases hj : j = i
    · subst hj; obtain ⟨q, _⟩ := at_ _ e; cases q
    · obtain ⟨e', q⟩ := ne j _ e hj
      rw [q]; exact h.dic j es e'
  · have hj : j ≠ i := fun z => by subst z; obtain ⟨q, _⟩ := at_ _ e1; subst q; cases o1
    have hk : k ≠ i := fun z => by subst z; obtain ⟨q, _⟩ := at_ _ e2; subst q; cases o2
    obtain ⟨e1', q1⟩ := ne j _ e1 hj
    obtain ⟨e2', q2⟩ := ne k _ e2 hk
    exact h.apart j k b c a e1' e2' o1 o2 (by rw [← q1]; exact s1) (by rw [← q2]; exact s2)
/-- a new list, dict of one's own is stored -/
theorem SOk.setOwn {i : Nat} {p : Addr} {b0 : B} (h : SOk K ρ σ H) (hb : isOwn b0 = true) (hp : ∀ (j : Nat) b, ρ[j]? = some b → isOwn b = true → j ≠ i → σ[j]? ≠ some (some (.ref p)))
    (hl' : ∀ ds, b0 = .own ds → ∃ xs, H p = some (.lst xs) ∧ RpAll K H xs ds) (hd' : ∀ es, b0 = .dic es → ∃ kvs, H p = some (.dK kvs) ∧ RpKV K H kvs es) : SOk K (ρ.set i b0) (σ.set i (some (.ref p))) H := by
  have hl := h.len
  have ne : ∀ (j : Nat) b, (ρ.set i b0)[j]? = some b → j ≠ i → ρ[j]? = some b ∧ (σ.set i (some (.ref p)))[j]? = σ[j]? := fun j b e n => by
    rw [List.getElem?_set_ne (Ne.symm n)] at e
    exact ⟨e, List.getElem?_set_ne (Ne.symm n)⟩
  have at_ : ∀ b, (ρ.set i b0)[i]? = some b → b = b0 ∧ (σ.set i (some (.ref p)))[i]? = some (some (.ref p)) := fun b e => by
    by_cases hi : i < ρ.length
    · rw [List.getElem?_set_self hi] at e
      cases e
      exact ⟨rfl, List.getElem?_set_self (by omega)⟩
    · rw [List.getElem?_eq_none (by rw [List.length_set]; omega)] at e; cases e
  refine ⟨by simpa using hl, fun j d' e => ?_, fun j ds e => ?_, fun j es e => ?_, fun j k b c a e1 e2 o1 o2 s1 s2 => ?_⟩
  · by_cases hj : j = i
    · subst hj; obtain ⟨q, _⟩ := at_ _ e; subst q; cases hb
    · obtain ⟨e', q⟩ := ne j _ e hj
      rw [q]; exact h.val j d' e'
  · by_cases hj : j = i
    · subst hj
      obtain ⟨q, e'⟩ := at_ _ e
      obtain ⟨xs, h1, h2⟩ := hl' ds q.symm
      exact ⟨p, xs, e', h1, h2⟩
    · obtain ⟨e', q⟩ := ne j _ e hj
      rw [q]; exact h.own j ds e'
  · by_cases hj : j = i
    · subst hj
      obtain ⟨q, e'⟩ := at_ _ e
      obtain ⟨xs, h1, h2⟩ := hd' es q.symm
      exact ⟨p, xs, e', h1, h2⟩
    · obtain ⟨e', q⟩ := ne j _ e hj
      rw [q]; exact h.dic j es e'
  · by_cases hj : j = i
    · by_cases hk : k = i
      · rw [hj, hk]
      · subst hj
        obtain ⟨_, e'⟩ := at_ _ e1
        rw [e'] at s1
        cases s1
        obtain ⟨e2', q2⟩ := ne k _ e2 hk
        exact absurd (q2 ▸ s2) (hp k c e2' o2 hk)
    · by_cases hk : k = i
      · subst hk
        obtain ⟨_, e'⟩ := at_ _ e2
        rw [e'] at s2
        cases s2
        obtain ⟨e1', q1⟩ := ne j _ e1 hj
        exact absurd (q1 ▸ s1) (hp j b e1' o1 hj)
      · obtain ⟨e1', q1⟩ := ne j _ e1 hj
        obtain ⟨e2', q2⟩ := ne k _ e2 hk
        exact h.apart j k b c a e1' e2' o1 o2 (by rw [← q1]; exact s1) (by rw [← q2]; exact s2)
end
end DL


namespace DL
open PySem PySem.Spec PyProof.Rows L2

/-! ### the weakest readings -/
section
variable {X : Cx}
def cE (X : Cx) (e : Expr) : TE := fun σ H Q => ∃ t, PE X e t ∧ t σ H Q
def cT (X : Cx) (e : Expr) : TT := fun σ H Q => ∃ t, PT X e t ∧ t σ H Q
def cW (X : Cx) (e : Expr) : TT := fun σ H Q => ∃ t, PW X e t ∧ t σ H Q
def cA (X : Cx) (es : List Expr) : TA := fun σ H Q => ∃ t, PA X es t ∧ t σ H Q
def cS (X : Cx) (st : Stmt) : TS := fun D σ H => ∃ t, PS X st t ∧ t D σ H
def cSs (X : Cx) (st : List Stmt) : TS := fun D σ H => ∃ t, PSs X st t ∧ t D σ H
def cG (X : Cx) (tg : Expr) : TG := fun v σ H Q => ∃ t, PG X tg t ∧ t v σ H Q
def cGs (X : Cx) (tg : List Expr) : TGs := fun v σ H Q => ∃ t, PGs X tg t ∧ t v σ H Q
def cI (X : Cx) (tg it : Expr) : TI := fun σ H R => ∃ t, PI X tg it t ∧ t σ H R
def cP (X : Cx) (e : Option Expr) : TO := fun σ H Q => ∃ t, PO X e t ∧ t σ H Q
def cTs (X : Cx) (es : List Expr) : TT := fun σ H Q => ∃ t, PTs X es t ∧ t σ H Q
theorem pe_c {e : Expr} : PE X e (cE X e) := ⟨fun pins s σ H Q I ⟨t, h, q⟩ => h.run pins s σ H Q I q⟩
theorem pt_c {e : Expr} : PT X e (cT X e) := ⟨fun pins s σ H Q I ⟨t, h, q⟩ => h.run pins s σ H Q I q⟩
theorem pw_c {e : Expr} : PW X e (cW X e) := ⟨fun wh pins s σ H Q I ⟨t, h, q⟩ => h.run wh pins s σ H Q I q⟩
theorem pa_c {es : List Expr} : PA X es (cA X es) := ⟨fun pos pins s σ H Q I ⟨t, h, q⟩ => h.run pos pins s σ H Q I q⟩
theorem ps_c {st : Stmt} : PS X st (cS X st) := ⟨fun pins s σ H D I ⟨t, h, q⟩ => h.run pins s σ H D I q⟩
theorem pss_c {st : List Stmt} : PSs X st (cSs X st) := ⟨fun pins s σ H D I ⟨t, h, q⟩ => h.run pins s σ H D I q⟩
theorem pg_c {tg : Expr} : PG X tg (cG X tg) := ⟨fun pins s σ H v u Q I r ⟨t, h, q⟩ => h.run pins s σ H v u Q I r q⟩
theorem pgs_c {tg : List Expr} : PGs X tg (cGs X tg) := ⟨fun pins s σ H v u Q I r ⟨t, h, q⟩ => h.run pins s σ H v u Q I r q⟩
theorem pi_c {tg it : Expr} : PI X tg it (cI X tg it) := ⟨fun pins s σ H R I ⟨t, h, q⟩ => h.run pins s σ H R I q⟩
theorem po_c {e : Option Expr} : PO X e (cP X e) := ⟨fun pins s σ H Q I ⟨t, h, q⟩ => h.run pins s σ H Q I q⟩
theorem pts_c {es : List Expr} : PTs X es (cTs X es) := ⟨fun pins s σ H Q I ⟨t, h, q⟩ => h.run pins s σ H Q I q⟩
end

/-! ### what comes of an expression -/
inductive Kd where
  /-- a datum | one that can be read now | a new list, a new dict of one's own -/
  | val (d : D) | qua (d : D) | new (ds : List D) | newD (es : List (D × D))
def RS (K : PySem.W.Frag) : Kd → Hp → V → Hp → Prop
  | .val d, H, v, H' => Same H H' ∧ Rp K H' v d
  | .qua d, H, v, H' => Same H H' ∧ Rq K H' v d
  | .new ds, H, v, H' => Same H H' ∧ ∃ p xs, v = .ref p ∧ H p = none ∧ H' p = some (.lst xs) ∧ RpAll K H' xs ds
  | .newD es, H, v, H' => Same H H' ∧ ∃ p kvs, v = .ref p ∧ H p = none ∧ H' p = some (.dK kvs) ∧ RpKV K H' kvs es
section
variable {K : PySem.W.Frag} {H H1 H2 : Hp} {v : V}
theorem RS.abs : ∀ {k : Kd}, Same H H1 → RS K k H1 v H2 → RS K k H v H2
  | .val _, s, ⟨a, b⟩ => ⟨s.trans a, b⟩
  | .qua _, s, ⟨a, b⟩ => ⟨s.trans a, b⟩
  | .new _, s, ⟨a, p, xs, e, n, q⟩ => ⟨s.trans a, p, xs, e, s.free n, q⟩
  | .newD _, s, ⟨a, p, xs, e, n, q⟩ => ⟨s.trans a, p, xs, e, s.free n, q⟩
theorem RS.same : ∀ {k : Kd}, RS K k H v H2 → Same H H2
  | .val _, h => h.1
  | .qua _, h => h.1
  | .new _, h => h.1
  | .newD _, h => h.1
end
def Ev (X : Cx) (e : Expr) (ρ : Rho) (k : Kd) : Prop := ∀ σ H Q, SOk X.K ρ σ H → (∀ v H', RS X.K k H v H' → Q v H') → cE X e σ H Q
def EvT (X : Cx) (e : Expr) (ρ : Rho) (b : Bool) : Prop := ∀ σ H Q, SOk X.K ρ σ H → (∀ H', Same H H' → Q b H') → cT X e σ H Q
def EvW (X : Cx) (e : Expr) (ρ : Rho) (b : Bool) : Prop := ∀ σ H Q, SOk X.K ρ σ H → (∀ H', Same H H' → Q b H') → cW X e σ H Q
/-- arguments: data | what can be read -/
def EvA (X : Cx) (es : List Expr) (ρ : Rho) (ds : List D) : Prop := ∀ σ H Q, SOk X.K ρ σ H → (∀ vs H', Same H H' → RpAll X.K H' vs ds → Q vs H') → cA X es σ H Q
def EvAq (X : Cx) (es : List Expr) (ρ : Rho) (ds : List D) : Prop := ∀ σ H Q, SOk X.K ρ σ H → (∀ vs H', Same H H' → Paired (Rq X.K H') vs ds → Q vs H') → cA X es σ H Q
section
variable {X : Cx} {ρ : Rho} {e a b c : Expr} {d x y z : D} {ds es' : List D} {k : Kd}
theorem Ev.q (h : Ev X e ρ (.val d)) : Ev X e ρ (.qua d) := fun σ H Q S q => h σ H Q S fun v H' r => q v H' ⟨r.1, .of r.2⟩
theorem Ev.nq (h : Ev X e ρ (.new ds)) : Ev X e ρ (.qua (.list ds)) := fun σ H Q S q => h σ H Q S fun v H' ⟨s, p, xs, e1, _, e2, r⟩ => by
  subst e1
  exact q _ H' ⟨s, .own e2 r⟩
/-- a new thing is locked for ever -/
theorem fz_any {t : TE} (h : PE X e t) : PE X e (fun σ H Q => t σ H fun v H' => ∃ a u, v = .ref a ∧ H' a = some u ∧ Mut (some u) ∧ ∀ od, Q v (upd H' a (.frz od u))) := by
  refine ⟨fun pins s σ H Q I hw => ?_⟩
  refine thn (h.run pins s σ H _ I hw) fun v s1 ⟨x, H1, I1, r1, a, u, e1, hu, mu, q⟩ => ?_
  subst e1
  obtain ⟨od, I2⟩ := I1.lock hu mu
  exact ⟨_, _, I2, r1, q od⟩
theorem rp_lock {K : PySem.W.Frag} {H : Hp} {p : Addr} {xs : List V} {ds : List D} (e : H p = some (.lst xs)) (r : RpAll K H xs ds) (od : Obj) : Rp K (upd H p (.frz od (.lst xs))) (.ref p) (.list ds) :=
  .lst (.inl ⟨od, upd_same⟩) (r.mono (stb_upd e trivial))
theorem rp_lockD {K : PySem.W.Frag} {H : Hp} {p : Addr} {kvs : List (Key × V)} {es : List (D × D)} (e : H p = some (.dK kvs)) (r : RpKV K H kvs es) (od : Obj) : Rp K (upd H p (.frz od (.dK kvs))) (.ref p) (.dict es) :=
  .dct upd_same (r.mono (stb_upd e trivial))
theorem Ev.fz (h : Ev X e ρ (.new ds)) : Ev X e ρ (.val (.list ds)) := fun σ H Q S q =>
  ⟨_, fz_any pe_c, h σ H _ S fun v H' ⟨s, p, xs, e1, n, e2, r⟩ => ⟨p, _, e1, e2, trivial, fun od => by
    subst e1
    exact q _ _ ⟨same_mut s n, rp_lock e2 r od⟩⟩⟩
theorem Ev.fzD {es : List (D × D)} (h : Ev X e ρ (.newD es)) : Ev X e ρ (.val (.dict es)) := fun σ H Q S q =>
  ⟨_, fz_any pe_c, h σ H _ S fun v H' ⟨s, p, xs, e1, n, e2, r⟩ => ⟨p, _, e1, e2, trivial, fun od => by
    subst e1
    exact q _ _ ⟨same_mut s n, rp_lockD e2 r od⟩⟩⟩
theorem Ev.cast {k' : Kd} (h : Ev X e ρ k) (e1 : k = k') : Ev X e ρ k' := e1 ▸ h
theorem EvT.cast {b b' : Bool} (h : EvT X e ρ b) (e1 : b = b') : EvT X e ρ b' := e1 ▸ h

/-! ### names, constants -/
theorem ev_var (i : Nat) {x : Str} {pos : Pos} (h : ρ[i]? = some (.val d) := by rfl) (hN : X.N[i]? = some x := by rfl) (hv : Vis X.env.scope x := by first | exact Or.inl rfl | exact Or.inr (Or.inl rfl) | exact Or.inr (Or.inr rfl)) (hd : (x == ("__debug__" : Str)) = false := by decide)
    (hcd : (x == ("__classdict__" : Str)) = false := by decide) : Ev X (.Name x pos) ρ (.val d) := fun σ H Q S q => by
  obtain ⟨v, e, r⟩ := S.val i d h
  exact ⟨_, pe_var hN hv hd hcd, v, e, q v H ⟨.refl H, r⟩⟩
theorem ev_own (i : Nat) {x : Str} {pos : Pos} (h : ρ[i]? = some (.own ds) := by rfl) (hN : X.N[i]? = some x := by rfl) (hv : Vis X.env.scope x := by first | exact Or.inl rfl | exact Or.inr (Or.inl rfl) | exact Or.inr (Or.inr rfl)) (hd : (x == ("__debug__" : Str)) = false := by decide)
    (hcd : (x == ("__classdict__" : Str)) = false := by decide) : Ev X (.Name x pos) ρ (.qua (.list ds)) := fun σ H Q S q => by
  obtain ⟨p, xs, e, e2, r⟩ := S.own i ds h
  exact ⟨_, pe_var hN hv hd hcd, _, e, q _ H ⟨.refl H, .own e2 r⟩⟩
theorem ev_dic (i : Nat) {x : Str} {pos : Pos} {es : List (D × D)} (h : ρ[i]? = some (.dic es) := by rfl) (hN : X.N[i]? = some x := by rfl) (hv : Vis X.env.scope x := by first | exact Or.inl rfl | exact Or.inr (Or.inl rfl) | exact Or.inr (Or.inr rfl)) (hd : (x == ("__debug__" : Str)) = false := by decide)
    (hcd : (x == ("__classdict__" : Str)) = false := by decide) : Ev X (.Name x pos) ρ (.qua (.dict es)) := fun σ H Q S q => by
  obtain ⟨p, xs, e, e2, r⟩ := S.dic i es h
  exact ⟨_, pe_var hN hv hd hcd, _, e, q _ H ⟨.refl H, .dct e2 r⟩⟩
theorem ev_int {i : Int} {j : Nat} {pos : Pos} : Ev X (.Constant (.int i) j pos) ρ (.val (.int i)) := fun _ H _ _ q => ⟨_, pe_int, q _ H ⟨.refl H, .int i⟩⟩
theorem ev_bl {i : Bool} {j : Nat} {pos : Pos} : Ev X (.Constant (.bool i) j pos) ρ (.val (.bool i)) := fun _ H _ _ q => ⟨_, pe_bl, q _ H ⟨.refl H, .bl i⟩⟩
theorem ev_str {i : Str} {j : Nat} {pos : Pos} : Ev X (.Constant (.str i) j pos) ρ (.val (.str i)) := fun _ H _ _ q => ⟨_, pe_str, q _ H ⟨.refl H, .str i⟩⟩
theorem ev_non {j : Nat} {pos : Pos} : Ev X (.Constant .none j pos) ρ (.val .none) := fun _ H _ _ q => ⟨_, pe_non, q _ H ⟨.refl H, .non⟩⟩
/-- a constant of the module that is a text, an int -/
theorem ev_gstr {x : Str} {s : Str} {t : Tok} {pos : Pos} (hm : X.mg x = some (.str s t)) (hg : Gl X x := by rfl) (hd : (x == ("__debug__" : Str)) = false := by decide) : Ev X (.Name x pos) ρ (.val (.str s)) :=
  fun _ H _ _ q => ⟨_, pe_glob (v := .str s) hg hm ⟨_, rfl⟩ hd, q _ H ⟨.refl H, .str s⟩⟩
theorem ev_gint {x : Str} {s : Int} {t : Tok} {pos : Pos} (hm : X.mg x = some (.int s t)) (hg : Gl X x := by rfl) (hd : (x == ("__debug__" : Str)) = false := by decide) : Ev X (.Name x pos) ρ (.val (.int s)) :=
  fun _ H _ _ q => ⟨_, pe_glob (v := .int s) hg hm ⟨_, rfl⟩ hd, q _ H ⟨.refl H, .int s⟩⟩

/-! ### operators by data -/
def OpV (X : Cx) (f : Value → Value → Sem Value) (x y : D) (k : Kd) : Prop :=
  ∀ H u v Q, Rq X.K H u x → Rq X.K H v y → (∀ w H', RS X.K k H w H' → Q w H') → ∃ r, OpR X f r ∧ r u v H Q
def cOp (X : Cx) (f : Value → Value → Sem Value) : R2 := fun u v H Q => ∃ r, OpR X f r ∧ r u v H Q
theorem op_c {f : Value → Value → Sem Value} : OpR X f (cOp X f) := fun pins s σ H x y v u Q I rx ry ⟨r, h, q⟩ => h pins s σ H x y v u Q I rx ry q
theorem ev_two {f : Value → Value → Sem Value} {σ : L2.St} {H : Hp} {Q : VK} (o : OpV X f x y k) (ha : Ev X a ρ (.qua x)) (hb : Ev X b ρ (.qua y)) (S : SOk X.K ρ σ H) (q : ∀ v H', RS X.K k H v H' → Q v H') : tOp (cOp X f) (cE X a) (cE X b) σ H Q :=
  ha σ H _ S fun u H1 ⟨s1, r1⟩ => hb σ H1 _ (S.mono s1) fun v H2 ⟨s2, r2⟩ => o H2 u v Q (r1.mono s2) r2 fun w H3 r => q w H3 (r.abs (s1.trans s2))
theorem ev_bin {op : Operator} {pos : Pos} (o : OpV X (binaryOp op) x y k) (ha : Ev X a ρ (.qua x)) (hb : Ev X b ρ (.qua y)) : Ev X (.BinOp a op b pos) ρ k := fun σ H Q S q => ⟨_, pe_op op_c pe_c pe_c, ev_two o ha hb S q⟩
theorem ev_cmp {op : CmpOp} {pos : Pos} (o : OpV X (compareOp op) x y k) (ha : Ev X a ρ (.qua x)) (hb : Ev X b ρ (.qua y)) (hm : behindInMarks op b = false := by first | exact nomark _ | rfl) : Ev X (.Compare a [op] [b] pos) ρ k := fun σ H Q S q => ⟨_, pe_cmpR op_c pe_c pe_c hm, ev_two o ha hb S q⟩
theorem et_cmp {op : CmpOp} {pos : Pos} {t : Bool} (o : OpV X (compareOp op) x y (.val (.bool t))) (ha : Ev X a ρ (.qua x)) (hb : Ev X b ρ (.qua y)) (hm : behindInMarks op b = false := by first | exact nomark _ | rfl) : EvT X (.Compare a [op] [b] pos) ρ t :=
  fun σ H Q S q => ⟨_, pt_cmpR op_c pe_c pe_c hm, ev_two o ha hb S fun v H' ⟨s, r⟩ => by cases r; exact ⟨t, rfl, q H' s⟩⟩
/-- a < b < c -/
theorem ev_chain {op op' : CmpOp} {pos : Pos} {t t' : Bool} (o : OpV X (compareOp op) x y (.val (.bool t))) (ha : Ev X a ρ (.val x)) (hb : Ev X b ρ (.val y)) (o' : t = true → OpV X (compareOp op') y z (.val (.bool t'))) (hc : t = true → Ev X c ρ (.val z))
    (hm : lastMarks [op, op'] [b, c] = false := by with_unfolding_all rfl) : Ev X (.Compare a [op, op'] [b, c] pos) ρ (.val (.bool (t && t'))) := fun σ H Q S q => by
  refine ⟨_, pe_chain op_c op_c pe_c pe_c pe_c hm, ?_⟩
  refine ha σ H _ S fun u H1 ⟨s1, r1⟩ => hb σ H1 _ (S.mono s1) fun v H2 ⟨s2, r2⟩ => o H2 u v _ ((Rq.of r1).mono s2) (.of r2) fun w H3 ⟨s3, r3⟩ => ?_
  have r3' : w = .bl t := (Rq.of r3).bl
  refine ⟨t, r3', ?_⟩
  cases t with
  | false => exact iteF (q _ H3 ⟨(s1.trans s2).trans s3, .bl _⟩)
  | true =>
    exact iteT (hc rfl σ H3 _ (S.mono ((s1.trans s2).trans s3)) fun w' H4 ⟨s4, r4⟩ => o' rfl H4 v w' _ ((Rq.of r2).mono (s3.trans s4)) (.of r4) fun z H5 r5 => q z H5 (r5.abs (((s1.trans s2).trans s3).trans s4)))
theorem et_chain {op op' : CmpOp} {pos : Pos} {t t' : Bool} (o : OpV X (compareOp op) x y (.val (.bool t))) (ha : Ev X a ρ (.val x)) (hb : Ev X b ρ (.val y)) (o' : t = true → OpV X (compareOp op') y z (.val (.bool t'))) (hc : t = true → Ev X c ρ (.val z))
    (hm : lastMarks [op, op'] [b, c] = false := by with_unfolding_all rfl) : EvT X (.Compare a [op, op'] [b, c] pos) ρ (t && t') := fun σ H Q S q => by
  refine ⟨_, pt_chain op_c op_c pe_c pe_c pe_c hm, ?_⟩
  refine ha σ H _ S fun u H1 ⟨s1, r1⟩ => hb σ H1 _ (S.mono s1) fun v H2 ⟨s2, r2⟩ => o H2 u v _ ((Rq.of r1).mono s2) (.of r2) fun w H3 ⟨s3, r3⟩ => ?_
  have r3' : w = .bl t := (Rq.of r3).bl
  refine ⟨t, r3', ?_⟩
  cases t with
  | false => exact iteF ⟨_, rfl, q H3 ((s1.trans s2).trans s3)⟩
  | true =>
    exact iteT (hc rfl σ H3 _ (S.mono ((s1.trans s2).trans s3)) fun w' H4 ⟨s4, r4⟩ => o' rfl H4 v w' _ ((Rq.of r2).mono (s3.trans s4)) (.of r4) fun z H5 r5 => by
      have e5 : z = .bl t' := (Rq.of r5.2).bl
      exact ⟨t', e5, q H5 (((((s1.trans s2).trans s3).trans s4)).trans r5.1)⟩)

/-! ### tests -/
theorem et_val {t : Bool} (h : Ev X e ρ (.val (.bool t))) (he : ∀ whole, isTrue e X.env whole = (do let v ← whole; standAt e.pos; holding [v] (truthy v)) := by intro _; rfl) : EvT X e ρ t := fun σ H Q S q =>
  ⟨_, pt_val pe_c he, h σ H _ S fun v H' ⟨s, r⟩ => ⟨t, (Rq.of r).bl, q H' s⟩⟩
theorem EvW.t {t : Bool} (h : EvW X e ρ t) : EvT X e ρ t := fun σ H Q S q => ⟨_, PW.pt pw_c, h σ H Q S q⟩
theorem ew_and1 {t : Bool} {pos : Pos} (h : EvT X a ρ t) : EvW X (.BoolOp .And [a] pos) ρ t := fun σ H Q S q => ⟨_, pw_and1 pt_c, h σ H Q S q⟩
theorem ew_or1 {t : Bool} {pos : Pos} (h : EvT X a ρ t) : EvW X (.BoolOp .Or [a] pos) ρ t := fun σ H Q S q => ⟨_, pw_or1 pt_c, h σ H Q S q⟩
theorem ew_and {t t' : Bool} {pos : Pos} {rest : List Expr} (h : EvT X a ρ t) (h' : t = true → EvW X (.BoolOp .And (b :: rest) pos) ρ t') : EvW X (.BoolOp .And (a :: b :: rest) pos) ρ (t && t') := fun σ H Q S q =>
  ⟨_, pw_and pt_c pw_c, h σ H _ S fun H1 s1 => by
    cases t with
    | true => exact iteT (h' rfl σ H1 Q (S.mono s1) fun H2 s2 => q H2 (s1.trans s2))
    | false => exact iteF (q H1 s1)⟩
theorem ew_or {t t' : Bool} {pos : Pos} {rest : List Expr} (h : EvT X a ρ t) (h' : t = false → EvW X (.BoolOp .Or (b :: rest) pos) ρ t') : EvW X (.BoolOp .Or (a :: b :: rest) pos) ρ (t || t') := fun σ H Q S q =>
  ⟨_, pw_or pt_c pw_c, h σ H _ S fun H1 s1 => by
    cases t with
    | false => exact iteF (h' rfl σ H1 Q (S.mono s1) fun H2 s2 => q H2 (s1.trans s2))
    | true => exact iteT (q H1 s1)⟩
theorem et_not {t : Bool} {pos : Pos} (h : EvT X a ρ t) : EvT X (.UnaryOp .Not a pos) ρ (!t) := fun σ H Q S q => ⟨_, pt_not pt_c, h σ H _ S fun H1 s1 => q H1 s1⟩
/-- and, or, not as values (all truths) -/
theorem ev_one {op : BoolOp} {pos : Pos} (h : Ev X a ρ k) : Ev X (.BoolOp op [a] pos) ρ k := fun σ H Q S q => ⟨_, pe_one pe_c, h σ H Q S q⟩
theorem ev_and {t t' : Bool} {pos : Pos} {rest : List Expr} (h : Ev X a ρ (.val (.bool t))) (h' : t = true → Ev X (.BoolOp .And (b :: rest) pos) ρ (.val (.bool t'))) : Ev X (.BoolOp .And (a :: b :: rest) pos) ρ (.val (.bool (t && t'))) := fun σ H Q S q =>
  ⟨_, pe_and pe_c pe_c, h σ H _ S fun v H1 ⟨s1, r1⟩ => ⟨t, (Rq.of r1).bl, by
    cases t with
    | true => exact iteT (h' rfl σ H1 Q (S.mono s1) fun v H2 r2 => q v H2 (r2.abs s1))
    | false => exact iteF (q _ H1 ⟨s1, .bl _⟩)⟩⟩
theorem ev_or {t t' : Bool} {pos : Pos} {rest : List Expr} (h : Ev X a ρ (.val (.bool t))) (h' : t = false → Ev X (.BoolOp .Or (b :: rest) pos) ρ (.val (.bool t'))) : Ev X (.BoolOp .Or (a :: b :: rest) pos) ρ (.val (.bool (t || t'))) := fun σ H Q S q =>
  ⟨_, pe_or pe_c pe_c, h σ H _ S fun v H1 ⟨s1, r1⟩ => ⟨t, (Rq.of r1).bl, by
    cases t with
    | false => exact iteF (h' rfl σ H1 Q (S.mono s1) fun v H2 r2 => q v H2 (r2.abs s1))
    | true => exact iteT (q _ H1 ⟨s1, .bl _⟩)⟩⟩
theorem ev_not {t : Bool} {pos : Pos} (h : Ev X a ρ (.val (.bool t))) : Ev X (.UnaryOp .Not a pos) ρ (.val (.bool (!t))) := fun σ H Q S q =>
  ⟨_, pe_not pe_c, h σ H _ S fun v H1 ⟨s1, r1⟩ => ⟨t, (Rq.of r1).bl, q _ H1 ⟨s1, .bl _⟩⟩⟩
theorem ev_neg {i : Int} {pos : Pos} (h : Ev X a ρ (.val (.int i))) : Ev X (.UnaryOp .USub a pos) ρ (.val (.int (-i))) := fun σ H Q S q =>
  ⟨_, pe_un un_neg pe_c, h σ H _ S fun v H1 ⟨s1, r1⟩ => ⟨i, (Rq.of r1).int, q _ H1 ⟨s1, .int _⟩⟩⟩
theorem ev_if {t : Bool} {pos : Pos} (hc : EvT X c ρ t) (ha : t = true → Ev X a ρ k) (hb : t = false → Ev X b ρ k) : Ev X (.IfExp c a b pos) ρ k := fun σ H Q S q =>
  ⟨_, pe_ifExp pt_c pe_c pe_c, hc σ H _ S fun H1 s1 => by
    cases t with
    | true => exact iteT (ha rfl σ H1 Q (S.mono s1) fun v H2 r2 => q v H2 (r2.abs s1))
    | false => exact iteF (hb rfl σ H1 Q (S.mono s1) fun v H2 r2 => q v H2 (r2.abs s1))⟩

/-! ### arguments, displays -/
theorem ea_nil : EvA X [] ρ [] := fun _ H _ _ q => ⟨_, pa_nil, q [] H (.refl H) .nil⟩
theorem ea_cons {es : List Expr} (h : Ev X e ρ (.val d)) (t : EvA X es ρ ds) (hs : starEach (e :: es) X.env = (false, eval e X.env) :: starEach es X.env := by rfl) : EvA X (e :: es) ρ (d :: ds) := fun σ H Q S q =>
  ⟨_, pa_cons pe_c pa_c hs, h σ H _ S fun v H1 ⟨s1, r1⟩ => t σ H1 _ (S.mono s1) fun vs H2 s2 r2 => q _ H2 (s1.trans s2) (.cons (r1.mono (.of s2)) r2)⟩
theorem eq_nil : EvAq X [] ρ [] := fun _ H _ _ q => ⟨_, pa_nil, q [] H (.refl H) .nil⟩
theorem paired_mono {K : PySem.W.Frag} {H H' : Hp} (s : Same H H') : ∀ {vs : List V} {ds : List D}, Paired (Rq K H) vs ds → Paired (Rq K H') vs ds
  | _, _, .nil => .nil
  | _, _, .cons h t => .cons (h.mono s) (paired_mono s t)
theorem eq_cons {es : List Expr} (h : Ev X e ρ (.qua d)) (t : EvAq X es ρ ds) (hs : starEach (e :: es) X.env = (false, eval e X.env) :: starEach es X.env := by rfl) : EvAq X (e :: es) ρ (d :: ds) := fun σ H Q S q =>
  ⟨_, pa_cons pe_c pa_c hs, h σ H _ S fun v H1 ⟨s1, r1⟩ => t σ H1 _ (S.mono s1) fun vs H2 s2 r2 => q _ H2 (s1.trans s2) (.cons (r1.mono s2) r2)⟩
/-- a display of a tuple, laid with its object -/
theorem pe_tupF {es : List Expr} {t : TA} {n : Nat} {pos : Pos} (h : PA X es t) : PE X (.Tuple es n pos) (fun σ H Q => t σ H fun xs H1 => xs.length ≤ sizeLine ∧ ∀ p o, H1 p = none → o.dict = none → Q (.ref p) (upd H1 p (.frz o (.tup xs)))) := by
  refine ⟨fun pins s σ H Q I hq => ?_⟩
  refine wpAny_Tuple_spliced (thn (h.run pos pins s σ H _ I hq) fun us s1 ⟨xs, H1, I1, r, z, q⟩ => ⟨by rw [← r.length]; exact z, ?_⟩)
  exact ⟨.ref s1.heap.objs.size, _, inv_tup (t' := s1.toks) I1 (fun b u e => Heap.get?_push_of_some _ e) (Nat.le_refl _) (Heap.get?_push_size _ rfl) rfl rfl r z, rfl, q _ _ (I1.hok.fresh (Nat.le_refl _)) rfl⟩
theorem rp_tupNew {K : PySem.W.Frag} {H : Hp} {p : Addr} {o : Obj} {xs : List V} {ds : List D} (hp : H p = none) (ho : o.dict = none) (r : RpAll K H xs ds) : Rp K (upd H p (.frz o (.tup xs))) (.ref p) (.tuple ds) := .tup (.inl ⟨o, upd_same, ho⟩) (r.mono (stb_new hp))
theorem ev_tup {es : List Expr} {n : Nat} {pos : Pos} (h : EvA X es ρ ds) (hl : ds.length ≤ 1000 := by simp) : Ev X (.Tuple es n pos) ρ (.val (.tuple ds)) := fun σ H Q S q =>
  ⟨_, pe_tupF pa_c, h σ H _ S fun vs H1 s1 r1 => ⟨by rw [r1.length]; exact Nat.le_of_lt (small1000 hl), fun p o hp ho => q _ _ ⟨s1.trans (same_new hp), rp_tupNew hp ho r1⟩⟩⟩
theorem ev_lst {es : List Expr} {pos : Pos} (h : EvA X es ρ ds) (hl : ds.length ≤ 1000 := by simp) : Ev X (.List es pos) ρ (.new ds) := fun σ H Q S q =>
  ⟨_, pe_lst pa_c, h σ H _ S fun vs H1 s1 r1 => ⟨by rw [r1.length]; exact Nat.le_of_lt (small1000 hl), fun p hp => q _ _ ⟨s1.trans (same_new hp), p, _, rfl, s1.free hp, upd_same, r1.mono (stb_new hp)⟩⟩⟩

/-! ### calls -/
/-- a def's promise by data -/
def SpD (K : PySem.W.Frag) (g : List D → D → Prop) : Sp := fun vs H Q _ => ∃ ds d, RpAll K H vs ds ∧ g ds d ∧ ∀ v H', Same H H' → Rp K H' v d → Q v H'
abbrev FnD (P : Program) (w : World) (K : PySem.W.Frag) (mg : Str → Option Value) (base : Heap) (k : Nat) (f : Addr) (fd : FuncData) (ps : List Str) (g : List D → D → Prop) : Prop := FnOk P w K mg base CX0 k f fd ps (SpD K g)
theorem ev_call {kk : Nat} {f : Addr} {fd : FuncData} {ps : List Str} {g : List D → D → Prop} {es : List Expr} {x : Str} {p pos : Pos} (F : FnD X.prog X.w X.K X.mg X.base kk f fd ps g) (hr : Room kk X.A) (hm : X.mg x = some (.ref f)) (hk : PySem.W.keepIn X.K (.ref f) = true) (hb : Binds X.K fd ps [])
    (ha : EvA X (e :: es) ρ ds) (hg' : g ds d) (hg : Gl X x := by rfl) (hdb : (x == ("__debug__" : Str)) = false := by decide) (he : starEach (e :: es) X.env = (false, eval e X.env) :: starEach es X.env := by rfl) (hpl : (backTo pos (starEach es X.env)).any (·.1) = false := by rfl) :
    Ev X (.Call (.Name x p) (e :: es) [] pos) ρ (.val d) := fun σ H Q S q =>
  ⟨_, pe_call F hr hg hm hk hb .nil pass0 pa_c hdb he hpl, ha σ H _ S fun vs H1 s1 r1 => by
    rw [List.append_nil]
    exact ⟨ds, d, r1, hg', fun v H2 s2 r2 => q v H2 ⟨s1.trans s2, r2⟩⟩⟩
/-- a built-in by its name -/
def CallV (X : Cx) (f : Value) (ds : List D) (k : Kd) : Prop := ∀ H vs Q, Paired (Rq X.K H) vs ds → (∀ w H', RS X.K k H w H' → Q w H') → ∃ r, CallR X f r ∧ r vs H Q
def cCall (X : Cx) (f : Value) : List V → Hp → VK → Prop := fun vs H Q => ∃ r, CallR X f r ∧ r vs H Q
theorem call_c {f : Value} : CallR X f (cCall X f) := fun pins s σ H xs us Q I rx ⟨r, h, q⟩ => h pins s σ H xs us Q I rx q
end
end DL


namespace DL
open PySem PySem.Spec PyProof.Rows L2
section
variable {X : Cx} {ρ : Rho} {e a b c : Expr} {d x y z : D} {ds : List D} {k : Kd}
theorem ev_b {id : String} {es : List Expr} {x : Str} {p pos : Pos} (hc : CallV X (.builtin id) ds k) (hm : X.mg x = none) (ha : EvAq X (e :: es) ρ ds) (hv : bootBuiltins x = some (.builtin id) := by decide +kernel) (hg : Gl X x := by rfl) (hn : x ≠ "__name__" := by decide) (hdb : (x == ("__debug__" : Str)) = false := by decide)
    (he : starEach (e :: es) X.env = (false, eval e X.env) :: starEach es X.env := by rfl) (hpl : (backTo pos (starEach es X.env)).any (·.1) = false := by rfl) : Ev X (.Call (.Name x p) (e :: es) [] pos) ρ k := fun σ H Q S q =>
  ⟨_, pe_callB call_c hg hm hv pa_c hn hdb he hpl, ha σ H _ S fun vs H1 s1 r1 => hc H1 vs Q r1 fun w H2 r2 => q w H2 (r2.abs s1)⟩
theorem ev_ty {T : String} {es : List Expr} {x : Str} {p pos : Pos} (hc : CallV X (.type T) ds k) (hm : X.mg x = none) (ha : EvAq X (e :: es) ρ ds) (hv : bootBuiltins x = some (.type T) := by decide +kernel) (hg : Gl X x := by rfl) (hn : x ≠ "__name__" := by decide) (hdb : (x == ("__debug__" : Str)) = false := by decide)
    (he : starEach (e :: es) X.env = (false, eval e X.env) :: starEach es X.env := by rfl) (hpl : (backTo pos (starEach es X.env)).any (·.1) = false := by rfl) : Ev X (.Call (.Name x p) (e :: es) [] pos) ρ k := fun σ H Q S q =>
  ⟨_, pe_callTy call_c hg hm hv pa_c hn hdb he hpl, ha σ H _ S fun vs H1 s1 r1 => hc H1 vs Q r1 fun w H2 r2 => q w H2 (r2.abs s1)⟩
/-! ### subscripts, slices -/
def IxV (X : Cx) (x y : D) (k : Kd) : Prop := ∀ H u v Q, Rq X.K H u x → Rq X.K H v y → (∀ w H', RS X.K k H w H' → Q w H') → ∃ r, IxR X r ∧ r u v H Q
def cIx (X : Cx) : R2 := fun u v H Q => ∃ r, IxR X r ∧ r u v H Q
theorem ix_c : IxR X (cIx X) := fun va sl pins s σ H x y v u Q I rx ry ⟨r, h, q⟩ hs => h va sl pins s σ H x y v u Q I rx ry q hs
theorem ev_ix {pos : Pos} (o : IxV X x y k) (ha : Ev X a ρ (.qua x)) (hb : Ev X b ρ (.qua y)) (hs : PlainIx b := by exact fun _ _ => rfl) : Ev X (.Subscript a b pos) ρ k := fun σ H Q S q =>
  ⟨_, pe_ix ix_c pe_c pe_c hs, ha σ H _ S fun u H1 ⟨s1, r1⟩ => hb σ H1 _ (S.mono s1) fun v H2 ⟨s2, r2⟩ => o H2 u v Q (r1.mono s2) r2 fun w H3 r => q w H3 (r.abs (s1.trans s2))⟩
theorem atI_rp {K : PySem.W.Frag} {H : Hp} {xs : List V} {i : Int} {d : D} (r : RpAll K H xs ds) (h : atI ds i = some d) : ∃ v, atI xs i = some v ∧ Rp K H v d := by
  unfold atI at h ⊢
  rw [r.length]
  cases e : ixN ds.length i with
  | none => rw [e] at h; cases h
  | some j => rw [e] at h; exact r.get h
theorem ix_tupD {i : Int} (h : atI ds i = some d) : IxV X (.tuple ds) (.int i) (.val d) := fun H u v Q ru rv q => by
  obtain ⟨p, xs, rfl, hs, hr⟩ := ru.tup
  obtain ⟨w, hw, rw'⟩ := atI_rp hr h
  exact ⟨_, ix_tup, p, xs, i, w, rfl, rv.int, hs, hw, q _ H ⟨.refl H, rw'⟩⟩
theorem ix_lstD {i : Int} (h : atI ds i = some d) : IxV X (.list ds) (.int i) (.val d) := fun H u v Q ru rv q => by
  obtain ⟨p, xs, rfl, hs, hr⟩ := ru.lst
  obtain ⟨w, hw, rw'⟩ := atI_rp hr h
  exact ⟨_, ix_list, p, xs, i, w, rfl, rv.int, hs, hw, q _ H ⟨.refl H, rw'⟩⟩
theorem ix_strD {s : Str} {i : Int} {cc : Nat} (hl : s.length ≤ sizeLine) (h : atI s.cps.toList i = some cc) : IxV X (.str s) (.int i) (.val (.str ⟨#[cc]⟩)) := fun H u v Q ru rv q =>
  ⟨_, ix_str, s, i, cc, ru.str, rv.int, hl, h, q _ H ⟨.refl H, .str _⟩⟩
/-- a part of a slice -/
def EvP (X : Cx) (e : Option Expr) (ρ : Rho) (o : Option Int) : Prop := ∀ σ H Q, SOk X.K ρ σ H → (∀ H', Same H H' → Q o H') → cP X e σ H Q
theorem ep_none : EvP X none ρ none := fun _ H _ _ q => ⟨_, po_none, q H (.refl H)⟩
theorem ep_some {i : Int} (h : Ev X e ρ (.val (.int i))) : EvP X (some e) ρ (some i) := fun σ H Q S q => ⟨_, po_some pe_c, h σ H _ S fun v H1 ⟨s1, r1⟩ => ⟨i, (Rq.of r1).int, q H1 s1⟩⟩
def SlV (X : Cx) (x : D) (lo hi : Option Int) (k : Kd) : Prop := ∀ H u Q, Rq X.K H u x → (∀ w H', RS X.K k H w H' → Q w H') → ∃ r, SlR X r ∧ r u lo hi H Q
def cSl (X : Cx) : V → Option Int → Option Int → Hp → VK → Prop := fun u lo hi H Q => ∃ r, SlR X r ∧ r u lo hi H Q
theorem sl_c : SlR X (cSl X) := fun pins s σ H x v vl vu lo hi sl Q I rx h1 h2 h3 ⟨r, h, q⟩ => h pins s σ H x v vl vu lo hi sl Q I rx h1 h2 h3 q
theorem ev_sl {pos p2 : Pos} {lo hi : Option Expr} {l h : Option Int} (o : SlV X x l h k) (ha : Ev X a ρ (.qua x)) (hl : EvP X lo ρ l) (hh : EvP X hi ρ h) : Ev X (.Subscript a (.Slice lo hi none p2) pos) ρ k := fun σ H Q S q =>
  ⟨_, pe_slice sl_c pe_c po_c po_c, ha σ H _ S fun u H1 ⟨s1, r1⟩ => hl σ H1 _ (S.mono s1) fun H2 s2 => hh σ H2 _ (S.mono (s1.trans s2)) fun H3 s3 => o H3 u Q (r1.mono (s2.trans s3)) fun w H4 r => q w H4 (r.abs ((s1.trans s2).trans s3))⟩

/-! ### targets -/
structure EvG (X : Cx) (yl : Bool) (tg : Expr) (ρ : Rho) (d : D) (ρ' : Rho) (is : List Nat) : Prop where
  run : ∀ σ H v Q, SOk X.K ρ σ H → RY yl X.K H v d → (∀ σ', SOk X.K ρ' σ' H → (∀ vs : List Nat, (∀ i ∈ is, i ∈ vs) → wipe σ' vs = wipe σ vs) → Q σ' H) → cG X tg v σ H Q
  own : ∀ (i : Nat) b, ρ'[i]? = some b → isOwn b = true → ρ[i]? = some b ∧ i ∉ is
theorem wipe_set {σ : L2.St} {i : Nat} {x : Option V} : ∀ {vs : List Nat}, i ∈ vs → wipe (σ.set i x) vs = wipe σ vs
  | [], h => by cases h
  | v :: vs, h => by
    unfold wipe
    by_cases hv : i = v
    · subst hv
      by_cases hm : i ∈ vs
      · rw [wipe_set hm]
      · have q : ∀ {us : List Nat}, i ∉ us → wipe (σ.set i x) us = (wipe σ us).set i x := by
          intro us
          induction us with
          | nil => intro _; rfl
          | cons u us ih =>
            intro hu
            unfold wipe
            rw [ih fun z => hu (List.mem_cons_of_mem _ z), List.set_comm _ _ fun z => hu (by rw [z]; exact List.mem_cons_self)]
        rw [q hm, List.set_set]
    · rw [wipe_set (List.mem_of_ne_of_mem hv h)]
theorem own_set {i j : Nat} {d : D} {b : B} (e : (ρ.set i (.val d))[j]? = some b) (o : isOwn b = true) : ρ[j]? = some b ∧ j ∉ [i] := by
  by_cases hj : j = i
  · subst hj
    by_cases hl : j < ρ.length
    · rw [List.getElem?_set_self hl] at e; cases e; cases o
    · rw [List.getElem?_eq_none (by rw [List.length_set]; omega)] at e; cases e
  · rw [List.getElem?_set_ne (Ne.symm hj)] at e
    exact ⟨e, by simpa using hj⟩
theorem eg_name (i : Nat) {x : Str} {pos : Pos} (hN : X.N.Nodup) (hi : X.N[i]? = some x := by rfl) (hx : Loc X.env.scope x := by first | exact Or.inl rfl | exact Or.inr rfl) (hf : X.fn x = true ∨ X.env.scope.names.lookup x = some .local := by first | exact .inl rfl | exact .inr rfl | assumption) : EvG X false (.Name x pos) ρ d (ρ.set i (.val d)) [i] :=
  ⟨fun σ H v Q S r q => ⟨_, pg_name hN hi hx hf, q _ (S.set r.no) fun vs h => wipe_set (h i (by simp))⟩, fun _ _ e o => own_set e o⟩
structure EvGs (X : Cx) (tg : List Expr) (ρ : Rho) (ds : List D) (ρ' : Rho) (is : List Nat) : Prop where
  run : ∀ σ H vs Q, SOk X.K ρ σ H → RpAll X.K H vs ds → (∀ σ', SOk X.K ρ' σ' H → (∀ vs : List Nat, (∀ i ∈ is, i ∈ vs) → wipe σ' vs = wipe σ vs) → Q σ' H) → cGs X tg vs σ H Q
  own : ∀ (i : Nat) b, ρ'[i]? = some b → isOwn b = true → ρ[i]? = some b ∧ i ∉ is
theorem egs_nil : EvGs X [] ρ [] ρ [] := ⟨fun σ H vs Q S r q => ⟨_, pgs_nil, by cases r; exact ⟨rfl, q σ S fun _ _ => rfl⟩⟩, fun _ _ e _ => ⟨e, by simp⟩⟩
theorem egs_cons {e : Expr} {es : List Expr} {d : D} {ρ1 ρ2 : Rho} {is js : List Nat} (h1 : EvG X false e ρ d ρ1 is) (h2 : EvGs X es ρ1 ds ρ2 js)
    (hs : (assignEach (e :: es) X.env).map (·.2) = assign e X.env :: (assignEach es X.env).map (·.2) := by rfl) : EvGs X (e :: es) ρ (d :: ds) ρ2 (is ++ js) :=
  ⟨fun σ H vs Q S r q => ⟨_, pgs_cons pg_c pgs_c hs, by
    cases r with
    | cons r1 r2 =>
      refine ⟨_, _, rfl, h1.run σ H _ _ S (.inl r1) fun σ1 S1 w1 => h2.run σ1 H _ Q S1 r2 fun σ2 S2 w2 => q σ2 S2 fun vs hv => ?_⟩
      rw [w2 vs fun i hi => hv i (List.mem_append_right _ hi), w1 vs fun i hi => hv i (List.mem_append_left _ hi)]⟩,
   fun i b e o => by
    obtain ⟨q1, n1⟩ := h2.own i b e o
    obtain ⟨q2, n2⟩ := h1.own i b q1 o
    exact ⟨q2, fun z => (List.mem_append.mp z).elim n2 n1⟩⟩
theorem eg_tup {yl : Bool} {es : List Expr} {n k : Nat} {pos : Pos} {ρ' : Rho} {is : List Nat} (h : EvGs X es ρ ds ρ' is) (hn : (assignEach es X.env).length = n := by rfl) (hl : ds.length = n := by rfl) (hc : X.calm = true := by rfl) (hst : (assignEach es X.env).findIdx? (·.1) = none := by rfl) :
    EvG X yl (.Tuple es k pos) ρ (.tuple ds) ρ' is := ⟨fun σ H v Q S r q => by
  obtain ⟨a, xs, rfl, hq, hr⟩ := r.tup
  exact ⟨_, pg_tup hc pgs_c hn hst, a, xs, rfl, hq, hr.length.trans hl, h.run σ H xs Q S hr q⟩, h.own⟩

/-! ### what is walked -/
/-- the lists and tuples that come are not too long -/
theorem pe_know {t : TE} (h : PE X e t) : PE X e (fun σ H Q => t σ H fun v H' => (∀ a xs, v = .ref a → SqL X.K H' a xs ∨ SqT X.K H' a xs → xs.length ≤ sizeLine) → Q v H') := by
  refine ⟨fun pins s σ H Q I hw => thn (h.run pins s σ H _ I hw) fun v s1 ⟨x, H1, I1, r1, q⟩ => ⟨x, H1, I1, r1, q fun a xs e hx => ?_⟩⟩
  rcases hx with hx | hx
  · obtain ⟨_, _, _, z⟩ := I1.list hx
    exact z
  · obtain ⟨_, _, _, z⟩ := I1.tuple hx
    exact z
theorem pe_knowD {t : TE} (h : PE X e t) : PE X e (fun σ H Q => t σ H fun v H' => (∀ a o kvs, v = .ref a → H' a = some (.frz o (.dK kvs)) → kvs.length ≤ sizeLine) → Q v H') := by
  refine ⟨fun pins s σ H Q I hw => thn (h.run pins s σ H _ I hw) fun v s1 ⟨x, H1, I1, r1, q⟩ => ⟨x, H1, I1, r1, q fun a o kvs e hx => ?_⟩⟩
  obtain ⟨_, z, _⟩ := I1.hok a _ hx
  exact z
def YD (yl : Bool) (K : PySem.W.Frag) (xs : List D) : Nat → Hp → V → Hp → Prop := fun i H v H' => Same H H' ∧ ∃ d, xs[i]? = some d ∧ RY yl K H' v d
/-- it gives the data xs while what is stable stays | while all stays -/
def EvI (X : Cx) (tg it : Expr) (ρ : Rho) (yl : Bool) (xs : List D) : Prop := ∀ σ H R, SOk X.K ρ σ H → (∀ J H', Same H H' → xs.length ≤ sizeLine → Walk J xs.length (Stb H') (YD yl X.K xs) → R J H') → cI X tg it σ H R
def EvIq (X : Cx) (tg it : Expr) (ρ : Rho) (yl : Bool) (xs : List D) : Prop := ∀ σ H R, SOk X.K ρ σ H → (∀ J H', Same H H' → xs.length ≤ sizeLine → Walk J xs.length (Same H') (YD yl X.K xs) → R J H') → cI X tg it σ H R
theorem EvI.q {tg it : Expr} {yl : Bool} {xs : List D} (h : EvI X tg it ρ yl xs) : EvIq X tg it ρ yl xs := fun σ H R S q => h σ H R S fun J H' s z w => q J H' s z (w.mono (fun _ z => .of z) fun _ _ _ _ _ _ z => z)
theorem ei_tup {tg it : Expr} {xs : List D} (h : Ev X it ρ (.val (.tuple xs))) : EvI X tg it ρ false xs := fun σ H R S q =>
  ⟨_, pi_tup (pe_know pe_c), h σ H _ S fun v H1 ⟨s1, r1⟩ kn => by
    obtain ⟨a, vs, rfl, hs, hr⟩ := r1.tupI
    refine ⟨a, rfl, ⟨vs, hs⟩, q _ H1 s1 (by rw [← hr.length]; exact kn a vs rfl (.inr hs)) ?_⟩
    rw [← hr.length]
    refine (walk_tup (K := X.K) (a := a) (xs := vs)).mono (fun H2 z => sqT_stb z hs) fun i H2 x H3 _ z y => ?_
    obtain ⟨e, y⟩ := y
    subst e
    obtain ⟨d, e1, e2⟩ := hr.got y
    exact ⟨.refl _, d, e1, .inl (e2.mono z)⟩⟩
theorem ei_lst {tg it : Expr} {xs : List D} (h : Ev X it ρ (.val (.list xs))) : EvI X tg it ρ false xs := fun σ H R S q =>
  ⟨_, pi_list (pe_know pe_c), h σ H _ S fun v H1 ⟨s1, r1⟩ kn => by
    cases r1 with
    | lst hs hr =>
      refine ⟨_, rfl, ⟨_, hs.sq⟩, q _ H1 s1 (by rw [← hr.length]; exact kn _ _ rfl (.inl hs.sq)) ?_⟩
      rw [← hr.length]
      refine (walk_list (K := X.K)).mono (fun H2 z => (hs.stb z).sq) fun i H2 x H3 _ z y => ?_
      obtain ⟨e, y⟩ := y
      subst e
      obtain ⟨d, e1, e2⟩ := hr.got y
      exact ⟨.refl _, d, e1, .inl (e2.mono z)⟩⟩
/-- a list of one's own, in a comprehension -/
theorem ei_own {tg it : Expr} {xs : List D} (h : Ev X it ρ (.qua (.list xs))) : EvIq X tg it ρ false xs := fun σ H R S q =>
  ⟨_, pi_list (pe_know pe_c), h σ H _ S fun v H1 ⟨s1, r1⟩ kn => by
    obtain ⟨a, vs, rfl, hs, hr⟩ := r1.lst
    refine ⟨a, rfl, ⟨vs, hs⟩, q _ H1 s1 (by rw [← hr.length]; exact kn a vs rfl (.inl hs)) ?_⟩
    rw [← hr.length]
    refine (walk_list (K := X.K) (a := a) (xs := vs)).mono (fun H2 z => z.seq hs) fun i H2 x H3 _ z y => ?_
    obtain ⟨e, y⟩ := y
    subst e
    obtain ⟨d, e1, e2⟩ := hr.got y
    exact ⟨.refl _, d, e1, .inl (e2.mono (.of z))⟩⟩
/-- range(n) -/
theorem ei_range {tg a : Expr} {n : Int} {p pos : Pos} (hm : X.mg "range" = none) (h : Ev X a ρ (.val (.int n))) (h2 : n ≤ 100000 ∧ -100000 ≤ n := by omega) (hg : Gl X "range" := by rfl) (hs : starEach [a] X.env = [(false, eval a X.env)] := by rfl) :
    EvI X tg (.Call (.Name "range" p) [a] [] pos) ρ false ((List.range n.toNat).map fun i => .int ((i : Nat) : Int)) := fun σ H R S q =>
  ⟨_, pi_range1 hg hm (pa_cons pe_c pa_nil (by rw [hs]; rfl)) hs, h σ H _ S fun v H1 ⟨s1, r1⟩ => by
    have e := (Rq.of r1).int
    subst e
    refine ⟨n, rfl, by omega, by omega, q _ H1 s1 (by rw [List.length_map, List.length_range, sizeLine_eq]; omega) ?_⟩
    rw [List.length_map, List.length_range]
    refine (walk_range (lo := 0) (n := n.toNat)).mono (fun _ _ => trivial) fun i H2 x H3 hi _ y => ?_
    obtain ⟨e, y⟩ := y
    subst e y
    refine ⟨.refl _, .int (i : Nat), ?_, ?_⟩
    · rw [List.getElem?_map, List.getElem?_range hi]; rfl
    · show RY false X.K _ (.int (0 + ((i : Nat) : Int))) _
      rw [Int.zero_add]; exact .inl (.int _)⟩
theorem ei_range2 {tg a b : Expr} {m n : Int} {p pos : Pos} (hm : X.mg "range" = none) (h : Ev X a ρ (.val (.int m))) (h' : Ev X b ρ (.val (.int n))) (h1 : -100000 ≤ m ∧ m ≤ 100000 ∧ -100000 ≤ n ∧ n ≤ 100000 := by omega) (hg : Gl X "range" := by rfl) (hs : starEach [a, b] X.env = [(false, eval a X.env), (false, eval b X.env)] := by rfl) (hs2 : starEach [b] X.env = [(false, eval b X.env)] := by rfl) :
    EvI X tg (.Call (.Name "range" p) [a, b] [] pos) ρ false ((List.range (n - m).toNat).map fun i => .int (m + ((i : Nat) : Int))) := fun σ H R S q =>
  ⟨_, pi_range2 hg hm (pa_cons pe_c (pa_cons pe_c pa_nil (by rw [hs2]; rfl)) (by rw [hs, hs2])) hs hs2, h σ H _ S fun v H1 ⟨s1, r1⟩ => h' σ H1 _ (S.mono s1) fun v' H2 ⟨s2, r2⟩ => by
    have e := (Rq.of r1).int
    subst e
    have e := (Rq.of r2).int
    subst e
    refine ⟨m, n, rfl, ⟨by omega, by omega, by omega, by omega⟩, q _ H2 (s1.trans s2) (by rw [List.length_map, List.length_range, sizeLine_eq]; omega) ?_⟩
    rw [List.length_map, List.length_range]
    refine (walk_range (lo := m) (n := (n - m).toNat)).mono (fun _ _ => trivial) fun i H2 x H3 hi _ y => ?_
    obtain ⟨e, y⟩ := y
    subst e y
    refine ⟨.refl _, .int (m + (i : Nat)), ?_, .inl (.int _)⟩
    rw [List.getElem?_map, List.getElem?_range hi]; rfl⟩
/-- the signs of a text -/
theorem ei_str {tg it : Expr} {s : Str} (h : Ev X it ρ (.val (.str s))) (hz : s.length ≤ sizeLine) : EvI X tg it ρ false (s.cps.toList.map fun c => .str ⟨#[c]⟩) := fun σ H R S q =>
  ⟨_, pi_str pe_c, h σ H _ S fun v H1 ⟨s1, r1⟩ => by
    refine ⟨s, (Rq.of r1).str, q _ H1 s1 (by rw [List.length_map, Array.length_toList]; exact hz) ?_⟩
    rw [List.length_map, Array.length_toList]
    refine (walk_str (z := s)).mono (fun _ _ => trivial) fun i H2 x H3 hi _ y => ?_
    obtain ⟨e, cc, e1, e2⟩ := y
    subst e e2
    refine ⟨.refl _, .str ⟨#[cc]⟩, ?_, .inl (.str _)⟩
    rw [List.getElem?_map, Array.getElem?_toList, e1]; rfl⟩
/-- the keys of a dict -/
theorem rpKV_keys {K : PySem.W.Frag} {H : Hp} : ∀ {kvs : List (Key × V)} {es : List (D × D)} {i : Nat} {kk : Key} {v : V}, RpKV K H kvs es → kvs[i]? = some (kk, v) → ∃ d, (es.map (·.1))[i]? = some d ∧ Rp K H (kV kk) d
  | _, _, _, _, _, .nil, e => by simp at e
  | _, _, 0, _, _, .int _ _, e => by simp at e; obtain ⟨rfl, _⟩ := e; exact ⟨_, rfl, .int _⟩
  | _, _, 0, _, _, .str _ _, e => by simp at e; obtain ⟨rfl, _⟩ := e; exact ⟨_, rfl, .str _⟩
  | _, _, i + 1, _, _, .int _ t, e => rpKV_keys (i := i) t (by simpa using e)
  | _, _, i + 1, _, _, .str _ t, e => rpKV_keys (i := i) t (by simpa using e)
theorem RpKV.length {K : PySem.W.Frag} {H : Hp} : ∀ {kvs : List (Key × V)} {es : List (D × D)}, RpKV K H kvs es → kvs.length = es.length
  | _, _, .nil => rfl
  | _, _, .int _ t => congrArg (· + 1) (RpKV.length t)
  | _, _, .str _ t => congrArg (· + 1) (RpKV.length t)
theorem ei_keys {tg it : Expr} {es : List (D × D)} (h : Ev X it ρ (.val (.dict es))) : EvI X tg it ρ false (es.map (·.1)) := fun σ H R S q =>
  ⟨_, pi_keys (pe_knowD pe_c), h σ H _ S fun v H1 ⟨s1, r1⟩ kn => by
    cases r1 with
    | dct hs hr =>
      refine ⟨_, _, rfl, .inl ⟨_, hs, q _ H1 s1 (by rw [List.length_map, ← hr.length]; exact kn _ _ _ rfl hs) ?_⟩⟩
      rw [List.length_map, ← hr.length]
      refine walk_keys.mono (fun H2 z => z.2 _ _ _ hs) fun i H2 x H3 _ z y => ?_
      obtain ⟨e, kk, vv, y1, y2⟩ := y
      subst e y2
      obtain ⟨d, e1, e2⟩ := rpKV_keys hr y1
      exact ⟨.refl _, d, e1, .inl (e2.mono z)⟩⟩

/-! ### list comprehensions -/
def wipeB (ρ : Rho) : List Nat → Rho
  | [] => ρ
  | v :: vs => (wipeB ρ vs).set v .un
theorem wipeB_len (ρ : Rho) : ∀ vs : List Nat, (wipeB ρ vs).length = ρ.length
  | [] => rfl
  | v :: vs => by unfold wipeB; rw [List.length_set, wipeB_len ρ vs]
theorem wipeB_some {ρ : Rho} {i : Nat} {b : B} : ∀ {vs : List Nat}, (wipeB ρ vs)[i]? = some b → b ≠ .un → ρ[i]? = some b ∧ i ∉ vs
  | [], h, _ => ⟨h, by simp⟩
  | v :: vs, h, hb => by
    unfold wipeB at h
    by_cases hi : v = i
    · subst hi
      by_cases hv : v < (wipeB ρ vs).length
      · rw [List.getElem?_set_self hv] at h; cases h; exact absurd rfl hb
      · rw [List.getElem?_eq_none (by simpa using hv)] at h; cases h
    · rw [List.getElem?_set_ne hi] at h
      obtain ⟨h1, h2⟩ := wipeB_some h hb
      exact ⟨h1, by simp only [List.mem_cons, not_or]; exact ⟨fun e => hi e.symm, h2⟩⟩
theorem SOk.wiped {K : PySem.W.Frag} {σ : L2.St} {H : Hp} {vs : List Nat} (S : SOk K ρ σ H) : SOk K (wipeB ρ vs) (wipe σ vs) H :=
  S.weak (by rw [wipeB_len, wipe_length]; exact S.len) fun i b e hb => by
    obtain ⟨h1, h2⟩ := wipeB_some e hb
    exact ⟨h1, wipe_out h2⟩
/-- the tests of a comprehension -/
def EvTs (X : Cx) (es : List Expr) (ρ : Rho) (b : Bool) : Prop := ∀ σ H Q, SOk X.K ρ σ H → (∀ H', Same H H' → Q b H') → cTs X es σ H Q
theorem ets_nil : EvTs X [] ρ true := fun _ H _ _ q => ⟨_, pts_nil, q H (.refl H)⟩
theorem ets_one {t : Bool} (h : EvT X e ρ t) : EvTs X [e] ρ t := fun σ H Q S q => ⟨_, pts_one pt_c, h σ H Q S q⟩
abbrev Blk (X : Cx) (scope : Scope) (P : Cx → Prop) : Prop := ∀ (s : Shared) (H : Hp) (C : Addr) (cl : List (Str × Addr)) (fp : List Addr), P (X.blk s H scope (compEnvC scope cl C X.env) fp)
def cEB (X : Cx) (scope : Scope) (e : Expr) : TE := fun σ H Q => Blk X scope fun Y => cE Y e σ H Q
def cTB (X : Cx) (scope : Scope) (es : List Expr) : TT := fun σ H Q => Blk X scope fun Y => cTs Y es σ H Q
def cGB (X : Cx) (scope : Scope) (e : Expr) : TG := fun v σ H Q => Blk X scope fun Y => cG Y e v σ H Q
theorem pe_cB {scope : Scope} : Blk X scope fun Y => PE Y e (cEB X scope e) := fun s H C cl fp => ⟨fun pins s' σ H' Q I h => pe_c.run pins s' σ H' Q I (h s H C cl fp)⟩
theorem pt_cB {scope : Scope} {es : List Expr} : Blk X scope fun Y => PTs Y es (cTB X scope es) := fun s H C cl fp => ⟨fun pins s' σ H' Q I h => pts_c.run pins s' σ H' Q I (h s H C cl fp)⟩
theorem pg_cB {scope : Scope} : Blk X scope fun Y => PG Y e (cGB X scope e) := fun s H C cl fp => ⟨fun pins s' σ H' v u Q I r h => pg_c.run pins s' σ H' v u Q I r (h s H C cl fp)⟩
theorem lc_run {elt tg iter : Expr} {ifs : List Expr} {scope : Scope} {own : List (Str × Nat)} {α : Type} (ps : List α) (en : α → D) {ρ' : α → Rho} {keep : α → Bool} {f : α → D} {is : List Nat} {yl : Bool} {σ : L2.St} {H : Hp} {Q : VK}
    (hi : EvIq X tg iter ρ yl (ps.map en)) (hg : ∀ p ∈ ps, Blk X scope fun Y => EvG Y yl tg (wipeB ρ (own.map (·.2))) (en p) (ρ' p) is) (hw : ∀ i ∈ is, i ∈ own.map (·.2))
    (ht : ∀ p ∈ ps, Blk X scope fun Y => EvTs Y ifs (ρ' p) (keep p)) (he : ∀ p ∈ ps, keep p = true → Blk X scope fun Y => Ev Y elt (ρ' p) (.val (f p))) (S : SOk X.K ρ σ H)
    (q : ∀ v H', RS X.K (.new ((ps.filter keep).map f)) H v H' → Q v H') :
    tLc (cI X tg iter) (cGB X scope tg) (cTB X scope ifs) (cEB X scope elt) (own.map (·.2)) σ H Q := by
  refine hi σ H _ S fun J H1 s1 hz w => fun L hL => ?_
  rw [List.length_map] at hz
  have hn : ∀ H', Same (upd H1 L (.lst [])) H' ∨ True := fun _ => .inr trivial
  refine lc_it w (fun i H2 => Same H1 H2 ∧ ∃ acc, H2 L = some (.lst acc) ∧ acc.length ≤ i ∧ RpAll X.K H2 acc (((ps.take i).filter keep).map f)) ⟨same_new hL, [], upd_same, Nat.le_refl _, by simpa using RpAll.nil⟩ (fun i H2 _ h => h.1) (fun i x H2 H3 hlt ⟨s2, acc, hacc, hal, racc⟩ ⟨s3, d, hd, rd⟩ => ?_) (fun H2 ⟨s2, acc, hacc, hal, racc⟩ => ?_)
  · rw [List.length_map] at hlt
    rw [List.getElem?_map, List.getElem?_eq_getElem hlt] at hd
    have ed : en ps[i] = d := Option.some.inj hd
    subst ed
    have hp : ps[i] ∈ ps := List.getElem_mem hlt
    have tk : ps.take (i + 1) = ps.take i ++ [ps[i]] := by rw [List.take_add_one, List.getElem?_eq_getElem hlt]; rfl
    have s13 : Same H1 H3 := s2.trans s3
    have SW := (S.mono s1).wiped (vs := own.map (·.2))
    intro s₀ H₀ C cl fp
    refine (hg _ hp s₀ H₀ C cl fp).run _ _ _ _ (SW.mono s13) rd fun σ2 S2 w2 => ⟨(w2 _ hw).trans ?_, ?_⟩
    · have ww : ∀ us : List Nat, wipe (wipe σ us) us = wipe σ us := by
        intro us
        apply List.ext_getElem?
        intro j
        by_cases hj : j ∈ us
        · have a1 : ∀ τ : L2.St, j ∈ us → (wipe τ us)[j]? = (τ[j]?).map fun _ => none := by
            intro τ _
            induction us with
            | nil => cases hj
            | cons u us ih =>
              unfold wipe
              by_cases hu : u = j
              · subst hu
                by_cases hl : u < τ.length
                · rw [List.getElem?_set_self (by rw [wipe_length]; exact hl), List.getElem?_eq_getElem hl]; rfl
                · rw [List.getElem?_eq_none (by rw [List.length_set, wipe_length]; omega), List.getElem?_eq_none (by omega)]; rfl
              · rw [List.getElem?_set_ne hu]
                have hj' : j ∈ us := List.mem_of_ne_of_mem (fun z => hu z.symm) hj
                exact ih hj' hj'
          rw [a1 _ hj, a1 _ hj]
          cases σ[j]? <;> rfl
        · rw [wipe_out hj]
      exact ww _
    · intro s₁ H₁ C1 cl1 fp1
      refine ht _ hp s₁ H₁ C1 cl1 fp1 σ2 H3 _ S2 fun H4 s4 => ?_
      have s14 : Same H1 H4 := s13.trans s4
      have hL4 : H4 L = some (.lst acc) := s4 _ _ (s3 _ _ hacc)
      have racc4 : RpAll X.K H4 acc (((ps.take i).filter keep).map f) := racc.mono (.of (s3.trans s4))
      cases hk : keep ps[i] with
      | false =>
        refine iteF ⟨s14, acc, hL4, by omega, ?_⟩
        rw [tk, List.filter_append, List.filter_cons, hk]
        simpa using racc4
      | true =>
        refine iteT ?_
        intro s₂ H₂ C2 cl2 fp2
        refine he _ hp hk s₂ H₂ C2 cl2 fp2 σ2 H4 _ (S2.mono s4) fun y H5 ⟨s5, r5⟩ => ?_
        have hL5 : H5 L = some (.lst acc) := s5 _ _ hL4
        refine ⟨acc, hL5, by omega, same_mut (s14.trans s5) hL, acc ++ [y], upd_same, by simp; omega, ?_⟩
        rw [tk, List.filter_append, List.map_append, List.filter_cons, hk]
        have st : Stb H5 (upd H5 L (.lst (acc ++ [y]))) := stb_upd hL5 trivial
        exact ((racc4.mono (.of s5)).mono st).append (.cons (r5.mono st) .nil)
  · rw [List.length_map, List.take_length] at racc
    exact q _ H2 ⟨s1.trans s2, L, acc, rfl, s1.free hL, hacc, racc⟩
theorem ev_lc {elt tg iter : Expr} {ifs : List Expr} {scope : Scope} {own : List (Str × Nat)} {pos : Pos} {α : Type} {ps : List α} {en : α → D} {ρ' : α → Rho} {keep : α → Bool} {f : α → D} {is : List Nat} {yl : Bool}
    (hN : X.N.Nodup) (ok : BlkOk X.N X.env.scope scope own)
    (hi : EvIq X tg iter ρ yl (ps.map en)) (hg : ∀ p ∈ ps, Blk X scope fun Y => EvG Y yl tg (wipeB ρ (own.map (·.2))) (en p) (ρ' p) is)
    (ht : ∀ p ∈ ps, Blk X scope fun Y => EvTs Y ifs (ρ' p) (keep p)) (he : ∀ p ∈ ps, keep p = true → Blk X scope fun Y => Ev Y elt (ρ' p) (.val (f p)))
    (hw : ∀ i ∈ is, i ∈ own.map (·.2) := by decide) (hc : X.calm = true := by rfl) (hs : ∀ x, foldedSetIterable iter X.env x = pure x := by intro _; rfl) :
    Ev X (.ListComp elt [⟨tg, iter, ifs, 0⟩] scope pos) ρ (.new ((ps.filter keep).map f)) := fun σ H Q S q =>
  ⟨_, pe_lc hc hN pi_c ok pg_cB pt_cB pe_cB hs, lc_run ps en hi hg hw ht he S q⟩
end
end DL


namespace DL
open PySem PySem.Spec PyProof.Rows L2

/-! ### statements -/
/-- the state of a body: H0 the heap at its entry, H1 an earlier one whose stable things stay -/
structure SK (K : PySem.W.Frag) (H0 H1 : Hp) (ρ : Rho) (σ : L2.St) (H : Hp) : Prop where
  same : Same H0 H
  stb : Stb H1 H
  ok : SOk K ρ σ H
  fr : ∀ (i : Nat) b a, ρ[i]? = some b → isOwn b = true → σ[i]? = some (some (.ref a)) → H0 a = none
structure Fin where
  nx : Rho → Prop
  rt : D → Prop
  bk : Rho → Prop := fun _ => False
  ct : Rho → Prop := fun _ => False
structure FinOk (K : PySem.W.Frag) (H0 H1 : Hp) (Φ : DL.Fin) (E : Ends) : Prop where
  nx : ∀ ρ σ H, SK K H0 H1 ρ σ H → Φ.nx ρ → E.nx σ H
  rt : ∀ d v H, Same H0 H → Rp K H v d → Φ.rt d → E.rt v H
  bk : ∀ ρ σ H, SK K H0 H1 ρ σ H → Φ.bk ρ → E.bk σ H
  ct : ∀ ρ σ H, SK K H0 H1 ρ σ H → Φ.ct ρ → E.ct σ H
def Sx (X : Cx) (st : Stmt) (ρ : Rho) (Φ : DL.Fin) : Prop := ∀ H0 H1 σ H E, SK X.K H0 H1 ρ σ H → FinOk X.K H0 H1 Φ E → cS X st E σ H
def Sxs (X : Cx) (st : List Stmt) (ρ : Rho) (Φ : DL.Fin) : Prop := ∀ H0 H1 σ H E, SK X.K H0 H1 ρ σ H → FinOk X.K H0 H1 Φ E → cSs X st E σ H
section
variable {X : Cx} {ρ : Rho} {Φ : DL.Fin} {e a b c : Expr} {d x y z : D} {ds : List D} {k : Kd} {st : Stmt} {rest : List Stmt} {pos : Pos}
theorem SK.mono {K : PySem.W.Frag} {H0 H1 H H' : Hp} {σ : L2.St} (S : SK K H0 H1 ρ σ H) (s : Same H H') : SK K H0 H1 ρ σ H' := ⟨S.same.trans s, S.stb.trans (.of s), S.ok.mono s, S.fr⟩
theorem SK.set {K : PySem.W.Frag} {H0 H1 H H' : Hp} {σ : L2.St} {i : Nat} {v : V} (S : SK K H0 H1 ρ σ H) (s : Same H H') (r : Rp K H' v d) : SK K H0 H1 (ρ.set i (.val d)) (σ.set i (some v)) H' := by
  refine ⟨S.same.trans s, S.stb.trans (.of s), (S.ok.mono s).set r, fun j b a e1 e2 e3 => ?_⟩
  by_cases hj : j = i
  · subst hj
    by_cases hl : j < ρ.length
    · rw [List.getElem?_set_self hl] at e1; cases e1; cases e2
    · rw [List.getElem?_eq_none (by rw [List.length_set]; omega)] at e1; cases e1
  · rw [List.getElem?_set_ne (Ne.symm hj)] at e1 e3
    exact S.fr j b a e1 e2 e3
theorem SK.weak {K : PySem.W.Frag} {H0 H1 H : Hp} {σ σ' : L2.St} {ρ' : Rho} (S : SK K H0 H1 ρ σ H) (hl : ρ'.length = σ'.length) (w : ∀ (i : Nat) b, ρ'[i]? = some b → b ≠ .un → ρ[i]? = some b ∧ σ'[i]? = σ[i]?) : SK K H0 H1 ρ' σ' H :=
  ⟨S.same, S.stb, S.ok.weak hl w, fun j b a e1 e2 e3 => by
    obtain ⟨q1, q2⟩ := w j b e1 (by rintro rfl; cases e2)
    exact S.fr j b a q1 e2 (by rw [← q2]; exact e3)⟩
theorem Sx.imp {Ψ : DL.Fin} (h : Sx X st ρ Ψ) (n : ∀ ρ, Ψ.nx ρ → Φ.nx ρ) (r : ∀ d, Ψ.rt d → Φ.rt d) (bk : ∀ ρ, Ψ.bk ρ → Φ.bk ρ) (ct : ∀ ρ, Ψ.ct ρ → Φ.ct ρ) : Sx X st ρ Φ := fun H0 H1 σ H E S F =>
  h H0 H1 σ H E S ⟨fun ρ σ H s q => F.nx ρ σ H s (n ρ q), fun d v H s r' q => F.rt d v H s r' (r d q), fun ρ σ H s q => F.bk ρ σ H s (bk ρ q), fun ρ σ H s q => F.ct ρ σ H s (ct ρ q)⟩
theorem Sxs.imp {Ψ : DL.Fin} (h : Sxs X rest ρ Ψ) (n : ∀ ρ, Ψ.nx ρ → Φ.nx ρ) (r : ∀ d, Ψ.rt d → Φ.rt d) (bk : ∀ ρ, Ψ.bk ρ → Φ.bk ρ) (ct : ∀ ρ, Ψ.ct ρ → Φ.ct ρ) : Sxs X rest ρ Φ := fun H0 H1 σ H E S F =>
  h H0 H1 σ H E S ⟨fun ρ σ H s q => F.nx ρ σ H s (n ρ q), fun d v H s r' q => F.rt d v H s r' (r d q), fun ρ σ H s q => F.bk ρ σ H s (bk ρ q), fun ρ σ H s q => F.ct ρ σ H s (ct ρ q)⟩
/-! ### blocks -/
theorem xs_nil (h : Φ.nx ρ) : Sxs X [] ρ Φ := fun H0 H1 σ H E S F => ⟨_, pss_nil, F.nx ρ σ H S h⟩
theorem xs_cons (h : Sx X st ρ { Φ with nx := fun ρ' => Sxs X rest ρ' Φ }) : Sxs X (st :: rest) ρ Φ := fun H0 H1 σ H E S F =>
  ⟨_, pss_cons ps_c pss_c, h H0 H1 σ H _ S ⟨fun ρ' σ' H' S' q => q H0 H1 σ' H' E S' F, F.rt, F.bk, F.ct⟩⟩
theorem xs_one (h : Sx X st ρ Φ) : Sxs X [st] ρ Φ := fun H0 H1 σ H E S F => ⟨_, pss_one ps_c, h H0 H1 σ H E S F⟩
/-! ### small statements -/
theorem sx_pass (h : Φ.nx ρ) : Sx X (.Pass pos) ρ Φ := fun H0 H1 σ H E S F => ⟨_, ps_pass, F.nx ρ σ H S h⟩
theorem sx_break (h : Φ.bk ρ) : Sx X (.Break pos) ρ Φ := fun H0 H1 σ H E S F => ⟨_, ps_break, F.bk ρ σ H S h⟩
theorem sx_cont (h : Φ.ct ρ) : Sx X (.Continue pos) ρ Φ := fun H0 H1 σ H E S F => ⟨_, ps_continue, F.ct ρ σ H S h⟩
theorem sx_ret (he : Ev X e ρ (.val d)) (h : Φ.rt d) : Sx X (.Return (some e) pos) ρ Φ := fun H0 H1 σ H E S F =>
  ⟨_, ps_ret pe_c, he σ H _ S.ok fun v H' ⟨s, r⟩ => F.rt d v H' (S.same.trans s) r h⟩
theorem sx_retN (h : Φ.rt .none) : Sx X (.Return none pos) ρ Φ := fun H0 H1 σ H E S F => ⟨_, ps_retN, F.rt .none .non H S.same .non h⟩
/-- a list, a dict of one's own is handed back -/
theorem sx_retOwn (i : Nat) {x : Str} {p : Pos} (hi : ρ[i]? = some (.own ds)) (h : Φ.rt (.list ds)) (hN : X.N[i]? = some x := by rfl) (hv : Vis X.env.scope x := by first | exact Or.inl rfl | exact Or.inr (Or.inl rfl) | exact Or.inr (Or.inr rfl)) (hd : (x == ("__debug__" : Str)) = false := by decide)
    (hcd : (x == ("__classdict__" : Str)) = false := by decide) : Sx X (.Return (some (.Name x p)) pos) ρ Φ := fun H0 H1 σ H E S F => by
  obtain ⟨a, xs, e1, e2, r⟩ := S.ok.own i ds hi
  exact ⟨_, ps_ret (fz_any (pe_var hN hv hd hcd)), _, e1, a, _, rfl, e2, trivial, fun od => F.rt _ _ _ (same_mut S.same (S.fr i _ a hi rfl e1)) (rp_lock e2 r od) h⟩
theorem sx_retDic (i : Nat) {x : Str} {p : Pos} {es : List (D × D)} (hi : ρ[i]? = some (.dic es)) (h : Φ.rt (.dict es)) (hN : X.N[i]? = some x := by rfl) (hv : Vis X.env.scope x := by first | exact Or.inl rfl | exact Or.inr (Or.inl rfl) | exact Or.inr (Or.inr rfl)) (hd : (x == ("__debug__" : Str)) = false := by decide)
    (hcd : (x == ("__classdict__" : Str)) = false := by decide) : Sx X (.Return (some (.Name x p)) pos) ρ Φ := fun H0 H1 σ H E S F => by
  obtain ⟨a, xs, e1, e2, r⟩ := S.ok.dic i es hi
  exact ⟨_, ps_ret (fz_any (pe_var hN hv hd hcd)), _, e1, a, _, rfl, e2, trivial, fun od => F.rt _ _ _ (same_mut S.same (S.fr i _ a hi rfl e1)) (rp_lockD e2 r od) h⟩
theorem sx_if {t : Bool} {as bs : List Stmt} (hc : EvT X c ρ t) (ha : t = true → Sxs X as ρ Φ) (hb : t = false → Sxs X bs ρ Φ) : Sx X (.If c as bs pos) ρ Φ := fun H0 H1 σ H E S F =>
  ⟨_, ps_if pt_c pss_c pss_c, hc σ H _ S.ok fun H2 s2 => by
    cases t with
    | true => exact iteT (ha rfl H0 H1 σ H2 E (S.mono s2) F)
    | false => exact iteF (hb rfl H0 H1 σ H2 E (S.mono s2) F)⟩
/-! ### name = value -/
theorem sx_set (i : Nat) {x : Str} {pos' : Pos} (hN : X.N.Nodup) (he : Ev X e ρ (.val d)) (h : Φ.nx (ρ.set i (.val d))) (hi : X.N[i]? = some x := by rfl) (hx : Loc X.env.scope x := by first | exact Or.inl rfl | exact Or.inr rfl) (hs : swapsWith e (some (.Name x pos')) pos.line X.env = pure false := by rfl) (hf : X.fn x = true ∨ X.env.scope.names.lookup x = some .local := by first | exact .inl rfl | exact .inr rfl | assumption) :
    Sx X (.Assign [.Name x pos'] e pos) ρ Φ := fun H0 H1 σ H E S F =>
  ⟨_, ps_set hN hi hx pe_c hs hf, he σ H _ S.ok fun v H' ⟨s, r⟩ => F.nx _ _ _ (S.set s r) h⟩
theorem SK.setNew {K : PySem.W.Frag} {H0 H1 H H' : Hp} {σ : L2.St} {i : Nat} {p : Addr} {b0 : B} (S : SK K H0 H1 ρ σ H) (s : Same H H') (n : H p = none) (hb : isOwn b0 = true)
    (hl' : ∀ ds, b0 = .own ds → ∃ xs, H' p = some (.lst xs) ∧ RpAll K H' xs ds) (hd' : ∀ es, b0 = .dic es → ∃ kvs, H' p = some (.dK kvs) ∧ RpKV K H' kvs es) : SK K H0 H1 (ρ.set i b0) (σ.set i (some (.ref p))) H' := by
  have ownT : ∀ (j : Nat) b, ρ[j]? = some b → isOwn b = true → σ[j]? ≠ some (some (.ref p)) := fun j b e o q => by
    cases b with
    | un => cases o
    | val _ => cases o
    | own ds => obtain ⟨a, xs, e1, e2, _⟩ := S.ok.own j ds e; rw [q] at e1; cases e1; rw [n] at e2; cases e2
    | dic es => obtain ⟨a, xs, e1, e2, _⟩ := S.ok.dic j es e; rw [q] at e1; cases e1; rw [n] at e2; cases e2
  refine ⟨S.same.trans s, S.stb.trans (.of s), (S.ok.mono s).setOwn hb (fun j b e o _ => ownT j b e o) hl' hd', fun j b a e1 e2 e3 => ?_⟩
  by_cases hj : j = i
  · subst hj
    have hl := S.ok.len
    by_cases hlt : j < ρ.length
    · rw [List.getElem?_set_self (by omega)] at e3
      cases e3
      exact S.same.free n
    · rw [List.getElem?_eq_none (by rw [List.length_set]; omega)] at e1; cases e1
  · rw [List.getElem?_set_ne (Ne.symm hj)] at e1 e3
    exact S.fr j b a e1 e2 e3
theorem SK.new {K : PySem.W.Frag} {H0 H1 H H' : Hp} {σ : L2.St} {i : Nat} {v : V} (S : SK K H0 H1 ρ σ H) (r : RS K (.new ds) H v H') : SK K H0 H1 (ρ.set i (.own ds)) (σ.set i (some v)) H' := by
  obtain ⟨s, p, xs, rfl, n, e, r⟩ := r
  exact S.setNew s n rfl (fun ds' q => by cases q; exact ⟨xs, e, r⟩) fun _ q => nomatch q
theorem SK.newD {K : PySem.W.Frag} {H0 H1 H H' : Hp} {σ : L2.St} {i : Nat} {v : V} {es : List (D × D)} (S : SK K H0 H1 ρ σ H) (r : RS K (.newD es) H v H') : SK K H0 H1 (ρ.set i (.dic es)) (σ.set i (some v)) H' := by
  obtain ⟨s, p, xs, rfl, n, e, r⟩ := r
  exact S.setNew s n rfl (fun _ q => nomatch q) (fun ds' q => by cases q; exact ⟨xs, e, r⟩)
theorem sx_new (i : Nat) {x : Str} {pos' : Pos} (hN : X.N.Nodup) (he : Ev X e ρ (.new ds)) (h : Φ.nx (ρ.set i (.own ds))) (hi : X.N[i]? = some x := by rfl) (hx : Loc X.env.scope x := by first | exact Or.inl rfl | exact Or.inr rfl) (hs : swapsWith e (some (.Name x pos')) pos.line X.env = pure false := by rfl) (hf : X.fn x = true ∨ X.env.scope.names.lookup x = some .local := by first | exact .inl rfl | exact .inr rfl | assumption) :
    Sx X (.Assign [.Name x pos'] e pos) ρ Φ := fun H0 H1 σ H E S F =>
  ⟨_, ps_set hN hi hx pe_c hs hf, he σ H _ S.ok fun v H' r => F.nx _ _ _ (S.new r) h⟩
theorem sx_newD (i : Nat) {x : Str} {pos' : Pos} {es : List (D × D)} (hN : X.N.Nodup) (he : Ev X e ρ (.newD es)) (h : Φ.nx (ρ.set i (.dic es))) (hi : X.N[i]? = some x := by rfl) (hx : Loc X.env.scope x := by first | exact Or.inl rfl | exact Or.inr rfl) (hs : swapsWith e (some (.Name x pos')) pos.line X.env = pure false := by rfl) (hf : X.fn x = true ∨ X.env.scope.names.lookup x = some .local := by first | exact .inl rfl | exact .inr rfl | assumption) :
    Sx X (.Assign [.Name x pos'] e pos) ρ Φ := fun H0 H1 σ H E S F =>
  ⟨_, ps_set hN hi hx pe_c hs hf, he σ H _ S.ok fun v H' r => F.nx _ _ _ (S.newD r) h⟩
/-- name = [..] on one line, the name a local: the new list is locked -/
theorem fz_stmt {t : TE} {i : Nat} (h : PS X st (tAsg t (gName i))) : PS X st (tAsg (fun σ H Q => t σ H fun v H' => ∃ a u, v = .ref a ∧ H' a = some u ∧ Mut (some u) ∧ ∀ od, Q v (upd H' a (.frz od u))) (gName i)) ∨ True := .inr trivial
theorem ps_fzNx {t : TS} (h : PS X st t) : PS X st (fun E σ H => t { E with nx := fun σ' H' => ∃ a u, H' a = some u ∧ Mut (some u) ∧ ∀ od, E.nx σ' (upd H' a (.frz od u)) } σ H) := by
  refine ⟨fun pins s σ H E I hw => ?_⟩
  refine thn (h.run pins s σ H _ I hw) fun f s1 q => ?_
  cases f with
  | next =>
    obtain ⟨σ', H', I2, a, u, hu, mu, q⟩ := q
    obtain ⟨od, I3⟩ := I2.lock hu mu
    exact ⟨σ', _, I3, q od⟩
  | brk => exact q
  | cont => exact q
  | ret v => exact q
theorem sx_setLc (i : Nat) {y : Str} {py : Pos} {elt tg iter : Expr} {ifs : List Expr} {scope : Scope} {own : List (Str × Nat)} {pos spos : Pos} {α : Type} {ps : List α} {en : α → D} {ρ' : α → Rho} {keep : α → Bool} {f : α → D} {is : List Nat} {yl : Bool}
    (hN : X.N.Nodup) (ok : BlkOk X.N X.env.scope scope own) (hsw : swapsWith (.ListComp elt [⟨tg, iter, ifs, 0⟩] scope pos) (some (.Name y py)) spos.line X.env = pure true)
    (hi : EvIq X tg iter ρ yl (ps.map en)) (hg : ∀ p ∈ ps, Blk X scope fun Y => EvG Y yl tg (wipeB ρ (own.map (·.2))) (en p) (ρ' p) is)
    (ht : ∀ p ∈ ps, Blk X scope fun Y => EvTs Y ifs (ρ' p) (keep p)) (he : ∀ p ∈ ps, keep p = true → Blk X scope fun Y => Ev Y elt (ρ' p) (.val (f p)))
    (h : Φ.nx (ρ.set i (.val (.list ((ps.filter keep).map f)))))
    (hw : ∀ i ∈ is, i ∈ own.map (·.2) := by decide) (hy : X.N[i]? = some y := by rfl) (hyl : X.env.scope.names.lookup y = some .local := by rfl) (hc : X.calm = true := by rfl) (hs : ∀ x, foldedSetIterable iter X.env x = pure x := by intro _; rfl) :
    Sx X (.Assign [.Name y py] (.ListComp elt [⟨tg, iter, ifs, 0⟩] scope pos) spos) ρ Φ := fun H0 H1 σ H E S F =>
  ⟨_, ps_fzNx (ps_setLc hc hN hy hyl hsw pi_c ok pg_cB pt_cB pe_cB hs), lc_run ps en hi hg hw ht he S.ok fun v H' ⟨s, p, xs, e1, n, e2, r⟩ => by
    subst e1
    exact ⟨p, _, e2, trivial, fun od => F.nx _ _ _ (S.set (same_mut s n) (rp_lock e2 r od)) h⟩⟩
theorem sx_newLc (i : Nat) {y : Str} {py : Pos} {elt tg iter : Expr} {ifs : List Expr} {scope : Scope} {own : List (Str × Nat)} {pos spos : Pos} {α : Type} {ps : List α} {en : α → D} {ρ' : α → Rho} {keep : α → Bool} {f : α → D} {is : List Nat} {yl : Bool}
    (hN : X.N.Nodup) (ok : BlkOk X.N X.env.scope scope own) (hsw : swapsWith (.ListComp elt [⟨tg, iter, ifs, 0⟩] scope pos) (some (.Name y py)) spos.line X.env = pure true)
    (hi : EvIq X tg iter ρ yl (ps.map en)) (hg : ∀ p ∈ ps, Blk X scope fun Y => EvG Y yl tg (wipeB ρ (own.map (·.2))) (en p) (ρ' p) is)
    (ht : ∀ p ∈ ps, Blk X scope fun Y => EvTs Y ifs (ρ' p) (keep p)) (he : ∀ p ∈ ps, keep p = true → Blk X scope fun Y => Ev Y elt (ρ' p) (.val (f p)))
    (h : Φ.nx (ρ.set i (.own ((ps.filter keep).map f))))
    (hw : ∀ i ∈ is, i ∈ own.map (·.2) := by decide) (hy : X.N[i]? = some y := by rfl) (hyl : X.env.scope.names.lookup y = some .local := by rfl) (hc : X.calm = true := by rfl) (hs : ∀ x, foldedSetIterable iter X.env x = pure x := by intro _; rfl) :
    Sx X (.Assign [.Name y py] (.ListComp elt [⟨tg, iter, ifs, 0⟩] scope pos) spos) ρ Φ := fun H0 H1 σ H E S F =>
  ⟨_, ps_setLc hc hN hy hyl hsw pi_c ok pg_cB pt_cB pe_cB hs, lc_run ps en hi hg hw ht he S.ok fun v H' r => F.nx _ _ _ (S.new r) h⟩
/-- x = y, y a list of one's own: it is locked; both are that datum -/
theorem SK.lockOwn {K : PySem.W.Frag} {H0 H1 H : Hp} {σ : L2.St} {j : Nat} {p : Addr} {xs : List V} (S : SK K H0 H1 ρ σ H) (hj : ρ[j]? = some (.own ds)) (e1 : σ[j]? = some (some (.ref p))) (e2 : H p = some (.lst xs)) (r : RpAll K H xs ds) (od : Obj) :
    SK K H0 H1 (ρ.set j (.val (.list ds))) σ (upd H p (.frz od (.lst xs))) := by
  have st : Stb H (upd H p (.frz od (.lst xs))) := stb_upd e2 trivial
  have hlt : j < ρ.length := (List.getElem?_eq_some_iff.mp hj).1
  have ne : ∀ (i : Nat) b, (ρ.set j (.val (.list ds)))[i]? = some b → i ≠ j → ρ[i]? = some b := fun i b e n => by rwa [List.getElem?_set_ne (Ne.symm n)] at e
  have at_ : ∀ b, (ρ.set j (.val (.list ds)))[j]? = some b → b = .val (.list ds) := fun b e => by rw [List.getElem?_set_self hlt] at e; exact (Option.some.inj e).symm
  have apart : ∀ (i : Nat) b a, ρ[i]? = some b → isOwn b = true → i ≠ j → σ[i]? = some (some (.ref a)) → a ≠ p := fun i b a e o n s z => by
    subst z
    exact n (S.ok.apart i j b _ a e hj o rfl s e1)
  refine ⟨same_mut S.same (S.fr j _ p hj rfl e1), S.stb.trans st, ⟨by rw [List.length_set]; exact S.ok.len, fun i d e => ?_, fun i ds' e => ?_, fun i es e => ?_, fun i k b c a q1 q2 o1 o2 s1 s2 => ?_⟩, fun i b a q1 q2 q3 => ?_⟩
  · by_cases hi : i = j
    · subst hi
      have q := at_ _ e
      cases q
      exact ⟨_, e1, rp_lock e2 r od⟩
    · obtain ⟨v, h1, h2⟩ := S.ok.val i d (ne i _ e hi)
      exact ⟨v, h1, h2.mono st⟩
  · by_cases hi : i = j
    · subst hi; have q := at_ _ e; cases q
    · obtain ⟨a, ys, h1, h2, h3⟩ := S.ok.own i ds' (ne i _ e hi)
      exact ⟨a, ys, h1, by rw [upd_ne (apart i _ a (ne i _ e hi) rfl hi h1)]; exact h2, h3.mono st⟩
  · by_cases hi : i = j
    · subst hi; have q := at_ _ e; cases q
    · obtain ⟨a, ys, h1, h2, h3⟩ := S.ok.dic i es (ne i _ e hi)
      exact ⟨a, ys, h1, by rw [upd_ne (apart i _ a (ne i _ e hi) rfl hi h1)]; exact h2, h3.mono st⟩
  · have hi : i ≠ j := fun z => by subst z; have q := at_ _ q1; subst q; cases o1
    have hk : k ≠ j := fun z => by subst z; have q := at_ _ q2; subst q; cases o2
    exact S.ok.apart i k b c a (ne i _ q1 hi) (ne k _ q2 hk) o1 o2 s1 s2
  · have hi : i ≠ j := fun z => by subst z; have q := at_ _ q1; subst q; cases q2
    exact S.fr i b a (ne i _ q1 hi) q2 q3
theorem sx_move (i j : Nat) {x y : Str} {pos' p : Pos} (hN : X.N.Nodup) (hj : ρ[j]? = some (.own ds)) (h : Φ.nx ((ρ.set j (.val (.list ds))).set i (.val (.list ds)))) (hi : X.N[i]? = some x := by rfl) (hx : Loc X.env.scope x := by first | exact Or.inl rfl | exact Or.inr rfl) (hNj : X.N[j]? = some y := by rfl) (hv : Vis X.env.scope y := by first | exact Or.inl rfl | exact Or.inr (Or.inl rfl) | exact Or.inr (Or.inr rfl)) (hd : (y == ("__debug__" : Str)) = false := by decide)
    (hcd : (y == ("__classdict__" : Str)) = false := by decide) (hs : swapsWith (.Name y p) (some (.Name x pos')) pos.line X.env = pure false := by rfl) (hf : X.fn x = true ∨ X.env.scope.names.lookup x = some .local := by first | exact .inl rfl | exact .inr rfl | assumption) :
    Sx X (.Assign [.Name x pos'] (.Name y p) pos) ρ Φ := fun H0 H1 σ H E S F => by
  obtain ⟨a, xs, e1, e2, r⟩ := S.ok.own j ds hj
  refine ⟨_, ps_set hN hi hx (fz_any (pe_var hNj hv hd hcd)) hs hf, _, e1, a, _, rfl, e2, trivial, fun od => F.nx _ _ _ ?_ h⟩
  exact (S.lockOwn hj e1 e2 r od).set (.refl _) (rp_lock e2 r od)
/-- targets of tuples -/
theorem sx_unpack {es : List Expr} {n : Nat} {pt : Pos} {ρ' : Rho} {is : List Nat} (he : Ev X e ρ (.val d)) (hg : EvG X false (.Tuple es n pt) ρ d ρ' is) (h : Φ.nx ρ') (hs : swapsWithSole [.Tuple es n pt] e pos.line X.env = pure false := by rfl) (hw : swappedStores [.Tuple es n pt] e X.env = pure none := by rfl)
    (h1 : (assignEach [.Tuple es n pt] X.env).map (·.2) = [assign (.Tuple es n pt) X.env] := by rfl) : Sx X (.Assign [.Tuple es n pt] e pos) ρ Φ := fun H0 H1 σ H E S F =>
  ⟨_, ps_asg pe_c pg_c hs hw h1, he σ H _ S.ok fun v H' ⟨s, r⟩ => hg.run σ H' v _ (S.ok.mono s) (.inl r) fun σ' S' w => F.nx _ _ _ ⟨S.same.trans s, S.stb.trans (.of s), S', fun i b a q1 q2 q3 => by
    obtain ⟨z1, z2⟩ := hg.own i b q1 q2
    refine S.fr i b a z1 q2 ?_
    have e1 := congrArg (fun τ : L2.St => τ[i]?) (w is fun _ z => z)
    simp only [wipe_out z2] at e1
    rw [← e1]; exact q3⟩ h⟩
/-! ### loops -/
/-- the turns of a for, one by one -/
def ForW (X : Cx) (yl : Bool) (tg : Expr) (body : List Stmt) : List D → Rho → DL.Fin → Prop
  | [], ρ, Φ => Φ.nx ρ
  | x :: xs, ρ, Φ => ∃ ρ' is, EvG X yl tg ρ x ρ' is ∧ Sxs X body ρ' { nx := fun ρ2 => ForW X yl tg body xs ρ2 Φ, rt := Φ.rt, bk := Φ.nx, ct := fun ρ2 => ForW X yl tg body xs ρ2 Φ }
theorem sx_for {yl : Bool} {tg it : Expr} {body : List Stmt} {xs : List D} (hi : EvI X tg it ρ yl xs) (h : ForW X yl tg body xs ρ Φ) (hp : PassesOwn (model X.prog X.w) X.A X.env X.xe := by exact PassesOwn.never) (hc : X.calm = true := by rfl) (hs : ∀ x, foldedSetIterable it X.env x = pure x := by intro _; rfl) :
    Sx X (.For tg it body [] pos) ρ Φ := fun H0 H1 σ H E S F =>
  ⟨_, ps_for hp hc pi_c pg_c pss_c hs, hi σ H _ S.ok fun J H2 s2 _ w => by
    refine for_it w (fun i σ' H' => Stb H2 H' ∧ ∃ ρ', SK X.K H0 H1 ρ' σ' H' ∧ ForW X yl tg body (xs.drop i) ρ' Φ) ⟨.refl _, ρ, S.mono s2, by simpa using h⟩ (fun i σ' H' _ h => h.1) (fun i x σ' H3 H4 hlt ⟨st3, ρ3, S3, f3⟩ ⟨s4, d, hd, rd⟩ => ?_) (fun σ' H3 ⟨st3, ρ3, S3, f3⟩ => ?_)
    · have hx : xs.drop i = xs[i] :: xs.drop (i + 1) := List.drop_eq_getElem_cons hlt
      rw [List.getElem?_eq_getElem hlt] at hd
      have ed : xs[i] = d := Option.some.inj hd
      subst ed
      rw [hx] at f3
      obtain ⟨ρ4, is, hg, hb⟩ := f3
      refine hg.run σ' H4 x _ (S3.ok.mono s4) rd fun σ5 S5 w5 => ?_
      have K5 : SK X.K H0 H4 ρ4 σ5 H4 := ⟨S3.same.trans s4, .refl _, S5, fun i b a q1 q2 q3 => by
        obtain ⟨z1, z2⟩ := hg.own i b q1 q2
        refine S3.fr i b a z1 q2 ?_
        have e1 := congrArg (fun τ : L2.St => τ[i]?) (w5 is fun _ z => z)
        simp only [wipe_out z2] at e1
        rw [← e1]; exact q3⟩
      have back : ∀ {ρ6 : Rho} {σ6 : L2.St} {H6 : Hp}, SK X.K H0 H4 ρ6 σ6 H6 → SK X.K H0 H1 ρ6 σ6 H6 := fun S6 => ⟨S6.same, S3.stb.trans ((Stb.of s4).trans S6.stb), S6.ok, S6.fr⟩
      refine hb H0 H4 σ5 H4 _ K5 ⟨fun ρ6 σ6 H6 S6 q => ⟨st3.trans ((Stb.of s4).trans S6.stb), ρ6, back S6, q⟩, F.rt, fun ρ6 σ6 H6 S6 q => F.nx ρ6 σ6 H6 (back S6) q, fun ρ6 σ6 H6 S6 q => ⟨st3.trans ((Stb.of s4).trans S6.stb), ρ6, back S6, q⟩⟩
    · rw [List.drop_length] at f3
      exact F.nx ρ3 σ' H3 S3 f3⟩
theorem sx_while {body : List Stmt} (W : Nat → Rho → Prop) (m : Nat) (h0 : W m ρ) (turn : ∀ m ρ, W m ρ → ∃ t, EvT X c ρ t ∧ (t = true → Sxs X body ρ { nx := fun ρ' => ∃ m', m' < m ∧ W m' ρ', rt := Φ.rt, bk := Φ.nx, ct := fun ρ' => ∃ m', m' < m ∧ W m' ρ' }) ∧ (t = false → Φ.nx ρ))
    (hp : PassesOwn (model X.prog X.w) X.A X.env X.xe := by exact PassesOwn.never) : Sx X (.While c body [] pos) ρ Φ := fun H0 H1 σ H E S F => by
  refine ⟨_, ps_while hp pt_c pss_c, fun m σ' H' => ∃ ρ', SK X.K H0 H1 ρ' σ' H' ∧ W m ρ', ⟨m, ρ, S, h0⟩, fun m σ2 H2 ⟨ρ2, S2, w2⟩ => ?_⟩
  obtain ⟨t, ht, h1, h2⟩ := turn m ρ2 w2
  refine ht σ2 H2 _ S2.ok fun H3 s3 => ?_
  cases t with
  | true =>
    refine iteT ⟨fun σ' H' => ∃ m', m' < m ∧ ∃ ρ', SK X.K H0 H1 ρ' σ' H' ∧ W m' ρ', fun σ' H' h => h, h1 rfl H0 H1 σ2 H3 _ (S2.mono s3) ⟨fun ρ4 σ4 H4 S4 ⟨m', lt, w4⟩ => ⟨m', lt, ρ4, S4, w4⟩, F.rt, F.nx, fun ρ4 σ4 H4 S4 ⟨m', lt, w4⟩ => ⟨m', lt, ρ4, S4, w4⟩⟩⟩
  | false => exact iteF (F.nx ρ2 σ2 H3 (S2.mono s3) (h2 rfl))
/-! ### a list of one's own is changed -/
theorem SK.write {K : PySem.W.Frag} {H0 H1 H : Hp} {σ : L2.St} {j : Nat} {p : Addr} {u : HO} {o : HO} {b0 b1 : B} (S : SK K H0 H1 ρ σ H) (hj : ρ[j]? = some b0) (h0 : isOwn b0 = true) (h1 : isOwn b1 = true) (e1 : σ[j]? = some (some (.ref p))) (e2 : H p = some u) (mu : Mut (some u))
    (hl : ∀ ds, b1 = .own ds → ∃ xs, o = .lst xs ∧ RpAll K (upd H p o) xs ds) (hd : ∀ es, b1 = .dic es → ∃ xs, o = .dK xs ∧ RpKV K (upd H p o) xs es) : SK K H0 H1 (ρ.set j b1) σ (upd H p o) := by
  have st : Stb H (upd H p o) := stb_upd e2 mu
  have hlt : j < ρ.length := (List.getElem?_eq_some_iff.mp hj).1
  have ne : ∀ (i : Nat) b, (ρ.set j b1)[i]? = some b → i ≠ j → ρ[i]? = some b := fun i b e n => by rwa [List.getElem?_set_ne (Ne.symm n)] at e
  have at_ : ∀ b, (ρ.set j b1)[j]? = some b → b = b1 := fun b e => by rw [List.getElem?_set_self hlt] at e; exact (Option.some.inj e).symm
  have apart : ∀ (i : Nat) b a, ρ[i]? = some b → isOwn b = true → i ≠ j → σ[i]? = some (some (.ref a)) → a ≠ p := fun i b a e o n s z => by
    subst z
    exact n (S.ok.apart i j b _ a e hj o h0 s e1)
  have old : ∀ (i : Nat) b, (ρ.set j b1)[i]? = some b → isOwn b = true → ∃ b', ρ[i]? = some b' ∧ isOwn b' = true := fun i b e ob => by
    by_cases hi : i = j
    · subst hi; exact ⟨b0, hj, h0⟩
    · exact ⟨b, ne i b e hi, ob⟩
  refine ⟨same_mut S.same (S.fr j _ p hj h0 e1), S.stb.trans st, ⟨by rw [List.length_set]; exact S.ok.len, fun i d e => ?_, fun i ds' e => ?_, fun i es e => ?_, fun i k b c a q1 q2 o1 o2 s1 s2 => ?_⟩, fun i b a q1 q2 q3 => ?_⟩
  · by_cases hi : i = j
    · subst hi; have q := at_ _ e; rw [← q] at h1; cases h1
    · obtain ⟨v, h1, h2⟩ := S.ok.val i d (ne i _ e hi)
      exact ⟨v, h1, h2.mono st⟩
  · by_cases hi : i = j
    · subst hi
      obtain ⟨xs, q1, q2⟩ := hl ds' (at_ _ e).symm
      exact ⟨p, xs, e1, by rw [upd_same, q1], q2⟩
    · obtain ⟨a, ys, h1, h2, h3⟩ := S.ok.own i ds' (ne i _ e hi)
      exact ⟨a, ys, h1, by rw [upd_ne (apart i _ a (ne i _ e hi) rfl hi h1)]; exact h2, h3.mono st⟩
  · by_cases hi : i = j
    · subst hi
      obtain ⟨xs, q1, q2⟩ := hd es (at_ _ e).symm
      exact ⟨p, xs, e1, by rw [upd_same, q1], q2⟩
    · obtain ⟨a, ys, h1, h2, h3⟩ := S.ok.dic i es (ne i _ e hi)
      exact ⟨a, ys, h1, by rw [upd_ne (apart i _ a (ne i _ e hi) rfl hi h1)]; exact h2, h3.mono st⟩
  · obtain ⟨b', q1', o1'⟩ := old i b q1 o1
    obtain ⟨c', q2', o2'⟩ := old k c q2 o2
    exact S.ok.apart i k b' c' a q1' q2' o1' o2' s1 s2
  · obtain ⟨b', q1', o1'⟩ := old i b q1 q2
    exact S.fr i b' a q1' o1' q3
theorem sx_append (j : Nat) {y : Str} {p2 apos cpos : Pos} (hj : ρ[j]? = some (.own ds)) (he : Ev X e ρ (.val d)) (hz : ds.length < sizeLine) (h : Φ.nx (ρ.set j (.own (ds ++ [d])))) (hNj : X.N[j]? = some y := by rfl) (hv : Vis X.env.scope y := by first | exact Or.inl rfl | exact Or.inr (Or.inl rfl) | exact Or.inr (Or.inr rfl)) (hd : (y == ("__debug__" : Str)) = false := by decide)
    (hcd : (y == ("__classdict__" : Str)) = false := by decide) (hbase : attributeBase (.Name y p2) "append" X.env (eval (.Name y p2) X.env) = eval (.Name y p2) X.env := by rfl)
    (hfew : ((backTo cpos (starEach [e] X.env)).all (fun x => !x.1) && (backToKw cpos (keywordEach [] X.env)).all (fun x => x.1.isSome)
      && decide ([e].length + ([] : List Keyword).length + (if ([] : List Keyword).isEmpty then 0 else 1) < 30)) = true := by rfl)
    (hline : (apos.endLine == cpos.line) = true := by rfl) (hs : starEach [e] X.env = (false, eval e X.env) :: starEach [] X.env := by rfl) (hplain : (backTo cpos (starEach [] X.env)).any (·.1) = false := by rfl)
    (hsw : swapsWith (.Call (.Attribute (.Name y p2) "append" apos) [e] [] cpos) none pos.line X.env = pure false := by rfl) :
    Sx X (.Expr (.Call (.Attribute (.Name y p2) "append" apos) [e] [] cpos) pos) ρ Φ := fun H0 H1 σ H E S F => by
  obtain ⟨a, xs, e1, e2, r⟩ := S.ok.own j ds hj
  refine ⟨_, ps_expr (pe_bm PySem.F.plainAttrs_list PySem.F.slot_list_append PySem.F.type_list_append mt_append (pe_var hNj hv hd hcd) (pa_cons pe_c pa_nil hs) hbase hfew hline hs hplain) hsw, _, e1, .inl ⟨rfl, xs, .of e2⟩, he σ H _ S.ok fun v H2 ⟨s2, r2⟩ => ?_⟩
  refine ⟨a, xs, v, rfl, rfl, s2 _ _ e2, by rw [r.length]; exact hz, F.nx _ _ _ ((S.mono s2).write hj rfl rfl e1 (s2 _ _ e2) trivial (fun ds' q => ?_) fun _ q => by cases q) h⟩
  cases q
  have st : Stb H2 (upd H2 a (.lst (xs ++ [v]))) := stb_upd (s2 _ _ e2) trivial
  exact ⟨_, rfl, ((r.mono (.of s2)).mono st).append (.cons (r2.mono st) .nil)⟩
theorem sx_extend (j : Nat) {y : Str} {p2 apos cpos : Pos} {es : List D} (hj : ρ[j]? = some (.own ds)) (he : Ev X e ρ (.new es)) (hz : ds.length + es.length ≤ sizeLine) (h : Φ.nx (ρ.set j (.own (ds ++ es)))) (hNj : X.N[j]? = some y := by rfl) (hv : Vis X.env.scope y := by first | exact Or.inl rfl | exact Or.inr (Or.inl rfl) | exact Or.inr (Or.inr rfl)) (hd : (y == ("__debug__" : Str)) = false := by decide)
    (hcd : (y == ("__classdict__" : Str)) = false := by decide) (hbase : attributeBase (.Name y p2) "extend" X.env (eval (.Name y p2) X.env) = eval (.Name y p2) X.env := by rfl)
    (hfew : ((backTo cpos (starEach [e] X.env)).all (fun x => !x.1) && (backToKw cpos (keywordEach [] X.env)).all (fun x => x.1.isSome)
      && decide ([e].length + ([] : List Keyword).length + (if ([] : List Keyword).isEmpty then 0 else 1) < 30)) = true := by rfl)
    (hline : (apos.endLine == cpos.line) = true := by rfl) (hs : starEach [e] X.env = (false, eval e X.env) :: starEach [] X.env := by rfl) (hplain : (backTo cpos (starEach [] X.env)).any (·.1) = false := by rfl)
    (hsw : swapsWith (.Call (.Attribute (.Name y p2) "extend" apos) [e] [] cpos) none pos.line X.env = pure false := by rfl) :
    Sx X (.Expr (.Call (.Attribute (.Name y p2) "extend" apos) [e] [] cpos) pos) ρ Φ := fun H0 H1 σ H E S F => by
  obtain ⟨a, xs, e1, e2, r⟩ := S.ok.own j ds hj
  refine ⟨_, ps_expr (pe_bm PySem.F.plainAttrs_list PySem.F.slot_list_extend PySem.F.type_list_extend mt_extend (pe_var hNj hv hd hcd) (pa_cons pe_c pa_nil hs) hbase hfew hline hs hplain) hsw, _, e1, .inl ⟨rfl, xs, .of e2⟩, he σ H _ S.ok fun v H2 ⟨s2, p, zs, e3, n3, e4, r2⟩ => ?_⟩
  subst e3
  refine ⟨a, p, xs, zs, rfl, rfl, s2 _ _ e2, e4, by rw [r.length, r2.length]; exact hz, F.nx _ _ _ ((S.mono s2).write hj rfl rfl e1 (s2 _ _ e2) trivial (fun ds' q => ?_) fun _ q => by cases q) h⟩
  cases q
  have st : Stb H2 (upd H2 a (.lst (xs ++ zs))) := stb_upd (s2 _ _ e2) trivial
  exact ⟨_, rfl, ((r.mono (.of s2)).mono st).append (r2.mono st)⟩
end
/-! ### a def by its body -/
section
variable {P : Program} {w : World} {K : PySem.W.Frag} {mg : Str → Option Value} {base : Heap} {x qual : Str} {params : Arguments} {body : List Stmt} {scope : Scope} {kws : List (Str × V)} {f : Addr} {fd : FuncData}
def startB (n : Nat) (ds : List D) : Rho := ds.map .val ++ List.replicate (n - ds.length) .un
theorem sok_start {H : Hp} {N : List Str} {vs : List V} {ds : List D} (r : RpAll K H vs ds) : SOk K (startB N.length ds) (L2.start N vs) H := by
  have hl := r.length
  have key : ∀ (i : Nat) b, (startB N.length ds)[i]? = some b → b = .un ∨ ∃ d v, b = .val d ∧ (L2.start N vs)[i]? = some (some v) ∧ Rp K H v d := fun i b e => by
    unfold startB at e
    by_cases hi : i < ds.length
    · rw [List.getElem?_append_left (by simpa using hi), List.getElem?_map] at e
      cases q : ds[i]? with
      | none => rw [q] at e; cases e
      | some d =>
        rw [q] at e
        obtain ⟨v, h1, h2⟩ := r.get q
        refine .inr ⟨d, v, (Option.some.inj e).symm, ?_, h2⟩
        unfold L2.start
        rw [List.getElem?_append_left (by simpa using (by omega : i < vs.length)), List.getElem?_map, h1]
        rfl
    · rw [List.getElem?_append_right (by simpa using hi), List.getElem?_replicate] at e
      split at e
      · exact .inl (Option.some.inj e).symm
      · cases e
  refine ⟨by unfold startB L2.start; simp [hl], fun i d e => ?_, fun i ds' e => ?_, fun i es e => ?_, fun i j b c a e1 _ o1 _ _ _ => ?_⟩
  · rcases key i _ e with q | ⟨d', v, q, h1, h2⟩
    · cases q
    · cases q; exact ⟨v, h1, h2⟩
  · rcases key i _ e with q | ⟨d', v, q, h1, h2⟩ <;> cases q
  · rcases key i _ e with q | ⟨d', v, q, h1, h2⟩ <;> cases q
  · rcases key i _ e1 with q | ⟨d', v, q, h1, h2⟩ <;> (subst q; cases o1)
theorem fn_d {N ps : List Str} {k : Nat} {g : List D → D → Prop} (F : FunD K x qual params body scope [] kws f fd) (S : FnScope N ps scope) (len : ∀ ds d, g ds d → ds.length = ps.length)
    (hbody : ∀ (cdv : Value) (A : Around) (outer : List Env) (s : Shared) (H : Hp) (E : XK) (ds : List D) (d : D), Room k (A.deeper (envOfC qual scope s.heap.objs.size f cdv)) → g ds d →
      Sxs (cxOf CX0 P w K mg base N qual scope f cdv A outer s H E).nox body (startB N.length ds) { nx := fun _ => d = .none, rt := fun r => r = d }) : FnD P w K mg base (k + 1) f fd ps g := by
  refine F.ok S (fun vs H Q E ⟨ds, d, r, hg, _⟩ => by rw [r.length]; exact len ds d hg) (fun cdv A outer s H vs Q E hr ⟨ds, d, r, hg, q⟩ => ?_)
  refine ⟨_, PSs.nox pss_c, hbody cdv A outer s H E ds d hr hg H H (L2.start N vs) H _ ⟨.refl _, .refl _, sok_start r, fun i b a e1 o1 _ => ?_⟩ ⟨fun ρ σ H' S' e => ?_, fun r' v H' s' rp e => ?_, fun _ _ _ _ z => z.elim, fun _ _ _ _ z => z.elim⟩⟩
  · exfalso
    unfold startB at e1
    by_cases hi : i < ds.length
    · rw [List.getElem?_append_left (by simpa using hi), List.getElem?_map] at e1
      cases q : ds[i]? with
      | none => rw [q] at e1; cases e1
      | some d => rw [q] at e1; cases e1; cases o1
    · rw [List.getElem?_append_right (by simpa using hi), List.getElem?_replicate] at e1
      split at e1 <;> cases e1
      cases o1
  · subst e
    exact q _ _ S'.same .non
  · subst e
    exact q _ _ s' rp
end
end DL


namespace DL
open PySem PySem.Spec PyProof.Rows L2
section
variable {X : Cx} {ρ : Rho} {e a b c : Expr} {d x y z : D} {ds es : List D} {k : Kd}
/-! ### ints -/
theorem o_add {i j : Int} : OpV X (binaryOp .Add) (.int i) (.int j) (.val (.int (i + j))) := fun H u v Q ru rv q => ⟨_, op_add, i, j, ru.int, rv.int, q _ H ⟨.refl H, .int _⟩⟩
theorem o_sub {i j : Int} : OpV X (binaryOp .Sub) (.int i) (.int j) (.val (.int (i - j))) := fun H u v Q ru rv q => ⟨_, op_sub, i, j, ru.int, rv.int, q _ H ⟨.refl H, .int _⟩⟩
theorem o_mul {i j : Int} (hc : CMul i j) : OpV X (binaryOp .Mult) (.int i) (.int j) (.val (.int (i * j))) := fun H u v Q ru rv q => ⟨_, op_mul, i, j, ru.int, rv.int, hc, q _ H ⟨.refl H, .int _⟩⟩
theorem o_div {i j : Int} (hc : CDiv i j) : OpV X (binaryOp .FloorDiv) (.int i) (.int j) (.val (.int (i / j))) := fun H u v Q ru rv q => ⟨_, op_fdiv, i, j, ru.int, rv.int, hc, q _ H ⟨.refl H, .int _⟩⟩
theorem o_mod {i j : Int} (hc : 0 < j) : OpV X (binaryOp .Mod) (.int i) (.int j) (.val (.int (i % j))) := fun H u v Q ru rv q => ⟨_, op_mod, i, j, ru.int, rv.int, hc, q _ H ⟨.refl H, .int _⟩⟩
theorem o_lt {i j : Int} : OpV X (compareOp .Lt) (.int i) (.int j) (.val (.bool (decide (i < j)))) := fun H u v Q ru rv q => ⟨_, op_lt, i, j, ru.int, rv.int, q _ H ⟨.refl H, .bl _⟩⟩
theorem o_le {i j : Int} : OpV X (compareOp .LtE) (.int i) (.int j) (.val (.bool (decide (i ≤ j)))) := fun H u v Q ru rv q => ⟨_, op_le, i, j, ru.int, rv.int, q _ H ⟨.refl H, .bl _⟩⟩
theorem o_gt {i j : Int} : OpV X (compareOp .Gt) (.int i) (.int j) (.val (.bool (decide (j < i)))) := fun H u v Q ru rv q => ⟨_, op_gt, i, j, ru.int, rv.int, q _ H ⟨.refl H, .bl _⟩⟩
theorem o_ge {i j : Int} : OpV X (compareOp .GtE) (.int i) (.int j) (.val (.bool (decide (j ≤ i)))) := fun H u v Q ru rv q => ⟨_, op_ge, i, j, ru.int, rv.int, q _ H ⟨.refl H, .bl _⟩⟩
/-! ### texts -/
theorem o_adds {i j : Str} (h : i.length + j.length ≤ sizeLine) : OpV X (binaryOp .Add) (.str i) (.str j) (.val (.str (i ++ j))) := fun H u v Q ru rv q => ⟨_, op_add_str, i, j, ru.str, rv.str, h, q _ H ⟨.refl H, .str _⟩⟩
theorem o_lts {i j : Str} : OpV X (compareOp .Lt) (.str i) (.str j) (.val (.bool (decide (i.cps.toList < j.cps.toList)))) := fun H u v Q ru rv q => ⟨_, op_lt_str, i, j, ru.str, rv.str, q _ H ⟨.refl H, .bl _⟩⟩
theorem o_les {i j : Str} : OpV X (compareOp .LtE) (.str i) (.str j) (.val (.bool (!decide (j.cps.toList < i.cps.toList)))) := fun H u v Q ru rv q => ⟨_, op_le_str, i, j, ru.str, rv.str, q _ H ⟨.refl H, .bl _⟩⟩
/-! ### None -/
def isNon : D → Bool
  | .none => true
  | _ => false
theorem isNon_iff {d : D} : isNon d = true ↔ d = .none := by cases d <;> simp [isNon]
theorem isNon_dec {K : PySem.W.Frag} {H : Hp} {v : V} (h : Rq K H v d) : decide (v = .non) = isNon d := by
  have := h.is_non
  cases e : isNon d with
  | true => exact decide_eq_true (this.mpr (isNon_iff.mp e))
  | false => exact decide_eq_false fun z => by rw [isNon_iff.mpr (this.mp z)] at e; cases e
theorem o_isN : OpV X (compareOp .Is) x .none (.val (.bool (isNon x))) := fun H u v Q ru rv q => ⟨_, op_isN, rv.non, by rw [isNon_dec ru]; exact q _ H ⟨.refl H, .bl _⟩⟩
theorem o_notN : OpV X (compareOp .IsNot) x .none (.val (.bool (!isNon x))) := fun H u v Q ru rv q => ⟨_, op_notN, rv.non, by rw [isNon_dec ru]; exact q _ H ⟨.refl H, .bl _⟩⟩
/-! ### == and != -/
mutual
theorem lay_nod : ∀ {d : D}, d.canLay0 = true → nod d = true
  | .none, _ => rfl
  | .bool _, _ => rfl
  | .int _, _ => rfl
  | .str _, _ => rfl
  | .list xs, h => by
    simp only [PyData.canLay0] at h
    simp only [nod]; exact lay_nods h
  | .tuple xs, h => by
    simp only [PyData.canLay0] at h
    simp only [nod]; exact lay_nods h
  | .dict _, h => by simp [PyData.canLay0] at h
theorem lay_nods : ∀ {ds : List D}, PyData.canLayAll0 ds = true → nods ds = true
  | [], _ => rfl
  | d :: ds, h => by
    simp only [PyData.canLayAll0, Bool.and_eq_true] at h
    simp only [nods, Bool.and_eq_true]; exact ⟨lay_nod h.1, lay_nods h.2⟩
end
/-- plain data of some depth at most -/
structure Pl (n : Nat) (d : D) : Prop where
  lay : d.canLay0 = true
  dep : d.depth ≤ n
theorem Pl.sh {n : Nat} (h : Pl n d) (hn : n ≤ 64 := by decide) : SeqAt.shaped d = true := by
  unfold SeqAt.shaped
  rw [h.lay, decide_eq_true (Nat.le_trans h.dep hn)]; rfl
theorem Pl.mono {n m : Nat} (h : Pl n d) (hn : n ≤ m) : Pl m d := ⟨h.lay, Nat.le_trans h.dep hn⟩
theorem pl_int {n : Nat} {i : Int} : Pl n (.int i) := ⟨by simp [PyData.canLay0], by simp [PyData.depth]⟩
theorem pl_bool {n : Nat} {i : Bool} : Pl n (.bool i) := ⟨by simp [PyData.canLay0], by simp [PyData.depth]⟩
theorem pl_none {n : Nat} : Pl n .none := ⟨by simp [PyData.canLay0], by simp [PyData.depth]⟩
theorem pl_str {n : Nat} {s : Str} (h : PyData.strOk s = true) : Pl n (.str s) := ⟨by simpa [PyData.canLay0] using h, by simp [PyData.depth]⟩
def PlAll (n : Nat) (ds : List D) : Prop := ∀ d ∈ ds, Pl n d
theorem PlAll.lay {n : Nat} : ∀ {ds : List D}, PlAll n ds → PyData.canLayAll0 ds = true
  | [], _ => by simp [PyData.canLayAll0]
  | d :: ds, h => by
    simp only [PyData.canLayAll0, Bool.and_eq_true]
    exact ⟨(h d List.mem_cons_self).lay, PlAll.lay fun x hx => h x (List.mem_cons_of_mem _ hx)⟩
theorem PlAll.dep {n : Nat} : ∀ {ds : List D}, PlAll n ds → PyData.depthAll ds ≤ n
  | [], _ => by simp [PyData.depthAll]
  | d :: ds, h => by
    simp only [PyData.depthAll]
    exact Nat.max_le.mpr ⟨(h d List.mem_cons_self).dep, PlAll.dep fun x hx => h x (List.mem_cons_of_mem _ hx)⟩
theorem pl_tup {n : Nat} (h : PlAll n ds) : Pl (n + 1) (.tuple ds) := ⟨by simpa [PyData.canLay0] using h.lay, by simpa [PyData.depth] using h.dep⟩
theorem pl_lst {n : Nat} (h : PlAll n ds) : Pl (n + 1) (.list ds) := ⟨by simpa [PyData.canLay0] using h.lay, by simpa [PyData.depth] using h.dep⟩
theorem pla_nil {n : Nat} : PlAll n [] := fun _ h => nomatch h
theorem pla_cons {n : Nat} (h : Pl n d) (t : PlAll n ds) : PlAll n (d :: ds) := fun x hx => by
  rcases List.mem_cons.mp hx with rfl | hx
  · exact h
  · exact t x hx
theorem pla_map {n : Nat} {α : Type} {f : α → D} {l : List α} (h : ∀ a ∈ l, Pl n (f a)) : PlAll n (l.map f) := fun x hx => by
  obtain ⟨a, ha, rfl⟩ := List.mem_map.mp hx
  exact h a ha
theorem o_eqD {n m : Nat} (hx : Pl n x) (hy : Pl m y) (hu : X.A.units + 64 < cLine) (hn : n ≤ 64 := by decide) (hm : m ≤ 64 := by decide) : OpV X (compareOp .Eq) x y (.val (.bool (PyData.eqv x y))) := fun H u v Q ru rv q =>
  ⟨_, op_eqD hu, x, y, ru.dp (lay_nod hx.lay), rv.dp (lay_nod hy.lay), hx.sh hn, hy.sh hm, q _ H ⟨.refl H, .bl _⟩⟩
theorem o_neD {n m : Nat} (hx : Pl n x) (hy : Pl m y) (hu : X.A.units + 64 < cLine) (hn : n ≤ 64 := by decide) (hm : m ≤ 64 := by decide) : OpV X (compareOp .NotEq) x y (.val (.bool (!PyData.eqv x y))) := fun H u v Q ru rv q =>
  ⟨_, op_neD hu, x, y, ru.dp (lay_nod hx.lay), rv.dp (lay_nod hy.lay), hx.sh hn, hy.sh hm, q _ H ⟨.refl H, .bl _⟩⟩
/-- scalars -/
def scD : D → D → Bool
  | .none, .none => true | .none, .int _ => true | .int _, .none => true | .none, .bool _ => true | .bool _, .none => true | .none, .str _ => true | .str _, .none => true
  | .int _, .int _ => true | .bool _, .bool _ => true | .str _, .str _ => true
  | .int _, .str _ => true | .str _, .int _ => true | .bool _, .str _ => true | .str _, .bool _ => true
  | _, _ => false
theorem sc_ok {K : PySem.W.Frag} {H : Hp} {u v : V} (hs : scD x y = true) (ru : Rq K H u x) (rv : Rq K H v y) : scal u v = true ∧ decide (u = v) = PyData.eqv x y := by
  cases x <;> cases y <;> first
    | (exfalso; exact Bool.noConfusion hs)
    | skip
  all_goals first
    | (cases ru.non) | (cases ru.int) | (cases ru.str) | (cases ru.bl)
  all_goals first
    | (cases rv.non) | (cases rv.int) | (cases rv.str) | (cases rv.bl)
  all_goals refine ⟨rfl, ?_⟩
  all_goals first
    | (simp [PyData.eqv]; done)
    | (rw [dec_int]; simp [PyData.eqv]; done)
    | (rw [dec_str]; simp [PyData.eqv]; done)
    | (rw [dec_bl]; simp [PyData.eqv]; done)
theorem o_eq (hs : scD x y = true := by rfl) : OpV X (compareOp .Eq) x y (.val (.bool (PyData.eqv x y))) := fun H u v Q ru rv q => by
  obtain ⟨h1, h2⟩ := sc_ok hs ru rv
  exact ⟨_, op_eq, h1, by rw [h2]; exact q _ H ⟨.refl H, .bl _⟩⟩
theorem o_ne (hs : scD x y = true := by rfl) : OpV X (compareOp .NotEq) x y (.val (.bool (!PyData.eqv x y))) := fun H u v Q ru rv q => by
  obtain ⟨h1, h2⟩ := sc_ok hs ru rv
  exact ⟨_, op_ne, h1, by rw [h2]; exact q _ H ⟨.refl H, .bl _⟩⟩
/-! ### in -/
theorem o_in {n m : Nat} (hx : Pl n x) (hy : PlAll m ds) (hu : X.A.units + 65 < cLine) (hn : n ≤ 64 := by decide) (hm : m ≤ 63 := by decide) : OpV X (compareOp .In) x (.list ds) (.val (.bool (ds.any fun z => PyData.eqv z x))) := fun H u v Q ru rv q =>
  ⟨_, op_inD hu, x, ds, ru.dp (lay_nod hx.lay), rv.dp (lay_nod (pl_lst hy).lay), hx.sh hn, (pl_lst hy).sh (by omega), q _ H ⟨.refl H, .bl _⟩⟩
theorem o_nin {n m : Nat} (hx : Pl n x) (hy : PlAll m ds) (hu : X.A.units + 65 < cLine) (hn : n ≤ 64 := by decide) (hm : m ≤ 63 := by decide) : OpV X (compareOp .NotIn) x (.list ds) (.val (.bool (!ds.any fun z => PyData.eqv z x))) := fun H u v Q ru rv q =>
  ⟨_, op_notInD hu, x, ds, ru.dp (lay_nod hx.lay), rv.dp (lay_nod (pl_lst hy).lay), hx.sh hn, (pl_lst hy).sh (by omega), q _ H ⟨.refl H, .bl _⟩⟩
theorem op_inTD (hu : X.A.units + 65 < cLine) : OpR X (compareOp .In) (fun x y H Q => ∃ d ds, Dp X.K H x d ∧ Dp X.K H y (.tuple ds) ∧ SeqAt.shaped d = true ∧ SeqAt.shaped (.tuple ds) = true ∧ Q (.bl (ds.any fun z => PyData.eqv z d)) H) := by
  intro pins s σ H x y v u Q I rx ry h
  obtain ⟨d, ds, hd, he, sd, se, q⟩ := h
  obtain ⟨as, r1⟩ := Dp.reads I d x v hd rx
  obtain ⟨bs, r2⟩ := Dp.reads I (.tuple ds) y u he ry
  exact SeqAt.in_tuple_reads r2 r1 (SeqAt.canLay_of_shaped se) (SeqAt.canLay_of_shaped sd) (room_in_shaped sd hu) ⟨.bl _, H, I, rfl, q⟩
theorem op_ninTD (hu : X.A.units + 65 < cLine) : OpR X (compareOp .NotIn) (fun x y H Q => ∃ d ds, Dp X.K H x d ∧ Dp X.K H y (.tuple ds) ∧ SeqAt.shaped d = true ∧ SeqAt.shaped (.tuple ds) = true ∧ Q (.bl (!ds.any fun z => PyData.eqv z d)) H) := by
  intro pins s σ H x y v u Q I rx ry h
  obtain ⟨d, ds, hd, he, sd, se, q⟩ := h
  obtain ⟨as, r1⟩ := Dp.reads I d x v hd rx
  obtain ⟨bs, r2⟩ := Dp.reads I (.tuple ds) y u he ry
  exact SeqAt.notIn_tuple_reads r2 r1 (SeqAt.canLay_of_shaped se) (SeqAt.canLay_of_shaped sd) (room_in_shaped sd hu) ⟨.bl _, H, I, rfl, q⟩
theorem o_inT {n m : Nat} (hx : Pl n x) (hy : PlAll m ds) (hu : X.A.units + 65 < cLine) (hn : n ≤ 64 := by decide) (hm : m ≤ 63 := by decide) : OpV X (compareOp .In) x (.tuple ds) (.val (.bool (ds.any fun z => PyData.eqv z x))) := fun H u v Q ru rv q =>
  ⟨_, op_inTD hu, x, ds, ru.dp (lay_nod hx.lay), rv.dp (lay_nod (pl_tup hy).lay), hx.sh hn, (pl_tup hy).sh (by omega), q _ H ⟨.refl H, .bl _⟩⟩
theorem o_ninT {n m : Nat} (hx : Pl n x) (hy : PlAll m ds) (hu : X.A.units + 65 < cLine) (hn : n ≤ 64 := by decide) (hm : m ≤ 63 := by decide) : OpV X (compareOp .NotIn) x (.tuple ds) (.val (.bool (!ds.any fun z => PyData.eqv z x))) := fun H u v Q ru rv q =>
  ⟨_, op_ninTD hu, x, ds, ru.dp (lay_nod hx.lay), rv.dp (lay_nod (pl_tup hy).lay), hx.sh hn, (pl_tup hy).sh (by omega), q _ H ⟨.refl H, .bl _⟩⟩
/-! ### tuples put together, cut -/
theorem op_catP : OpR X (binaryOp .Add) (fun x y H Q => ∃ a b xs ys, x = .ref a ∧ y = .ref b ∧ SqT X.K H a xs ∧ SqT X.K H b ys ∧ xs.length + ys.length ≤ sizeLine ∧
    (xs = [] → Q (.ref b) H) ∧ (xs ≠ [] → ys = [] → Q (.ref a) H) ∧ (xs ≠ [] → ys ≠ [] → ∀ p o, H p = none → o.dict = none → Q (.ref p) (upd H p (.frz o (.tup (xs ++ ys)))))) := by
  intro pins s σ H x y v u Q I rx ry h
  obtain ⟨a, b, xs, ys, rfl, rfl, ha, hb, hz, q0, q1, q2⟩ := h
  cases rx
  cases ry
  obtain ⟨its, r1, p1, _⟩ := I.tuple ha
  obtain ⟨its2, r2, p2, _⟩ := I.tuple hb
  by_cases hx : xs = []
  · subst hx
    cases r1
    exact cat_tup0 p1 p2 ⟨.ref b, H, I, rfl, q0 rfl⟩
  · have hi : its ≠ [] := fun z => hx ((Vals.nil_iff r1).mp z)
    refine HT.cat_tup p1 p2 hi (fun z => ⟨.ref a, H, I, rfl, q1 hx ((Vals.nil_iff r2).mp z)⟩) (fun z => ?_) (by rw [← r1.length, ← r2.length]; exact hz)
    exact ⟨.ref s.heap.objs.size, _, inv_tup (t' := s.toks) I (fun b u e => Heap.get?_push_of_some _ e) (Nat.le_refl _) (Heap.get?_push_size _ rfl) rfl rfl (r1.append r2) (by rw [List.length_append]; exact hz), rfl, q2 hx (fun w => z ((Vals.nil_iff r2).mpr w)) _ _ (I.hok.fresh (Nat.le_refl _)) rfl⟩
theorem o_addT (h : ds.length + es.length ≤ sizeLine) : OpV X (binaryOp .Add) (.tuple ds) (.tuple es) (.val (.tuple (ds ++ es))) := fun H u v Q ru rv q => by
  have ru0 := ru
  have rv0 := rv
  obtain ⟨a, xs, rfl, hs, hr⟩ := ru.tup
  obtain ⟨b, ys, rfl, hs2, hr2⟩ := rv.tup
  refine ⟨_, op_catP, a, b, xs, ys, rfl, rfl, hs, hs2, by rw [hr.length, hr2.length]; exact h, fun e => ?_, fun _ e => ?_, fun _ _ p o hp ho => ?_⟩
  · subst e
    cases hr
    cases rv0 with | of r => exact q _ H ⟨.refl H, r⟩
  · subst e
    cases hr2
    rw [List.append_nil] at q
    cases ru0 with | of r => exact q _ H ⟨.refl H, r⟩
  · exact q _ _ ⟨same_new hp, rp_tupNew hp ho (hr.append hr2)⟩
/-- xs[lo:hi] of data -/
def cutD (ds : List D) (lo hi : Option Int) : List D := (ds.drop (HT.sIx ds.length 0 lo)).take (HT.sIx ds.length ds.length hi - HT.sIx ds.length 0 lo)
theorem cut_rp {K : PySem.W.Frag} {H : Hp} {xs : List V} {lo hi : Option Int} (r : RpAll K H xs ds) : RpAll K H (cutV xs lo hi) (cutD ds lo hi) := by
  unfold cutV cutD
  rw [r.length]
  exact (r.drop _).take _
theorem cutD_whole {lo hi : Option Int} (h : HT.sIx ds.length 0 lo = 0 ∧ HT.sIx ds.length ds.length hi = ds.length) : cutD ds lo hi = ds := by
  unfold cutD
  rw [h.1, h.2]
  simp
theorem sl_tupP : SlR X (fun x lo hi H Q => ∃ a xs, x = .ref a ∧ SqT X.K H a xs ∧ (HT.sIx xs.length 0 lo = 0 ∧ HT.sIx xs.length xs.length hi = xs.length → Q (.ref a) H) ∧ (∀ p o, H p = none → o.dict = none → Q (.ref p) (upd H p (.frz o (.tup (cutV xs lo hi)))))) := by
  intro pins s σ H x v vl vu lo hi sl Q I rx hs pl pu h
  obtain ⟨a, xs, rfl, hx, q1, q2⟩ := h
  cases rx
  obtain ⟨its, r, ht, hz⟩ := I.tuple hx
  have hlen : its.toArray.size = xs.length := by rw [List.size_toArray]; exact r.length.symm
  refine ⟨"tuple", _, PyProof.Rows.slot_tuple_getitem.lookup, ht.typeIs, ?_⟩
  by_cases hw : HT.sIx xs.length 0 lo = 0 ∧ HT.sIx xs.length xs.length hi = xs.length
  · exact getItem_tuple_whole ht hs pl pu (by rw [hlen]; exact hw) ⟨.ref a, H, I, rfl, q1 hw⟩
  · refine HT.getItem_tuple_cut ht hs pl pu (by rw [hlen]; exact hw) ?_ (by rw [hlen]; exact hz)
    rw [hlen]
    exact ⟨.ref s.heap.objs.size, _, inv_tup (t' := s.toks) I (fun b u e => Heap.get?_push_of_some _ e) (Nat.le_refl _) (Heap.get?_push_size _ rfl) rfl rfl ((r.drop (HT.sIx xs.length 0 lo)).take (HT.sIx xs.length xs.length hi - HT.sIx xs.length 0 lo)) (Nat.le_trans (cutV_length xs lo hi) hz), rfl, q2 _ _ (I.hok.fresh (Nat.le_refl _)) rfl⟩
theorem s_tup {lo hi : Option Int} : SlV X (.tuple ds) lo hi (.val (.tuple (cutD ds lo hi))) := fun H u Q ru q => by
  have ru0 := ru
  obtain ⟨a, xs, rfl, hs, hr⟩ := ru.tup
  refine ⟨_, sl_tupP, a, xs, rfl, hs, fun e => ?_, fun p o hp ho => q _ _ ⟨same_new hp, rp_tupNew hp ho (cut_rp hr)⟩⟩
  rw [hr.length] at e
  rw [cutD_whole e] at q
  cases ru0 with | of r => exact q _ H ⟨.refl H, r⟩
theorem s_lst {lo hi : Option Int} : SlV X (.list ds) lo hi (.new (cutD ds lo hi)) := fun H u Q ru q => by
  obtain ⟨a, xs, rfl, hs, hr⟩ := ru.lst
  exact ⟨_, sl_list, a, xs, rfl, hs, fun p hp => q _ _ ⟨same_new hp, p, _, rfl, hp, upd_same, (cut_rp hr).mono (stb_new hp)⟩⟩
theorem cut_from {n : Nat} : cutD ds (some (n : Int)) none = ds.drop n := by
  unfold cutD
  rw [HT.sIx_nat, HT.sIx_none]
  apply List.ext_getElem?
  intro i
  by_cases h : n ≤ ds.length
  · rw [Nat.min_eq_left h, List.take_of_length_le (by rw [List.length_drop]; omega)]
  · rw [Nat.min_eq_right (by omega), List.drop_of_length_le (by omega), List.drop_of_length_le (by omega)]; simp
theorem cut_to {n : Nat} : cutD ds none (some (n : Int)) = ds.take n := by
  unfold cutD
  rw [HT.sIx_nat, HT.sIx_none]
  simp only [List.drop_zero, Nat.sub_zero]
  by_cases h : n ≤ ds.length
  · rw [Nat.min_eq_left h]
  · rw [Nat.min_eq_right (by omega), List.take_length, List.take_of_length_le (by omega)]
theorem cut_last : cutD ds none (some (-1)) = ds.dropLast := by
  unfold cutD
  rw [HT.sIx_none, List.dropLast_eq_take, List.drop_zero, Nat.sub_zero]
  congr 1
  unfold HT.sIx
  simp only
  split <;> omega
/-! ### lists put together -/
theorem op_catL : OpR X (binaryOp .Add) (fun x y H Q => ∃ l b xs zs, x = .ref l ∧ y = .ref b ∧ SqL X.K H l xs ∧ SqL X.K H b zs ∧ xs.length + zs.length ≤ sizeLine ∧ ∀ p, H p = none → Q (.ref p) (upd H p (.lst (xs ++ zs)))) := by
  intro pins s σ H x y v u Q I rx ry h
  obtain ⟨l, b, xs, zs, rfl, rfl, hl, hb, hz, q⟩ := h
  cases rx
  cases ry
  obtain ⟨its, r, p1, _⟩ := I.list hl
  obtain ⟨its2, r2, p2, _⟩ := I.list hb
  have l1 := r.length
  have l2 := r2.length
  obtain ⟨⟨cls, dd, data, sl⟩, ho, hc, n, hd⟩ := p1.isList
  obtain ⟨⟨cls2, dd2, data2, sl2⟩, ho2, hc2, n2, hd2⟩ := p2.isList
  simp only at hc hd hc2 hd2
  subst hc hd hc2 hd2
  have e : its.toArray ++ its2.toArray = (its ++ its2).toArray := by simp
  refine concat_meets ⟨_, ho, rfl⟩ ⟨_, ho2, rfl⟩ noFill_list_add seq_list_add PySem.F.slot_list_add PySem.F.entry_list_add (PySem.F.args_list_add_2 _ _) (list_addW l b its.toArray its2.toArray n n2 dd dd2 sl sl2 (by rw [List.size_toArray, List.size_toArray]; omega)) ⟨ho, ho2, ?_⟩
  rw [e]
  exact ⟨.ref _, _, I.lnew (t' := s.toks) (r.append r2) (by rw [List.length_append]; omega), rfl, q _ I.fresh⟩
theorem o_addL (h : ds.length + es.length ≤ sizeLine) : OpV X (binaryOp .Add) (.list ds) (.list es) (.new (ds ++ es)) := fun H u v Q ru rv q => by
  obtain ⟨a, xs, rfl, hs, hr⟩ := ru.lst
  obtain ⟨b, ys, rfl, hs2, hr2⟩ := rv.lst
  exact ⟨_, op_catL, a, b, xs, ys, rfl, rfl, hs, hs2, by rw [hr.length, hr2.length]; exact h, fun p hp => q _ _ ⟨same_new hp, p, _, rfl, hp, upd_same, (hr.append hr2).mono (stb_new hp)⟩⟩
/-! ### built-ins -/
theorem paired1 {K : PySem.W.Frag} {H : Hp} {vs : List V} (h : Paired (Rq K H) vs [x]) : ∃ v, vs = [v] ∧ Rq K H v x := by
  cases h with | cons a t => cases t; exact ⟨_, rfl, a⟩
theorem paired2 {K : PySem.W.Frag} {H : Hp} {vs : List V} (h : Paired (Rq K H) vs [x, y]) : ∃ v w, vs = [v, w] ∧ Rq K H v x ∧ Rq K H w y := by
  cases h with | cons a t => cases t with | cons b t => cases t; exact ⟨_, _, rfl, a, b⟩
theorem c_lenL : CallV X (.builtin "len") [.list ds] (.val (.int (ds.length : Nat))) := fun H vs Q r q => by
  obtain ⟨v, rfl, r0⟩ := paired1 r
  obtain ⟨a, xs, rfl, hs, hr⟩ := r0.lst
  exact ⟨_, call_len_seq, a, xs, rfl, .inl hs, by rw [hr.length]; exact q _ H ⟨.refl H, .int _⟩⟩
theorem c_lenT : CallV X (.builtin "len") [.tuple ds] (.val (.int (ds.length : Nat))) := fun H vs Q r q => by
  obtain ⟨v, rfl, r0⟩ := paired1 r
  obtain ⟨a, xs, rfl, hs, hr⟩ := r0.tup
  exact ⟨_, call_len_seq, a, xs, rfl, .inr hs, by rw [hr.length]; exact q _ H ⟨.refl H, .int _⟩⟩
theorem c_lenS {s : Str} (h : s.length ≤ sizeLine) : CallV X (.builtin "len") [.str s] (.val (.int (s.length : Nat))) := fun H vs Q r q => by
  obtain ⟨v, rfl, r0⟩ := paired1 r
  exact ⟨_, call_len_str, s, by rw [r0.str], h, q _ H ⟨.refl H, .int _⟩⟩
theorem c_listT : CallV X (.type "list") [.tuple ds] (.new ds) := fun H vs Q r q => by
  obtain ⟨v, rfl, r0⟩ := paired1 r
  obtain ⟨a, xs, rfl, hs, hr⟩ := r0.tup
  exact ⟨_, call_list_of, a, xs, rfl, .inr hs, fun l hl => q _ _ ⟨same_new hl, l, _, rfl, hl, upd_same, hr.mono (stb_new hl)⟩⟩
theorem c_listL : CallV X (.type "list") [.list ds] (.new ds) := fun H vs Q r q => by
  obtain ⟨v, rfl, r0⟩ := paired1 r
  obtain ⟨a, xs, rfl, hs, hr⟩ := r0.lst
  exact ⟨_, call_list_of, a, xs, rfl, .inl hs, fun l hl => q _ _ ⟨same_new hl, l, _, rfl, hl, upd_same, hr.mono (stb_new hl)⟩⟩
theorem call_tupleF : CallR X (.type "tuple") (fun xs H Q => ∃ p ys, xs = [.ref p] ∧ SqL X.K H p ys ∧ ∀ l o, H l = none → o.dict = none → Q (.ref l) (upd H l (.frz o (.tup ys)))) := by
  intro pins s σ H xs us Q I r h
  obtain ⟨p, ys, rfl, hq, q⟩ := h
  obtain ⟨u, rfl, rx⟩ := vals1 r
  cases rx
  obtain ⟨its, r', pl, hz⟩ := I.list hq
  have hlen := r'.length
  refine call_tuple_list pl.isList (fun h' kp => ?_) (by simp only [List.size_toArray] <;> omega)
  have I1 : Inv X pins σ H { s with heap := h' } := I.kept (t' := s.toks) kp
  have I2 := inv_tup (s := { s with heap := h' }) (h' := h'.push { cls := .type "tuple", data := .seq its.toArray }) (p := h'.objs.size) (t' := s.toks) I1 (fun b o e => Heap.get?_push_of_some _ e) (Nat.le_refl _) (Heap.get?_push_size _ rfl) rfl rfl r' hz
  exact ⟨.ref h'.objs.size, _, I2, rfl, q _ _ (I1.hok.fresh (Nat.le_refl _)) rfl⟩
theorem c_tupleL : CallV X (.type "tuple") [.list ds] (.val (.tuple ds)) := fun H vs Q r q => by
  obtain ⟨v, rfl, r0⟩ := paired1 r
  obtain ⟨a, xs, rfl, hs, hr⟩ := r0.lst
  exact ⟨_, call_tupleF, a, xs, rfl, hs, fun l o hl ho => q _ _ ⟨same_new hl, rp_tupNew hl ho hr⟩⟩
theorem c_int {i : Int} : CallV X (.type "int") [.int i] (.val (.int i)) := fun H vs Q r q => by
  obtain ⟨v, rfl, r0⟩ := paired1 r
  exact ⟨_, call_int1, .inl ⟨i, by rw [r0.int], q _ H ⟨.refl H, .int _⟩⟩⟩
theorem c_intB {i : Bool} : CallV X (.type "int") [.bool i] (.val (.int (if i then 1 else 0))) := fun H vs Q r q => by
  obtain ⟨v, rfl, r0⟩ := paired1 r
  exact ⟨_, call_int1, .inr ⟨i, by rw [r0.bl], q _ H ⟨.refl H, .int _⟩⟩⟩
theorem c_min {i j : Int} (hc : X.calm = true := by rfl) : CallV X (.builtin "min") [.int i, .int j] (.val (.int (if j < i then j else i))) := fun H vs Q r q => by
  obtain ⟨v, w, rfl, r1, r2⟩ := paired2 r
  exact ⟨_, call_min2 hc, i, j, by rw [r1.int, r2.int], q _ H ⟨.refl H, .int _⟩⟩
theorem c_max {i j : Int} (hc : X.calm = true := by rfl) : CallV X (.builtin "max") [.int i, .int j] (.val (.int (if j > i then j else i))) := fun H vs Q r q => by
  obtain ⟨v, w, rfl, r1, r2⟩ := paired2 r
  exact ⟨_, call_max2 hc, i, j, by rw [r1.int, r2.int], q _ H ⟨.refl H, .int _⟩⟩
theorem c_str {i : Int} (h : i.natAbs.log2 < 1920) : CallV X (.type "str") [.int i] (.val (.str (toString i))) := fun H vs Q r q => by
  obtain ⟨v, rfl, r0⟩ := paired1 r
  exact ⟨_, call_str_int, i, by rw [r0.int], h, q _ H ⟨.refl H, .str _⟩⟩
end
end DL


namespace PySem
theorem dl_draws_tuple {prog : Program} {w : World} {A : Around} (hh : A.handled = none) (it l : Addr) (hne : l ≠ it) (items : Array Value) :
    Draws prog w A it [it, l] items.size (fun i v => items[i]? = some v) (fun i h => h.IsTupleIter it l i ∧ h.IsTuple l items) where
  live := fun _ _ st => let ⟨o, ho, _⟩ := st.1; ⟨o, ho⟩
  frame := fun _ _ _ st hk => ⟨st.1.at fun o e => hk it (by simp) o e, st.2.at fun o e => hk l (by simp) o e⟩
  item := fun i s Q E hi st hQ => by
    refine RZ.nextOf_tuple_item st.1 st.2 (x := items[i]) (by simp [hi]) fun h' hit' hs' => ?_
    exact hQ _ h' s.toks (by simp [hi]) ⟨hit', st.2.at fun o e => (hs'.2 l hne).trans e⟩ hs'
  done := fun s Q E st hE => RZ.nextOf_tuple_end hh st.1 st.2 (by simp) hE
set_option maxHeartbeats 1000000 in
theorem dl_meets_enum {v : Value} {o : Obj} {H : Heap → Prop} (B : Begins v o H) :
    Meets (Builtin.«enumerate.__new__» ⟨[.type "enumerate", v], []⟩) (fun _ R s => H s.heap ∧
      R (.ok (.ret (.ref (s.heap.push o).objs.size))) { s with heap := (s.heap.push o).push { cls := .type "enumerate", data := .fields #[.none, .bool false, .ref s.heap.objs.size, rawInt 0, .none, .none] } }) :=
  .of_wp fun prog w A R s h => by
    obtain ⟨hp, g, d, tk, os⟩ := s; obtain ⟨h1, h⟩ := h
    have hsub := sub_enumerate
    have q1 : ∀ {A' : Around} {E : Value → Shared → Prop} {Q : Value → Shared → Prop}, Q (.ref hp.objs.size) ⟨hp.push o, g, d, tk, os⟩ → wpAny (model prog w) A' (pyIter v) Q E ⟨hp, g, d, tk, os⟩ :=
      fun q => B.iter prog w _ _ ⟨hp, g, d, tk, os⟩ _ h1 q
    wp_walk using q1
    refine wpAny_stack_any fun st => wpAny_pure ?_
    split
    · rename_i c _ _ _ _ _
      cases (c == Value.type "enumerate")
      · wp_walk using q1
        exact ⟨_, rfl, h⟩
      · wp_walk using q1
        exact ⟨_, rfl, h⟩
    · wp_walk using q1
      exact ⟨_, rfl, h⟩
section
variable {prog : Program} {w : World} {A : Around} {E : Value → Shared → Prop} {s : Shared}
theorem dl_enum_begins {v : Value} {o : Obj} {H : Heap → Prop} {Q : Value → Shared → Prop} (B : Begins v o H) (h1 : H s.heap)
    (h : ∀ h', IsEnum h' (s.heap.objs.size + 1) s.heap.objs.size 0 .none → h'.get? s.heap.objs.size = some o → h'.objs.size = s.heap.objs.size + 2 →
      (∀ b o, s.heap.get? b = some o → h'.get? b = some o) → Q (.ref (s.heap.objs.size + 1)) { s with heap := h' }) :
    wpAny (model prog w) A (call (.type "enumerate") [v]) Q E s := by
  refine callType_new F.called_enumerate (by decide) (F.typeCall_enumerate_1 _) (F.newCall_enumerate_1 _) (fun obj => F.args_object_init_2 obj _) F.entry_enumerate_new
    (dl_meets_enum B) ⟨h1, ?_⟩
  have hz : (s.heap.push o).objs.size = s.heap.objs.size + 1 := Heap.size_push ..
  show _ ∧ _
  rw [hz]
  have he : IsEnum ((s.heap.push o).push { cls := .type "enumerate", data := .fields #[.none, .bool false, .ref s.heap.objs.size, rawInt 0, .none, .none] }) (s.heap.objs.size + 1) s.heap.objs.size 0 .none := by
    have := Heap.get?_push_size (s.heap.push o) (o := { cls := .type "enumerate", data := .fields #[.none, .bool false, .ref s.heap.objs.size, rawInt 0, .none, .none] }) rfl
    rw [hz] at this; exact this
  refine ⟨⟨_, he, rfl⟩, h _ he (Heap.get?_push_of_some _ (Heap.get?_push_size _ B.free)) (by rw [Heap.size_push, hz]) fun b o x => Heap.get?_push_of_some _ (Heap.get?_push_of_some _ x)⟩
theorem dl_enum_end {e it l : Addr} {c : Int} {i : Nat} {items : Array Value} {old : Value} {Q : Option Value → Shared → Prop} (hh : A.handled = none)
    (he : IsEnum s.heap e it c old) (hit : s.heap.IsTupleIter it l i) (hl : s.heap.IsTuple l items) (hx : items[i]? = none)
    (hQ : ∀ h', Heap.ExtBut it s.heap h' → Q none { s with heap := h' }) : wpAny (model prog w) A (pyNext (.ref e)) Q E s := by
  have hT : s.TypeIs (.ref e) "enumerate" := ⟨_, he, rfl⟩
  unfold pyNext
  refine wpAny_bind (wpAny_attempt (wpAny_callSpecial?_slot (name := Str.ofString "__next__") hT F.slot_enumerate_next
    (wpAny_call_entry F.slot_enumerate_next hT F.entry_enumerate_next ?_ (F.args_enumerate_next_1 _))))
  show wpAny _ _ (field (.ref e) 2 >>= _) _ _ _
  refine wpAny_bind (wpAny_field he rfl (x := .ref it) rfl ?_)
  refine wpAny_bind (RZ.nextOf_tuple_end hh hit hl hx fun h' x he' hx' => ?_)
  obtain ⟨o, ho, hc⟩ := hx'
  refine wpAny_bind (wpAny_isInstance (T := "StopIteration") (b := true) ⟨o, ho, hc⟩ isSubtype_stop ?_)
  exact wpAny_pure (hQ _ he')
end
end PySem
namespace DL
open PySem PySem.Spec PyProof.Rows L2
/-! ### enumerate(tuple) -/
def IteT (K : PySem.W.Frag) (a : Addr) : It :=
  ⟨fun i H => ∃ (xs : List V) (x : V), SqT K H a xs ∧ xs[i]? = some x, fun i H v H' => ∃ T x, v = .ref T ∧ H T = none ∧ H' = upd H T (.tup [.int (i : Nat), x]) ∧ ∀ xs, SqT K H a xs → xs[i]? = some x, fun i H => ∃ xs : List V, SqT K H a xs ∧ xs.length ≤ i⟩
theorem turn_enumT {P : Program} {w : World} {K : PySem.W.Frag} {elts : List Expr} {kk : Nat} {tpos : Pos} (a e it : Addr) (hai : a ≠ it) (hae : a ≠ e) :
    Turn P w K (.Tuple elts kk tpos) (IteT K a) [e, it] e (fun i h => (∃ old, IsEnum h e it ((i : Nat) : Int) old) ∧ h.IsTupleIter it a i ∧ e ≠ it) where
  mem := by simp
  obj := fun i h st b hb => by
    obtain ⟨⟨old, he⟩, ⟨o, ho, hc, hd⟩, _⟩ := st
    have e' : b = e ∨ b = it := by simpa using hb
    rcases e' with z | z
    · rw [z]; exact ⟨_, he, fun v q => nomatch q⟩
    · rw [z]; exact ⟨o, ho, fun v q => by rw [hd] at q; cases q⟩
  keep := fun i h h' st k => let ⟨⟨old, he⟩, hi, hne⟩ := st; ⟨⟨old, k e (by simp) _ he⟩, hi.at fun o q => k it (by simp) o q, hne⟩
  item := by
    intro X hP hw hK hc i pins s σ H E I hf st hg
    subst hP hw hK
    obtain ⟨⟨old, he⟩, hit, hne⟩ := st
    obtain ⟨xs, x, hq, hx⟩ := hg
    obtain ⟨its, rv, p, hz⟩ := I.tuple hq
    obtain ⟨u, hu, ru⟩ := rv.get hx
    have hel : e < s.heap.objs.size := Heap.lt_size he
    have hil : it < s.heap.objs.size := by obtain ⟨_, q, _⟩ := hit; exact Heap.lt_size q
    have hlt : i < its.toArray.size := by
      obtain ⟨h1, _⟩ := List.getElem?_eq_some_iff.mp hu
      simpa using h1
    refine wpAny_pyNext_enum_itemC (dl_draws_tuple (A := X.A.in1) (I.ok.hd hc) it a hai its.toArray) he ⟨hit, p⟩ hlt hne (by simp; exact ⟨hne, Ne.symm hae⟩) fun v h' tk hP ho hst' hT hsz hk => ?_
    have hv : v = u := by
      rw [List.getElem?_toArray] at hP
      exact Option.some.inj (hP.symm.trans hu)
    subst hv
    refine ⟨_, rfl, wpAny_letOwnedTupleGo_enum (s := { s with heap := h', toks := tk + 1 }) ho fun h'' he' sb => ?_⟩
    have hT2 : h''.get? s.heap.objs.size = some { cls := .type "tuple", data := .seq #[.int i tk, v] } := (sb.2 _ (Nat.ne_of_gt hel)).trans hT
    have new : ObjOk X.prog X.w (upd H s.heap.objs.size (.tup [.int (i : Nat), x])) h'' s.heap.objs.size (.tup [.int (i : Nat), x]) :=
      ⟨by show 2 ≤ sizeLine; decide, [.int i tk, v], .cons ⟨_, rfl⟩ (.cons ru .nil), ⟨_, hT2, rfl, _, rfl⟩⟩
    have I1 : Inv X pins σ (upd H s.heap.objs.size (.tup [.int (i : Nat), x])) { s with heap := h'', toks := tk + 1 } :=
      I.turnedNew (ch := [e, it]) (fun b ob hb q => (sb.2 b (fun z => hb (by simp [z]))).trans (hk b ob (fun z => hb (by simp [z])) (fun z => hb (by simp [z])) q)) hf (Nat.le_refl _) new
    refine ⟨.ref s.heap.objs.size, _, I1, rfl, ⟨_, x, rfl, I.hok.fresh (Nat.le_refl _), rfl, fun ys hy => by rw [I.tuple_inj hy hq]; exact hx⟩, ⟨⟨v, ?_⟩, hst'.1.at fun o q => (sb.2 it (Ne.symm hne)).trans q, hne⟩, fun b hb => ?_⟩
    · have e1 : ((i + 1 : Nat) : Int) = (i : Int) + 1 := by omega
      rw [e1]; exact he'
    · have hb' : b < s.heap.objs.size := by
        have e' : b = e ∨ b = it := by simpa using hb
        rcases e' with z | z
        · rw [z]; exact hel
        · rw [z]; exact hil
      rw [upd_ne (Nat.ne_of_lt hb')]
      exact (hf b hb).1
  done := by
    intro X hP hw hK hc i pins s σ H E I hf st hg
    subst hP hw hK
    obtain ⟨⟨old, he⟩, hit, hne⟩ := st
    obtain ⟨xs, hq, hx⟩ := hg
    obtain ⟨its, rv, p, hz⟩ := I.tuple hq
    obtain ⟨f0, f1, f2, f3, f4, f5⟩ := hf it (by simp)
    have hl := rv.length
    exact dl_enum_end (I.ok.hd hc) he hit p (by simp; omega) fun h' eb => ⟨rfl, I.turned (t' := s.toks) (fun b o hb q => eb b o hb q) f0 f1 f3 f4 f5⟩
  self := fun A i s Q E st h => let ⟨⟨_, he⟩, _⟩ := st; wpAny_pyIter_enum he h
theorem pi_enumT {X : Cx} {e : Expr} {ta : TA} {p pos tpos : Pos} {elts : List Expr} {kk : Nat} (hg : Gl X "enumerate") (hm : X.mg "enumerate" = none) (ha : PA X [e] ta) (hs : starEach [e] X.env = [(false, eval e X.env)] := by rfl) :
    PI X (.Tuple elts kk tpos) (.Call (.Name "enumerate" p) [e] [] pos) (fun σ H R => ta σ H fun vs H1 => ∃ a xs, vs = [.ref a] ∧ SqT X.K H1 a xs ∧ R (IteT X.K a) H1) := by
  refine ⟨fun pins s σ H R I h => ?_⟩
  refine Call_ (ld_blt I hg hm boot_enumerate (PyProof.Rows.callWith_type1 (thn (ha.run pos pins s σ H _ I h) fun us s1 ⟨vs, H1, I1, r1, q1⟩ => ?_) hs rfl))
  obtain ⟨a, xs, ex, hq, q⟩ := q1
  subst ex
  cases r1 with
  | cons r rr =>
    cases rr
    cases r
    obtain ⟨its, rv, p', hz⟩ := I1.tuple hq
    refine dl_enum_begins (begins_tuple a its.toArray) p' fun h' he hit hsz hk => wpAny_pyIter_enum he ?_
    have I2 : Inv X pins σ H1 { s1 with heap := h' } := I1.kept (t' := s1.toks) hk
    have hal : a < s1.heap.objs.size := p'.lt
    refine ⟨s1.heap.objs.size + 1, [s1.heap.objs.size + 1, s1.heap.objs.size], _, _, H1, rfl, I2, turn_enumT a (s1.heap.objs.size + 1) s1.heap.objs.size (Nat.ne_of_lt hal) (Nat.ne_of_lt (Nat.lt_succ_of_lt hal)), ⟨⟨.none, he⟩, ⟨_, hit, rfl, rfl⟩, Nat.succ_ne_self _⟩, fun b hb => ?_, q⟩
    have e' : b = s1.heap.objs.size + 1 ∨ b = s1.heap.objs.size := by simpa using hb
    have hle : s1.heap.objs.size ≤ b := by
      rcases e' with z | z
      · rw [z]; exact Nat.le_add_right _ _
      · rw [z]; exact Nat.le_refl _
    exact I1.fpOk hle (I1.hok.fresh hle)
section
variable {X : Cx} {ρ : Rho} {e a b c : Expr} {d x y z : D} {ds es : List D} {k : Kd}
def enumD : Nat → List D → List D
  | _, [] => []
  | n, d :: ds => .tuple [.int (n : Nat), d] :: enumD (n + 1) ds
theorem enumD_len : ∀ (ds : List D) (n : Nat), (enumD n ds).length = ds.length
  | [], _ => rfl
  | _ :: ds, n => congrArg (· + 1) (enumD_len ds (n + 1))
theorem enumD_get : ∀ (ds : List D) (n i : Nat) (d : D), ds[i]? = some d → (enumD n ds)[i]? = some (.tuple [.int ((n + i : Nat) : Int), d])
  | [], _, _, _, h => by simp at h
  | x :: ds, n, 0, d, h => by simp at h; subst h; rfl
  | x :: ds, n, i + 1, d, h => by
    have := enumD_get ds (n + 1) i d (by simpa using h)
    show (enumD (n + 1) ds)[i]? = _
    rw [this, show n + 1 + i = n + (i + 1) by omega]
theorem ei_enumT {it : Expr} {xs : List D} {p pos tpos : Pos} {elts : List Expr} {kk : Nat} (hm : X.mg "enumerate" = none) (h : Ev X it ρ (.val (.tuple xs))) (hg : Gl X "enumerate" := by rfl) (hs : starEach [it] X.env = [(false, eval it X.env)] := by rfl) :
    EvI X (.Tuple elts kk tpos) (.Call (.Name "enumerate" p) [it] [] pos) ρ true (enumD 0 xs) := fun σ H R S q =>
  ⟨_, pi_enumT hg hm (pa_cons (pe_know pe_c) pa_nil (by rw [hs]; rfl)) hs, h σ H _ S fun v H1 ⟨s1, r1⟩ kn => by
    obtain ⟨a, vs, rfl, hs, hr⟩ := r1.tupI
    refine ⟨a, vs, rfl, hs, q _ H1 s1 (by rw [enumD_len, ← hr.length]; exact kn a vs rfl (.inr hs)) ?_⟩
    rw [enumD_len, ← hr.length]
    refine ⟨fun i H2 hi z => ⟨vs, vs[i], sqT_stb z hs, by simp [hi]⟩, fun H2 z => ⟨vs, sqT_stb z hs, Nat.le_refl _⟩, fun i H2 x H3 hi z y => ?_⟩
    obtain ⟨T, x', rfl, hT, rfl, hx⟩ := y
    obtain ⟨d, e1, e2⟩ := hr.got (hx vs (sqT_stb z hs))
    refine ⟨same_new hT, _, enumD_get xs 0 i d e1, .inr ⟨rfl, T, _, _, rfl, rfl, .of upd_same, ?_⟩⟩
    rw [Nat.zero_add]
    exact .cons (.int _) (.cons ((e2.mono z).mono (stb_new hT)) .nil)⟩
/-! ### zip(tuple, tuple), zip(list, list) -/
theorem ei_zipT {it it2 : Expr} {xs ys : List D} {p pos tpos : Pos} {elts : List Expr} {kk : Nat} (hm : X.mg "zip" = none) (h : Ev X it ρ (.val (.tuple xs))) (h2 : Ev X it2 ρ (.val (.tuple ys))) (hl : xs.length = ys.length) (hg : Gl X "zip" := by rfl) (hs : starEach [it, it2] X.env = (false, eval it X.env) :: starEach [it2] X.env := by rfl) (hs2 : starEach [it2] X.env = (false, eval it2 X.env) :: starEach [] X.env := by rfl) (hpl : (backTo pos (starEach [it2] X.env)).any (·.1) = false := by rfl) :
    EvI X (.Tuple elts kk tpos) (.Call (.Name "zip" p) [it, it2] [] pos) ρ true ((xs.zip ys).map fun q => .tuple [q.1, q.2]) := fun σ H R S q =>
  ⟨_, RZ.pi_zipA hg hm (pa_cons (pe_know pe_c) (pa_cons pe_c pa_nil hs2) hs) hs hpl, h σ H _ S fun v H1 ⟨s1, r1⟩ kn => h2 σ H1 _ (S.mono s1) fun v' H2 ⟨s2, r2⟩ => by
    obtain ⟨a, vs, rfl, hs1, hr1⟩ := r1.tupI
    have hz := kn a vs rfl (.inr hs1)
    have hs := sqT_stb (.of s2) hs1
    have hr := hr1.mono (.of s2)
    obtain ⟨b, ws, rfl, hs', hr'⟩ := r2.tupI
    have l1 := hr.length
    have l2 := hr'.length
    refine ⟨a, b, vs, ws, rfl, .inr ⟨hs, hs', q _ H2 (s1.trans s2) (by rw [List.length_map, List.length_zip]; omega) ?_⟩⟩
    have lz : ((xs.zip ys).map fun q : D × D => (PyData.tuple [q.1, q.2])).length = vs.length := by rw [List.length_map, List.length_zip]; omega
    rw [lz]
    refine ⟨fun i H3 hi z => ⟨vs, ws, vs[i], ws[i]'(by omega), sqT_stb z hs, sqT_stb z hs', by simp [hi], by simp [show i < ws.length by omega]⟩, fun H3 z => ⟨vs, ws, sqT_stb z hs, sqT_stb z hs', .inl (Nat.le_refl _)⟩, fun i H3 x H4 hi z y => ?_⟩
    obtain ⟨T, x', y', rfl, hT, rfl, hx, hy⟩ := y
    obtain ⟨d, e1, e2⟩ := hr.got (hx vs (sqT_stb z hs))
    obtain ⟨d', e1', e2'⟩ := hr'.got (hy ws (sqT_stb z hs'))
    refine ⟨same_new hT, .tuple [d, d'], ?_, .inr ⟨rfl, T, _, _, rfl, rfl, .of upd_same, .cons ((e2.mono z).mono (stb_new hT)) (.cons ((e2'.mono z).mono (stb_new hT)) .nil)⟩⟩
    have hz : (xs.zip ys)[i]? = some (d, d') := List.getElem?_zip_eq_some.mpr ⟨e1, e1'⟩
    rw [List.getElem?_map, hz]; rfl⟩
end
end DL


namespace DL
open PySem PySem.Spec PyProof.Rows L2
/-! ### dicts of data -/
def kd : D → Option Key
  | .int i => some (.inl i)
  | .str s => some (.inr s)
  | _ => none
def keyD : Key → D
  | .inl i => .int i
  | .inr s => .str s
theorem kd_keyD (k : Key) : kd (keyD k) = some k := by cases k <;> rfl
theorem kd_eq {d : D} {k : Key} (h : kd d = some k) : d = keyD k := by cases d <;> simp [kd] at h <;> subst h <;> rfl
/-- d.get(k) of the pairs | d[k] = v -/
def lookD (es : List (D × D)) (k : Key) : Option D := (es.find? fun e => decide (kd e.1 = some k)).map (·.2)
def putD (es : List (D × D)) (k : Key) (v : D) : List (D × D) :=
  if (es.any fun e => decide (kd e.1 = some k)) = true then es.map (fun e => if kd e.1 = some k then (e.1, v) else e) else es ++ [(keyD k, v)]
def mergeD (es : List (D × D)) (more : List (Key × D)) : List (D × D) := more.foldl (fun acc kv => putD acc kv.1 kv.2) es
section
variable {K : PySem.W.Frag} {H : Hp}
theorem RpKV.cons {k : Key} {v : V} {d : D} {vs : List (Key × V)} {es : List (D × D)} (h : Rp K H v d) (t : RpKV K H vs es) : RpKV K H ((k, v) :: vs) ((keyD k, d) :: es) := by
  cases k with
  | inl i => exact .int h t
  | inr s => exact .str h t
theorem RpKV.uncons {p : Key × V} {vs : List (Key × V)} {es : List (D × D)} (h : RpKV K H (p :: vs) es) : ∃ d es', es = (keyD p.1, d) :: es' ∧ Rp K H p.2 d ∧ RpKV K H vs es' := by
  cases h with
  | int h t => exact ⟨_, _, rfl, h, t⟩
  | str h t => exact ⟨_, _, rfl, h, t⟩
theorem RpKV.look (k : Key) : ∀ {vs : List (Key × V)} {es : List (D × D)}, RpKV K H vs es → (valV vs k = none ∧ lookD es k = none) ∨ ∃ v d, valV vs k = some v ∧ lookD es k = some d ∧ Rp K H v d
  | [], _, h => by cases h; exact .inl ⟨rfl, rfl⟩
  | p :: vs, _, h => by
    obtain ⟨d, es', rfl, r, t⟩ := h.uncons
    by_cases e : p.1 = k
    · refine .inr ⟨p.2, d, valV_pos e, ?_, r⟩
      unfold lookD
      rw [List.find?_cons, show decide (kd (keyD p.1) = some k) = true by rw [kd_keyD, e]; simp]
      rfl
    · rw [valV_neg e]
      have e2 : lookD ((keyD p.1, d) :: es') k = lookD es' k := by
        unfold lookD
        rw [List.find?_cons, show decide (kd (keyD p.1) = some k) = false by rw [kd_keyD]; simpa using e]
      rw [e2]
      exact RpKV.look k t
theorem RpKV.any (k : Key) : ∀ {vs : List (Key × V)} {es : List (D × D)}, RpKV K H vs es → (vs.any fun kv => decide (kv.1 = k)) = es.any fun e => decide (kd e.1 = some k)
  | [], _, h => by cases h; rfl
  | p :: vs, _, h => by
    obtain ⟨d, es', rfl, r, t⟩ := h.uncons
    rw [List.any_cons, List.any_cons, RpKV.any k t, kd_keyD]
    simp
theorem RpKV.snoc {k : Key} {v : V} {d : D} (r : Rp K H v d) : ∀ {vs : List (Key × V)} {es : List (D × D)}, RpKV K H vs es → RpKV K H (vs ++ [(k, v)]) (es ++ [(keyD k, d)])
  | [], _, h => by cases h; exact .cons r .nil
  | p :: vs, _, h => by
    obtain ⟨d', es', rfl, r', t⟩ := h.uncons
    exact .cons r' (RpKV.snoc r t)
theorem RpKV.over {k : Key} {v : V} {d : D} (r : Rp K H v d) : ∀ {vs : List (Key × V)} {es : List (D × D)}, RpKV K H vs es → RpKV K H (vs.map fun kv => if kv.1 = k then (kv.1, v) else kv) (es.map fun e => if kd e.1 = some k then (e.1, d) else e)
  | [], _, h => by cases h; exact .nil
  | p :: vs, _, h => by
    obtain ⟨d', es', rfl, r', t⟩ := h.uncons
    rw [List.map_cons, List.map_cons]
    by_cases e : p.1 = k
    · rw [if_pos e, if_pos (by rw [kd_keyD, e])]
      exact .cons r (RpKV.over r t)
    · rw [if_neg e, if_neg (by rw [kd_keyD]; simpa using e)]
      exact .cons r' (RpKV.over r t)
theorem RpKV.put {k : Key} {v : V} {d : D} {vs : List (Key × V)} {es : List (D × D)} (h : RpKV K H vs es) (r : Rp K H v d) : RpKV K H (putK vs k v) (putD es k d) := by
  unfold putK putD
  rw [h.any k]
  split
  · exact h.over r
  · exact h.snoc r
end
section
variable {X : Cx} {ρ : Rho} {e a b c : Expr} {d x y z : D} {ds : List D} {k : Kd}
theorem Rq.dctR {K : PySem.W.Frag} {H : Hp} {v : V} {es : List (D × D)} (h : Rq K H v (.dict es)) : ∃ a kvs, v = .ref a ∧ Rd H a (.dK kvs) ∧ RpKV K H kvs es := by
  cases h with
  | of h => cases h with | dct h r => exact ⟨_, _, rfl, .inr ⟨_, h⟩, r⟩
  | dct h r => exact ⟨_, _, rfl, .inl h, r⟩
theorem Rq.key {K : PySem.W.Frag} {H : Hp} {v : V} {kk : Key} (h : Rq K H v (keyD kk)) : v = kV kk := by
  cases kk with
  | inl i => exact h.int
  | inr s => exact h.str
/-- {} -/
theorem ev_dnew {pos : Pos} : Ev X (.Dict [] [] pos) ρ (.newD []) := fun σ H Q S q => ⟨_, pe_dnewK, fun p hp => q _ _ ⟨same_new hp, p, _, rfl, hp, upd_same, .nil⟩⟩
/-- d[k], there -/
theorem ev_dget {pos : Pos} {es : List (D × D)} {kk : Key} (hu : X.A.units + 1 < cLine) (ha : Ev X a ρ (.qua (.dict es))) (hb : Ev X b ρ (.val (keyD kk))) (h : lookD es kk = some d) (hs : NoSl b := by exact fun _ _ => rfl) : Ev X (.Subscript a b pos) ρ (.val d) := fun σ H Q S q =>
  ⟨_, pe_dget hu pe_c pe_c hs, ha σ H _ S fun u H1 ⟨s1, r1⟩ => hb σ H1 _ (S.mono s1) fun v H2 ⟨s2, r2⟩ => by
    obtain ⟨p, kvs, rfl, hd, hr⟩ := (r1.mono s2).dctR
    have ev := (Rq.of r2).key
    subst ev
    rcases hr.look kk with ⟨_, e2⟩ | ⟨w, d', e1, e2, r⟩
    · rw [h] at e2; cases e2
    · rw [h] at e2; cases e2
      exact ⟨p, w, rfl, .inl ⟨kvs, kk, hd, rfl, e1.symm⟩, q _ H2 ⟨s1.trans s2, r⟩⟩⟩
/-- d.get(k, x) -/
theorem ev_dgetx {apos cpos : Pos} {f : Expr} {es : List (D × D)} {kk : Key} (hu : X.A.units + 1 < cLine) (ha : Ev X a ρ (.qua (.dict es))) (hb : Ev X b ρ (.val (keyD kk))) (hf : Ev X f ρ (.val x)) (m : M2 X a "get" apos b f cpos := by exact ⟨rfl, rfl, rfl, rfl⟩) : Ev X (.Call (.Attribute a "get" apos) [b, f] [] cpos) ρ (.val ((lookD es kk).getD x)) := fun σ H Q S q =>
  ⟨_, pe_dget2 hu pe_c pe_c pe_c m, ha σ H _ S fun u H1 ⟨s1, r1⟩ => by
    obtain ⟨p, kvs, rfl, hd, hr⟩ := r1.dctR
    refine ⟨p, rfl, .inl ⟨kvs, hd⟩, hb σ H1 _ (S.mono s1) fun v H2 ⟨s2, r2⟩ => hf σ H2 _ (S.mono (s1.trans s2)) fun w H3 ⟨s3, r3⟩ => ?_⟩
    have ev := (Rq.of r2).key
    subst ev
    have hd3 : Rd H3 p (.dK kvs) := by
      rcases hd with hd | ⟨o, hd⟩
      · exact .inl (s3 _ _ (s2 _ _ hd))
      · exact .inr ⟨o, s3 _ _ (s2 _ _ hd)⟩
    refine ⟨_, .inl ⟨kvs, kk, hd3, rfl, rfl⟩, ?_⟩
    rcases hr.look kk with ⟨e1, e2⟩ | ⟨w', d', e1, e2, r⟩
    · rw [e1]
      rw [e2] at q
      exact q _ H3 ⟨(s1.trans s2).trans s3, r3⟩
    · rw [e1]
      rw [e2] at q
      exact q _ H3 ⟨(s1.trans s2).trans s3, r.mono (.of (s2.trans s3))⟩⟩
/-- d[k] = v, d a dict of one's own -/
theorem sx_dput {Φ : DL.Fin} (j : Nat) {yn : Str} {p2 tpos pos : Pos} {es : List (D × D)} {kk : Key} (hj : ρ[j]? = some (.dic es)) (hu : X.A.units + 1 < cLine) (hb : Ev X b ρ (.val (keyD kk))) (he : Ev X e ρ (.val d)) (hz : es.length < sizeLine) (h : Φ.nx (ρ.set j (.dic (putD es kk d)))) (hNj : X.N[j]? = some yn := by rfl) (hv : Vis X.env.scope yn := by first | exact Or.inl rfl | exact Or.inr (Or.inl rfl) | exact Or.inr (Or.inr rfl)) (hd : (yn == ("__debug__" : Str)) = false := by decide)
    (hcd : (yn == ("__classdict__" : Str)) = false := by decide) (hs : swapsWith e (some (.Subscript (.Name yn p2) b tpos)) pos.line X.env = pure false := by rfl) : Sx X (.Assign [.Subscript (.Name yn p2) b tpos] e pos) ρ Φ := fun H0 H1 σ H E S F => by
  obtain ⟨p, kvs, e1, e2, r⟩ := S.ok.dic j es hj
  refine ⟨_, ps_dput hu (pe_var hNj hv hd hcd) pe_c pe_c hs, he σ H _ S.ok fun v H2 ⟨s2, r2⟩ => ⟨_, e1, hb σ H2 _ (S.mono s2).ok fun w H3 ⟨s3, r3⟩ => ?_⟩⟩
  have ev := (Rq.of r3).key
  subst ev
  have e3 : H3 p = some (.dK kvs) := s3 _ _ (s2 _ _ e2)
  refine ⟨p, _, rfl, .k e3 (by rw [r.length]; exact hz), F.nx _ _ _ (((S.mono s2).mono s3).write hj rfl rfl e1 e3 trivial (fun _ q => by cases q) fun es' q => ?_) h⟩
  cases q
  have st : Stb H3 (upd H3 p (.dK (putK kvs kk v))) := stb_upd e3 trivial
  exact ⟨_, rfl, ((r.mono (.of (s2.trans s3))).mono st).put ((r2.mono (.of s3)).mono st)⟩
/-! ### dict(pairs) -/
theorem call_dictT (hcalm : X.calm = true) : CallR X (.type "dict") (fun xs H Q => ∃ (a : Addr) (ps : List Addr) (kvs : List (Key × V)), xs = [.ref a] ∧ PlT X.K H a (ps.map V.ref) ∧ Paired (fun p kv => SqT X.K H p [kV kv.1, kv.2]) ps kvs ∧
    ∀ p, H p = none → Q (.ref p) (upd H p (.dK (mergeK [] kvs)))) := by
  intro pins s σ H xs us Q I r q
  obtain ⟨a, ps, kvs, ex, hq, hp, q⟩ := q
  subst ex
  obtain ⟨u, eu, rx⟩ := vals1 r
  subst eu
  cases rx
  obtain ⟨o, its, n, ho, hc, hd, hdat, rv, hz⟩ := inv_pl I hq
  have ei := refs_at rv
  subst ei
  rw [List.length_map] at hz
  obtain ⟨prs, rel, hl, hpr⟩ := pairs_of I hp
  have items : ∃ pv : List (Value × Value), pv.length = prs.length ∧ ∀ j k v, pv[j]? = some (k, v) → ∃ key, prs[j]? = some (key, v) ∧ keyIs key k = true ∧ PairAt s.heap (ps.getD j 0) k v := by
    clear q hq hp rel ho hdat rv hc hd
    induction prs generalizing ps with
    | nil => exact ⟨[], rfl, fun j k v e => by simp at e⟩
    | cons pr prs ih =>
      cases ps with
      | nil => simp at hl
      | cons p ps =>
        obtain ⟨b, u, e1, e2, e3⟩ := hpr 0 pr rfl
        have eb : p = b := by simpa using e1
        subst eb
        obtain ⟨pv, h1, h2⟩ := ih ps (by simp at hz; omega) (by simpa using hl) fun j q e => by
          obtain ⟨b, u, z1, z2, z3⟩ := hpr (j + 1) q (by simpa using e)
          exact ⟨b, u, by simpa using z1, z2, z3⟩
        refine ⟨(u, pr.2) :: pv, by simp [h1], fun j k v e => ?_⟩
        cases j with
        | zero =>
          simp at e
          obtain ⟨rfl, rfl⟩ := e
          exact ⟨pr.1, rfl, e3, .inl e2⟩
        | succ j =>
          obtain ⟨key, z1, z2, z3⟩ := h2 j k v (by simpa using e)
          exact ⟨key, by simpa using z1, z2, by simpa using z3⟩
  obtain ⟨pv, hpl, hpi⟩ := items
  have ok : PlainSeq "tuple" s.heap a (ps.map Value.ref).toArray ∧ PairItems s.heap (ps.map Value.ref).toArray (fun j => ps.getD j 0) pv := by
    refine ⟨⟨o, n, ho, hc, hd, hdat⟩, by simp [hpl, hl], fun j k v e => ?_⟩
    obtain ⟨key, z1, z2, z3⟩ := hpi j k v e
    have hj : j < ps.length := by
      have := (List.getElem?_eq_some_iff.mp e).1
      omega
    refine ⟨?_, z3⟩
    simp [hj]
  refine PySem.call_dict_pairs (knd := mixKind X.prog X.w) (kvs := prs) (PairArg.tuple a (ps.map Value.ref).toArray (fun j => ps.getD j 0) pv) (I.ok.hd hcalm) ok ⟨hpl.symm, fun i key v e => ?_⟩ (by omega) fun h' tk hd' kk => ?_
  · obtain ⟨kx, z1, z2, _⟩ := hpi i key v e
    exact ⟨kx, z1, z2⟩
  · have hm : (s.heap.objs.size == sysModules) = false := beq_eq_false_iff_ne.mpr (Nat.ne_of_gt I.big)
    have hlen : (mergeK [] kvs).length ≤ sizeLine := by
      refine Nat.le_trans (length_mergeK kvs []) ?_
      rw [List.length_nil, Nat.zero_add, rel.length, hl]
      exact hz
    exact ⟨.ref s.heap.objs.size, upd H s.heap.objs.size (.dK (mergeK [] kvs)), I.laid (t' := tk) (fun b o e => kk b o (by simp) e) (Nat.le_refl _) (show ObjOk X.prog X.w _ _ _ (.dK (mergeK [] kvs)) from ⟨hlen, hm, merged [] prs, KV.merge rel .nil, hd'⟩), rfl, q _ (I.hok.fresh (Nat.le_refl _))⟩
theorem RpKV.merge {K : PySem.W.Frag} {H : Hp} : ∀ {more : List (Key × V)} {md : List (Key × D)} {vs : List (Key × V)} {es : List (D × D)}, Paired (fun (p : Key × V) (q : Key × D) => p.1 = q.1 ∧ Rp K H p.2 q.2) more md → RpKV K H vs es → RpKV K H (mergeK vs more) (mergeD es md)
  | _, _, _, _, .nil, h => h
  | _, _, _, _, .cons (a := p) (b := q) ⟨e, r⟩ t, h => by
    show RpKV K H (mergeK (putK _ p.1 p.2) _) (mergeD (putD _ q.1 q.2) _)
    rw [← e]
    exact RpKV.merge t (h.put r)
theorem pairs_rp {K : PySem.W.Frag} {H : Hp} : ∀ {xs : List V} {md : List (Key × D)}, RpAll K H xs (md.map fun q => .tuple [keyD q.1, q.2]) → ∃ (ps : List Addr) (kvs : List (Key × V)), xs = ps.map V.ref ∧ Paired (fun p kv => SqT K H p [kV kv.1, kv.2]) ps kvs ∧ Paired (fun (p : Key × V) (q : Key × D) => p.1 = q.1 ∧ Rp K H p.2 q.2) kvs md
  | _, [], h => by cases h; exact ⟨[], [], rfl, .nil, .nil⟩
  | _, q :: md, h => by
    cases h with
    | cons h t =>
      obtain ⟨ps, kvs, rfl, h1, h2⟩ := pairs_rp t
      obtain ⟨p, ys, rfl, hs, hr⟩ := h.tupI
      cases hr with
      | cons r1 r2 =>
        cases r2 with
        | cons r2 r3 =>
          cases r3
          have ek := (Rq.of r1).key
          subst ek
          exact ⟨p :: ps, (q.1, _) :: kvs, rfl, .cons hs h1, .cons ⟨rfl, r2⟩ h2⟩
theorem c_dictT {md : List (Key × D)} (hc : X.calm = true := by rfl) : CallV X (.type "dict") [.tuple (md.map fun q => .tuple [keyD q.1, q.2])] (.newD (mergeD [] md)) := fun H vs Q r q => by
  obtain ⟨v, rfl, r0⟩ := paired1 r
  obtain ⟨a, xs, rfl, hs, hr⟩ := r0.tupP
  obtain ⟨ps, kvs, rfl, h1, h2⟩ := pairs_rp hr
  exact ⟨_, call_dictT hc, a, ps, kvs, rfl, hs, h1, fun p hp => q _ _ ⟨same_new hp, p, _, rfl, hp, upd_same, (RpKV.merge h2 .nil).mono (stb_new hp)⟩⟩
theorem c_dictL {md : List (Key × D)} (hc : X.calm = true := by rfl) : CallV X (.type "dict") [.list (md.map fun q => .tuple [keyD q.1, q.2])] (.newD (mergeD [] md)) := fun H vs Q r q => by
  obtain ⟨v, rfl, r0⟩ := paired1 r
  obtain ⟨a, xs, rfl, hs, hr⟩ := r0.lst
  obtain ⟨ps, kvs, rfl, h1, h2⟩ := pairs_rp hr
  exact ⟨_, call_dictP hc, a, ps, kvs, rfl, hs, h1, fun p hp => q _ _ ⟨same_new hp, p, _, rfl, hp, upd_same, (RpKV.merge h2 .nil).mono (stb_new hp)⟩⟩
end
end DL


/-! Parts, houses as plain data. -/
namespace DL
open PySem L2
structure Want where
  face : Str
  low : Int
  high : Int
  must : Bool
structure Hook where
  hook : Str
  rank : Int
  word : Str
  worth : Option Int
structure Part where
  name : Str
  make : Int
  faces : List (Str × Int)
  wants : List Want
  hooks : List Hook
def encW (w : Want) : D := .tuple [.str w.face, .int w.low, .int w.high, .bool w.must]
def encF (f : Str × Int) : D := .tuple [.str f.1, .int f.2]
def encDeed (h : Hook) : D := .tuple (.str h.word :: (match h.worth with | none => [] | some n => [.int n]))
def encK (h : Hook) : D := .tuple [.str h.hook, .int h.rank, encDeed h]
def encP (p : Part) : D := .tuple [.str p.name, .int p.make, .tuple (p.faces.map encF), .tuple (p.wants.map encW), .tuple (p.hooks.map encK)]
abbrev House := List Part
def encH (h : House) : D := .tuple (h.map encP)
/-- the last face of this name -/
def lookF (fs : List (Str × Int)) (x : Str) : Option Int := fs.foldl (fun acc f => if x = f.1 then some f.2 else acc) none
def makeOf (p : Part) (x : Str) : Int := (lookF p.faces x).getD 0
theorem lookD_put (es : List (D × D)) (k j : Key) (v : D) : lookD (putD es k v) j = if j = k then some v else lookD es j := by
  unfold putD
  induction es with
  | nil =>
    simp only [List.any_nil, Bool.false_eq_true, if_false, List.nil_append]
    unfold lookD
    rw [List.find?_cons]
    by_cases h : j = k
    · subst h; rw [kd_keyD]; simp
    · rw [kd_keyD, if_neg h, show decide (some k = some j) = false by simpa using fun z => h z.symm]
  | cons e es ih =>
    by_cases hk : kd e.1 = some k
    · have h1 : ((e :: es).any fun e => decide (kd e.1 = some k)) = true := by rw [List.any_cons]; simp [hk]
      rw [if_pos h1, List.map_cons, if_pos hk]
      unfold lookD
      rw [List.find?_cons, List.find?_cons]
      by_cases h : j = k
      · subst h; rw [if_pos rfl]; simp [hk]
      · rw [if_neg h]
        have hj : decide (kd e.1 = some j) = false := by rw [hk]; simpa using fun z => h z.symm
        rw [hj]
        simp only
        have : ∀ l : List (D × D), (l.map fun e => if kd e.1 = some k then (e.1, v) else e).find? (fun e => decide (kd e.1 = some j)) = l.find? (fun e => decide (kd e.1 = some j)) := by
          intro l
          induction l with
          | nil => rfl
          | cons x l ihl =>
            rw [List.map_cons, List.find?_cons, List.find?_cons]
            by_cases hx : kd x.1 = some k
            · rw [if_pos hx]
              have : decide (kd x.1 = some j) = false := by rw [hx]; simpa using fun z => h z.symm
              simp only [this]; exact ihl
            · rw [if_neg hx, ihl]
        rw [this]
    · have h1 : ((e :: es).any fun e => decide (kd e.1 = some k)) = (es.any fun e => decide (kd e.1 = some k)) := by rw [List.any_cons]; simp [hk]
      rw [h1]
      have step : ∀ l : List (D × D), lookD (e :: l) j = if kd e.1 = some j then some e.2 else lookD l j := by
        intro l
        unfold lookD
        rw [List.find?_cons]
        by_cases hj : kd e.1 = some j <;> simp [hj]
      by_cases ha : (es.any fun e => decide (kd e.1 = some k)) = true
      · rw [if_pos ha] at ih ⊢
        rw [List.map_cons, if_neg hk, step, step, ih]
        by_cases hj : kd e.1 = some j
        · rw [if_pos hj, if_pos hj, if_neg]; rintro rfl; exact hk hj
        · rw [if_neg hj, if_neg hj]
      · rw [if_neg ha] at ih ⊢
        rw [List.cons_append, step, step, ih]
        by_cases hj : kd e.1 = some j
        · rw [if_pos hj, if_pos hj, if_neg]; rintro rfl; exact hk hj
        · rw [if_neg hj, if_neg hj]
theorem lookD_merge (j : Key) : ∀ (md : List (Key × D)) (es : List (D × D)), lookD (mergeD es md) j = md.foldl (fun acc kv => if j = kv.1 then some kv.2 else acc) (lookD es j)
  | [], _ => rfl
  | kv :: md, es => by
    show lookD (mergeD (putD es kv.1 kv.2) md) j = _
    rw [lookD_merge j md, lookD_put]
    rfl
def facesK (fs : List (Str × Int)) : List (Key × D) := fs.map fun f => (Sum.inr f.1, .int f.2)
theorem faces_enc (fs : List (Str × Int)) : (facesK fs).map (fun q => PyData.tuple [keyD q.1, q.2]) = fs.map encF := by
  unfold facesK
  rw [List.map_map]
  rfl
theorem look_faces (fs : List (Str × Int)) (x : Str) : lookD (mergeD [] (facesK fs)) (.inr x) = (lookF fs x).map .int := by
  rw [lookD_merge]
  unfold facesK lookF
  rw [List.foldl_map]
  have : ∀ (l : List (Str × Int)) (a : Option Int), l.foldl (fun (acc : Option D) f => if (Sum.inr x : Key) = Sum.inr f.1 then some (.int f.2) else acc) (a.map .int) = (l.foldl (fun acc f => if x = f.1 then some f.2 else acc) a).map PyData.int := by
    intro l
    induction l with
    | nil => intro a; rfl
    | cons f l ih =>
      intro a
      rw [List.foldl_cons, List.foldl_cons, ← ih]
      congr 1
      by_cases h : x = f.1
      · rw [if_pos (by rw [h]), if_pos h]; rfl
      · rw [if_neg (by simpa using h), if_neg h]
  exact this fs none
theorem flt_true {α : Type} (l : List α) : (l.filter fun _ => true) = l := by simp
theorem isE_map {α β : Type} (f : α → β) (l : List α) : (l.map f).isEmpty = l.isEmpty := by cases l <;> rfl
theorem eqv_len0 {α : Type} (l : List α) : PyData.eqv (.int (l.length : Nat)) (.int 0) = l.isEmpty := by cases l <;> simp [PyData.eqv]
  <;> omega
/-! ### who can stand -/
def gives (p : Part) (w : Want) : Bool := decide (w.low ≤ makeOf p w.face) && decide (makeOf p w.face ≤ w.high)
def giversFor (ps : List Part) (n : Str) (w : Want) : List Part := ps.filter fun p => !(p.name == n) && gives p w
def lacksL (ps : List Part) (p : Part) : List Str := (p.wants.filter fun w => w.must && (giversFor ps p.name w).isEmpty).map (·.face)
def stands (ps : List Part) : List Part := ps.filter fun p => (lacksL ps p).isEmpty
/-! ### texts that can be laid -/
structure OkP (p : Part) : Prop where
  nm : PyData.strOk p.name = true
  fs : ∀ f ∈ p.faces, PyData.strOk f.1 = true
  ws : ∀ w ∈ p.wants, PyData.strOk w.face = true
  ks : ∀ h ∈ p.hooks, PyData.strOk h.hook = true ∧ PyData.strOk h.word = true
def OkH (h : List Part) : Prop := ∀ p ∈ h, OkP p
theorem pl_encF {n : Nat} {f : Str × Int} (h : PyData.strOk f.1 = true) : Pl (n + 1) (encF f) := pl_tup (pla_cons (pl_str h) (pla_cons pl_int pla_nil))
theorem pl_encW {n : Nat} {w : Want} (h : PyData.strOk w.face = true) : Pl (n + 1) (encW w) := pl_tup (pla_cons (pl_str h) (pla_cons pl_int (pla_cons pl_int (pla_cons pl_bool pla_nil))))
theorem pl_encDeed {n : Nat} {h : Hook} (k : PyData.strOk h.word = true) : Pl (n + 1) (encDeed h) := by
  unfold encDeed
  refine pl_tup (pla_cons (pl_str k) ?_)
  cases h.worth with
  | none => exact pla_nil
  | some n => exact pla_cons pl_int pla_nil
theorem pl_encK {n : Nat} {h : Hook} (k : PyData.strOk h.hook = true ∧ PyData.strOk h.word = true) : Pl (n + 2) (encK h) := pl_tup (pla_cons (pl_str k.1) (pla_cons pl_int (pla_cons (pl_encDeed k.2) pla_nil)))
theorem pl_encP {n : Nat} {p : Part} (h : OkP p) : Pl (n + 4) (encP p) :=
  pl_tup (pla_cons (pl_str h.nm) (pla_cons pl_int (pla_cons (pl_tup (pla_map fun f hf => pl_encF (h.fs f hf))) (pla_cons (pl_tup (pla_map fun w hw => pl_encW (h.ws w hw))) (pla_cons (pl_tup (pla_map fun k hk => pl_encK (h.ks k hk))) pla_nil)))))
theorem pl_parts {n : Nat} {h : List Part} (k : OkH h) : PlAll (n + 4) (h.map encP) := pla_map fun p hp => pl_encP (k p hp)
theorem OkH.get {h : List Part} (k : OkH h) {p : Part} (hp : p ∈ h) : OkP p := k p hp
theorem OkH.sub {h g : List Part} (k : OkH h) (s : ∀ p ∈ g, p ∈ h) : OkH g := fun p hp => k p (s p hp)
theorem OkH.filter {h : List Part} {f : Part → Bool} (k : OkH h) : OkH (h.filter f) := k.sub fun _ hp => (List.mem_filter.mp hp).1
end DL


/-! What the laws draw, as plain functions. -/
namespace DL
open PySem L2
def cellAt (ns : List Int) (k : Int) : Int := if k < (ns.length : Int) then ns.getD k.toNat 0 else 0
def mixed0 (ns : List Int) (k : Int) : Int := (cellAt ns k + 7919 * k + 1) * 48271 % 2147483647
def mixed (ns : List Int) (k : Int) : Int := (mixed0 ns k * mixed0 ns k + 7 * mixed0 ns k + k) % 2147483629
def drawn0 (n k : Int) : Int := (n + 104729 * k + 17) * 69621 % 2147483647
def drawn (n k : Int) : Int := (drawn0 n k * drawn0 n k + 3 * drawn0 n k + k) % 2147483629
theorem drawn0_b (n k : Int) : 0 ≤ drawn0 n k ∧ drawn0 n k < 2147483647 := ⟨Int.emod_nonneg _ (by decide), Int.emod_lt_of_pos _ (by decide)⟩
theorem mixed0_b (n : List Int) (k : Int) : 0 ≤ mixed0 n k ∧ mixed0 n k < 2147483647 := ⟨Int.emod_nonneg _ (by decide), Int.emod_lt_of_pos _ (by decide)⟩
theorem drawn_b (n k : Int) : 0 ≤ drawn n k ∧ drawn n k < 2147483629 := ⟨Int.emod_nonneg _ (by decide), Int.emod_lt_of_pos _ (by decide)⟩
theorem mixed_b (n : List Int) (k : Int) : 0 ≤ mixed n k ∧ mixed n k < 2147483629 := ⟨Int.emod_nonneg _ (by decide), Int.emod_lt_of_pos _ (by decide)⟩
/-- the part of a number -/
def faceOf (n : Int) (k : Int) (f : Str) : List (Str × Int) := if drawn n k / 4 % 3 = 0 then [(f, 1 + drawn n k / 4 / 4 % 4)] else []
def wantOf (n : Int) (k : Int) (f : Str) : List Want := if drawn n k / 4 % 4 = 1 then
  [⟨f, 1 + drawn n k / 4 / 4 % 3, (if 1 + drawn n k / 4 / 4 % 3 + drawn n k / 4 / 16 % 4 < 9 then 1 + drawn n k / 4 / 4 % 3 + drawn n k / 4 / 16 % 4 else 9), decide (0 < drawn n k / 4 / 64 % 3)⟩] else []
def wordOf (r : Int) : Str := if r % 6 = 0 then "plus" else if r % 6 = 1 then "times" else if r % 6 = 2 then "set" else if r % 6 = 3 then "stop" else if r % 6 = 4 then "fail" else "plus"
def worthOf (r : Int) : Int := r / 8 % (if r / 8192 % 2 = 0 then 1000 else 5)
def hookNm (r : Int) : Str := if r / 16384 % 2 = 0 then "go" else "end"
def rankOf (r : Int) : Int := if r / 32768 % 4 = 0 then 0 else if r / 32768 % 4 = 1 then -1 else if r / 32768 % 4 = 2 then 5 else -9
def hookOf (n : Int) (k : Int) : Hook := ⟨hookNm (drawn n (10 + k) / 4), rankOf (drawn n (10 + k) / 4), wordOf (drawn n (10 + k) / 4), if wordOf (drawn n (10 + k) / 4) = "stop" then none else some (worthOf (drawn n (10 + k) / 4))⟩
def hooksOf (n : Int) : List Hook := (List.range (n % 4).toNat).map fun k => hookOf n ((k : Nat) : Int)
def facesOf (n : Int) : List (Str × Int) := faceOf n 0 "f" ++ (faceOf n 1 "g" ++ faceOf n 2 "h")
def wantsOf (n : Int) : List Want := wantOf n 0 "f" ++ (wantOf n 1 "g" ++ wantOf n 2 "h")
theorem faceOf_len (n k : Int) (f : Str) : (faceOf n k f).length ≤ 1 := by unfold faceOf; split <;> simp
theorem wantOf_len (n k : Int) (f : Str) : (wantOf n k f).length ≤ 1 := by unfold wantOf; split <;> simp
theorem facesOf_len (n : Int) : (facesOf n).length ≤ 3 := by
  have h1 := faceOf_len n 0 "f"; have h2 := faceOf_len n 1 "g"; have h3 := faceOf_len n 2 "h"
  unfold facesOf; simp only [List.length_append]; omega
theorem wantsOf_len (n : Int) : (wantsOf n).length ≤ 3 := by
  have h1 := wantOf_len n 0 "f"; have h2 := wantOf_len n 1 "g"; have h3 := wantOf_len n 2 "h"
  unfold wantsOf; simp only [List.length_append]; omega
theorem hooksOf_len (n : Int) : (hooksOf n).length ≤ 3 := by
  unfold hooksOf; rw [List.length_map, List.length_range]; omega
def partOf (n : Int) (nm : Str) : Part := ⟨nm, 1 + n / 4 % 4, facesOf n, (wantsOf n).drop (n / 64 % 2).toNat, hooksOf n⟩
def partAt (n : Int) (k : Int) (nm : Str) : List Part := if n % 4 < drawn n (20 + k) / 4 % 8 then [partOf (drawn n (20 + k) / 4 / 8) nm] else []
def houseOf (n : Int) : House := partAt n 0 "a" ++ (partAt n 1 "b" ++ (partAt n 2 "c" ++ (partAt n 3 "d" ++ (partAt n 4 "e" ++ partAt n 5 "log"))))
theorem partAt_len (n k : Int) (f : Str) : (partAt n k f).length ≤ 1 := by unfold partAt; split <;> simp
theorem houseOf_len (n : Int) : (houseOf n).length ≤ 6 := by
  have h1 := partAt_len n 0 "a"; have h2 := partAt_len n 1 "b"; have h3 := partAt_len n 2 "c"; have h4 := partAt_len n 3 "d"; have h5 := partAt_len n 4 "e"; have h6 := partAt_len n 5 "log"
  unfold houseOf; simp only [List.length_append]; omega
end DL


namespace DL
open PySem PySem.Spec PyProof.Rows L2
section
variable {X : Cx} {ρ : Rho} {e a b c : Expr} {d x y z : D} {ds es : List D} {k : Kd} {Φ : DL.Fin} {st : Stmt} {sts : List Stmt}
/-- forgetting -/
def Le (ρ' ρ2 : Rho) : Prop := ρ2.length = ρ'.length ∧ ∀ (i : Nat) (b : B), ρ2[i]? = some b → b ≠ .un → ρ'[i]? = some b
theorem Le.refl (ρ : Rho) : Le ρ ρ := ⟨rfl, fun _ _ h _ => h⟩
theorem le_nil : Le [] [] := ⟨rfl, fun _ _ h _ => h⟩
theorem le_cons {b : B} {r s : Rho} (h : Le r s) : Le (b :: r) (b :: s) := ⟨congrArg (· + 1) h.1, fun i c e n => by
  cases i with
  | zero => exact e
  | succ i => exact h.2 i c e n⟩
theorem le_un {b : B} {r s : Rho} (h : Le r s) : Le (b :: r) (.un :: s) := ⟨congrArg (· + 1) h.1, fun i c e n => by
  cases i with
  | zero => cases e; exact absurd rfl n
  | succ i => exact h.2 i c e n⟩
theorem SK.le {K : PySem.W.Frag} {H0 H1 H : Hp} {σ : L2.St} {ρ2 : Rho} (S : SK K H0 H1 ρ σ H) (h : Le ρ ρ2) : SK K H0 H1 ρ2 σ H := S.weak (by rw [h.1]; exact S.ok.len) fun i b e n => ⟨h.2 i b e n, rfl⟩
theorem sx_weak (ρ2 : Rho) (h : Sx X st ρ { Φ with nx := fun ρ' => Le ρ' ρ2 }) (q : Φ.nx ρ2) : Sx X st ρ Φ := fun H0 H1 σ H E S F =>
  h H0 H1 σ H E S ⟨fun ρ' σ' H' S' l => F.nx ρ2 σ' H' (S'.le l) q, F.rt, F.bk, F.ct⟩
theorem xs_weak (ρ2 : Rho) (h : Sxs X sts ρ { Φ with nx := fun ρ' => Le ρ' ρ2 }) (q : Φ.nx ρ2) : Sxs X sts ρ Φ := fun H0 H1 σ H E S F =>
  h H0 H1 σ H E S ⟨fun ρ' σ' H' S' l => F.nx ρ2 σ' H' (S'.le l) q, F.rt, F.bk, F.ct⟩
/-- from a state that knows more -/
theorem xs_le {ρ2 : Rho} (l : Le ρ ρ2) (h : Sxs X sts ρ2 Φ) : Sxs X sts ρ Φ := fun H0 H1 σ H E S F => h H0 H1 σ H E (S.le l) F
theorem EvG.le {yl : Bool} {tg : Expr} {ρ2 ρ' : Rho} {is : List Nat} (h : EvG X yl tg ρ2 d ρ' is) (l : Le ρ ρ2) : EvG X yl tg ρ d ρ' is :=
  ⟨fun σ H v Q S r q => h.run σ H v Q (S.weak (by rw [l.1]; exact S.len) fun i b e n => ⟨l.2 i b e n, rfl⟩) r q, fun i b e o => by
    obtain ⟨q, n⟩ := h.own i b e o
    exact ⟨l.2 i b q (by rintro rfl; cases o), n⟩⟩
/-- what is wanted behind a loop is kept by forgetting -/
theorem forW_le {yl : Bool} {tg : Expr} {body : List Stmt} (hΦ : ∀ ρ ρ2, Le ρ ρ2 → Φ.nx ρ2 → Φ.nx ρ) : ∀ {xs : List D} {ρ ρ2 : Rho}, Le ρ ρ2 → ForW X yl tg body xs ρ2 Φ → ForW X yl tg body xs ρ Φ
  | [], _, _, l, h => hΦ _ _ l h
  | _ :: _, _, _, l, ⟨ρ', is, hg, hb⟩ => ⟨ρ', is, hg.le l, hb⟩
theorem sx_for' {yl : Bool} {tg it : Expr} {body : List Stmt} {xs : List D} {pos : Pos} (ρe : Rho → Prop) (hi : EvI X tg it ρ yl xs) (h : ForW X yl tg body xs ρ { Φ with nx := fun ρ' => ∃ ρ2, Le ρ' ρ2 ∧ Φ.nx ρ2 }) (hp : PassesOwn (model X.prog X.w) X.A X.env X.xe := by exact PassesOwn.never) (hc : X.calm = true := by rfl) (hs : ∀ x, foldedSetIterable it X.env x = pure x := by intro _; rfl) :
    Sx X (.For tg it body [] pos) ρ Φ := fun H0 H1 σ H E S F =>
  sx_for hi h hp hc hs H0 H1 σ H E S ⟨fun ρ' σ' H' S' ⟨ρ2, l, q⟩ => F.nx ρ2 σ' H' (S'.le l) q, F.rt, F.bk, F.ct⟩
/-- a for by what holds of a datum b of the state, item by item -/
theorem forW_st {yl : Bool} {tg : Expr} {body : List Stmt} {α β : Type} (en : α → D) (st : β → Rho) (R : List α → β → Prop)
    (step : ∀ a rest b, R (a :: rest) b → ∃ ρ' is, EvG X yl tg (st b) (en a) ρ' is ∧ Sxs X body ρ' { nx := fun ρ2 => ∃ b', R rest b' ∧ Le ρ2 (st b'), rt := Φ.rt, bk := fun ρ' => ∃ ρ2, Le ρ' ρ2 ∧ Φ.nx ρ2, ct := fun ρ2 => ∃ b', R rest b' ∧ Le ρ2 (st b') })
    (done : ∀ b, R [] b → Φ.nx (st b)) : ∀ (l : List α) (b : β), R l b → ForW X yl tg body (l.map en) (st b) { Φ with nx := fun ρ' => ∃ ρ2, Le ρ' ρ2 ∧ Φ.nx ρ2 }
  | [], b, h => ⟨_, .refl _, done b h⟩
  | a :: l, b, h => by
    obtain ⟨ρ', is, hg, hb⟩ := step a l b h
    have next : ∀ ρ2, (∃ b', R l b' ∧ Le ρ2 (st b')) → ForW X yl tg body (l.map en) ρ2 { Φ with nx := fun ρ' => ∃ ρ2, Le ρ' ρ2 ∧ Φ.nx ρ2 } := fun ρ2 ⟨b', hr, l'⟩ =>
      forW_le (Φ := { Φ with nx := fun ρ' => ∃ ρ2, Le ρ' ρ2 ∧ Φ.nx ρ2 }) (fun r r2 q h3 => by
        obtain ⟨r3, l3, q3⟩ := h3
        exact ⟨r3, ⟨l3.1.trans q.1, fun i b e n => q.2 i b (l3.2 i b e n) n⟩, q3⟩) l' (forW_st en st R step done l b' hr)
    exact ⟨ρ', is, hg, hb.imp next (fun _ q => q) (fun _ q => q) next⟩
theorem sx_forS {yl : Bool} {tg it : Expr} {body : List Stmt} {α β : Type} (l : List α) (en : α → D) (st : β → Rho) (R : List α → β → Prop) (b0 : β) {pos : Pos} (hi : EvI X tg it (st b0) yl (l.map en)) (h0 : R l b0)
    (step : ∀ a rest b, R (a :: rest) b → ∃ ρ' is, EvG X yl tg (st b) (en a) ρ' is ∧ Sxs X body ρ' { nx := fun ρ2 => ∃ b', R rest b' ∧ Le ρ2 (st b'), rt := Φ.rt, bk := fun ρ' => ∃ ρ2, Le ρ' ρ2 ∧ Φ.nx ρ2, ct := fun ρ2 => ∃ b', R rest b' ∧ Le ρ2 (st b') })
    (done : ∀ b, R [] b → Φ.nx (st b)) (hp : PassesOwn (model X.prog X.w) X.A X.env X.xe := by exact PassesOwn.never) (hc : X.calm = true := by rfl) (hs : ∀ x, foldedSetIterable it X.env x = pure x := by intro _; rfl) : Sx X (.For tg it body [] pos) (st b0) Φ :=
  sx_for' (fun _ => True) hi (forW_st en st R step done l b0 h0) hp hc hs
/-- an if whose ways meet -/
theorem sx_ifS {t : Bool} {as bs : List Stmt} {β : Type} {pos : Pos} (st : β → Rho) (R : β → Prop) (hc : EvT X c ρ t) (ha : t = true → Sxs X as ρ { Φ with nx := fun ρ' => ∃ b, R b ∧ Le ρ' (st b) }) (hb : t = false → Sxs X bs ρ { Φ with nx := fun ρ' => ∃ b, R b ∧ Le ρ' (st b) }) (h : ∀ b, R b → Φ.nx (st b)) : Sx X (.If c as bs pos) ρ Φ := fun H0 H1 σ H E S F =>
  sx_if (Φ := { Φ with nx := fun ρ' => ∃ b, R b ∧ Le ρ' (st b) }) hc ha hb H0 H1 σ H E S ⟨fun ρ' σ' H' S' ⟨b, r, l⟩ => F.nx (st b) σ' H' (S'.le l) (h b r), F.rt, F.bk, F.ct⟩
/-! ### tuple * 0, tuple * 1 -/
theorem tuple_mul0 (l : Addr) (items : Array Value) (n : Nat) (dd : Option Addr) (sl : Array (Option Value)) (u : Tok) (c1 : items.isEmpty = false) :
    Meets (Builtin.«tuple.__mul__» ⟨[.ref l, .int 0 u], []⟩) (fun _ R s => s.heap.get? l = some { cls := .type "tuple", dict := dd, data := .seq items n, slots := sl } ∧
      R (.ok (.ret (Value.ref s.heap.objs.size))) { s with heap := s.heap.push { cls := Value.type "tuple", data := Data.seq #[] }, toks := s.toks }) :=
  .of_wp fun prog w A R s h => by
    obtain ⟨hp, g, d, tk, os⟩ := s
    obtain ⟨hl, h⟩ := h
    have f1 := AutoSeq1.idx_int
    have c2 : (items.isEmpty || (0 : Int) == 1) = false := by rw [c1]; rfl
    have c3 : (decide ((0 : Int) ≤ 0) || items.isEmpty) = true := by simp
    wp_walk using wpAny_loadPart' hl
    repeat (first
      | (refine wpAny_ite_false (decide_eq_false (by rw [c2]; exact Bool.false_ne_true)) ?_; wp_walk using wpAny_loadPart' hl)
      | (refine wpAny_ite_true (decide_eq_true c3) ?_; wp_walk using wpAny_loadPart' hl))
    exact ⟨_, rfl, h⟩
theorem tuple_mul1 (l : Addr) (items : Array Value) (n : Nat) (sl : Array (Option Value)) (u : Tok) :
    Meets (Builtin.«tuple.__mul__» ⟨[.ref l, .int 1 u], []⟩) (fun _ R s => s.heap.get? l = some { cls := .type "tuple", dict := none, data := .seq items n, slots := sl } ∧
      R (.ok (.ret (Value.ref l))) s) :=
  .of_wp fun prog w A R s h => by
    obtain ⟨hp, g, d, tk, os⟩ := s
    obtain ⟨hl, h⟩ := h
    have f1 := AutoSeq1.idx_int
    have c2 : (items.isEmpty || (1 : Int) == 1) = true := by simp
    wp_walk using wpAny_loadPart' hl
    repeat (first
      | (refine wpAny_ite_true (decide_eq_true c2) ?_; wp_walk using wpAny_loadPart' hl))
    exact ⟨_, rfl, h⟩
theorem op_rep01 : OpR X (binaryOp .Mult) (fun x y H Q => ∃ l k xs, x = .ref l ∧ y = .int k ∧ PlT X.K H l xs ∧ xs ≠ [] ∧ ((k = 0 ∧ ∀ p o, H p = none → o.dict = none → Q (.ref p) (upd H p (.frz o (.tup [])))) ∨ (k = 1 ∧ Q (.ref l) H))) := by
  intro pins s σ H x y v u Q I rx ry h
  obtain ⟨l, k, xs, rfl, rfl, hT, hne, h⟩ := h
  cases rx
  obtain ⟨t, rfl⟩ := ry
  obtain ⟨⟨cls, dd, data, sl⟩, its, n, ho, hc, hdn, hd, r, hz⟩ := inv_pl I hT
  simp only at hc hd hdn
  subst hc hd hdn
  have hi : its.toArray.isEmpty = false := by
    cases its with
    | nil => exact absurd ((Vals.nil_iff r).mp rfl) hne
    | cons a b => rfl
  rcases h with ⟨rfl, q⟩ | ⟨rfl, q⟩
  · refine wpAny_binaryOp_repeat_ref (T := "tuple") (U := "int") (by decide) ⟨_, ho, rfl⟩ (fun s' => typeIs_int s' 0 t) noFill_tuple_mul F.fills_int_mul F.slot_int_rmul repeat_tuple F.slot_int_index.lookup
      (call_meets F.slot_int_rmul (typeIs_int s 0 t) F.entry_int_rmul (F.args_int_rmul_2 _ _) (int_rmul_tuple 0 t l its.toArray n none sl)
        ⟨ho, rfl, ⟨_, ho, rfl⟩, call_meets F.slot_tuple_mul ⟨_, ho, rfl⟩ F.entry_tuple_mul (F.args_tuple_mul_2 _ _) (tuple_mul0 l its.toArray n none sl t hi) ⟨ho, ?_⟩⟩)
    exact ⟨.ref s.heap.objs.size, _, inv_tup (us := []) (xs := []) (t' := s.toks) I (fun b u e => Heap.get?_push_of_some _ e) (Nat.le_refl _) (Heap.get?_push_size _ rfl) rfl rfl .nil (Nat.zero_le _), rfl, q _ _ (I.hok.fresh (Nat.le_refl _)) rfl⟩
  · refine wpAny_binaryOp_repeat_ref (T := "tuple") (U := "int") (by decide) ⟨_, ho, rfl⟩ (fun s' => typeIs_int s' 1 t) noFill_tuple_mul F.fills_int_mul F.slot_int_rmul repeat_tuple F.slot_int_index.lookup
      (call_meets F.slot_int_rmul (typeIs_int s 1 t) F.entry_int_rmul (F.args_int_rmul_2 _ _) (int_rmul_tuple 1 t l its.toArray n none sl)
        ⟨ho, rfl, ⟨_, ho, rfl⟩, call_meets F.slot_tuple_mul ⟨_, ho, rfl⟩ F.entry_tuple_mul (F.args_tuple_mul_2 _ _) (tuple_mul1 l its.toArray n sl t) ⟨ho, ?_⟩⟩)
    exact ⟨.ref l, H, I, rfl, q⟩
theorem o_rep01 {t : Bool} (hne : ds ≠ []) : OpV X (binaryOp .Mult) (.tuple ds) (.int (if t then 1 else 0)) (.val (.tuple (if t then ds else []))) := fun H u v Q ru rv q => by
  have ru0 := ru
  obtain ⟨a, xs, rfl, hs, hr⟩ := ru.tupP
  have hx : xs ≠ [] := fun e => hne (by subst e; cases hr; rfl)
  refine ⟨_, op_rep01, a, _, xs, rfl, rv.int, hs, hx, ?_⟩
  cases t with
  | false => exact .inl ⟨rfl, fun p o hp ho => q _ _ ⟨same_new hp, rp_tupNew hp ho .nil⟩⟩
  | true => cases ru0 with | of r => exact .inr ⟨rfl, q _ H ⟨.refl H, r⟩⟩
end
end DL


namespace DL
open PySem PySem.Spec PyProof.Rows L2
/-! ### sorted(xs) of alike data -/
/-- the sorted data -/
def sortD (ds : List D) : List D := ds.mergeSort fun a b => !PySem.W.dataLt b a
structure SortOk (ds : List D) : Prop where
  al : PySem.W.AllAlike ds
  so : PySem.W.Sortable ds
  dp : ∀ d ∈ ds, d.depth ≤ 8
  nd : ∀ d ∈ ds, nod d = true
/-- the shapes of keys -/
inductive Sh where
  | int | str | bool | tup (l : List Sh)
mutual
def shOk : Sh → D → Bool
  | .int, .int _ => true
  | .str, .str _ => true
  | .bool, .bool _ => true
  | .tup l, .tuple ds => shAll l ds
  | _, _ => false
def shAll : List Sh → List D → Bool
  | [], [] => true
  | s :: l, d :: ds => shOk s d && shAll l ds
  | _, _ => false
end
mutual
theorem sh_alike : ∀ (s : Sh) (d e : D), shOk s d = true → shOk s e = true → PySem.W.alike d e = true
  | .int, d, e, h1, h2 => by cases d <;> simp [shOk] at h1; cases e <;> simp [shOk] at h2; simp [PySem.W.alike]
  | .str, d, e, h1, h2 => by cases d <;> simp [shOk] at h1; cases e <;> simp [shOk] at h2; simp [PySem.W.alike]
  | .bool, d, e, h1, h2 => by cases d <;> simp [shOk] at h1; cases e <;> simp [shOk] at h2; simp [PySem.W.alike]
  | .tup l, d, e, h1, h2 => by
    cases d <;> simp [shOk] at h1
    cases e <;> simp [shOk] at h2
    rw [PySem.W.alike]
    exact shAll_alike l _ _ h1 h2
theorem shAll_alike : ∀ (s : List Sh) (d e : List D), shAll s d = true → shAll s e = true → PySem.W.alikeAll d e = true
  | [], d, e, h1, h2 => by cases d <;> simp [shAll] at h1; rw [PySem.W.alikeAll]
  | s :: l, d, e, h1, h2 => by
    cases d <;> simp [shAll] at h1
    cases e <;> simp [shAll] at h2
    rw [PySem.W.alikeAll, Bool.and_eq_true]
    exact ⟨sh_alike s _ _ h1.1 h2.1, shAll_alike l _ _ h1.2 h2.2⟩
end
mutual
def shDep : Sh → Nat
  | .tup l => shDepA l + 1
  | _ => 0
def shDepA : List Sh → Nat
  | [] => 0
  | s :: l => max (shDep s) (shDepA l)
end
mutual
theorem sh_dep : ∀ (s : Sh) (d : D), shOk s d = true → d.depth ≤ shDep s
  | .int, d, h1 => by cases d <;> simp [shOk] at h1; simp [PyData.depth]
  | .str, d, h1 => by cases d <;> simp [shOk] at h1; simp [PyData.depth]
  | .bool, d, h1 => by cases d <;> simp [shOk] at h1; simp [PyData.depth]
  | .tup l, d, h1 => by
    cases d <;> simp [shOk] at h1
    have := shAll_dep l _ h1
    simp only [PyData.depth, shDep]
    omega
theorem shAll_dep : ∀ (s : List Sh) (d : List D), shAll s d = true → PyData.depthAll d ≤ shDepA s
  | [], d, h1 => by cases d <;> simp [shAll] at h1; simp [PyData.depthAll]
  | s :: l, d, h1 => by
    cases d <;> simp [shAll] at h1
    have a := sh_dep s _ h1.1
    have b := shAll_dep l _ h1.2
    simp only [PyData.depthAll, shDepA]
    omega
end
mutual
theorem sh_nod : ∀ (s : Sh) (d : D), shOk s d = true → nod d = true
  | .int, d, h1 => by cases d <;> simp [shOk] at h1; simp [nod]
  | .str, d, h1 => by cases d <;> simp [shOk] at h1; simp [nod]
  | .bool, d, h1 => by cases d <;> simp [shOk] at h1; simp [nod]
  | .tup l, d, h1 => by
    cases d <;> simp [shOk] at h1
    have := shAll_nod l _ h1
    simpa [nod] using this
theorem shAll_nod : ∀ (s : List Sh) (d : List D), shAll s d = true → nods d = true
  | [], d, h1 => by cases d <;> simp [shAll] at h1; simp [nods]
  | s :: l, d, h1 => by
    cases d <;> simp [shAll] at h1
    have a := sh_nod s _ h1.1
    have b := shAll_nod l _ h1.2
    simp only [nods, Bool.and_eq_true]
    exact ⟨a, b⟩
end
def shTop : Sh → Bool
  | .tup [] => false
  | _ => true
theorem so_sh {ds : List D} (s : Sh) (h : ∀ d ∈ ds, shOk s d = true) (ht : shTop s = true := by rfl) (hd : shDep s ≤ 8 := by decide) : SortOk ds where
  al d hd e he := sh_alike s d e (h d hd) (h e he)
  so := by
    cases s with
    | tup l =>
      refine .inl fun d hd => ?_
      have := h d hd
      cases d <;> simp [shOk] at this
      rename_i xs
      cases l with
      | nil => cases ht
      | cons a l =>
        cases xs with
        | nil => simp [shAll] at this
        | cons x xs => exact ⟨x, xs, rfl⟩
    | _ =>
      refine .inr fun d hd => ?_
      have := h d hd
      cases d <;> simp [shOk] at this <;> exact ⟨by simp, by simp⟩
  dp d hd' := Nat.le_trans (sh_dep s d (h d hd')) hd
  nd d hd := sh_nod s d (h d hd)
theorem so_map {α : Type} {l : List α} {f : α → D} (s : Sh) (h : ∀ a ∈ l, shOk s (f a) = true := by intros; rfl) (ht : shTop s = true := by rfl) (hd : shDep s ≤ 8 := by decide) : SortOk (l.map f) :=
  so_sh s (fun d hd => by obtain ⟨a, ha, rfl⟩ := List.mem_map.mp hd; exact h a ha) ht hd
section
variable {X : Cx}
theorem EachIs.zipV {K : PySem.W.Frag} {H : Hp} : ∀ {xs : List V} {ds : List D} {us : List Value}, RpAll K H xs ds → Vals xs us → PySem.W.EachIs (fun (u : Value) (p : V × D) => RelV p.1 u) us (xs.zip ds)
  | [], _, us, r, v => by cases r; cases v; exact .nil
  | x :: xs, _, us, r, v => by
    cases r with
    | cons r1 r2 =>
      cases v with
      | cons v1 v2 => exact .cons v1 (EachIs.zipV r2 v2)
theorem each_fst {K : PySem.W.Frag} {H : Hp} : ∀ {us : List Value} {ps : List (V × D)}, PySem.W.EachIs (fun (u : Value) (p : V × D) => RelV p.1 u) us ps → Vals (ps.map (·.1)) us
  | _, _, .nil => .nil
  | _, _, .cons h t => .cons h (each_fst (K := K) (H := H) t)
theorem RpAll.of_mem {K : PySem.W.Frag} {H : Hp} : ∀ {ps : List (V × D)}, (∀ p ∈ ps, Rp K H p.1 p.2) → RpAll K H (ps.map (·.1)) (ps.map (·.2))
  | [], _ => .nil
  | p :: ps, h => .cons (h p (by simp)) (RpAll.of_mem fun q hq => h q (by simp [hq]))
theorem RpAll.mem_zip {K : PySem.W.Frag} {H : Hp} : ∀ {xs : List V} {ds : List D}, RpAll K H xs ds → ∀ p ∈ xs.zip ds, Rp K H p.1 p.2
  | _, _, .nil, p, hp => nomatch hp
  | _, _, .cons h t, p, hp => by
    rw [List.zip_cons_cons] at hp
    rcases List.mem_cons.mp hp with rfl | hp
    · exact h
    · exact RpAll.mem_zip t p hp
theorem RpAll.len {K : PySem.W.Frag} {H : Hp} : ∀ {xs : List V} {ds : List D}, RpAll K H xs ds → xs.length = ds.length
  | _, _, .nil => rfl
  | _, _, .cons _ t => congrArg (· + 1) (RpAll.len t)
theorem call_sortedD (hu : X.A.units + 12 < cLine) : CallR X (.builtin "sorted") (fun vs H Q => ∃ a xs ds, vs = [.ref a] ∧ SqL X.K H a xs ∧ RpAll X.K H xs ds ∧ SortOk ds ∧
    ∀ ys p, H p = none → RpAll X.K H ys (sortD ds) → Q (.ref p) (upd H p (.lst ys))) := by
  intro pins s σ H vs us Q I r h
  obtain ⟨a, xs, ds, rfl, hs, hr, ok, q⟩ := h
  obtain ⟨its, rv, hl, hz⟩ := I.list hs
  rw [Vals.ref1 r]
  have hlen := rv.length
  have e0 : PySem.W.EachIs (fun v d => ∃ as, Reads s.heap v d as) its ds := by
    have go : ∀ {xs : List V} {ds : List D} {us : List Value}, RpAll X.K H xs ds → Vals xs us → (∀ d ∈ ds, nod d = true) → PySem.W.EachIs (fun v d => ∃ as, Reads s.heap v d as) us ds := by
      intro xs
      induction xs with
      | nil => intro ds us r v _; cases r; cases v; exact .nil
      | cons x xs ih =>
        intro ds us r v n
        cases r with
        | cons r1 r2 =>
          cases v with
          | cons v1 v2 => exact .cons (Dp.reads I _ _ _ ((Rq.of r1).dp (n _ (by simp))) v1) (ih r2 v2 fun d hd => n d (by simp [hd]))
    exact go hr rv ok.nd
  have e1 : PySem.W.EachIs (fun v d => ∃ as, Reads (PySem.W.sortingHeap (PySem.W.copyHeap s.heap its) (s.heap.objs.size + 1) its) v d as) its ds :=
    e0.mono fun v d ⟨as, h⟩ => ⟨as, PyProof.Rows.Reads.keeps (fun b o e => PySem.W.sorting_copy_old e) h⟩
  have hu2 : X.A.in1.in1.units ≤ X.A.units + 2 := by simp [Around.in1, Around.units]; try omega
  refine PySem.W.sorted_vals hl.isList (PySem.W.SortsAt.data e1 ok.al ok.so fun d hd => by have := ok.dp d hd; omega) (by omega) ?_
  have key : PySem.W.EachIs (fun (v : Value) (p : V × D) => (PySem.W.dataKind (PySem.W.sortingHeap (PySem.W.copyHeap s.heap its) (s.heap.objs.size + 1) its) ds).keyOf v = some (PySem.W.keyToks p.2)) its (xs.zip ds) := by
    have go : ∀ {xs : List V} {es : List D} {us : List Value}, RpAll X.K H xs es → Vals xs us → (∀ d ∈ es, d ∈ ds) → PySem.W.EachIs (fun v d => ∃ as, Reads (PySem.W.sortingHeap (PySem.W.copyHeap s.heap its) (s.heap.objs.size + 1) its) v d as) us es →
        PySem.W.EachIs (fun (v : Value) (p : V × D) => (PySem.W.dataKind (PySem.W.sortingHeap (PySem.W.copyHeap s.heap its) (s.heap.objs.size + 1) its) ds).keyOf v = some (PySem.W.keyToks p.2)) us (xs.zip es) := by
      intro xs
      induction xs with
      | nil => intro es us r v _ _; cases r; cases v; exact .nil
      | cons x xs ih =>
        intro es us r v n e
        cases r with
        | cons r1 r2 =>
          cases v with
          | cons v1 v2 =>
            cases e with
            | cons e1 e2 =>
              obtain ⟨as, e1⟩ := e1
              exact .cons (PySem.W.dataKind_some ok.al (n _ (by simp)) e1) (ih r2 v2 (fun d hd => n d (by simp [hd])) e2)
    exact go hr rv (fun _ h => h) e1
  have srt := PySem.W.sortVals_each (rev := false) (κ := PySem.W.dataKind (PySem.W.sortingHeap (PySem.W.copyHeap s.heap its) (s.heap.objs.size + 1) its) ds) (fun p : V × D => PySem.W.keyToks p.2) (EachIs.zipV hr rv) key
  generalize hps : (xs.zip ds).mergeSort (PySem.W.sortLe (PySem.W.dataKind (PySem.W.sortingHeap (PySem.W.copyHeap s.heap its) (s.heap.objs.size + 1) its) ds).toKeyOrd false fun p : V × D => PySem.W.keyToks p.2) = ps at srt
  have perm : ps.Perm (xs.zip ds) := by rw [← hps]; exact List.mergeSort_perm _ _
  have snd : ps.map (·.2) = sortD ds := by
    rw [← hps]
    have := PySem.W.sort_maps (r := PySem.W.sortLe (PySem.W.dataKind (PySem.W.sortingHeap (PySem.W.copyHeap s.heap its) (s.heap.objs.size + 1) its) ds).toKeyOrd false fun p : V × D => PySem.W.keyToks p.2) (s := fun a b => !PySem.W.dataLt b a) (fun p : V × D => p.2) (l := xs.zip ds) (fun a _ b _ => rfl)
    refine this.trans ?_
    unfold sortD
    congr 1
    rw [List.map_snd_zip]
    have := hr.len
    omega
  have rp : RpAll X.K H (ps.map (·.1)) (sortD ds) := by
    rw [← snd]
    exact RpAll.of_mem fun p hp => hr.mem_zip p (perm.mem_iff.mp hp)
  obtain ⟨ep, he'⟩ := PyProof.Rows.sortedAll_at s.heap its (PySem.W.sortVals (PySem.W.dataKind (PySem.W.sortingHeap (PySem.W.copyHeap s.heap its) (s.heap.objs.size + 1) its) ds) false its its).toArray
  have hl2 : (ps.map (·.1)).length ≤ sizeLine := by
    rw [List.length_map, perm.length_eq, List.length_zip]
    omega
  have vv := each_fst (K := X.K) (H := H) srt
  exact ⟨.ref _, upd H (s.heap.objs.size + 1) (.lst (ps.map (·.1))), I.laid (t' := s.toks) (fun _ _ => PyProof.Rows.sortedAll_old) (Nat.le_succ _) ⟨hl2, _, ep, vv, he'⟩, rfl, q _ _ (I.hok.fresh (Nat.le_succ _)) rp⟩
theorem c_sorted {ds : List D} (hu : X.A.units + 12 < cLine) (ok : SortOk ds) : CallV X (.builtin "sorted") [.list ds] (.new (sortD ds)) := fun H vs Q r q => by
  obtain ⟨v, rfl, r0⟩ := paired1 r
  obtain ⟨a, xs, rfl, hs, hr⟩ := r0.lst
  exact ⟨_, call_sortedD hu, a, xs, ds, rfl, hs, hr, ok, fun ys p hp hy => q _ _ ⟨same_new hp, p, _, rfl, hp, upd_same, hy.mono (stb_new hp)⟩⟩
end
end DL


namespace DL
open PySem PySem.Spec PyProof.Rows L2 HT
/-! ### t[::-1] -/
section
variable {prog : Program} {w : World} {A : Around} {E : Value → Shared → Prop} {s : Shared}
theorem sliceApplied_rev {sl : Addr} {vl vu vs : Value} {n : Nat} {Q : Int × Int × Nat → Shared → Prop} (hs : s.heap.IsSliceOf sl vl vu vs) (pl : IsPart vl none) (pu : IsPart vu none) (ps : IsPart vs (some (-1)))
    (h : Q ((n : Int) - 1, -1, n) s) : wpAny (model prog w) A (Builtin.Slice.sliceApplied (.ref sl) (pure (n : Int))) Q E s := by
  obtain ⟨os, hos, hcs, hds⟩ := id hs
  unfold Builtin.Slice.sliceApplied Builtin.Slice.sliceFields
  refine wpAny_bind (wpAny_bind (wpAny_field hos hds (x := vl) rfl (wpAny_bind (wpAny_field hos hds (x := vu) rfl (wpAny_bind (wpAny_field hos hds (x := vs) rfl (wpAny_pure ?_)))))))
  refine wpAny_bind (slicePart_ ps ?_)
  show wpAny _ _ (if ((-1 : Int) == 0) = true then _ else _) _ _ s
  rw [if_neg (by decide)]
  refine wpAny_bind (slicePart_ pl (wpAny_bind (slicePart_ pu (wpAny_bind (wpAny_pure ?_)))))
  show wpAny _ _ (pure ((n : Int) - 1, (-1 : Int), Builtin.Slice.slicePlaces ((n : Int) - 1) (-1) (-1))) _ _ s
  have e : Builtin.Slice.slicePlaces ((n : Int) - 1) (-1) (-1) = n := by
    unfold Builtin.Slice.slicePlaces
    rw [if_neg (by decide)]
    by_cases h0 : (n : Int) - 1 > -1
    · rw [if_pos h0]
      have : (-(-1 : Int)) = 1 := by decide
      rw [this, Int.ediv_one]
      omega
    · rw [if_neg h0]; omega
  rw [e]
  exact wpAny_pure h
theorem fm_congr {α β : Type} {f g : α → Option β} : ∀ {l : List α}, (∀ a ∈ l, f a = g a) → l.filterMap f = l.filterMap g
  | [], _ => rfl
  | a :: l, h => by rw [List.filterMap_cons, List.filterMap_cons, h a (by simp), fm_congr fun b hb => h b (by simp [hb])]
theorem pick_rev (xs : Array Value) : ((List.range xs.size).filterMap fun (m : Nat) => xs[(((xs.size : Int) - 1) + (m : Int) * (-1)).toNat]?).toArray = xs.toList.reverse.toArray := by
  have e : ((List.range xs.size).filterMap fun (m : Nat) => xs[(((xs.size : Int) - 1) + (m : Int) * (-1)).toNat]?) = ((List.range xs.size).map fun k => xs.size - 1 - k).filterMap (xs[·]?) := by
    rw [List.filterMap_map]
    apply fm_congr
    intro k hk
    have := List.mem_range.mp hk
    have e : (((xs.size : Int) - 1) + (k : Int) * (-1)).toNat = xs.size - 1 - k := by omega
    rw [e]; rfl
  rw [e, PySem.W.krv_range, List.filterMap_reverse, PySem.W.krv_all]
theorem getItem_tuple_rev {t sl : Addr} {items : Array Value} {vl vu vs : Value} {Q : Value → Shared → Prop} (ht : IsTup s.heap t items) (hs : s.heap.IsSliceOf sl vl vu vs) (pl : IsPart vl none) (pu : IsPart vu none) (ps : IsPart vs (some (-1)))
    (h : Q (.ref s.heap.objs.size) { s with heap := s.heap.push { cls := .type "tuple", data := .seq items.toList.reverse.toArray } })
    (hsz : items.size ≤ sizeLine) : wpAny (model prog w) A (getItem (.ref t) (.ref sl)) Q E s := by
  have htake : sizeOk (.seq items.toList.reverse.toArray) := by
    show items.toList.reverse.toArray.size ≤ sizeLine
    rw [List.size_toArray, List.length_reverse, Array.length_toList]
    omega
  obtain ⟨os, hos, hcs, hds⟩ := id hs
  have hTs : s.TypeIs (.ref sl) "slice" := ⟨os, hos, hcs⟩
  unfold getItem
  try with_reducible refine wpAny_holding ?_
  first | refine wpAny_bind (wpAny_pure ?_) | skip
  refine wpAny_bind (wpAny_sequenceKey ht.typeIs (by decide) ?_)
  refine wpAny_bind (wpAny_callSpecial?_slot (name := Str.ofString "__getitem__") ht.typeIs PyProof.Rows.slot_tuple_getitem
    (wpAny_call_entry PyProof.Rows.slot_tuple_getitem ht.typeIs entry_tuple_getitem ?_ (args_tuple_getitem _ _)))
  show wpAny _ _ (Builtin.Tuple.tupleItemsOf (.ref t) >>= _) _ _ s
  refine wpAny_bind (tupleItemsOf_ ht ?_)
  refine wpAny_bind (wpAny_typeOf hTs ?_)
  rw [if_pos (by decide)]
  refine wpAny_bind (sliceApplied_rev hs pl pu ps ?_)
  have hno : ¬ ((((items.size : Int) - 1) == 0 && (-1 : Int) == 1 && items.size == items.size) = true) := by
    intro q
    rw [Bool.and_eq_true, Bool.and_eq_true] at q
    exact absurd q.1.2 (by decide)
  show wpAny _ _ (if (((items.size : Int) - 1) == 0 && (-1 : Int) == 1 && items.size == items.size) = true then _ else _) _ _ s
  rw [if_neg hno, pick_rev]
  first
    | exact wpAny_bind (m := Builtin.Tuple.tupleExact _) (wpAny_newObj_type (wpAny_pure ⟨_, rfl, wpAny_pure h⟩) htake)
    | exact wpAny_bind (m := Builtin.Tuple.tupleExact _) (wpAny_newObj_type (wpAny_bind (wpAny_pure (wpAny_pure ⟨_, rfl, wpAny_pure h⟩))) htake)
    | exact wpAny_bind (wpAny_bind (m := Builtin.Tuple.tupleExact _) (wpAny_newObj_type (wpAny_pure (wpAny_pure ⟨_, rfl, wpAny_pure h⟩)) htake))
    | exact wpAny_bind (wpAny_bind (m := Builtin.Tuple.tupleExact _) (wpAny_newObj_type (wpAny_pure ⟨_, rfl, wpAny_pure h⟩) htake))
end
section
variable {X : Cx} {ρ : Rho} {ds : List D}
theorem pe_revT {e : Expr} {te : TE} {k : Nat} {p1 p2 p3 pos : Pos} (he : PE X e te) : PE X (.Subscript e (.Slice none none (some (.UnaryOp .USub (.Constant (.int 1) k p1) p2)) p3) pos) (fun σ H Q => te σ H fun x H1 => ∃ a xs, x = .ref a ∧ SqT X.K H1 a xs ∧ ∀ p o, H1 p = none → o.dict = none → Q (.ref p) (upd H1 p (.frz o (.tup xs.reverse)))) := by
  refine ⟨fun pins s σ H Q I h => ?_⟩
  refine Subscript_ (thn (he.run pins s σ H _ I h) fun v s1 ⟨x, H1, I1, r1, q1⟩ => ?_)
  obtain ⟨a, xs, ex, hx, q⟩ := q1
  subst ex
  cases r1
  have hst : PO X (some (.UnaryOp .USub (.Constant (.int 1) k p1) p2)) (tPart (tUn (rU fun i => .int (-i)) (tC (.int 1)))) := po_some (pe_un un_neg pe_int)
  refine wpAny_Slice (thn (po_none.run pins s1 σ H1 (fun o H2 => o = none ∧ H2 = H1) I1 ⟨rfl, rfl⟩) fun vl s2 ⟨l, H2, I2, pl, el, e2⟩ => ?_)
  subst el e2
  refine thn (po_none.run pins s2 σ H2 (fun o H3 => o = none ∧ H3 = H2) I2 ⟨rfl, rfl⟩) fun vu s3 ⟨u, H3, I3, pu, eu, e3⟩ => ?_
  subst eu e3
  refine thn (hst.run pins s3 σ H3 (fun o H4 => o = some (-1) ∧ H4 = H3) I3 ⟨1, rfl, -1, rfl, rfl, rfl⟩) fun vs s4 ⟨o, H4, I4, ps, eo, e4⟩ => ?_
  subst eo e4
  have I5 : Inv X pins σ H4 { s4 with heap := s4.heap.push { cls := .type "slice", data := .fields #[vl, vu, vs] } } := I4.kept (t' := s4.toks) fun b ob q => Heap.get?_push_of_some _ q
  obtain ⟨its, r, ht, hz⟩ := I5.tuple hx
  have hlen := r.length
  show wpAny (model X.prog X.w) X.A (subscriptTail e (.Slice none none (some (.UnaryOp .USub (.Constant (.int 1) k p1) p2)) p3) (.ref a) (.ref s4.heap.objs.size)) (EP X pins σ Q) X.xe { s4 with heap := s4.heap.push { cls := .type "slice", data := .fields #[vl, vu, vs] } }
  refine tail_any (ops := [.ref a, .ref s4.heap.objs.size]) ht.typeIs (PyProof.Rows.slot_tuple_getitem.lookup) ?_ (by with_unfolding_all rfl)
  refine getItem_tuple_rev ht (Heap.IsSliceOf.new _ vl vu vs) pl pu ps ?_ (by rw [List.size_toArray]; omega)
  exact ⟨.ref _, _, inv_tup (t' := s4.toks) I5 (fun b u e => Heap.get?_push_of_some _ e) (Nat.le_refl _) (Heap.get?_push_size _ rfl) rfl rfl r.reverse (by rw [List.length_reverse]; exact hz), rfl, q _ _ (I5.hok.fresh (Nat.le_refl _)) rfl⟩
theorem ev_revT {e : Expr} {k : Nat} {p1 p2 p3 pos : Pos} (h : Ev X e ρ (.qua (.tuple ds))) : Ev X (.Subscript e (.Slice none none (some (.UnaryOp .USub (.Constant (.int 1) k p1) p2)) p3) pos) ρ (.val (.tuple ds.reverse)) := fun σ H Q S q =>
  ⟨_, pe_revT pe_c, h σ H _ S fun v H1 ⟨s1, r1⟩ => by
    obtain ⟨a, xs, rfl, hs, hr⟩ := r1.tup
    exact ⟨a, xs, rfl, hs, fun p o hp ho => q _ _ ⟨s1.trans (same_new hp), rp_tupNew hp ho hr.reverse⟩⟩⟩
theorem ev_revL {e : Expr} {k : Nat} {p1 p2 p3 pos : Pos} (h : Ev X e ρ (.qua (.list ds))) : Ev X (.Subscript e (.Slice none none (some (.UnaryOp .USub (.Constant (.int 1) k p1) p2)) p3) pos) ρ (.new ds.reverse) := fun σ H Q S q =>
  ⟨_, pe_revL pe_c, h σ H _ S fun v H1 ⟨s1, r1⟩ => by
    obtain ⟨a, xs, rfl, hs, hr⟩ := r1.lst
    exact ⟨a, xs, rfl, hs, fun p hp => q _ _ ⟨s1.trans (same_new hp), p, _, rfl, s1.free hp, upd_same, hr.reverse.mono (stb_new hp)⟩⟩⟩
/-! ### xs == [] -/
theorem eqv_nilL : PyData.eqv (.list ds) (.list []) = ds.isEmpty := by cases ds <;> simp [PyData.eqv, PyData.eqvAll]
theorem eqv_nilT : PyData.eqv (.tuple ds) (.tuple []) = ds.isEmpty := by cases ds <;> simp [PyData.eqv, PyData.eqvAll]
theorem o_eqNil {n : Nat} (hx : PlAll n ds) (hu : X.A.units + 64 < cLine) (hn : n + 1 ≤ 64 := by decide) : OpV X (compareOp .Eq) (.list ds) (.list []) (.val (.bool ds.isEmpty)) := by
  rw [← eqv_nilL]; exact o_eqD (pl_lst hx) (pl_lst (n := 0) pla_nil) hu hn
theorem o_neNil {n : Nat} (hx : PlAll n ds) (hu : X.A.units + 64 < cLine) (hn : n + 1 ≤ 64 := by decide) : OpV X (compareOp .NotEq) (.list ds) (.list []) (.val (.bool (!ds.isEmpty))) := by
  rw [← eqv_nilL]; exact o_neD (pl_lst hx) (pl_lst (n := 0) pla_nil) hu hn
theorem o_eqNilT {n : Nat} (hx : PlAll n ds) (hu : X.A.units + 64 < cLine) (hn : n + 1 ≤ 64 := by decide) : OpV X (compareOp .Eq) (.tuple ds) (.tuple []) (.val (.bool ds.isEmpty)) := by
  rw [← eqv_nilT]; exact o_eqD (pl_tup hx) (pl_tup (n := 0) pla_nil) hu hn
theorem o_neNilT {n : Nat} (hx : PlAll n ds) (hu : X.A.units + 64 < cLine) (hn : n + 1 ≤ 64 := by decide) : OpV X (compareOp .NotEq) (.tuple ds) (.tuple []) (.val (.bool (!ds.isEmpty))) := by
  rw [← eqv_nilT]; exact o_neD (pl_tup hx) (pl_tup (n := 0) pla_nil) hu hn
/-- equality of strings or numbers, deep -/
theorem eqv_strs (l m : List Str) : PyData.eqvAll (l.map .str) (m.map .str) = decide (l = m) := by
  induction l generalizing m with
  | nil => cases m <;> simp [PyData.eqvAll]
  | cons a l ih =>
    cases m with
    | nil => simp [PyData.eqvAll]
    | cons b m =>
      simp only [List.map_cons, PyData.eqvAll, PyData.eqv, ih]
      by_cases h : a = b <;> by_cases h2 : l = m <;> simp [h, h2]
end
end DL


/-! Who stands, by the laws. -/
namespace DL
open PySem L2
def lawGive (p : Part) (w : Want) : Bool := !(p.faces.filter fun f => decide (f.1 = w.face) && (decide (w.low ≤ f.2) && decide (f.2 ≤ w.high))).isEmpty
def lawOthers (ps : List Part) (n : Str) (w : Want) : List Part := ps.filter fun q => !decide (q.name = n) && lawGive q w
def lawGood (ps : List Part) (p : Part) (ws : List Want) : Bool := ws.all fun w => !(lawOthers ps p.name w).isEmpty || !w.must
def lawStep (ps : List Part) : List Part := ps.filter fun p => lawGood ps p p.wants
theorem lawStep_len (ps : List Part) : (lawStep ps).length ≤ ps.length := List.length_filter_le _ _
def lawIt : Nat → List Part → List Part
  | 0, ps => ps
  | n + 1, ps => lawIt n (lawStep ps)
def lawStand (h : List Part) : List Part := lawIt 7 h
def standIt : Nat → List Part → List Part
  | 0, ps => ps
  | n + 1, ps => if (stands ps).length < ps.length then standIt n (stands ps) else ps
theorem stands_len (ps : List Part) : (stands ps).length ≤ ps.length := List.length_filter_le _ _
theorem standIt_ge : ∀ {n m : Nat} {ps : List Part}, ps.length ≤ n → ps.length ≤ m → standIt n ps = standIt m ps
  | 0, 0, _, _, _ => rfl
  | 0, m + 1, ps, h, _ => by rw [standIt, standIt, if_neg (by omega)]
  | n + 1, 0, ps, _, h => by rw [standIt, standIt, if_neg (by omega)]
  | n + 1, m + 1, ps, h1, h2 => by
    rw [standIt, standIt]
    by_cases h : (stands ps).length < ps.length
    · rw [if_pos h, if_pos h, standIt_ge (n := n) (m := m) (by omega) (by omega)]
    · rw [if_neg h, if_neg h]
/-- who stands -/
def st (h : List Part) : List Part := standIt h.length h
/-- what is asked of a house that is walked -/
structure WfH (h : List Part) : Prop where
  ok : OkH h
  len : h.length ≤ 64
  wl : ∀ p ∈ h, p.wants.length ≤ 64
theorem WfH.filter {h : List Part} {f : Part → Bool} (w : WfH h) : WfH (h.filter f) := ⟨w.ok.filter, Nat.le_trans (List.length_filter_le _ _) w.len, fun p hp => w.wl p (List.mem_filter.mp hp).1⟩
theorem standIt_sub : ∀ (n : Nat) (h : List Part), ∀ p ∈ standIt n h, p ∈ h
  | 0, _, _, hp => hp
  | n + 1, h, p, hp => by
    rw [standIt] at hp
    split at hp
    · exact (List.mem_filter.mp (standIt_sub n _ p hp)).1
    · exact hp
theorem st_sub (h : List Part) : ∀ p ∈ st h, p ∈ h := standIt_sub _ _
theorem WfH.st {h : List Part} (w : WfH h) : OkH (st h) := w.ok.sub (st_sub h)
def encSS (q : Str × Str) : D := .tuple [.str q.1, .str q.2]
def notIn (ps : List Part) (p : Part) : Bool := !((ps.map encP).any fun z => PyData.eqv z (encP p))
def lackOf (h ps : List Part) : List (Str × Str) := h.flatMap fun p => if notIn ps p then (lacksL ps p).map fun f => (p.name, f) else []
theorem lackOf_len (h ps : List Part) (hw : ∀ p ∈ h, p.wants.length ≤ 64) : (lackOf h ps).length ≤ h.length * 64 := by
  induction h with
  | nil => simp [lackOf]
  | cons p h ih =>
    have := ih fun q hq => hw q (by simp [hq])
    unfold lackOf at *
    rw [List.flatMap_cons, List.length_append, List.length_cons]
    have e : (if notIn ps p then (lacksL ps p).map fun f => (p.name, f) else []).length ≤ 64 := by
      split
      · rw [List.length_map]
        unfold lacksL
        rw [List.length_map]
        exact Nat.le_trans (List.length_filter_le _ _) (hw p (by simp))
      · simp
    omega
def encIS (q : Int × Str) : D := .tuple [.int q.1, .str q.2]
def sortIS (l : List (Int × Str)) : List (Int × Str) := l.mergeSort fun a b => !PySem.W.dataLt (encIS b) (encIS a)
def optS : Option Str → D
  | none => .none
  | some s => .str s
theorem sortIS_map (l : List (Int × Str)) : sortD (l.map encIS) = (sortIS l).map encIS := by
  unfold sortD sortIS
  exact (PySem.W.sort_maps encIS fun a _ b _ => rfl).symm
def lawSome (ps : List Part) (n : Str) (w : Want) : List (Int × Str) := (lawOthers ps n w).map fun p => (0 - makeOf p w.face, p.name)
theorem lawSome_len (ps : List Part) (n : Str) (w : Want) : (lawSome ps n w).length ≤ ps.length := by
  unfold lawSome lawOthers
  rw [List.length_map]
  exact List.length_filter_le _ _
theorem sortD_len (l : List D) : (sortD l).length = l.length := by unfold sortD; rw [List.length_mergeSort]
theorem atI_zero (d : D) (l : List D) : atI (d :: l) 0 = some d := by unfold atI ixN; simp
theorem atI_head {α : Type} {l : List α} {f : α → D} {a : α} (h : l.head? = some a) : atI (l.map f) 0 = some (f a) := by
  cases l with
  | nil => simp at h
  | cons b l => simp at h; subst h; exact atI_zero _ _
def lawGiver (ps : List Part) (n : Str) (w : Want) : Option Str := (sortIS (lawSome ps n w)).head?.map (·.2)
def better (x : Str) (b : Option Part) (p : Part) : Option Part := match b with
  | none => some p
  | some q => if makeOf q x < makeOf p x then some p else some q
def bestOf (x : Str) (l : List Part) : Option Part := l.foldl (better x) none
def giverAmong (ps : List Part) (n : Str) (w : Want) : Option Str := (bestOf w.face (giversFor ps n w)).map (·.name)
def optP : Option Part → D
  | none => .none
  | some p => encP p
theorem lookF_some {fs : List (Str × Int)} {x : Str} (h : ∃ f ∈ fs, f.1 = x) : ∃ k, lookF fs x = some k := by
  unfold lookF
  have : ∀ (l : List (Str × Int)) (a : Option Int), ((∃ f ∈ l, f.1 = x) ∨ a.isSome = true) → ∃ k, l.foldl (fun acc f => if x = f.1 then some f.2 else acc) a = some k := by
    intro l
    induction l with
    | nil =>
      intro a h
      rcases h with ⟨f, hf, _⟩ | h
      · cases hf
      · exact Option.isSome_iff_exists.mp h
    | cons f l ih =>
      intro a h
      rw [List.foldl_cons]
      refine ih _ ?_
      by_cases e : x = f.1
      · rw [if_pos e]; exact .inr rfl
      · rw [if_neg e]
        rcases h with ⟨g, hg, e2⟩ | h
        · rcases List.mem_cons.mp hg with rfl | hg
          · exact absurd e2.symm e
          · exact .inl ⟨g, hg, e2⟩
        · exact .inr h
  exact this fs none (.inl h)
theorem lawGive_look {p : Part} {w : Want} (h : lawGive p w = true) : lookD (mergeD [] (facesK p.faces)) (.inr w.face) = some (.int (makeOf p w.face)) := by
  unfold lawGive at h
  have : ∃ f ∈ p.faces, f.1 = w.face := by
    cases hl : (p.faces.filter fun f => decide (f.1 = w.face) && (decide (w.low ≤ f.2) && decide (f.2 ≤ w.high))) with
    | nil => rw [hl] at h; simp at h
    | cons f l =>
      have : f ∈ p.faces.filter fun f => decide (f.1 = w.face) && (decide (w.low ≤ f.2) && decide (f.2 ≤ w.high)) := by rw [hl]; simp
      have := List.mem_filter.mp this
      simp only [Bool.and_eq_true, decide_eq_true_eq] at this
      exact ⟨f, this.1, this.2.1⟩
  obtain ⟨k, hk⟩ := lookF_some this
  rw [look_faces]
  unfold makeOf
  rw [hk]
  rfl
end DL


/-! Who stands: the program's way and the laws' way come to the same. -/
namespace DL
open PySem L2
structure GoodP (p : Part) : Prop where
  fs : (p.faces.map (·.1)).Nodup
  ws : (p.wants.map (·.face)).Nodup
  lo : ∀ w ∈ p.wants, 1 ≤ w.low
structure GoodH (h : List Part) : Prop where
  wf : WfH h
  gp : ∀ p ∈ h, GoodP p
  nm : h.Pairwise fun p q => p.name.cps.toList < q.name.cps.toList
  len : h.length ≤ 7
theorem look_none {x : Str} : ∀ (l : List (Str × Int)) (a : Option Int), (∀ f ∈ l, f.1 ≠ x) → l.foldl (fun acc f => if x = f.1 then some f.2 else acc) a = a
  | [], _, _ => rfl
  | f :: l, a, h => by
    rw [List.foldl_cons, if_neg fun e => h f (by simp) e.symm]
    exact look_none l a fun g hg => h g (by simp [hg])
theorem look_one {x : Str} : ∀ (l : List (Str × Int)) (a : Option Int), (l.map (·.1)).Nodup → ∀ f ∈ l, f.1 = x → l.foldl (fun acc f => if x = f.1 then some f.2 else acc) a = some f.2
  | [], _, _, _, h, _ => nomatch h
  | g :: l, a, n, f, h, e => by
    rw [List.foldl_cons]
    rw [List.map_cons, List.nodup_cons] at n
    rcases List.mem_cons.mp h with rfl | h
    · rw [if_pos e.symm, look_none]
      rintro k hk rfl
      exact n.1 (List.mem_map.mpr ⟨k, hk, e.symm⟩)
    · exact look_one l _ n.2 f h e
theorem gives_eq {p : Part} {w : Want} (g : (p.faces.map (·.1)).Nodup) (lo : 1 ≤ w.low) : gives p w = lawGive p w := by
  unfold gives lawGive makeOf lookF
  by_cases h : ∃ f ∈ p.faces, f.1 = w.face
  · obtain ⟨f, hf, e⟩ := h
    rw [look_one _ _ g f hf e, Option.getD_some]
    rw [Bool.eq_iff_iff]
    simp only [Bool.and_eq_true, decide_eq_true_eq, Bool.not_eq_true', List.isEmpty_eq_false_iff, ne_eq, List.filter_eq_nil_iff]
    constructor
    · intro z hall; exact hall f hf ⟨e, z⟩
    · intro hall
      obtain ⟨k, hk, ek, z⟩ : ∃ k ∈ p.faces, k.1 = w.face ∧ w.low ≤ k.2 ∧ k.2 ≤ w.high := Classical.byContradiction fun no => hall fun a ha z => no ⟨a, ha, z⟩
      have e1 := look_one _ none g f hf e
      rw [look_one _ none g k hk ek] at e1
      rw [← Option.some.inj e1]; exact z
  · rw [look_none _ _ fun f hf e => h ⟨f, hf, e⟩]
    have : (p.faces.filter fun f => decide (f.1 = w.face) && (decide (w.low ≤ f.2) && decide (f.2 ≤ w.high))) = [] := by
      rw [List.filter_eq_nil_iff]
      intro f hf
      simp only [Bool.and_eq_true, decide_eq_true_eq]
      exact fun z => h ⟨f, hf, z.1⟩
    rw [this]
    simp
    intro z; omega
theorem GoodH.filter {h : List Part} {f : Part → Bool} (g : GoodH h) : GoodH (h.filter f) := ⟨g.wf.filter, fun p hp => g.gp p (List.mem_filter.mp hp).1, g.nm.filter f, Nat.le_trans (List.length_filter_le _ _) g.len⟩
theorem others_eq {ps : List Part} (g : ∀ p ∈ ps, GoodP p) {n : Str} {w : Want} (lo : 1 ≤ w.low) : giversFor ps n w = lawOthers ps n w := by
  unfold giversFor lawOthers
  apply List.filter_congr
  intro p hp
  rw [gives_eq (g p hp).fs lo]
  rfl
theorem step_eq {ps : List Part} (g : ∀ p ∈ ps, GoodP p) : stands ps = lawStep ps := by
  unfold stands lawStep
  apply List.filter_congr
  intro p hp
  unfold lacksL lawGood
  rw [isE_map, Bool.eq_iff_iff, List.isEmpty_iff, List.filter_eq_nil_iff, List.all_eq_true]
  constructor
  · intro h w hw
    have := h w hw
    rw [others_eq g ((g p hp).lo w hw)] at this
    cases hm : w.must <;> cases he : (lawOthers ps p.name w).isEmpty <;> simp_all
  · intro h w hw
    have := h w hw
    rw [others_eq g ((g p hp).lo w hw)]
    cases hm : w.must <;> cases he : (lawOthers ps p.name w).isEmpty <;> simp_all
theorem standIt_eq : ∀ {n m : Nat} {ps : List Part}, (∀ p ∈ ps, GoodP p) → ps.length ≤ n → ps.length ≤ m → lawIt n ps = standIt m ps
  | 0, 0, _, _, _, _ => rfl
  | 0, m + 1, ps, _, h, _ => by rw [lawIt, standIt, if_neg (by omega)]
  | n + 1, m, ps, g, h1, h2 => by
    rw [lawIt, ← step_eq g]
    by_cases h : (stands ps).length < ps.length
    · cases m with
      | zero => omega
      | succ m =>
        rw [standIt, if_pos h]
        exact standIt_eq (fun p hp => g p (List.mem_filter.mp hp).1) (by omega) (by omega)
    · have e : stands ps = ps := by
        unfold stands at h ⊢
        rw [List.filter_eq_self]
        intro p hp
        exact Classical.byContradiction fun z => h (by
          rw [List.length_filter_lt_length_iff_exists]
          exact ⟨p, hp, z⟩)
      rw [e]
      have e2 : standIt m ps = ps := by
        cases m with
        | zero => rfl
        | succ m => rw [standIt, if_neg h]
      rw [e2]
      clear h1 h2 h e2
      induction n with
      | zero => rfl
      | succ n ih => rw [lawIt, ← step_eq g, e]; exact ih
theorem GoodH.stand {h : List Part} (g : GoodH h) : lawStand h = DL.st h := standIt_eq g.gp g.len (Nat.le_refl _)
theorem standIt_sublist : ∀ (n : Nat) (h : List Part), (standIt n h).Sublist h
  | 0, _ => .refl _
  | n + 1, h => by
    rw [standIt]
    split
    · exact (standIt_sublist n _).trans List.filter_sublist
    · exact .refl _
theorem GoodH.st {h : List Part} (g : GoodH h) : GoodH (DL.st h) :=
  ⟨⟨g.wf.st, Nat.le_trans (standIt_sublist _ h).length_le g.wf.len, fun p hp => g.wf.wl p (st_sub h p hp)⟩, fun p hp => g.gp p (st_sub h p hp), g.nm.sublist (standIt_sublist _ h), Nat.le_trans (standIt_sublist _ h).length_le g.len⟩
theorem name_inj {h : List Part} (g : GoodH h) {p q : Part} (hp : p ∈ h) (hq : q ∈ h) (e : p.name = q.name) : p = q := by
  have := g.nm
  clear g
  induction h with
  | nil => cases hp
  | cons a h ih =>
    rw [List.pairwise_cons] at this
    rcases List.mem_cons.mp hp with e1 | h1 <;> rcases List.mem_cons.mp hq with e2 | h2
    · rw [e1, e2]
    · have z := this.1 q h2; rw [← e1, e] at z; exact absurd z (List.lt_irrefl _)
    · have z := this.1 p h1; rw [← e2, e] at z; exact absurd z (List.lt_irrefl _)
    · exact ih h1 h2 this.2
theorem head_name {h : List Part} (g : GoodH h) {p : Part} (hp : p ∈ h) : (h.filter fun q => decide (q.name = p.name)).head? = some p := by
  cases e : (h.filter fun q => decide (q.name = p.name)) with
  | nil =>
    rw [List.filter_eq_nil_iff] at e
    exact absurd (e p hp) (by simp)
  | cons q l =>
    have : q ∈ h.filter fun q => decide (q.name = p.name) := by rw [e]; simp
    have := List.mem_filter.mp this
    rw [name_inj g this.1 hp (by simpa using this.2)]; rfl
theorem head_want {p : Part} (n : (p.wants.map (·.face)).Nodup) {w : Want} (hw : w ∈ p.wants) : (p.wants.filter fun v => decide (v.face = w.face)).head? = some w := by
  have inj : ∀ (l : List Want), (l.map (·.face)).Nodup → ∀ v ∈ l, ∀ u ∈ l, v.face = u.face → v = u := by
    intro l
    induction l with
    | nil => intro _ v hv; cases hv
    | cons a l ih =>
      intro n v hv u hu e
      rw [List.map_cons, List.nodup_cons] at n
      rcases List.mem_cons.mp hv with e1 | h1 <;> rcases List.mem_cons.mp hu with e2 | h2
      · rw [e1, e2]
      · exact absurd (List.mem_map.mpr ⟨u, h2, by rw [← e, e1]⟩) n.1
      · exact absurd (List.mem_map.mpr ⟨v, h1, by rw [e, e2]⟩) n.1
      · exact ih n.2 v h1 u h2 e
  cases e : (p.wants.filter fun v => decide (v.face = w.face)) with
  | nil =>
    rw [List.filter_eq_nil_iff] at e
    exact absurd (e w hw) (by simp)
  | cons q l =>
    have : q ∈ p.wants.filter fun v => decide (v.face = w.face) := by rw [e]; simp
    have := List.mem_filter.mp this
    rw [inj _ n q this.1 w hw (by simpa using this.2)]; rfl
end DL


/-! The giver: the first of the greatest make is the least by (minus make, name). -/
namespace DL
open PySem L2
/-- q is ahead of p -/
def Beats (x : Str) (p q : Part) : Prop := makeOf p x < makeOf q x ∨ (makeOf p x = makeOf q x ∧ q.name.cps.toList < p.name.cps.toList)
theorem Beats.trans {x : Str} {p q r : Part} (h1 : Beats x p q) (h2 : Beats x q r) : Beats x p r := by
  rcases h1 with h1 | ⟨h1, n1⟩ <;> rcases h2 with h2 | ⟨h2, n2⟩
  · exact .inl (by omega)
  · exact .inl (by omega)
  · exact .inl (by omega)
  · exact .inr ⟨by omega, List.lt_trans n2 n1⟩
theorem best_inv (x : Str) : ∀ (l : List Part) (b q : Part), (b :: l).Pairwise (fun p q => p.name.cps.toList < q.name.cps.toList) → l.foldl (better x) (some b) = some q → q ∈ b :: l ∧ ∀ p ∈ b :: l, p = q ∨ Beats x p q
  | [], b, q, _, h => by
    cases h
    exact ⟨by simp, fun p hp => .inl (by simpa using hp)⟩
  | a :: l, b, q, n, h => by
    rw [List.foldl_cons] at h
    rw [List.pairwise_cons] at n
    have nb := n.1 a (by simp)
    by_cases e : makeOf b x < makeOf a x
    · rw [show better x (some b) a = some a from if_pos e] at h
      obtain ⟨m, k⟩ := best_inv x l a q n.2 h
      refine ⟨by simp only [List.mem_cons] at m ⊢; exact .inr m, fun p hp => ?_⟩
      rcases List.mem_cons.mp hp with rfl | hp
      · have ba : Beats x p a := .inl e
        rcases k a (by simp) with rfl | z
        · exact .inr ba
        · exact .inr (ba.trans z)
      · exact k p hp
    · rw [show better x (some b) a = some b from if_neg e] at h
      have n2 : (b :: l).Pairwise (fun p q => p.name.cps.toList < q.name.cps.toList) := List.pairwise_cons.mpr ⟨fun p hp => n.1 p (by simp [hp]), (List.pairwise_cons.mp n.2).2⟩
      obtain ⟨m, k⟩ := best_inv x l b q n2 h
      refine ⟨by simp only [List.mem_cons] at m ⊢; rcases m with m | m; exact .inl m; exact .inr (.inr m), fun p hp => ?_⟩
      rcases List.mem_cons.mp hp with rfl | hp
      · exact k p (by simp)
      · rcases List.mem_cons.mp hp with rfl | hp
        · have ab : Beats x p b := by
            by_cases z : makeOf p x < makeOf b x
            · exact .inl z
            · exact .inr ⟨by omega, nb⟩
          rcases k b (by simp) with rfl | z
          · exact .inr ab
          · exact .inr (ab.trans z)
        · exact k p (by simp [hp])
theorem best_some (x : Str) : ∀ (l : List Part) (b : Part), ∃ q, l.foldl (better x) (some b) = some q
  | [], b => ⟨b, rfl⟩
  | a :: l, b => by
    rw [List.foldl_cons]
    unfold better
    simp only
    split
    · exact best_some x l a
    · exact best_some x l b
theorem dataLt_IS (a b : Int) (s t : Str) : PySem.W.dataLt (encIS (a, s)) (encIS (b, t)) = (decide (a < b) || (decide (a = b) && decide (s.cps.toList < t.cps.toList))) := by
  unfold encIS
  rw [PySem.W.dataLt_tuple]
  by_cases e : a = b
  · subst e
    rw [PySem.W.dataLt_all_yes (by simp [PySem.W.alike]) (by simp [PyData.eqv])]
    by_cases f : s = t
    · subst f
      rw [PySem.W.dataLt_all_yes (by simp [PySem.W.alike]) (by simp [PyData.eqv])]
      have e1 : PyProof.Rows.lexLt PyProof.Rows.itemOrd (PySem.W.keyToksAll []) (PySem.W.keyToksAll []) = false := by
        first | exact PyProof.Rows.lex_irrefl _ | exact PySem.W.lex_irrefl _ | exact PySem.lex_irrefl _
      rw [e1]
      simp [List.lt_irrefl]
    · rw [PySem.W.dataLt_all_no (by simp [PySem.W.alike]) (by simp [PyData.eqv, f]), PySem.W.dataLt_str]
      simp
  · rw [PySem.W.dataLt_all_no (by simp [PySem.W.alike]) (by simp [PyData.eqv, e]), PySem.W.dataLt_int]
    simp [e]
theorem sortIS_head {l : List (Int × Str)} {q : Int × Str} {r : List (Int × Str)} (h : sortIS l = q :: r) : q ∈ l ∧ ∀ p ∈ l, PySem.W.dataLt (encIS p) (encIS q) = false := by
  have perm : (sortIS l).Perm l := List.mergeSort_perm _ _
  have pw : (sortIS l).Pairwise fun a b => (!PySem.W.dataLt (encIS b) (encIS a)) = true := PySem.W.sort_pairwise (PySem.W.sortLe_total (PyProof.Rows.listOrd PyProof.Rows.itemOrd) false fun a => PySem.W.keyToks (encIS a)) l
  refine ⟨perm.mem_iff.mp (by rw [h]; simp), fun p hp => ?_⟩
  have hp : p ∈ sortIS l := perm.mem_iff.mpr hp
  rw [h] at hp pw
  rcases List.mem_cons.mp hp with rfl | hp
  · obtain ⟨a, s⟩ := p
    rw [dataLt_IS]; simp [List.lt_irrefl]
  · have := (List.pairwise_cons.mp pw).1 p hp
    simpa using this
theorem giver_eq {ps : List Part} (g : GoodH ps) {n : Str} {w : Want} (lo : 1 ≤ w.low) : giverAmong ps n w = lawGiver ps n w := by
  unfold giverAmong lawGiver lawSome
  rw [others_eq g.gp lo]
  have nm : (lawOthers ps n w).Pairwise (fun p q => p.name.cps.toList < q.name.cps.toList) := g.nm.filter _
  generalize lawOthers ps n w = l at nm
  cases l with
  | nil => simp [sortIS, bestOf]
  | cons b l =>
    obtain ⟨q, hq⟩ := best_some w.face l b
    have hb : bestOf w.face (b :: l) = some q := hq
    rw [hb]
    obtain ⟨m, k⟩ := best_inv w.face l b q nm hq
    cases hs : sortIS ((b :: l).map fun p => (0 - makeOf p w.face, p.name)) with
    | nil =>
      have perm : (sortIS ((b :: l).map fun p => (0 - makeOf p w.face, p.name))).Perm _ := List.mergeSort_perm _ _
      rw [hs] at perm
      exact absurd perm.length_eq (by simp)
    | cons z r =>
      obtain ⟨hz, ht⟩ := sortIS_head hs
      obtain ⟨p, hp, rfl⟩ := List.mem_map.mp hz
      have t := ht _ (List.mem_map.mpr ⟨q, m, rfl⟩)
      rcases k p hp with rfl | e
      · rfl
      · rw [dataLt_IS] at t
        simp only [Bool.or_eq_false_iff, Bool.and_eq_false_iff, decide_eq_false_iff_not] at t
        rcases e with e | ⟨e, f⟩
        · exact absurd (show 0 - makeOf q w.face < 0 - makeOf p w.face by omega) t.1
        · rcases t.2 with t2 | t2
          · exact absurd (show 0 - makeOf q w.face = 0 - makeOf p w.face by omega) t2
          · exact absurd f t2
theorem giver_none {ps : List Part} {n : Str} {w : Want} : (lawGiver ps n w).isNone = (lawOthers ps n w).isEmpty := by
  unfold lawGiver lawSome
  have perm : (sortIS ((lawOthers ps n w).map fun p => (0 - makeOf p w.face, p.name))).Perm _ := List.mergeSort_perm _ _
  cases h : lawOthers ps n w with
  | nil => simp [sortIS]
  | cons a l =>
    rw [h] at perm
    cases hs : sortIS ((a :: l).map fun p => (0 - makeOf p w.face, p.name)) with
    | nil => rw [hs] at perm; exact absurd perm.length_eq (by simp)
    | cons z r => rfl
/-- what is due by the law k10 -/
def dueOf (ps : List Part) (p : Part) : List (Str × Str) := (p.wants.filter fun w => w.must && ((lawGiver ps p.name w).isNone && notIn ps p)).map fun w => (p.name, w.face)
def dueAll (h ps : List Part) : List (Str × Str) := h.flatMap (dueOf ps)
theorem due_eq {ps : List Part} (g : ∀ p ∈ ps, GoodP p) : ∀ {h : List Part}, (∀ p ∈ h, GoodP p) → dueAll h ps = lackOf h ps
  | [], _ => rfl
  | p :: h, gh => by
    have ih := due_eq g (h := h) fun q hq => gh q (by simp [hq])
    unfold dueAll lackOf at *
    rw [List.flatMap_cons, List.flatMap_cons, ih]
    congr 1
    unfold dueOf
    by_cases e : notIn ps p = true
    · rw [if_pos e]
      unfold lacksL
      rw [List.map_map]
      congr 1
      apply List.filter_congr
      intro w hw
      rw [giver_none, e, Bool.and_true, others_eq g ((gh p (by simp)).lo w hw)]
    · rw [if_neg e, List.map_eq_nil_iff, List.filter_eq_nil_iff]
      intro w _ z
      simp only [Bool.and_eq_true] at z
      exact e z.2.2
end DL


/-! The drawn houses are good ones. -/
namespace DL
open PySem L2
theorem pw_app {α : Type} {R : α → α → Prop} {A B : List α} (h : A.length ≤ 1) (hB : B.Pairwise R) (hR : ∀ a ∈ A, ∀ b ∈ B, R a b) : (A ++ B).Pairwise R := by
  rw [List.pairwise_append]
  refine ⟨?_, hB, hR⟩
  match A, h with
  | [], _ => exact .nil
  | [a], _ => exact List.pairwise_singleton _ _
  | a :: b :: l, h => simp at h
theorem pw_short {α : Type} {R : α → α → Prop} {A : List α} (h : A.length ≤ 1) : A.Pairwise R := by
  match A, h with
  | [], _ => exact .nil
  | [a], _ => exact List.pairwise_singleton _ _
  | a :: b :: l, h => simp at h
theorem faceOf_mem {n k : Int} {f : Str} {x : Str × Int} (h : x ∈ faceOf n k f) : x.1 = f := by
  unfold faceOf at h
  split at h
  · simp at h; rw [h]
  · cases h
theorem wantOf_mem {n k : Int} {f : Str} {x : Want} (h : x ∈ wantOf n k f) : x.face = f ∧ 1 ≤ x.low := by
  unfold wantOf at h
  split at h
  · simp at h
    rw [h]
    exact ⟨rfl, by show 1 ≤ 1 + drawn n k / 4 / 4 % 3; omega⟩
  · cases h
theorem partAt_mem {n k : Int} {f : Str} {x : Part} (h : x ∈ partAt n k f) : ∃ m, x = partOf m f := by
  unfold partAt at h
  split at h
  · simp at h; exact ⟨_, h⟩
  · cases h
theorem facesOf_mem {n : Int} {x : Str × Int} (h : x ∈ facesOf n) : x.1 = "f" ∨ x.1 = "g" ∨ x.1 = "h" := by
  unfold facesOf at h
  simp only [List.mem_append] at h
  rcases h with h | h | h
  · exact .inl (faceOf_mem h)
  · exact .inr (.inl (faceOf_mem h))
  · exact .inr (.inr (faceOf_mem h))
theorem wantsOf_mem {n : Int} {x : Want} (h : x ∈ wantsOf n) : (x.face = "f" ∨ x.face = "g" ∨ x.face = "h") ∧ 1 ≤ x.low := by
  unfold wantsOf at h
  simp only [List.mem_append] at h
  rcases h with h | h | h
  · exact ⟨.inl (wantOf_mem h).1, (wantOf_mem h).2⟩
  · exact ⟨.inr (.inl (wantOf_mem h).1), (wantOf_mem h).2⟩
  · exact ⟨.inr (.inr (wantOf_mem h).1), (wantOf_mem h).2⟩
theorem ne_fg : ("f" : Str) ≠ "g" := by decide
theorem ne_fh : ("f" : Str) ≠ "h" := by decide
theorem ne_gh : ("g" : Str) ≠ "h" := by decide
theorem facesOf_nodup (n : Int) : ((facesOf n).map (·.1)).Nodup := by
  unfold facesOf
  rw [List.map_append, List.map_append]
  refine pw_app (by rw [List.length_map]; exact faceOf_len _ _ _) (pw_app (by rw [List.length_map]; exact faceOf_len _ _ _) (pw_short (by rw [List.length_map]; exact faceOf_len _ _ _)) ?_) ?_
  · intro a ha b hb
    obtain ⟨x, hx, rfl⟩ := List.mem_map.mp ha
    obtain ⟨y, hy, rfl⟩ := List.mem_map.mp hb
    rw [faceOf_mem hx, faceOf_mem hy]; exact ne_gh
  · intro a ha b hb
    obtain ⟨x, hx, rfl⟩ := List.mem_map.mp ha
    rw [← List.map_append] at hb
    obtain ⟨y, hy, rfl⟩ := List.mem_map.mp hb
    rw [faceOf_mem hx]
    rcases List.mem_append.mp hy with hy | hy <;> rw [faceOf_mem hy]
    · exact ne_fg
    · exact ne_fh
theorem wantsOf_nodup (n : Int) : ((wantsOf n).map (·.face)).Nodup := by
  unfold wantsOf
  rw [List.map_append, List.map_append]
  refine pw_app (by rw [List.length_map]; exact wantOf_len _ _ _) (pw_app (by rw [List.length_map]; exact wantOf_len _ _ _) (pw_short (by rw [List.length_map]; exact wantOf_len _ _ _)) ?_) ?_
  · intro a ha b hb
    obtain ⟨x, hx, rfl⟩ := List.mem_map.mp ha
    obtain ⟨y, hy, rfl⟩ := List.mem_map.mp hb
    rw [(wantOf_mem hx).1, (wantOf_mem hy).1]; exact ne_gh
  · intro a ha b hb
    obtain ⟨x, hx, rfl⟩ := List.mem_map.mp ha
    rw [← List.map_append] at hb
    obtain ⟨y, hy, rfl⟩ := List.mem_map.mp hb
    rw [(wantOf_mem hx).1]
    rcases List.mem_append.mp hy with hy | hy <;> rw [(wantOf_mem hy).1]
    · exact ne_fg
    · exact ne_fh
theorem ok_fgh {s : Str} (h : s = "f" ∨ s = "g" ∨ s = "h") : PyData.strOk s = true := by
  rcases h with rfl | rfl | rfl <;> decide +kernel
theorem ok_hookNm (r : Int) : PyData.strOk (hookNm r) = true := by unfold hookNm; split <;> decide +kernel
theorem ok_word (r : Int) : PyData.strOk (wordOf r) = true := by
  unfold wordOf
  repeat' split
  all_goals decide +kernel
theorem partOf_ok {n : Int} {nm : Str} (h : PyData.strOk nm = true) : OkP (partOf n nm) where
  nm := h
  fs f hf := ok_fgh (facesOf_mem hf)
  ws w hw := ok_fgh (wantsOf_mem (List.mem_of_mem_drop hw)).1
  ks k hk := by
    obtain ⟨j, _, rfl⟩ := List.mem_map.mp hk
    exact ⟨ok_hookNm _, ok_word _⟩
theorem partOf_good (n : Int) (nm : Str) : GoodP (partOf n nm) where
  fs := facesOf_nodup n
  ws := by
    show (((wantsOf n).drop _).map (·.face)).Nodup
    rw [List.map_drop]
    exact (wantsOf_nodup n).sublist (List.drop_sublist _ _)
  lo w hw := (wantsOf_mem (List.mem_of_mem_drop hw)).2
def names6 : List Str := ["a", "b", "c", "d", "e", "log"]
theorem houseOf_mem {n : Int} {p : Part} (h : p ∈ houseOf n) : ∃ m nm, p = partOf m nm ∧ nm ∈ names6 := by
  unfold houseOf at h
  simp only [List.mem_append] at h
  rcases h with h | h | h | h | h | h <;> obtain ⟨m, rfl⟩ := partAt_mem h <;> exact ⟨m, _, rfl, by decide⟩
theorem names6_ok {nm : Str} (h : nm ∈ names6) : PyData.strOk nm = true := by
  simp only [names6, List.mem_cons, List.not_mem_nil, or_false] at h
  rcases h with rfl | rfl | rfl | rfl | rfl | rfl <;> decide +kernel
theorem partOf_lt {m k : Int} {a b : Str} (h : a.cps.toList < b.cps.toList) : (partOf m a).name.cps.toList < (partOf k b).name.cps.toList := h
theorem houseOf_names (n : Int) : (houseOf n).Pairwise fun p q => p.name.cps.toList < q.name.cps.toList := by
  unfold houseOf
  refine pw_app (partAt_len _ _ _) (pw_app (partAt_len _ _ _) (pw_app (partAt_len _ _ _) (pw_app (partAt_len _ _ _) (pw_app (partAt_len _ _ _) (pw_short (partAt_len _ _ _)) ?_) ?_) ?_) ?_) ?_ <;>
    (intro a ha b hb
     obtain ⟨m, rfl⟩ := partAt_mem ha
     try simp only [List.mem_append] at hb
     first
     | (rcases hb with hb | hb | hb | hb | hb <;> obtain ⟨k, rfl⟩ := partAt_mem hb <;> exact partOf_lt (by decide +kernel))
     | (rcases hb with hb | hb | hb | hb <;> obtain ⟨k, rfl⟩ := partAt_mem hb <;> exact partOf_lt (by decide +kernel))
     | (rcases hb with hb | hb | hb <;> obtain ⟨k, rfl⟩ := partAt_mem hb <;> exact partOf_lt (by decide +kernel))
     | (rcases hb with hb | hb <;> obtain ⟨k, rfl⟩ := partAt_mem hb <;> exact partOf_lt (by decide +kernel))
     | (obtain ⟨k, rfl⟩ := partAt_mem hb; exact partOf_lt (by decide +kernel)))
theorem partOf_wl (n : Int) (nm : Str) : (partOf n nm).wants.length ≤ 3 := by
  show ((wantsOf n).drop _).length ≤ 3
  rw [List.length_drop]
  have := wantsOf_len n
  omega
theorem houseOf_good (n : Int) : GoodH (houseOf n) where
  wf := ⟨fun p hp => by obtain ⟨m, nm, rfl, k⟩ := houseOf_mem hp; exact partOf_ok (names6_ok k), by have := houseOf_len n; omega, fun p hp => by
    obtain ⟨m, nm, rfl, k⟩ := houseOf_mem hp
    have := partOf_wl m nm; omega⟩
  gp p hp := by obtain ⟨m, nm, rfl, k⟩ := houseOf_mem hp; exact partOf_good _ _
  nm := houseOf_names n
  len := by have := houseOf_len n; omega
/-- its wants the other way round -/
def revP (p : Part) : Part := { p with wants := p.wants.reverse }
theorem revP_good {h : List Part} (g : GoodH h) : GoodH (h.map revP) where
  wf := ⟨fun p hp => by
    obtain ⟨q, hq, rfl⟩ := List.mem_map.mp hp
    have k := g.wf.ok q hq
    exact ⟨k.nm, k.fs, fun w hw => k.ws w (List.mem_reverse.mp hw), k.ks⟩, by rw [List.length_map]; exact g.wf.len, fun p hp => by
    obtain ⟨q, hq, rfl⟩ := List.mem_map.mp hp
    show q.wants.reverse.length ≤ 64
    rw [List.length_reverse]; exact g.wf.wl q hq⟩
  gp p hp := by
    obtain ⟨q, hq, rfl⟩ := List.mem_map.mp hp
    have k := g.gp q hq
    refine ⟨k.fs, ?_, fun w hw => k.lo w (List.mem_reverse.mp hw)⟩
    show (q.wants.reverse.map (·.face)).Nodup
    rw [List.map_reverse]
    exact List.pairwise_reverse.mpr (k.ws.imp Ne.symm)
  nm := by
    rw [List.pairwise_map]
    exact g.nm
  len := by rw [List.length_map]; exact g.len
def lawH10 (ns : List Int) : List Part := if mixed ns 1 % 2 = 1 then (houseOf (mixed ns 0)).map revP else houseOf (mixed ns 0)
theorem lawH10_good (ns : List Int) : GoodH (lawH10 ns) := by
  unfold lawH10
  split
  · exact revP_good (houseOf_good _)
  · exact houseOf_good _
end DL


namespace DL
open PySem PySem.Spec PyProof.Rows L2
theorem law_in {K : PySem.W.Frag} {H : Hp} {a : Addr} {ns : List Int} {g : List D → D → Prop} {E : XK} (hO : Only H) (hS : SqL K H a (ns.map V.int)) (hg : g [.list (ns.map .int)] (.bool true)) : SpD K g [.ref a] H (fun v _ => v = .bl true) E := by
  have hf : FzL K H a (ns.map V.int) := by
    rcases hS with (h | ⟨o, h⟩) | h
    · rcases hO a with q | ⟨o, xs, q⟩ <;> (rw [h] at q; cases q)
    · exact .inl ⟨o, h⟩
    · exact .inr h
  have hr : RpAll K H (ns.map V.int) (ns.map PyData.int) := by
    clear hS hf hg
    induction ns with
    | nil => exact .nil
    | cons n ns ih => exact .cons (.int n) ih
  exact ⟨_, _, .cons (.lst hf hr) .nil, hg, fun v H' _ r => (Rq.of r).bl⟩
theorem eqv_int (i j : Int) : PyData.eqv (.int i) (.int j) = decide (i = j) := by simp [PyData.eqv, Bool.beq_eq_decide_eq]
theorem eqv_str (i j : Str) : PyData.eqv (.str i) (.str j) = decide (i = j) := by simp [PyData.eqv, Bool.beq_eq_decide_eq]
theorem eqv_opt (x y : Option Str) : PyData.eqv (optS x) (optS y) = decide (x = y) := by
  cases x <;> cases y <;> simp [optS, PyData.eqv, Bool.beq_eq_decide_eq]
theorem sc_opt (x y : Option Str) : scD (optS x) (optS y) = true := by cases x <;> cases y <;> rfl
theorem o_neOpt {X : Cx} {x y : Option Str} : OpV X (compareOp .NotEq) (optS x) (optS y) (.val (.bool (!decide (x = y)))) := by rw [← eqv_opt]; exact o_ne (sc_opt x y)
theorem o_eqOpt {X : Cx} {x y : Option Str} : OpV X (compareOp .Eq) (optS x) (optS y) (.val (.bool (decide (x = y)))) := by rw [← eqv_opt]; exact o_eq (sc_opt x y)
theorem isNon_opt (x : Option Str) : isNon (optS x) = x.isNone := by cases x <;> rfl
mutual
theorem eqv_self : ∀ d : D, nod d = true → PyData.eqv d d = true
  | .none, _ => by simp [PyData.eqv]
  | .bool _, _ => by simp [PyData.eqv]
  | .int _, _ => by simp [PyData.eqv]
  | .str _, _ => by simp [PyData.eqv]
  | .list xs, h => by rw [PyData.eqv]; exact eqvAll_self xs (by simpa [nod] using h)
  | .tuple xs, h => by rw [PyData.eqv]; exact eqvAll_self xs (by simpa [nod] using h)
  | .dict _, h => by simp [nod] at h
theorem eqvAll_self : ∀ ds : List D, nods ds = true → PyData.eqvAll ds ds = true
  | [], _ => by simp [PyData.eqvAll]
  | d :: ds, h => by
    simp only [nods, Bool.and_eq_true] at h
    rw [PyData.eqvAll, eqv_self d h.1, eqvAll_self ds h.2]; rfl
end
theorem Pl.self {n : Nat} {d : D} (h : Pl n d) : PyData.eqv d d = true := eqv_self d (lay_nod h.lay)
theorem pl_sort {n : Nat} {ds : List D} (h : PlAll n ds) : PlAll n (sortD ds) := fun d hd => h d ((List.mergeSort_perm _ _).mem_iff.mp hd)
theorem pl_SS {n : Nat} {l : List (Str × Str)} (h : ∀ q ∈ l, PyData.strOk q.1 = true ∧ PyData.strOk q.2 = true) : PlAll (n + 1) (l.map encSS) := pla_map fun q hq => pl_tup (pla_cons (pl_str (h q hq).1) (pla_cons (pl_str (h q hq).2) pla_nil))
theorem lack_ok {h ps : List Part} (k : OkH h) : ∀ q ∈ lackOf h ps, PyData.strOk q.1 = true ∧ PyData.strOk q.2 = true := by
  intro q hq
  unfold lackOf at hq
  obtain ⟨p, hp, hq⟩ := List.mem_flatMap.mp hq
  split at hq
  · obtain ⟨f, hf, rfl⟩ := List.mem_map.mp hq
    unfold lacksL at hf
    obtain ⟨w, hw, rfl⟩ := List.mem_map.mp hf
    exact ⟨(k p hp).nm, (k p hp).ws w (List.mem_filter.mp hw).1⟩
  · cases hq
theorem r65 {k : Nat} {A : Around} (hr : Room k A) : A.units + 65 < cLine := by have := hr.un; omega
theorem r64 {k : Nat} {A : Around} (hr : Room k A) : A.units + 64 < cLine := by have := hr.un; omega
theorem r12 {k : Nat} {A : Around} (hr : Room k A) : A.units + 12 < cLine := by have := hr.un; omega
theorem r1 {k : Nat} {A : Around} (hr : Room k A) : A.units + 1 < cLine := by have := hr.un; omega
section
variable {X : Cx} {ρ : Rho} {e a b c : Expr} {d x y z : D} {ds es : List D} {k : Kd}
theorem atI_g {i : Int} (h0 : 0 ≤ i) (h1 : i < ds.length) : atI ds i = some (ds.getD i.toNat .none) := by
  unfold atI ixN
  rw [if_pos h0, if_pos h1]
  show ds[i.toNat]? = _
  rw [List.getElem?_eq_getElem (by omega), List.getD_eq_getElem?_getD, List.getElem?_eq_getElem (by omega)]
  rfl
theorem ix_tupG {i : Int} (h0 : 0 ≤ i) (h1 : i < ds.length) : IxV X (.tuple ds) (.int i) (.val (ds.getD i.toNat .none)) := ix_tupD (atI_g h0 h1)
theorem ix_lstG {i : Int} (h0 : 0 ≤ i) (h1 : i < ds.length) : IxV X (.list ds) (.int i) (.val (ds.getD i.toNat .none)) := ix_lstD (atI_g h0 h1)
theorem ix_2 {x y : D} {i : Int} (h0 : 0 ≤ i) (h1 : i < 2) : atI [x, y] i = some (if i = 0 then x else y) := by
  rcases (by omega : i = 0 ∨ i = 1) with rfl | rfl <;> rfl
theorem ix_3 {x y z : D} {i : Int} (h0 : 0 ≤ i) (h1 : i < 3) : atI [x, y, z] i = some (if i = 0 then x else if i = 1 then y else z) := by
  rcases (by omega : i = 0 ∨ i = 1 ∨ i = 2) with rfl | rfl | rfl <;> rfl
theorem ix_4 {x y z u : D} {i : Int} (h0 : 0 ≤ i) (h1 : i < 4) : atI [x, y, z, u] i = some (if i = 0 then x else if i = 1 then y else if i = 2 then z else u) := by
  rcases (by omega : i = 0 ∨ i = 1 ∨ i = 2 ∨ i = 3) with rfl | rfl | rfl | rfl <;> rfl
theorem ix_6 {x y z u v w : D} {i : Int} (h0 : 0 ≤ i) (h1 : i < 6) : atI [x, y, z, u, v, w] i = some (if i = 0 then x else if i = 1 then y else if i = 2 then z else if i = 3 then u else if i = 4 then v else w) := by
  rcases (by omega : i = 0 ∨ i = 1 ∨ i = 2 ∨ i = 3 ∨ i = 4 ∨ i = 5) with rfl | rfl | rfl | rfl | rfl | rfl <;> rfl
theorem ite_i (c : Prop) [Decidable c] (a b : Int) : (if c then PyData.int a else .int b) = .int (if c then a else b) := by split <;> rfl
theorem ite_s (c : Prop) [Decidable c] (a b : Str) : (if c then PyData.str a else .str b) = .str (if c then a else b) := by split <;> rfl
theorem ix_int2 {p q i : Int} (h0 : 0 ≤ i) (h1 : i < 2) : IxV X (.tuple [.int p, .int q]) (.int i) (.val (.int (if i = 0 then p else q))) := ix_tupD (by rw [ix_2 h0 h1, ite_i])
theorem ix_str2 {p q : Str} {i : Int} (h0 : 0 ≤ i) (h1 : i < 2) : IxV X (.tuple [.str p, .str q]) (.int i) (.val (.str (if i = 0 then p else q))) := ix_tupD (by rw [ix_2 h0 h1, ite_s])
theorem ix_str3 {p q r : Str} {i : Int} (h0 : 0 ≤ i) (h1 : i < 3) : IxV X (.tuple [.str p, .str q, .str r]) (.int i) (.val (.str (if i = 0 then p else if i = 1 then q else r))) := ix_tupD (by rw [ix_3 h0 h1, ite_s, ite_s])
theorem ix_int4 {p q r t i : Int} (h0 : 0 ≤ i) (h1 : i < 4) : IxV X (.tuple [.int p, .int q, .int r, .int t]) (.int i) (.val (.int (if i = 0 then p else if i = 1 then q else if i = 2 then r else t))) := ix_tupD (by rw [ix_4 h0 h1, ite_i, ite_i, ite_i])
theorem ix_str4 {p q r t : Str} {i : Int} (h0 : 0 ≤ i) (h1 : i < 4) : IxV X (.tuple [.str p, .str q, .str r, .str t]) (.int i) (.val (.str (if i = 0 then p else if i = 1 then q else if i = 2 then r else t))) := ix_tupD (by rw [ix_4 h0 h1, ite_s, ite_s, ite_s])
theorem ix_str6 {p q r t u v : Str} {i : Int} (h0 : 0 ≤ i) (h1 : i < 6) : IxV X (.tuple [.str p, .str q, .str r, .str t, .str u, .str v]) (.int i) (.val (.str (if i = 0 then p else if i = 1 then q else if i = 2 then r else if i = 3 then t else if i = 4 then u else v))) := ix_tupD (by rw [ix_6 h0 h1, ite_s, ite_s, ite_s, ite_s, ite_s])
/-- flat data -/
def flD : D → Bool
  | .none => true
  | .bool _ => true
  | .int _ => true
  | .str _ => true
  | _ => false
theorem fl_ok {K : PySem.W.Frag} {H : Hp} {u v : V} (h1 : flD x = true) (h2 : flD y = true) (ru : Rp K H u x) (rv : Rp K H v y) : flatV u = true ∧ flatV v = true ∧ eqV u v = PyData.eqv x y := by
  cases ru <;> simp [flD] at h1 <;> cases rv <;> simp [flD] at h2 <;> refine ⟨rfl, rfl, ?_⟩ <;> first
    | rfl
    | (simp [eqV, PyData.eqv]; done)
    | (simp only [eqV, PyData.eqv]; rfl)
theorem fl_all {K : PySem.W.Frag} {H : Hp} {u : V} (h1 : flD x = true) (ru : Rp K H u x) : ∀ {xs : List V} {ds : List D}, RpAll K H xs ds → ds.all flD = true → xs.all flatV = true ∧ inV u xs = ds.any fun z => PyData.eqv z x
  | _, _, .nil, _ => ⟨rfl, rfl⟩
  | _, _, .cons r t, h => by
    rw [List.all_cons, Bool.and_eq_true] at h
    obtain ⟨a1, a2⟩ := fl_all h1 ru t h.2
    obtain ⟨b1, b2, b3⟩ := fl_ok h.1 h1 r ru
    refine ⟨by rw [List.all_cons, b1, a1]; rfl, ?_⟩
    unfold inV at a2 ⊢
    rw [List.any_cons, List.any_cons, b3, a2]
theorem Rq.flat {K : PySem.W.Frag} {H : Hp} {u : V} (h : flD x = true) (r : Rq K H u x) : Rp K H u x := by
  cases r with
  | of r => exact r
  | own => simp [flD] at h
  | dct => simp [flD] at h
theorem o_inS (hx : flD x = true := by rfl) (hy : ds.all flD = true := by rfl) : OpV X (compareOp .In) x (.list ds) (.val (.bool (ds.any fun z => PyData.eqv z x))) := fun H u v Q ru rv q => by
  have ru := ru.flat hx
  obtain ⟨a, xs, rfl, hs, hr⟩ := rv.lst
  obtain ⟨a1, a2⟩ := fl_all hx ru hr hy
  have f1 := (fl_ok hx hx ru ru).1
  exact ⟨_, op_in_seq, a, xs, rfl, .inl hs, f1, a1, by rw [if_neg (by decide), a2]; exact q _ H ⟨.refl H, .bl _⟩⟩
theorem o_ninS (hx : flD x = true := by rfl) (hy : ds.all flD = true := by rfl) : OpV X (compareOp .NotIn) x (.list ds) (.val (.bool (!ds.any fun z => PyData.eqv z x))) := fun H u v Q ru rv q => by
  have ru := ru.flat hx
  obtain ⟨a, xs, rfl, hs, hr⟩ := rv.lst
  obtain ⟨a1, a2⟩ := fl_all hx ru hr hy
  have f1 := (fl_ok hx hx ru ru).1
  exact ⟨_, op_notIn_seq, a, xs, rfl, .inl hs, f1, a1, by rw [if_pos rfl, a2]; exact q _ H ⟨.refl H, .bl _⟩⟩
theorem o_inST (hx : flD x = true := by rfl) (hy : ds.all flD = true := by rfl) : OpV X (compareOp .In) x (.tuple ds) (.val (.bool (ds.any fun z => PyData.eqv z x))) := fun H u v Q ru rv q => by
  have ru := ru.flat hx
  obtain ⟨a, xs, rfl, hs, hr⟩ := rv.tup
  obtain ⟨a1, a2⟩ := fl_all hx ru hr hy
  have f1 := (fl_ok hx hx ru ru).1
  exact ⟨_, op_in_seq, a, xs, rfl, .inr hs, f1, a1, by rw [if_neg (by decide), a2]; exact q _ H ⟨.refl H, .bl _⟩⟩
theorem o_ninST (hx : flD x = true := by rfl) (hy : ds.all flD = true := by rfl) : OpV X (compareOp .NotIn) x (.tuple ds) (.val (.bool (!ds.any fun z => PyData.eqv z x))) := fun H u v Q ru rv q => by
  have ru := ru.flat hx
  obtain ⟨a, xs, rfl, hs, hr⟩ := rv.tup
  obtain ⟨a1, a2⟩ := fl_all hx ru hr hy
  have f1 := (fl_ok hx hx ru ru).1
  exact ⟨_, op_notIn_seq, a, xs, rfl, .inr hs, f1, a1, by rw [if_pos rfl, a2]; exact q _ H ⟨.refl H, .bl _⟩⟩
theorem fl_strs {α : Type} {l : List α} {f : α → Str} : (l.map fun a => PyData.str (f a)).all flD = true := by
  rw [List.all_map]; exact List.all_eq_true.mpr fun _ _ => rfl
/-- the own names of a comprehension's block by their slots -/
def ownOf (N : List Str) (scope : Scope) : List (Str × Nat) := scope.names.filterMap fun y => match y.2 with
  | .local => if y.1 ∈ N then some (y.1, N.idxOf y.1) else none
  | .cell => if y.1 ∈ N then some (y.1, N.idxOf y.1) else none
  | _ => none
theorem ev_lcA {elt tg iter : Expr} {ifs : List Expr} {scope : Scope} {pos : Pos} {α : Type} {ps : List α} {en : α → D} {ρ' : α → Rho} {keep : α → Bool} {f : α → D} {is : List Nat} {yl : Bool}
    (hN : X.N.Nodup) (ok : blkC X.N X.env.scope scope (ownOf X.N scope) = true)
    (hi : EvIq X tg iter ρ yl (ps.map en)) (hg : ∀ p ∈ ps, Blk X scope fun Y => EvG Y yl tg (wipeB ρ ((ownOf X.N scope).map (·.2))) (en p) (ρ' p) is)
    (ht : ∀ p ∈ ps, Blk X scope fun Y => EvTs Y ifs (ρ' p) (keep p)) (he : ∀ p ∈ ps, keep p = true → Blk X scope fun Y => Ev Y elt (ρ' p) (.val (f p)))
    (hw : (is.all fun i => ((ownOf X.N scope).map (·.2)).contains i) = true) (hc : X.calm = true := by rfl) (hs : ∀ x, foldedSetIterable iter X.env x = pure x := by intro _; rfl) :
    Ev X (.ListComp elt [⟨tg, iter, ifs, 0⟩] scope pos) ρ (.new ((ps.filter keep).map f)) :=
  ev_lc hN (blkOk_by ok) hi hg ht he (fun i h => by simpa using List.all_eq_true.mp hw i h) hc hs
theorem sx_setLcA {Φ : DL.Fin} (i : Nat) {y : Str} {py : Pos} {elt tg iter : Expr} {ifs : List Expr} {scope : Scope} {pos spos : Pos} {α : Type} {ps : List α} {en : α → D} {ρ' : α → Rho} {keep : α → Bool} {f : α → D} {is : List Nat} {yl : Bool}
    (hN : X.N.Nodup) (ok : blkC X.N X.env.scope scope (ownOf X.N scope) = true)
    (hi : EvIq X tg iter ρ yl (ps.map en)) (hg : ∀ p ∈ ps, Blk X scope fun Y => EvG Y yl tg (wipeB ρ ((ownOf X.N scope).map (·.2))) (en p) (ρ' p) is)
    (ht : ∀ p ∈ ps, Blk X scope fun Y => EvTs Y ifs (ρ' p) (keep p)) (he : ∀ p ∈ ps, keep p = true → Blk X scope fun Y => Ev Y elt (ρ' p) (.val (f p)))
    (hw : (is.all fun i => ((ownOf X.N scope).map (·.2)).contains i) = true) (hsw : swapsWith (.ListComp elt [⟨tg, iter, ifs, 0⟩] scope pos) (some (.Name y py)) spos.line X.env = pure true)
    (h : Φ.nx (ρ.set i (.val (.list ((ps.filter keep).map f)))))
    (hy : X.N[i]? = some y := by rfl) (hyl : X.env.scope.names.lookup y = some .local := by rfl) (hc : X.calm = true := by rfl) (hs : ∀ x, foldedSetIterable iter X.env x = pure x := by intro _; rfl) :
    Sx X (.Assign [.Name y py] (.ListComp elt [⟨tg, iter, ifs, 0⟩] scope pos) spos) ρ Φ :=
  sx_setLc i hN (blkOk_by ok) hsw hi hg ht he h (fun i h => by simpa using List.all_eq_true.mp hw i h) hy hyl hc hs
/-! ### facts by names -/
structure Sl (N : List Str) (s : String) (i : Nat) : Prop where
  h : N[i]? = some (Str.ofString s)
  d : (Str.ofString s == ("__debug__" : Str)) = false
  c : (Str.ofString s == ("__classdict__" : Str)) = false
structure Cl (P : Program) (w : World) (K : PySem.W.Frag) (mg : Str → Option Value) (base : Heap) (s : String) (kk : Nat) (g : List D → D → Prop) : Prop where
  h : ∃ f fd ps, FnD P w K mg base kk f fd ps g ∧ mg (Str.ofString s) = some (.ref f) ∧ PySem.W.keepIn K (.ref f) = true ∧ Binds K fd ps []
structure Nb (mg : Str → Option Value) (s : String) (v : Value) : Prop where
  h : mg (Str.ofString s) = none
  v : bootBuiltins (Str.ofString s) = some v
  n : Str.ofString s ≠ "__name__"
  d : (Str.ofString s == ("__debug__" : Str)) = false
/-- what came, as a datum -/
inductive KV' : Kd → D → Prop
  | val {d : D} : KV' (.val d) d
  | new {ds : List D} : KV' (.new ds) (.list ds)
  | newD {es : List (D × D)} : KV' (.newD es) (.dict es)
theorem Ev.toV (h : Ev X e ρ k) (q : KV' k d) : Ev X e ρ (.val d) := by
  cases q with
  | val => exact h
  | new => exact h.fz
  | newD => exact h.fzD
theorem ev_vn {s : String} {i : Nat} {pos : Pos} (hs : Sl X.N s i) (h : ρ[i]? = some (.val d)) (hv : Vis X.env.scope (Str.ofString s)) : Ev X (.Name (Str.ofString s) pos) ρ (.val d) := ev_var i h hs.h hv hs.d hs.c
theorem ev_vo {s : String} {i : Nat} {pos : Pos} (hs : Sl X.N s i) (h : ρ[i]? = some (.own ds)) (hv : Vis X.env.scope (Str.ofString s)) : Ev X (.Name (Str.ofString s) pos) ρ (.qua (.list ds)) := ev_own i h hs.h hv hs.d hs.c
theorem ev_vd {s : String} {i : Nat} {pos : Pos} {es : List (D × D)} (hs : Sl X.N s i) (h : ρ[i]? = some (.dic es)) (hv : Vis X.env.scope (Str.ofString s)) : Ev X (.Name (Str.ofString s) pos) ρ (.qua (.dict es)) := ev_dic i h hs.h hv hs.d hs.c
theorem eg_vn {s : String} {i : Nat} {pos : Pos} (hs : Sl X.N s i) (hN : X.N.Nodup) (hx : Loc X.env.scope (Str.ofString s)) (hf : X.fn (Str.ofString s) = true ∨ X.env.scope.names.lookup (Str.ofString s) = some .local) : EvG X false (.Name (Str.ofString s) pos) ρ d (ρ.set i (.val d)) [i] := eg_name i hN hs.h hx hf
theorem ev_cl {s : String} {kk : Nat} {g : List D → D → Prop} {es : List Expr} {p pos : Pos} (C : Cl X.prog X.w X.K X.mg X.base s kk g) (hr : Room kk X.A) (ha : EvA X (e :: es) ρ ds) (hg' : g ds d) (hg : Gl X (Str.ofString s)) (hdb : (Str.ofString s == ("__debug__" : Str)) = false) (he : starEach (e :: es) X.env = (false, eval e X.env) :: starEach es X.env) (hpl : (backTo pos (starEach es X.env)).any (·.1) = false) :
    Ev X (.Call (.Name (Str.ofString s) p) (e :: es) [] pos) ρ (.val d) := by
  obtain ⟨f, fd, ps, F, hm, hk, hb⟩ := C.h
  exact ev_call F hr hm hk hb ha hg' hg hdb he hpl
theorem ev_nb {s id : String} {es : List Expr} {p pos : Pos} (hm : Nb X.mg s (.builtin id)) (ha : EvAq X (e :: es) ρ ds) (hc : CallV X (.builtin id) ds k) (hg : Gl X (Str.ofString s))
    (he : starEach (e :: es) X.env = (false, eval e X.env) :: starEach es X.env) (hpl : (backTo pos (starEach es X.env)).any (·.1) = false) : Ev X (.Call (.Name (Str.ofString s) p) (e :: es) [] pos) ρ k := ev_b hc hm.h ha hm.v hg hm.n hm.d he hpl
theorem ev_nt {s T : String} {es : List Expr} {p pos : Pos} (hm : Nb X.mg s (.type T)) (ha : EvAq X (e :: es) ρ ds) (hc : CallV X (.type T) ds k) (hg : Gl X (Str.ofString s))
    (he : starEach (e :: es) X.env = (false, eval e X.env) :: starEach es X.env) (hpl : (backTo pos (starEach es X.env)).any (·.1) = false) : Ev X (.Call (.Name (Str.ofString s) p) (e :: es) [] pos) ρ k := ev_ty hc hm.h ha hm.v hg hm.n hm.d he hpl
/-! ### guards -/
theorem gd_name {x : Str} {pos : Pos} (h : Ev X (.Name x pos) ρ k) : Ev X (.Name x pos) ρ k := h
theorem gd_bin {op : Operator} {pos : Pos} (h : Ev X (.BinOp a op b pos) ρ k) : Ev X (.BinOp a op b pos) ρ k := h
theorem gd_cmp {op : CmpOp} {pos : Pos} (h : Ev X (.Compare a [op] [b] pos) ρ k) : Ev X (.Compare a [op] [b] pos) ρ k := h
theorem gd_cmp2 {op op' : CmpOp} {pos : Pos} (h : Ev X (.Compare a [op, op'] [b, c] pos) ρ k) : Ev X (.Compare a [op, op'] [b, c] pos) ρ k := h
theorem gd_tup {l : List Expr} {n : Nat} {pos : Pos} (h : Ev X (.Tuple l n pos) ρ k) : Ev X (.Tuple l n pos) ρ k := h
theorem gd_lst {l : List Expr} {pos : Pos} (h : Ev X (.List l pos) ρ k) : Ev X (.List l pos) ρ k := h
theorem gd_call {x : Str} {l : List Expr} {p pos : Pos} (h : Ev X (.Call (.Name x p) l [] pos) ρ k) : Ev X (.Call (.Name x p) l [] pos) ρ k := h
theorem gd_meth {x : Str} {l : List Expr} {p pos : Pos} (h : Ev X (.Call (.Attribute a x p) l [] pos) ρ k) : Ev X (.Call (.Attribute a x p) l [] pos) ρ k := h
theorem gd_sub {pos : Pos} (h : Ev X (.Subscript a b pos) ρ k) : Ev X (.Subscript a b pos) ρ k := h
theorem gd_rev {k2 : Nat} {p1 p2 p3 pos : Pos} (h : Ev X (.Subscript a (.Slice none none (some (.UnaryOp .USub (.Constant (.int 1) k2 p1) p2)) p3) pos) ρ k) : Ev X (.Subscript a (.Slice none none (some (.UnaryOp .USub (.Constant (.int 1) k2 p1) p2)) p3) pos) ρ k := h
theorem gd_sl {lo hi : Option Expr} {p pos : Pos} (h : Ev X (.Subscript a (.Slice lo hi none p) pos) ρ k) : Ev X (.Subscript a (.Slice lo hi none p) pos) ρ k := h
theorem gd_bool {op : BoolOp} {l : List Expr} {pos : Pos} (h : Ev X (.BoolOp op l pos) ρ k) : Ev X (.BoolOp op l pos) ρ k := h
theorem gd_un {op : UnaryOp} {pos : Pos} (h : Ev X (.UnaryOp op a pos) ρ k) : Ev X (.UnaryOp op a pos) ρ k := h
theorem gd_lc {l : List Comprehension} {sc : Scope} {pos : Pos} (h : Ev X (.ListComp a l sc pos) ρ k) : Ev X (.ListComp a l sc pos) ρ k := h
theorem gd_if {pos : Pos} (h : Ev X (.IfExp a b c pos) ρ k) : Ev X (.IfExp a b c pos) ρ k := h
theorem gt_cmp {t : Bool} {op : CmpOp} {pos : Pos} (h : EvT X (.Compare a [op] [b] pos) ρ t) : EvT X (.Compare a [op] [b] pos) ρ t := h
theorem gt_cmp2 {t : Bool} {op op' : CmpOp} {pos : Pos} (h : EvT X (.Compare a [op, op'] [b, c] pos) ρ t) : EvT X (.Compare a [op, op'] [b, c] pos) ρ t := h
theorem gt_bool {t : Bool} {op : BoolOp} {l : List Expr} {pos : Pos} (h : EvT X (.BoolOp op l pos) ρ t) : EvT X (.BoolOp op l pos) ρ t := h
theorem gt_not {t : Bool} {pos : Pos} (h : EvT X (.UnaryOp .Not a pos) ρ t) : EvT X (.UnaryOp .Not a pos) ρ t := h
end
end DL


namespace DL.K10
open PySem PySem.Spec PyProof.Rows L2 DL
/-! the walk by syntax -/
local macro_rules | `(tactic| walk_at "pl") => `(tactic| first
  | exact pl_int | exact pl_bool | exact pl_none | assumption | exact pla_nil | (refine' pl_sort ?h; (case h => walk_at "pl"))
  | (exact pl_str (by (first | assumption | exact OkP.nm (OkH.get (by assumption) (by assumption)) | exact OkP.nm (OkH.get (OkH.filter (by assumption)) (by assumption)) | decide +kernel)))
  | (refine' pla_cons ?h ?t; (case h => walk_at "pl"); (case t => walk_at "pl"))
  | (refine' pl_tup ?h; (case h => walk_at "pl")) | (refine' pl_lst ?h; (case h => walk_at "pl"))
  | (refine' pl_parts ?h; (case h => walk_at "okh")) | (refine' pl_encP ?h; (case h => walk_at "okh"))
  | (refine' pla_map ?h; (case h => intros; walk_at "pl")))
local macro_rules | `(tactic| walk_at "okh") => `(tactic| first | assumption | exact OkH.filter (by assumption) | exact OkH.get (by assumption) (by assumption))
local macro_rules | `(tactic| walk_at "op") => `(tactic| first
  | (with_reducible exact o_add) | (with_reducible exact o_sub) | ((with_reducible refine' o_mod ?h); (case h => first | decide | (split <;> decide) | omega)) | ((with_reducible refine' o_div ?h); (case h => exact ⟨by decide, by decide⟩))
  | ((with_reducible refine' o_mul ?h); (case h => first | exact Or.inr ⟨by decide, by decide⟩ | exact Or.inl ⟨by decide, by decide⟩ | exact Or.inl ⟨by omega, by omega⟩ | exact Or.inr ⟨by omega, by omega⟩))
  | ((with_reducible refine' o_rep01 ?h); (case h => simp))
  | ((with_reducible refine' o_addT ?h); (case h => first | (rw [sizeLine_eq]; exact Nat.le_of_ble_eq_true rfl) | skip; (try simp only [List.length_cons, List.length_nil, List.length_append, List.length_map]); (try rw [sizeLine_eq]); first | omega | (split <;> simp only [List.length_cons, List.length_nil] <;> omega)))
  | ((with_reducible refine' o_addL ?h); (case h => (try simp only [List.length_cons, List.length_nil, List.length_append, List.length_map]); (try rw [sizeLine_eq]); omega)))
local macro_rules | `(tactic| walk_at "cmp") => `(tactic| first
  | (with_reducible exact o_lt) | (with_reducible exact o_le) | (with_reducible exact o_gt) | (with_reducible exact o_ge) | ((with_reducible refine' o_eq ?h); (case h => rfl)) | ((with_reducible refine' o_ne ?h); (case h => rfl)) | (with_reducible exact o_isN) | (with_reducible exact o_notN) | (with_reducible exact o_lts) | (with_reducible exact o_les)
  | (with_reducible exact o_neOpt) | (with_reducible exact o_eqOpt)
  | ((with_reducible refine' o_inS ?h ?t); (case h => rfl); (case t => first | rfl | exact fl_strs)) | ((with_reducible refine' o_ninS ?h ?t); (case h => rfl); (case t => first | rfl | exact fl_strs)) | ((with_reducible refine' o_inST ?h ?t); (case h => rfl); (case t => first | rfl | exact fl_strs)) | ((with_reducible refine' o_ninST ?h ?t); (case h => rfl); (case t => first | rfl | exact fl_strs))
  | (refine' o_eqNil (n := 9) ?h (r64 (by assumption)); (case h => walk_at "pl")) | (refine' o_neNil (n := 9) ?h (r64 (by assumption)); (case h => walk_at "pl"))
  | (refine' o_eqD (n := 9) (m := 9) ?h ?t (r64 (by assumption)); (case h => walk_at "pl"); (case t => walk_at "pl")) | (refine' o_neD (n := 9) (m := 9) ?h ?t (r64 (by assumption)); (case h => walk_at "pl"); (case t => walk_at "pl"))
  | (refine' o_in (n := 9) (m := 9) ?h ?t (r65 (by assumption)); (case h => walk_at "pl"); (case t => walk_at "pl")) | (refine' o_nin (n := 9) (m := 9) ?h ?t (r65 (by assumption)); (case h => walk_at "pl"); (case t => walk_at "pl"))
  | (refine' o_inT (n := 9) (m := 9) ?h ?t (r65 (by assumption)); (case h => walk_at "pl"); (case t => walk_at "pl")) | (refine' o_ninT (n := 9) (m := 9) ?h ?t (r65 (by assumption)); (case h => walk_at "pl"); (case t => walk_at "pl")))
local macro_rules | `(tactic| walk_at "ix") => `(tactic| first
  | ((with_reducible refine' ix_int2 ?h ?t); (case h => omega); (case t => omega)) | ((with_reducible refine' ix_str2 ?h ?t); (case h => omega); (case t => omega)) | ((with_reducible refine' ix_str3 ?h ?t); (case h => omega); (case t => omega)) | ((with_reducible refine' ix_int4 ?h ?t); (case h => omega); (case t => omega)) | ((with_reducible refine' ix_str4 ?h ?t); (case h => omega); (case t => omega)) | ((with_reducible refine' ix_str6 ?h ?t); (case h => omega); (case t => omega))
  | exact ix_tupD rfl | exact ix_lstD rfl
  | (refine' ix_tupG ?h ?t; (case h => omega); (case t => (try simp only [List.length_cons, List.length_nil]); omega))
  | (refine' ix_lstG ?h ?t; (case h => omega); (case t => (try simp only [List.length_cons, List.length_nil]); omega)))
local macro_rules | `(tactic| walk_at "vis") => `(tactic| first | exact Or.inl rfl | exact Or.inr (Or.inl rfl) | exact Or.inr (Or.inr rfl))
local macro_rules | `(tactic| walk_at "nm") => `(tactic| (refine' ev_vn ?s ?h ?v; (case s => assumption); (case h => exact rfl); (case v => walk_at "vis")))
local macro_rules | `(tactic| walk_at "own") => `(tactic| first | (refine' ev_vo ?s ?h ?v; (case s => assumption); (case h => exact rfl); (case v => walk_at "vis")) | (refine' ev_vd ?s ?h ?v; (case s => assumption); (case h => exact rfl); (case v => walk_at "vis")))
local macro_rules | `(tactic| walk_at "gn") => `(tactic| (refine' eg_vn ?s ?n ?x ?f; (case s => assumption); (case n => assumption); (case x => first | exact Or.inl rfl | exact Or.inr rfl); (case f => first | exact Or.inl rfl | exact Or.inr rfl)))
local macro_rules | `(tactic| walk_at "gs") => `(tactic| first | exact egs_nil | (refine' egs_cons ?h ?t; (case h => walk_at "g"); (case t => walk_at "gs")))
local macro_rules | `(tactic| walk_at "g") => `(tactic| first | walk_at "gn" | (refine' eg_tup ?h; (case h => walk_at "gs")))
local macro_rules | `(tactic| walk_at "a") => `(tactic| first | (with_reducible exact ea_nil) | (refine' ea_cons ?h ?t; (case h => walk_at "v"); (case t => walk_at "a")))
local macro_rules | `(tactic| walk_at "aq") => `(tactic| first | (with_reducible exact eq_nil) | (refine' eq_cons ?h ?t; (case h => walk_at "q"); (case t => walk_at "aq")))
local macro_rules | `(tactic| walk_at "q") => `(tactic| first
  | ((with_reducible refine' gd_name ?g); (case g => first | (refine' Ev.q ?h; (case h => walk_at "nm")) | walk_at "own"))
  | (refine' Ev.q ?h; (case h => walk_at "v")))
local macro_rules | `(tactic| walk_at "kv") => `(tactic| first | exact KV'.val | exact KV'.new | exact KV'.newD)
local macro_rules | `(tactic| walk_at "fn") => `(tactic| (refine' ev_cl ?C ?hr ?ha ?hg ?g ?d ?e ?p; (case C => assumption); (case hr => exact Room.mono (by assumption) (by decide)); (case g => rfl); (case d => decide); (case e => rfl); (case p => rfl); (case ha => walk_at "a"); (case hg => walk_at "spec")))
local macro_rules | `(tactic| walk_at "spec") => `(tactic| first | exact ⟨_, rfl, rfl, by assumption, by assumption⟩ | exact ⟨_, rfl, rfl, by assumption⟩ | exact ⟨_, _, _, rfl, rfl, by assumption⟩ | exact ⟨_, _, _, _, _, rfl, rfl, by assumption, by assumption⟩ | exact ⟨_, _, rfl, rfl, by omega⟩ | exact ⟨_, rfl, rfl⟩ | exact ⟨_, _, rfl, rfl⟩ | exact ⟨_, _, _, rfl, rfl⟩ | exact ⟨_, _, _, _, rfl, rfl⟩)
local macro_rules | `(tactic| walk_at "cb") => `(tactic| first | exact c_lenL | exact c_lenT | exact c_min | exact c_max | exact c_lenS (by assumption) | (refine' c_sorted (r12 (by assumption)) ?so; (case so => walk_at "so")))
local macro_rules | `(tactic| walk_at "so") => `(tactic| first | assumption | exact so_map .str | exact so_map .int | exact so_map (.tup [.str, .str]) | exact so_map (.tup [.int, .str]))
local macro_rules | `(tactic| walk_at "ct") => `(tactic| first | exact c_tupleL | exact c_listT | exact c_listL | exact c_int | exact c_intB | exact c_dictT | exact c_dictL)
local macro_rules | `(tactic| walk_at "b1") => `(tactic| (refine' ev_nb ?m ?ha ?hc ?g ?e ?p; (case m => assumption); (case g => rfl); (case e => rfl); (case p => rfl); (case ha => walk_at "aq"); (case hc => walk_at "cb")))
local macro_rules | `(tactic| walk_at "t1") => `(tactic| (refine' ev_nt ?m ?ha ?hc ?g ?e ?p; (case m => assumption); (case g => rfl); (case e => rfl); (case p => rfl); (case ha => walk_at "aq"); (case hc => walk_at "ct")))
local macro_rules | `(tactic| walk_at "ep") => `(tactic| first | (with_reducible exact ep_none) | (refine' ep_some ?h; (case h => walk_at "v")))
local macro_rules | `(tactic| walk_at "v") => `(tactic| first
  | (with_reducible exact ev_int) | (with_reducible exact ev_str) | (with_reducible exact ev_non) | (with_reducible exact ev_bl)
  | ((with_reducible refine' gd_name ?g); (case g => walk_at "nm"))
  | ((with_reducible refine' gd_bin ?g); (case g => refine' Ev.toV (ev_bin ?o ?a ?b) ?k; (case a => walk_at "q"); (case b => walk_at "q"); (case o => walk_at "op"); (case k => walk_at "kv")))
  | ((with_reducible refine' gd_rev ?g); (case g => first | (refine' ev_revT ?a; (case a => walk_at "q")) | (refine' Ev.fz (ev_revL ?a); (case a => walk_at "q"))))
  | ((with_reducible refine' gd_sl ?g); (case g => refine' Ev.toV (ev_sl ?o ?a ?l ?h) ?k; (case a => walk_at "q"); (case l => walk_at "ep"); (case h => walk_at "ep"); (case o => first | exact s_tup | exact s_lst); (case k => walk_at "kv")))
  | ((with_reducible refine' gd_sub ?g); (case g => first | (refine' Ev.toV (ev_ix ?o ?a ?b) ?k; (case a => walk_at "q"); (case b => walk_at "q"); (case o => walk_at "ix"); (case k => walk_at "kv")) | (refine' ev_dget (r1 (by assumption)) ?a ?b ?h; (case a => walk_at "q"); (case b => walk_at "v"); (case h => assumption))))
  | ((with_reducible refine' gd_cmp ?g); (case g => refine' Ev.toV (ev_cmp ?o ?a ?b) ?k; (case a => walk_at "q"); (case b => walk_at "q"); (case o => walk_at "cmp"); (case k => walk_at "kv")))
  | ((with_reducible refine' gd_cmp2 ?g); (case g => refine' ev_chain ?o ?a ?b ?p ?c; (case a => walk_at "v"); (case b => walk_at "v"); (case o => walk_at "cmp"); (case c => intro _; walk_at "v"); (case p => intro _; walk_at "cmp")))
  | ((with_reducible refine' gd_call ?g); (case g => first | walk_at "fn" | walk_at "b1" | (refine' Ev.toV ?t ?k; (case t => walk_at "t1"); (case k => walk_at "kv")) | (refine' Ev.toV ?t ?k; (case t => walk_at "b1"); (case k => walk_at "kv"))))
  | ((with_reducible refine' gd_tup ?g); (case g => refine' ev_tup ?a ?hl; (case a => walk_at "a"); (case hl => simp)))
  | ((with_reducible refine' gd_lst ?g); (case g => refine' Ev.fz (ev_lst ?a ?hl); (case a => walk_at "a"); (case hl => simp)))
  | ((with_reducible refine' gd_lc ?g); (case g => refine' Ev.fz ?n; (case n => walk_at "lc")))
  | ((with_reducible refine' gd_un ?g); (case g => first | (refine' ev_neg ?h; (case h => walk_at "v")) | (refine' ev_not ?h; (case h => walk_at "v"))))
  | ((with_reducible refine' gd_bool ?g); (case g => first | (refine' ev_and ?a ?b; (case a => walk_at "v"); (case b => intro _; walk_at "v")) | (refine' ev_or ?a ?b; (case a => walk_at "v"); (case b => intro _; walk_at "v")) | (refine' ev_one ?h; (case h => walk_at "v"))))
  | ((with_reducible refine' gd_meth ?g); (case g => refine' ev_dgetx (r1 (by assumption)) ?a ?b ?f; (case a => walk_at "q"); (case b => walk_at "v"); (case f => walk_at "v"))))
local macro_rules | `(tactic| walk_at "i") => `(tactic| first
  | (refine' ei_range ?m ?h ?z; (case m => exact Nb.h (by assumption)); (case h => walk_at "v"); (case z => omega))
  | (refine' ei_range2 ?m ?h ?j ?z; (case m => exact Nb.h (by assumption)); (case h => walk_at "v"); (case j => walk_at "v"); (case z => omega))
  | (refine' ei_enumT ?m ?h; (case m => exact Nb.h (by assumption)); (case h => walk_at "v"))
  | (refine' ei_tup ?h; (case h => walk_at "v")) | (refine' ei_lst ?h; (case h => walk_at "v")) | (refine' ei_keys ?h; (case h => walk_at "v")))
local macro_rules | `(tactic| walk_at "iq") => `(tactic| first | (refine' EvI.q ?h; (case h => walk_at "i")) | (refine' ei_own ?h; (case h => walk_at "own")))
local macro_rules | `(tactic| walk_at "lc") => `(tactic| (refine' ev_lcA ?nd ?ok ?hi (fun p hp _ _ _ _ _ => ?hg) (fun p hp _ _ _ _ _ => ?ht) (fun p hp hk _ _ _ _ _ => ?he) ?hw; (case nd => assumption); (case ok => kernel_rfl); (case hi => walk_at "iq"); (case hg => walk_at "g"); (case hw => kernel_rfl); (case ht => walk_at "ts"); (case he => walk_at "v")))
local macro_rules | `(tactic| walk_at "ts") => `(tactic| first | (with_reducible exact ets_nil) | (refine' ets_one ?h; (case h => walk_at "t")))
local macro_rules | `(tactic| walk_at "n") => `(tactic| first
  | ((with_reducible refine' gd_lc ?g); (case g => walk_at "lc")) | ((with_reducible refine' gd_lst ?g); (case g => refine' ev_lst ?a ?hl; (case a => walk_at "a"); (case hl => simp)))
  | ((with_reducible refine' gd_call ?g); (case g => first | walk_at "t1" | walk_at "b1"))
  | ((with_reducible refine' gd_bin ?g); (case g => refine' ev_bin ?o ?a ?b; (case a => walk_at "q"); (case b => walk_at "q"); (case o => walk_at "op")))
  | ((with_reducible refine' gd_sl ?g); (case g => refine' ev_sl ?o ?a ?l ?h; (case a => walk_at "q"); (case l => walk_at "ep"); (case h => walk_at "ep"); (case o => exact s_lst))))
local macro_rules | `(tactic| walk_at "w") => `(tactic| first
  | (refine' ew_and ?a ?b; (case a => walk_at "t"); (case b => intro _; walk_at "w")) | (refine' ew_or ?a ?b; (case a => walk_at "t"); (case b => intro _; walk_at "w"))
  | (refine' ew_and1 ?h; (case h => walk_at "t")) | (refine' ew_or1 ?h; (case h => walk_at "t")))
local macro_rules | `(tactic| walk_at "t") => `(tactic| first
  | ((with_reducible refine' gt_cmp ?g); (case g => refine' EvT.cast (et_cmp ?o ?a ?b) ?k; (case a => walk_at "q"); (case b => walk_at "q"); (case o => walk_at "cmp"); (case k => rfl)))
  | ((with_reducible refine' gt_cmp2 ?g); (case g => refine' et_chain ?o ?a ?b ?p ?c; (case a => walk_at "v"); (case b => walk_at "v"); (case o => walk_at "cmp"); (case c => intro _; walk_at "v"); (case p => intro _; walk_at "cmp")))
  | ((with_reducible refine' gt_bool ?g); (case g => refine' EvW.t ?h; (case h => walk_at "w")))
  | ((with_reducible refine' gt_not ?g); (case g => refine' et_not ?h; (case h => walk_at "t"))) | (refine' et_val ?h; (case h => walk_at "v")))
local macro_rules | `(tactic| walk_at "le") => `(tactic| first | exact le_nil | (refine le_cons ?_; walk_at "le") | (refine le_un ?_; walk_at "le"))
local macro_rules | `(tactic| walk_at "ret") => `(tactic| (refine' xs_one (sx_ret ?v ?e); (case v => walk_at "v")))

local macro_rules | `(tactic| walk_at "set 0") => `(tactic| (refine' xs_cons (sx_set 0 (by assumption) ?e ?n); (case e => walk_at "v")))
local macro_rules | `(tactic| walk_at "new 0") => `(tactic| (refine' xs_cons (sx_new 0 (by assumption) ?e ?n); (case e => walk_at "n")))
local macro_rules | `(tactic| walk_at "lc 0") => `(tactic| (refine' xs_cons (sx_setLcA 0 ?nd ?ok ?hi (fun p hp _ _ _ _ _ => ?hg) (fun p hp _ _ _ _ _ => ?ht) (fun p hp hk _ _ _ _ _ => ?he) ?hw ?sw ?n); (case nd => assumption); (case ok => kernel_rfl); (case hi => walk_at "iq"); (case hg => walk_at "g"); (case hw => kernel_rfl); (case ht => walk_at "ts"); (case he => walk_at "v"); (case sw => rfl)))
local macro_rules | `(tactic| walk_at "set 1") => `(tactic| (refine' xs_cons (sx_set 1 (by assumption) ?e ?n); (case e => walk_at "v")))
local macro_rules | `(tactic| walk_at "new 1") => `(tactic| (refine' xs_cons (sx_new 1 (by assumption) ?e ?n); (case e => walk_at "n")))
local macro_rules | `(tactic| walk_at "lc 1") => `(tactic| (refine' xs_cons (sx_setLcA 1 ?nd ?ok ?hi (fun p hp _ _ _ _ _ => ?hg) (fun p hp _ _ _ _ _ => ?ht) (fun p hp hk _ _ _ _ _ => ?he) ?hw ?sw ?n); (case nd => assumption); (case ok => kernel_rfl); (case hi => walk_at "iq"); (case hg => walk_at "g"); (case hw => kernel_rfl); (case ht => walk_at "ts"); (case he => walk_at "v"); (case sw => rfl)))
local macro_rules | `(tactic| walk_at "set 2") => `(tactic| (refine' xs_cons (sx_set 2 (by assumption) ?e ?n); (case e => walk_at "v")))
local macro_rules | `(tactic| walk_at "new 2") => `(tactic| (refine' xs_cons (sx_new 2 (by assumption) ?e ?n); (case e => walk_at "n")))
local macro_rules | `(tactic| walk_at "lc 2") => `(tactic| (refine' xs_cons (sx_setLcA 2 ?nd ?ok ?hi (fun p hp _ _ _ _ _ => ?hg) (fun p hp _ _ _ _ _ => ?ht) (fun p hp hk _ _ _ _ _ => ?he) ?hw ?sw ?n); (case nd => assumption); (case ok => kernel_rfl); (case hi => walk_at "iq"); (case hg => walk_at "g"); (case hw => kernel_rfl); (case ht => walk_at "ts"); (case he => walk_at "v"); (case sw => rfl)))
local macro_rules | `(tactic| walk_at "set 3") => `(tactic| (refine' xs_cons (sx_set 3 (by assumption) ?e ?n); (case e => walk_at "v")))
local macro_rules | `(tactic| walk_at "new 3") => `(tactic| (refine' xs_cons (sx_new 3 (by assumption) ?e ?n); (case e => walk_at "n")))
local macro_rules | `(tactic| walk_at "lc 3") => `(tactic| (refine' xs_cons (sx_setLcA 3 ?nd ?ok ?hi (fun p hp _ _ _ _ _ => ?hg) (fun p hp _ _ _ _ _ => ?ht) (fun p hp hk _ _ _ _ _ => ?he) ?hw ?sw ?n); (case nd => assumption); (case ok => kernel_rfl); (case hi => walk_at "iq"); (case hg => walk_at "g"); (case hw => kernel_rfl); (case ht => walk_at "ts"); (case he => walk_at "v"); (case sw => rfl)))
local macro_rules | `(tactic| walk_at "set 4") => `(tactic| (refine' xs_cons (sx_set 4 (by assumption) ?e ?n); (case e => walk_at "v")))
local macro_rules | `(tactic| walk_at "new 4") => `(tactic| (refine' xs_cons (sx_new 4 (by assumption) ?e ?n); (case e => walk_at "n")))
local macro_rules | `(tactic| walk_at "lc 4") => `(tactic| (refine' xs_cons (sx_setLcA 4 ?nd ?ok ?hi (fun p hp _ _ _ _ _ => ?hg) (fun p hp _ _ _ _ _ => ?ht) (fun p hp hk _ _ _ _ _ => ?he) ?hw ?sw ?n); (case nd => assumption); (case ok => kernel_rfl); (case hi => walk_at "iq"); (case hg => walk_at "g"); (case hw => kernel_rfl); (case ht => walk_at "ts"); (case he => walk_at "v"); (case sw => rfl)))
local macro_rules | `(tactic| walk_at "set 5") => `(tactic| (refine' xs_cons (sx_set 5 (by assumption) ?e ?n); (case e => walk_at "v")))
local macro_rules | `(tactic| walk_at "new 5") => `(tactic| (refine' xs_cons (sx_new 5 (by assumption) ?e ?n); (case e => walk_at "n")))
local macro_rules | `(tactic| walk_at "lc 5") => `(tactic| (refine' xs_cons (sx_setLcA 5 ?nd ?ok ?hi (fun p hp _ _ _ _ _ => ?hg) (fun p hp _ _ _ _ _ => ?ht) (fun p hp hk _ _ _ _ _ => ?he) ?hw ?sw ?n); (case nd => assumption); (case ok => kernel_rfl); (case hi => walk_at "iq"); (case hg => walk_at "g"); (case hw => kernel_rfl); (case ht => walk_at "ts"); (case he => walk_at "v"); (case sw => rfl)))
local macro_rules | `(tactic| walk_at "set 6") => `(tactic| (refine' xs_cons (sx_set 6 (by assumption) ?e ?n); (case e => walk_at "v")))
local macro_rules | `(tactic| walk_at "new 6") => `(tactic| (refine' xs_cons (sx_new 6 (by assumption) ?e ?n); (case e => walk_at "n")))
local macro_rules | `(tactic| walk_at "lc 6") => `(tactic| (refine' xs_cons (sx_setLcA 6 ?nd ?ok ?hi (fun p hp _ _ _ _ _ => ?hg) (fun p hp _ _ _ _ _ => ?ht) (fun p hp hk _ _ _ _ _ => ?he) ?hw ?sw ?n); (case nd => assumption); (case ok => kernel_rfl); (case hi => walk_at "iq"); (case hg => walk_at "g"); (case hw => kernel_rfl); (case ht => walk_at "ts"); (case he => walk_at "v"); (case sw => rfl)))
local macro_rules | `(tactic| walk_at "set 7") => `(tactic| (refine' xs_cons (sx_set 7 (by assumption) ?e ?n); (case e => walk_at "v")))
local macro_rules | `(tactic| walk_at "new 7") => `(tactic| (refine' xs_cons (sx_new 7 (by assumption) ?e ?n); (case e => walk_at "n")))
local macro_rules | `(tactic| walk_at "lc 7") => `(tactic| (refine' xs_cons (sx_setLcA 7 ?nd ?ok ?hi (fun p hp _ _ _ _ _ => ?hg) (fun p hp _ _ _ _ _ => ?ht) (fun p hp hk _ _ _ _ _ => ?he) ?hw ?sw ?n); (case nd => assumption); (case ok => kernel_rfl); (case hi => walk_at "iq"); (case hg => walk_at "g"); (case hw => kernel_rfl); (case ht => walk_at "ts"); (case he => walk_at "v"); (case sw => rfl)))
local macro_rules | `(tactic| walk_at "set 8") => `(tactic| (refine' xs_cons (sx_set 8 (by assumption) ?e ?n); (case e => walk_at "v")))
local macro_rules | `(tactic| walk_at "new 8") => `(tactic| (refine' xs_cons (sx_new 8 (by assumption) ?e ?n); (case e => walk_at "n")))
local macro_rules | `(tactic| walk_at "lc 8") => `(tactic| (refine' xs_cons (sx_setLcA 8 ?nd ?ok ?hi (fun p hp _ _ _ _ _ => ?hg) (fun p hp _ _ _ _ _ => ?ht) (fun p hp hk _ _ _ _ _ => ?he) ?hw ?sw ?n); (case nd => assumption); (case ok => kernel_rfl); (case hi => walk_at "iq"); (case hg => walk_at "g"); (case hw => kernel_rfl); (case ht => walk_at "ts"); (case he => walk_at "v"); (case sw => rfl)))
local macro_rules | `(tactic| walk_at "set 9") => `(tactic| (refine' xs_cons (sx_set 9 (by assumption) ?e ?n); (case e => walk_at "v")))
local macro_rules | `(tactic| walk_at "new 9") => `(tactic| (refine' xs_cons (sx_new 9 (by assumption) ?e ?n); (case e => walk_at "n")))
local macro_rules | `(tactic| walk_at "lc 9") => `(tactic| (refine' xs_cons (sx_setLcA 9 ?nd ?ok ?hi (fun p hp _ _ _ _ _ => ?hg) (fun p hp _ _ _ _ _ => ?ht) (fun p hp hk _ _ _ _ _ => ?he) ?hw ?sw ?n); (case nd => assumption); (case ok => kernel_rfl); (case hi => walk_at "iq"); (case hg => walk_at "g"); (case hw => kernel_rfl); (case ht => walk_at "ts"); (case he => walk_at "v"); (case sw => rfl)))
local macro_rules | `(tactic| walk_at "set 10") => `(tactic| (refine' xs_cons (sx_set 10 (by assumption) ?e ?n); (case e => walk_at "v")))
local macro_rules | `(tactic| walk_at "new 10") => `(tactic| (refine' xs_cons (sx_new 10 (by assumption) ?e ?n); (case e => walk_at "n")))
local macro_rules | `(tactic| walk_at "lc 10") => `(tactic| (refine' xs_cons (sx_setLcA 10 ?nd ?ok ?hi (fun p hp _ _ _ _ _ => ?hg) (fun p hp _ _ _ _ _ => ?ht) (fun p hp hk _ _ _ _ _ => ?he) ?hw ?sw ?n); (case nd => assumption); (case ok => kernel_rfl); (case hi => walk_at "iq"); (case hg => walk_at "g"); (case hw => kernel_rfl); (case ht => walk_at "ts"); (case he => walk_at "v"); (case sw => rfl)))
local macro_rules | `(tactic| walk_at "set 11") => `(tactic| (refine' xs_cons (sx_set 11 (by assumption) ?e ?n); (case e => walk_at "v")))
local macro_rules | `(tactic| walk_at "new 11") => `(tactic| (refine' xs_cons (sx_new 11 (by assumption) ?e ?n); (case e => walk_at "n")))
local macro_rules | `(tactic| walk_at "lc 11") => `(tactic| (refine' xs_cons (sx_setLcA 11 ?nd ?ok ?hi (fun p hp _ _ _ _ _ => ?hg) (fun p hp _ _ _ _ _ => ?ht) (fun p hp hk _ _ _ _ _ => ?he) ?hw ?sw ?n); (case nd => assumption); (case ok => kernel_rfl); (case hi => walk_at "iq"); (case hg => walk_at "g"); (case hw => kernel_rfl); (case ht => walk_at "ts"); (case he => walk_at "v"); (case sw => rfl)))
local macro_rules | `(tactic| walk_at "set 12") => `(tactic| (refine' xs_cons (sx_set 12 (by assumption) ?e ?n); (case e => walk_at "v")))
local macro_rules | `(tactic| walk_at "new 12") => `(tactic| (refine' xs_cons (sx_new 12 (by assumption) ?e ?n); (case e => walk_at "n")))
local macro_rules | `(tactic| walk_at "lc 12") => `(tactic| (refine' xs_cons (sx_setLcA 12 ?nd ?ok ?hi (fun p hp _ _ _ _ _ => ?hg) (fun p hp _ _ _ _ _ => ?ht) (fun p hp hk _ _ _ _ _ => ?he) ?hw ?sw ?n); (case nd => assumption); (case ok => kernel_rfl); (case hi => walk_at "iq"); (case hg => walk_at "g"); (case hw => kernel_rfl); (case ht => walk_at "ts"); (case he => walk_at "v"); (case sw => rfl)))
local macro_rules | `(tactic| walk_at "set 13") => `(tactic| (refine' xs_cons (sx_set 13 (by assumption) ?e ?n); (case e => walk_at "v")))
local macro_rules | `(tactic| walk_at "new 13") => `(tactic| (refine' xs_cons (sx_new 13 (by assumption) ?e ?n); (case e => walk_at "n")))
local macro_rules | `(tactic| walk_at "lc 13") => `(tactic| (refine' xs_cons (sx_setLcA 13 ?nd ?ok ?hi (fun p hp _ _ _ _ _ => ?hg) (fun p hp _ _ _ _ _ => ?ht) (fun p hp hk _ _ _ _ _ => ?he) ?hw ?sw ?n); (case nd => assumption); (case ok => kernel_rfl); (case hi => walk_at "iq"); (case hg => walk_at "g"); (case hw => kernel_rfl); (case ht => walk_at "ts"); (case he => walk_at "v"); (case sw => rfl)))
local macro_rules | `(tactic| walk_at "set 14") => `(tactic| (refine' xs_cons (sx_set 14 (by assumption) ?e ?n); (case e => walk_at "v")))
local macro_rules | `(tactic| walk_at "new 14") => `(tactic| (refine' xs_cons (sx_new 14 (by assumption) ?e ?n); (case e => walk_at "n")))
local macro_rules | `(tactic| walk_at "lc 14") => `(tactic| (refine' xs_cons (sx_setLcA 14 ?nd ?ok ?hi (fun p hp _ _ _ _ _ => ?hg) (fun p hp _ _ _ _ _ => ?ht) (fun p hp hk _ _ _ _ _ => ?he) ?hw ?sw ?n); (case nd => assumption); (case ok => kernel_rfl); (case hi => walk_at "iq"); (case hg => walk_at "g"); (case hw => kernel_rfl); (case ht => walk_at "ts"); (case he => walk_at "v"); (case sw => rfl)))
local macro_rules | `(tactic| walk_at "set 15") => `(tactic| (refine' xs_cons (sx_set 15 (by assumption) ?e ?n); (case e => walk_at "v")))
local macro_rules | `(tactic| walk_at "new 15") => `(tactic| (refine' xs_cons (sx_new 15 (by assumption) ?e ?n); (case e => walk_at "n")))
local macro_rules | `(tactic| walk_at "lc 15") => `(tactic| (refine' xs_cons (sx_setLcA 15 ?nd ?ok ?hi (fun p hp _ _ _ _ _ => ?hg) (fun p hp _ _ _ _ _ => ?ht) (fun p hp hk _ _ _ _ _ => ?he) ?hw ?sw ?n); (case nd => assumption); (case ok => kernel_rfl); (case hi => walk_at "iq"); (case hg => walk_at "g"); (case hw => kernel_rfl); (case ht => walk_at "ts"); (case he => walk_at "v"); (case sw => rfl)))
local macro_rules | `(tactic| walk_at "set 16") => `(tactic| (refine' xs_cons (sx_set 16 (by assumption) ?e ?n); (case e => walk_at "v")))
local macro_rules | `(tactic| walk_at "new 16") => `(tactic| (refine' xs_cons (sx_new 16 (by assumption) ?e ?n); (case e => walk_at "n")))
local macro_rules | `(tactic| walk_at "lc 16") => `(tactic| (refine' xs_cons (sx_setLcA 16 ?nd ?ok ?hi (fun p hp _ _ _ _ _ => ?hg) (fun p hp _ _ _ _ _ => ?ht) (fun p hp hk _ _ _ _ _ => ?he) ?hw ?sw ?n); (case nd => assumption); (case ok => kernel_rfl); (case hi => walk_at "iq"); (case hg => walk_at "g"); (case hw => kernel_rfl); (case ht => walk_at "ts"); (case he => walk_at "v"); (case sw => rfl)))
local macro_rules | `(tactic| walk_at "set 17") => `(tactic| (refine' xs_cons (sx_set 17 (by assumption) ?e ?n); (case e => walk_at "v")))
local macro_rules | `(tactic| walk_at "new 17") => `(tactic| (refine' xs_cons (sx_new 17 (by assumption) ?e ?n); (case e => walk_at "n")))
local macro_rules | `(tactic| walk_at "lc 17") => `(tactic| (refine' xs_cons (sx_setLcA 17 ?nd ?ok ?hi (fun p hp _ _ _ _ _ => ?hg) (fun p hp _ _ _ _ _ => ?ht) (fun p hp hk _ _ _ _ _ => ?he) ?hw ?sw ?n); (case nd => assumption); (case ok => kernel_rfl); (case hi => walk_at "iq"); (case hg => walk_at "g"); (case hw => kernel_rfl); (case ht => walk_at "ts"); (case he => walk_at "v"); (case sw => rfl)))
local macro_rules | `(tactic| walk_at "set 18") => `(tactic| (refine' xs_cons (sx_set 18 (by assumption) ?e ?n); (case e => walk_at "v")))
local macro_rules | `(tactic| walk_at "new 18") => `(tactic| (refine' xs_cons (sx_new 18 (by assumption) ?e ?n); (case e => walk_at "n")))
local macro_rules | `(tactic| walk_at "lc 18") => `(tactic| (refine' xs_cons (sx_setLcA 18 ?nd ?ok ?hi (fun p hp _ _ _ _ _ => ?hg) (fun p hp _ _ _ _ _ => ?ht) (fun p hp hk _ _ _ _ _ => ?he) ?hw ?sw ?n); (case nd => assumption); (case ok => kernel_rfl); (case hi => walk_at "iq"); (case hg => walk_at "g"); (case hw => kernel_rfl); (case ht => walk_at "ts"); (case he => walk_at "v"); (case sw => rfl)))
local macro_rules | `(tactic| walk_at "set 19") => `(tactic| (refine' xs_cons (sx_set 19 (by assumption) ?e ?n); (case e => walk_at "v")))
local macro_rules | `(tactic| walk_at "new 19") => `(tactic| (refine' xs_cons (sx_new 19 (by assumption) ?e ?n); (case e => walk_at "n")))
local macro_rules | `(tactic| walk_at "lc 19") => `(tactic| (refine' xs_cons (sx_setLcA 19 ?nd ?ok ?hi (fun p hp _ _ _ _ _ => ?hg) (fun p hp _ _ _ _ _ => ?ht) (fun p hp hk _ _ _ _ _ => ?he) ?hw ?sw ?n); (case nd => assumption); (case ok => kernel_rfl); (case hi => walk_at "iq"); (case hg => walk_at "g"); (case hw => kernel_rfl); (case ht => walk_at "ts"); (case he => walk_at "v"); (case sw => rfl)))
def top (i : Nat) : Stmt := PySem.Challenge.pw_parthost_k10_who_stands.main.body.getD i (.Pass ⟨0, 0, 0, 0⟩)
abbrev FnP (K : PySem.W.Frag) (x : Str) (st : Stmt) (f : Addr) (fd : FuncData) : Prop := FunD K x x (defArgs st) (defBody st) (defScope st) [] [] f fd
/-- what the top has left -/
structure Facts (K : PySem.W.Frag) (mg : Str → Option Value) where
  f__law_drawn : Addr
  fd__law_drawn : FuncData
  F__law_drawn : FnP K "_law_drawn" (top 13) f__law_drawn fd__law_drawn
  m__law_drawn : mg "_law_drawn" = some (.ref f__law_drawn)
  b__law_drawn : Binds K fd__law_drawn ["number", "k"] []
  f__law_part : Addr
  fd__law_part : FuncData
  F__law_part : FnP K "_law_part" (top 14) f__law_part fd__law_part
  m__law_part : mg "_law_part" = some (.ref f__law_part)
  b__law_part : Binds K fd__law_part ["number", "name"] []
  f__law_house : Addr
  fd__law_house : FuncData
  F__law_house : FnP K "_law_house" (top 15) f__law_house fd__law_house
  m__law_house : mg "_law_house" = some (.ref f__law_house)
  b__law_house : Binds K fd__law_house ["number"] []
  f__law_give : Addr
  fd__law_give : FuncData
  F__law_give : FnP K "_law_give" (top 16) f__law_give fd__law_give
  m__law_give : mg "_law_give" = some (.ref f__law_give)
  b__law_give : Binds K fd__law_give ["part", "want"] []
  f__law_stand : Addr
  fd__law_stand : FuncData
  F__law_stand : FnP K "_law_stand" (top 17) f__law_stand fd__law_stand
  m__law_stand : mg "_law_stand" = some (.ref f__law_stand)
  b__law_stand : Binds K fd__law_stand ["house"] []
  f__law_cell_at : Addr
  fd__law_cell_at : FuncData
  F__law_cell_at : FnP K "_law_cell_at" (top 11) f__law_cell_at fd__law_cell_at
  m__law_cell_at : mg "_law_cell_at" = some (.ref f__law_cell_at)
  b__law_cell_at : Binds K fd__law_cell_at ["script", "k"] []
  f__law_mixed : Addr
  fd__law_mixed : FuncData
  F__law_mixed : FnP K "_law_mixed" (top 12) f__law_mixed fd__law_mixed
  m__law_mixed : mg "_law_mixed" = some (.ref f__law_mixed)
  b__law_mixed : Binds K fd__law_mixed ["script", "k"] []
  f_make_of : Addr
  fd_make_of : FuncData
  F_make_of : FnP K "make_of" (top 1) f_make_of fd_make_of
  m_make_of : mg "make_of" = some (.ref f_make_of)
  b_make_of : Binds K fd_make_of ["part", "face"] []
  f_gives : Addr
  fd_gives : FuncData
  F_gives : FnP K "gives" (top 2) f_gives fd_gives
  m_gives : mg "gives" = some (.ref f_gives)
  b_gives : Binds K fd_gives ["part", "want"] []
  f_givers_for : Addr
  fd_givers_for : FuncData
  F_givers_for : FnP K "givers_for" (top 3) f_givers_for fd_givers_for
  m_givers_for : mg "givers_for" = some (.ref f_givers_for)
  b_givers_for : Binds K fd_givers_for ["parts", "name", "want"] []
  f_lacks : Addr
  fd_lacks : FuncData
  F_lacks : FnP K "lacks" (top 4) f_lacks fd_lacks
  m_lacks : mg "lacks" = some (.ref f_lacks)
  b_lacks : Binds K fd_lacks ["parts", "part"] []
  f_standing_parts : Addr
  fd_standing_parts : FuncData
  F_standing_parts : FnP K "standing_parts" (top 5) f_standing_parts fd_standing_parts
  m_standing_parts : mg "standing_parts" = some (.ref f_standing_parts)
  b_standing_parts : Binds K fd_standing_parts ["house"] []
  f_standing : Addr
  fd_standing : FuncData
  F_standing : FnP K "standing" (top 6) f_standing fd_standing
  m_standing : mg "standing" = some (.ref f_standing)
  b_standing : Binds K fd_standing ["house"] []
  f_lacking : Addr
  fd_lacking : FuncData
  F_lacking : FnP K "lacking" (top 7) f_lacking fd_lacking
  m_lacking : mg "lacking" = some (.ref f_lacking)
  b_lacking : Binds K fd_lacking ["house"] []
  f__law_giver : Addr
  fd__law_giver : FuncData
  F__law_giver : FnP K "_law_giver" (top 18) f__law_giver fd__law_giver
  m__law_giver : mg "_law_giver" = some (.ref f__law_giver)
  b__law_giver : Binds K fd__law_giver ["parts", "name", "want"] []
  f_giver_among : Addr
  fd_giver_among : FuncData
  F_giver_among : FnP K "giver_among" (top 8) f_giver_among fd_giver_among
  m_giver_among : mg "giver_among" = some (.ref f_giver_among)
  b_giver_among : Binds K fd_giver_among ["parts", "name", "want"] []
  f_giver : Addr
  fd_giver : FuncData
  F_giver : FnP K "giver" (top 9) f_giver fd_giver
  m_giver : mg "giver" = some (.ref f_giver)
  b_giver : Binds K fd_giver ["house", "name", "face"] []
  f_law : Addr
  fd_law : FuncData
  F_law : FnP K "law" (top 21) f_law fd_law
  m_law : mg "law" = some (.ref f_law)
  b_law : Binds K fd_law ["script"] []
  n_enumerate : mg "enumerate" = none
  n_range : mg "range" = none
  n_min : mg "min" = none
  n_int : mg "int" = none
  n_list : mg "list" = none
  n_len : mg "len" = none
  n_dict : mg "dict" = none
  n_tuple : mg "tuple" = none
  n_sorted : mg "sorted" = none
section
variable {P : Program} {w : World} {K : PySem.W.Frag} {mg : Str → Option Value} {base : Heap}
theorem sc__law_drawn : FnScope ["number", "k", "drawn"] ["number", "k"] (defScope (top 13)) := ⟨rfl, rfl, rfl, by decide +kernel, rfl, by decide +kernel, by decide +kernel⟩

-- slots 0:number 1:k 2:drawn
abbrev g__law_drawn : List D → D → Prop := fun ds d => ∃ n k : Int, ds = [.int n, .int k] ∧ d = .int (drawn n k)
set_option maxHeartbeats 8000000 in
theorem ok__law_drawn (T : Facts K mg) : FnD P w K mg base 1 T.f__law_drawn T.fd__law_drawn ["number", "k"] g__law_drawn := by
  refine fn_d T.F__law_drawn sc__law_drawn (fun ds d h => by first | (obtain ⟨_, rfl, _⟩ := h; rfl) | (obtain ⟨_, _, rfl, _⟩ := h; rfl) | (obtain ⟨_, _, _, rfl, _⟩ := h; rfl) | (obtain ⟨_, _, _, _, rfl, _⟩ := h; rfl) | (obtain ⟨_, _, _, _, _, rfl, _⟩ := h; rfl) | (obtain ⟨_, _, _, _, _, _, rfl, _⟩ := h; rfl)) (fun cdv A outer s H E ds d hr h => ?_)
  have nd := sc__law_drawn.nd
  have s_number : Sl ["number", "k", "drawn"] "number" 0 := ⟨rfl, by decide, by decide⟩
  have s_k : Sl ["number", "k", "drawn"] "k" 1 := ⟨rfl, by decide, by decide⟩
  have s_drawn : Sl ["number", "k", "drawn"] "drawn" 2 := ⟨rfl, by decide, by decide⟩
  obtain ⟨n, k, rfl, rfl⟩ := h
  have b := drawn0_b n k
  refine' xs_cons (sx_set 2 nd (d := .int (drawn0 n k)) ?e ?n)
  case e => walk_at "v"
  case n =>
    refine' xs_one (sx_ret (d := .int (drawn n k)) ?v rfl)
    case v => walk_at "v"
theorem sc__law_part : FnScope ["number", "name", "faces", "wants", "hooks", "k", "face", "drawn", "low", "want", "words", "word", "deed", "hook"] ["number", "name"] (defScope (top 14)) := ⟨rfl, rfl, rfl, by decide +kernel, rfl, by decide +kernel, by decide +kernel⟩

-- slots 0:number 1:name 2:faces 3:wants 4:hooks 5:k 6:face 7:drawn 8:low 9:want 10:words 11:word 12:deed 13:hook
abbrev g__law_part : List D → D → Prop := fun ds d => ∃ (n : Int) (nm : Str), ds = [.int n, .str nm] ∧ d = encP (partOf n nm)
set_option maxHeartbeats 8000000 in
theorem ok__law_part (T : Facts K mg) : FnD P w K mg base 2 T.f__law_part T.fd__law_part ["number", "name"] g__law_part := by
  refine fn_d T.F__law_part sc__law_part (fun ds d h => by first | (obtain ⟨_, rfl, _⟩ := h; rfl) | (obtain ⟨_, _, rfl, _⟩ := h; rfl) | (obtain ⟨_, _, _, rfl, _⟩ := h; rfl) | (obtain ⟨_, _, _, _, rfl, _⟩ := h; rfl) | (obtain ⟨_, _, _, _, _, rfl, _⟩ := h; rfl) | (obtain ⟨_, _, _, _, _, _, rfl, _⟩ := h; rfl)) (fun cdv A outer s H E ds d hr h => ?_)
  have nd := sc__law_part.nd
  have s_number : Sl ["number", "name", "faces", "wants", "hooks", "k", "face", "drawn", "low", "want", "words", "word", "deed", "hook"] "number" 0 := ⟨rfl, by decide, by decide⟩
  have s_name : Sl ["number", "name", "faces", "wants", "hooks", "k", "face", "drawn", "low", "want", "words", "word", "deed", "hook"] "name" 1 := ⟨rfl, by decide, by decide⟩
  have s_faces : Sl ["number", "name", "faces", "wants", "hooks", "k", "face", "drawn", "low", "want", "words", "word", "deed", "hook"] "faces" 2 := ⟨rfl, by decide, by decide⟩
  have s_wants : Sl ["number", "name", "faces", "wants", "hooks", "k", "face", "drawn", "low", "want", "words", "word", "deed", "hook"] "wants" 3 := ⟨rfl, by decide, by decide⟩
  have s_hooks : Sl ["number", "name", "faces", "wants", "hooks", "k", "face", "drawn", "low", "want", "words", "word", "deed", "hook"] "hooks" 4 := ⟨rfl, by decide, by decide⟩
  have s_k : Sl ["number", "name", "faces", "wants", "hooks", "k", "face", "drawn", "low", "want", "words", "word", "deed", "hook"] "k" 5 := ⟨rfl, by decide, by decide⟩
  have s_face : Sl ["number", "name", "faces", "wants", "hooks", "k", "face", "drawn", "low", "want", "words", "word", "deed", "hook"] "face" 6 := ⟨rfl, by decide, by decide⟩
  have s_drawn : Sl ["number", "name", "faces", "wants", "hooks", "k", "face", "drawn", "low", "want", "words", "word", "deed", "hook"] "drawn" 7 := ⟨rfl, by decide, by decide⟩
  have s_low : Sl ["number", "name", "faces", "wants", "hooks", "k", "face", "drawn", "low", "want", "words", "word", "deed", "hook"] "low" 8 := ⟨rfl, by decide, by decide⟩
  have s_want : Sl ["number", "name", "faces", "wants", "hooks", "k", "face", "drawn", "low", "want", "words", "word", "deed", "hook"] "want" 9 := ⟨rfl, by decide, by decide⟩
  have s_words : Sl ["number", "name", "faces", "wants", "hooks", "k", "face", "drawn", "low", "want", "words", "word", "deed", "hook"] "words" 10 := ⟨rfl, by decide, by decide⟩
  have s_word : Sl ["number", "name", "faces", "wants", "hooks", "k", "face", "drawn", "low", "want", "words", "word", "deed", "hook"] "word" 11 := ⟨rfl, by decide, by decide⟩
  have s_deed : Sl ["number", "name", "faces", "wants", "hooks", "k", "face", "drawn", "low", "want", "words", "word", "deed", "hook"] "deed" 12 := ⟨rfl, by decide, by decide⟩
  have s_hook : Sl ["number", "name", "faces", "wants", "hooks", "k", "face", "drawn", "low", "want", "words", "word", "deed", "hook"] "hook" 13 := ⟨rfl, by decide, by decide⟩
  have c__law_drawn : Cl P w K mg base "_law_drawn" 1 g__law_drawn := ⟨_, _, _, ok__law_drawn T, T.m__law_drawn, T.F__law_drawn.kp, T.b__law_drawn⟩
  have n_enumerate : Nb mg "enumerate" (.type "enumerate") := ⟨T.n_enumerate, by decide +kernel, by decide, by decide⟩
  have n_range : Nb mg "range" (.type "range") := ⟨T.n_range, by decide +kernel, by decide, by decide⟩
  have n_min : Nb mg "min" (.builtin "min") := ⟨T.n_min, by decide +kernel, by decide, by decide⟩
  have n_int : Nb mg "int" (.type "int") := ⟨T.n_int, by decide +kernel, by decide, by decide⟩
  obtain ⟨n, nm, rfl, rfl⟩ := h
  refine' xs_cons (sx_set 2 nd (d := .tuple []) ?e1 ?n1)
  case e1 => walk_at "v"
  case n1 =>
  refine' xs_cons (sx_set 3 nd (d := .tuple []) ?e2 ?n2)
  case e2 => walk_at "v"
  case n2 =>
  refine' xs_cons (sx_set 4 nd (d := .tuple []) ?e3 ?n3)
  case e3 => walk_at "v"
  case n3 =>
  refine' xs_cons (sx_forS (yl := true) [((0 : Nat), ("f" : Str)), (1, "g"), (2, "h")] (fun q => .tuple [.int (q.1 : Nat), .str q.2]) (fun b : List D × List D => [.val (.int n), .val (.str nm), .val (.tuple b.1), .val (.tuple b.2), .val (.tuple []), .un, .un, .un, .un, .un, .un, .un, .un, .un])
    (fun l b => b.1 ++ l.flatMap (fun q => (faceOf n (q.1 : Nat) q.2).map encF) = (facesOf n).map encF ∧ b.2 ++ l.flatMap (fun q => (wantOf n (q.1 : Nat) q.2).map encW) = (wantsOf n).map encW) ([], []) ?it ?h0 ?st ?dn)
  case it => exact ei_enumT (xs := [.str "f", .str "g", .str "h"]) n_enumerate.h (by walk_at "v")
  case h0 =>
    refine ⟨?_, ?_⟩
    · simp [facesOf]
    · simp [wantsOf]
  case st =>
    rintro ⟨j, f⟩ rest ⟨fsD, wsD⟩ ⟨h1, h2⟩
    have l1 : fsD.length ≤ 9 := by
      have := congrArg List.length h1
      simp only [List.length_append, List.length_map] at this
      have := facesOf_len n
      omega
    have l2 : wsD.length ≤ 9 := by
      have := congrArg List.length h2
      simp only [List.length_append, List.length_map] at this
      have := wantsOf_len n
      omega
    simp only [List.flatMap_cons] at h1 h2
    refine' ⟨_, _, ?g, ?b⟩
    case g => walk_at "g"
    case b =>
    refine' xs_cons (sx_set 7 nd (d := .int (drawn n j / 4)) ?e4 ?n4)
    case e4 => walk_at "v"
    case n4 =>
    refine' xs_cons (sx_ifS (t := decide (drawn n j / 4 % 3 = 0)) (fun b : List D => [.val (.int n), .val (.str nm), .val (.tuple b), .val (.tuple wsD), .val (.tuple []), .val (.int (j : Nat)), .val (.str f), .val (.int (drawn n j / 4)), .un, .un, .un, .un, .un, .un])
      (fun b => b ++ rest.flatMap (fun q => (faceOf n (q.1 : Nat) q.2).map encF) = (facesOf n).map encF) ?c5 ?y5 ?n5 ?k5)
    case c5 =>
      refine' EvT.cast (b := PyData.eqv (.int (drawn n j / 4 % 3)) (.int 0)) ?t5 ?z5
      case t5 => walk_at "t"
      case z5 => exact eqv_int _ _
    case y5 =>
      intro e
      have e := of_decide_eq_true e
      refine' xs_one (sx_set 2 nd (d := .tuple (fsD ++ [encF (f, 1 + drawn n j / 4 / 4 % 4)])) ?e6 ⟨_, ?r6, ?l6⟩)
      case e6 => walk_at "v"
      case l6 => walk_at "le"
      case r6 =>
        rw [show faceOf n (j : Nat) f = [(f, 1 + drawn n j / 4 / 4 % 4)] from if_pos e] at h1
        rw [List.append_assoc]; exact h1
    case n5 =>
      intro e
      have e := of_decide_eq_false e
      refine' xs_nil ⟨fsD, ?r7, ?l7⟩
      case l7 => walk_at "le"
      case r7 =>
        rw [show faceOf n (j : Nat) f = [] from if_neg e] at h1
        exact h1
    case k5 =>
    intro b5 hb5
    refine' xs_one (sx_if (t := decide (drawn n j / 4 % 4 = 1)) ?c8 ?y8 ?n8)
    case c8 =>
      refine' EvT.cast (b := PyData.eqv (.int (drawn n j / 4 % 4)) (.int 1)) ?t8 ?z8
      case t8 => walk_at "t"
      case z8 => exact eqv_int _ _
    case y8 =>
      intro e
      have e := of_decide_eq_true e
      refine' xs_cons (sx_set 8 nd (d := .int (1 + drawn n j / 4 / 4 % 3)) ?e9 ?n9)
      case e9 => walk_at "v"
      case n9 =>
      refine' xs_cons (sx_set 9 nd (d := encW ⟨f, 1 + drawn n j / 4 / 4 % 3, (if 1 + drawn n j / 4 / 4 % 3 + drawn n j / 4 / 16 % 4 < 9 then 1 + drawn n j / 4 / 4 % 3 + drawn n j / 4 / 16 % 4 else 9), decide (0 < drawn n j / 4 / 64 % 3)⟩) ?e10 ?n10)
      case e10 => walk_at "v"
      case n10 =>
      refine' xs_one (sx_set 3 nd (d := .tuple (wsD ++ [encW _])) ?e11 ⟨(b5, _), ⟨hb5, ?r11⟩, ?l11⟩)
      case e11 => walk_at "v"
      case l11 => walk_at "le"
      case r11 =>
        rw [show wantOf n (j : Nat) f = [_] from if_pos e] at h2
        rw [List.append_assoc]; exact h2
    case n8 =>
      intro e
      have e := of_decide_eq_false e
      refine' xs_nil ⟨(b5, wsD), ⟨hb5, ?r12⟩, ?l12⟩
      case l12 => walk_at "le"
      case r12 =>
        rw [show wantOf n (j : Nat) f = [] from if_neg e] at h2
        exact h2
  case dn =>
  rintro ⟨fsD, wsD⟩ ⟨h1, h2⟩
  simp only [List.flatMap_nil, List.append_nil] at h1 h2
  subst h1 h2
  refine' xs_cons (sx_forS (yl := false) (List.range (n % 4).toNat) (fun k : Nat => .int ((k : Nat) : Int)) (fun b : List D => [.val (.int n), .val (.str nm), .val (.tuple ((facesOf n).map encF)), .val (.tuple ((wantsOf n).map encW)), .val (.tuple b), .un, .un, .un, .un, .un, .un, .un, .un, .un])
    (fun l b => b ++ l.map (fun k => encK (hookOf n ((k : Nat) : Int))) = (hooksOf n).map encK) [] ?it2 ?h02 ?st2 ?dn2)
  case it2 => walk_at "i"
  case h02 => simp [hooksOf]
  case st2 =>
    intro j rest b h
    have lb : b.length ≤ 9 := by
      have := congrArg List.length h
      simp only [List.length_append, List.length_map] at this
      have := hooksOf_len n
      omega
    rw [List.map_cons] at h
    refine' ⟨_, _, ?g, ?b⟩
    case g => walk_at "g"
    case b =>
    refine' xs_cons (sx_set 7 nd (d := .int (drawn n (10 + j) / 4)) ?e20 ?n20)
    case e20 => walk_at "v"
    case n20 =>
    refine' xs_cons (sx_set 10 nd ?e21 ?n21)
    case e21 => walk_at "v"
    case n21 =>
    refine' xs_cons (sx_set 11 nd (d := .str (wordOf (drawn n (10 + j) / 4))) ?e22 ?n22)
    case e22 => walk_at "v"
    case n22 =>
    refine' xs_cons (sx_set 12 nd (d := encDeed (hookOf n j)) (Ev.cast ?e23 ?z23) ?n23)
    case e23 => walk_at "v"
    case z23 =>
      unfold encDeed hookOf
      simp only [eqv_str]
      by_cases hw : wordOf (drawn n (10 + j) / 4) = "stop"
      · simp [hw]
      · simp [hw, worthOf]
    case n23 =>
    refine' xs_cons (sx_set 13 nd (d := .str (hookNm (drawn n (10 + j) / 4))) ?e24 ?n24)
    case e24 => walk_at "v"
    case n24 =>
    refine' xs_one (sx_set 4 nd (d := .tuple (b ++ [encK (hookOf n j)])) ?e25 ⟨_, ?r25, ?l25⟩)
    case e25 => walk_at "v"
    case l25 => walk_at "le"
    case r25 => rw [List.append_assoc]; exact h
  case dn2 =>
    intro b h
    simp only [List.map_nil, List.append_nil] at h
    subst h
    refine' xs_one (sx_ret (Ev.cast ?v30 ?z30) rfl)
    case v30 => walk_at "v"
    case z30 =>
      show _ = Kd.val (encP (partOf n nm))
      unfold encP partOf
      simp only [List.map_drop]
      have e : (n / 64 % 2) = (((n / 64 % 2).toNat : Nat) : Int) := by omega
      rw [e, cut_from, ← e]
theorem sc__law_house : FnScope ["number", "found", "k", "name", "drawn"] ["number"] (defScope (top 15)) := ⟨rfl, rfl, rfl, by decide +kernel, rfl, by decide +kernel, by decide +kernel⟩

-- slots 0:number 1:found 2:k 3:name 4:drawn
abbrev g__law_house : List D → D → Prop := fun ds d => ∃ n : Int, ds = [.int n] ∧ d = encH (houseOf n)
set_option maxHeartbeats 8000000 in
theorem ok__law_house (T : Facts K mg) : FnD P w K mg base 3 T.f__law_house T.fd__law_house ["number"] g__law_house := by
  refine fn_d T.F__law_house sc__law_house (fun ds d h => by first | (obtain ⟨_, rfl, _⟩ := h; rfl) | (obtain ⟨_, _, rfl, _⟩ := h; rfl) | (obtain ⟨_, _, _, rfl, _⟩ := h; rfl) | (obtain ⟨_, _, _, _, rfl, _⟩ := h; rfl) | (obtain ⟨_, _, _, _, _, rfl, _⟩ := h; rfl) | (obtain ⟨_, _, _, _, _, _, rfl, _⟩ := h; rfl)) (fun cdv A outer s H E ds d hr h => ?_)
  have nd := sc__law_house.nd
  have s_number : Sl ["number", "found", "k", "name", "drawn"] "number" 0 := ⟨rfl, by decide, by decide⟩
  have s_found : Sl ["number", "found", "k", "name", "drawn"] "found" 1 := ⟨rfl, by decide, by decide⟩
  have s_k : Sl ["number", "found", "k", "name", "drawn"] "k" 2 := ⟨rfl, by decide, by decide⟩
  have s_name : Sl ["number", "found", "k", "name", "drawn"] "name" 3 := ⟨rfl, by decide, by decide⟩
  have s_drawn : Sl ["number", "found", "k", "name", "drawn"] "drawn" 4 := ⟨rfl, by decide, by decide⟩
  have c__law_drawn : Cl P w K mg base "_law_drawn" 1 g__law_drawn := ⟨_, _, _, ok__law_drawn T, T.m__law_drawn, T.F__law_drawn.kp, T.b__law_drawn⟩
  have c__law_part : Cl P w K mg base "_law_part" 2 g__law_part := ⟨_, _, _, ok__law_part T, T.m__law_part, T.F__law_part.kp, T.b__law_part⟩
  have n_enumerate : Nb mg "enumerate" (.type "enumerate") := ⟨T.n_enumerate, by decide +kernel, by decide, by decide⟩
  obtain ⟨n, rfl, rfl⟩ := h
  refine' xs_cons (sx_set 1 nd (d := .tuple []) ?e1 ?n1)
  case e1 => walk_at "v"
  case n1 =>
  refine' xs_cons (sx_forS (yl := true) [((0 : Nat), ("a" : Str)), (1, "b"), (2, "c"), (3, "d"), (4, "e"), (5, "log")] (fun q => .tuple [.int (q.1 : Nat), .str q.2]) (fun b : List D => [.val (.int n), .val (.tuple b), .un, .un, .un])
    (fun l b => b ++ l.flatMap (fun q => (partAt n (q.1 : Nat) q.2).map encP) = (houseOf n).map encP) [] ?it ?h0 ?st ?dn)
  case it => exact ei_enumT (xs := [.str "a", .str "b", .str "c", .str "d", .str "e", .str "log"]) n_enumerate.h (by walk_at "v")
  case h0 => simp [houseOf]
  case st =>
    rintro ⟨j, f⟩ rest b h
    have lb : b.length ≤ 9 := by
      have := congrArg List.length h
      simp only [List.length_append, List.length_map] at this
      have := houseOf_len n
      omega
    simp only [List.flatMap_cons] at h
    refine' ⟨_, _, ?g, ?b⟩
    case g => walk_at "g"
    case b =>
    refine' xs_cons (sx_set 4 nd (d := .int (drawn n (20 + j) / 4)) ?e4 ?n4)
    case e4 => walk_at "v"
    case n4 =>
    refine' xs_one (sx_if (t := decide (n % 4 < drawn n (20 + j) / 4 % 8)) ?c5 ?y5 ?n5)
    case c5 => walk_at "t"
    case y5 =>
      intro e
      have e := of_decide_eq_true e
      refine' xs_one (sx_set 1 nd (d := .tuple (b ++ [encP (partOf (drawn n (20 + j) / 4 / 8) f)])) ?e6 ⟨_, ?r6, ?l6⟩)
      case e6 => walk_at "v"
      case l6 => walk_at "le"
      case r6 =>
        rw [show partAt n (j : Nat) f = [_] from if_pos e] at h
        rw [List.append_assoc]; exact h
    case n5 =>
      intro e
      have e := of_decide_eq_false e
      refine' xs_nil ⟨b, ?r7, ?l7⟩
      case l7 => walk_at "le"
      case r7 =>
        rw [show partAt n (j : Nat) f = [] from if_neg e] at h
        exact h
  case dn =>
    intro b h
    simp only [List.flatMap_nil, List.append_nil] at h
    subst h
    refine' xs_one (sx_ret ?v rfl)
    case v => walk_at "v"
theorem sc__law_give : FnScope ["part", "want", "face", "make"] ["part", "want"] (defScope (top 16)) := ⟨rfl, rfl, rfl, by decide +kernel, rfl, by decide +kernel, by decide +kernel⟩

-- slots 0:part 1:want 2:face 3:make
abbrev g__law_give : List D → D → Prop := fun ds d => ∃ p w, ds = [encP p, encW w] ∧ d = .bool (lawGive p w)
set_option maxHeartbeats 8000000 in
theorem ok__law_give (T : Facts K mg) : FnD P w K mg base 1 T.f__law_give T.fd__law_give ["part", "want"] g__law_give := by
  refine fn_d T.F__law_give sc__law_give (fun ds d h => by first | (obtain ⟨_, rfl, _⟩ := h; rfl) | (obtain ⟨_, _, rfl, _⟩ := h; rfl) | (obtain ⟨_, _, _, rfl, _⟩ := h; rfl) | (obtain ⟨_, _, _, _, rfl, _⟩ := h; rfl) | (obtain ⟨_, _, _, _, _, rfl, _⟩ := h; rfl) | (obtain ⟨_, _, _, _, _, _, rfl, _⟩ := h; rfl)) (fun cdv A outer s H E ds d hr h => ?_)
  have nd := sc__law_give.nd
  have s_part : Sl ["part", "want", "face", "make"] "part" 0 := ⟨rfl, by decide, by decide⟩
  have s_want : Sl ["part", "want", "face", "make"] "want" 1 := ⟨rfl, by decide, by decide⟩
  have s_face : Sl ["part", "want", "face", "make"] "face" 2 := ⟨rfl, by decide, by decide⟩
  have s_make : Sl ["part", "want", "face", "make"] "make" 3 := ⟨rfl, by decide, by decide⟩
  obtain ⟨p, w, rfl, rfl⟩ := h
  walk_at "ret"
  show _ = _
  rw [isE_map]
  rfl
theorem sc__law_stand : FnScope ["house", "parts", "turn", "kept", "part", "good", "want", "others", "one"] ["house"] (defScope (top 17)) := ⟨rfl, rfl, rfl, by decide +kernel, rfl, by decide +kernel, by decide +kernel⟩

-- slots 0:house 1:parts 2:turn 3:kept 4:part 5:good 6:want 7:others 8:one
abbrev g__law_stand : List D → D → Prop := fun ds d => ∃ h, ds = [encH h] ∧ d = .list ((lawStand h).map encP) ∧ OkH h ∧ h.length ≤ 64
set_option maxHeartbeats 8000000 in
theorem ok__law_stand (T : Facts K mg) : FnD P w K mg base 2 T.f__law_stand T.fd__law_stand ["house"] g__law_stand := by
  refine fn_d T.F__law_stand sc__law_stand (fun ds d h => by first | (obtain ⟨_, rfl, _⟩ := h; rfl) | (obtain ⟨_, _, rfl, _⟩ := h; rfl) | (obtain ⟨_, _, _, rfl, _⟩ := h; rfl) | (obtain ⟨_, _, _, _, rfl, _⟩ := h; rfl) | (obtain ⟨_, _, _, _, _, rfl, _⟩ := h; rfl) | (obtain ⟨_, _, _, _, _, _, rfl, _⟩ := h; rfl)) (fun cdv A outer s H E ds d hr h => ?_)
  have nd := sc__law_stand.nd
  have s_house : Sl ["house", "parts", "turn", "kept", "part", "good", "want", "others", "one"] "house" 0 := ⟨rfl, by decide, by decide⟩
  have s_parts : Sl ["house", "parts", "turn", "kept", "part", "good", "want", "others", "one"] "parts" 1 := ⟨rfl, by decide, by decide⟩
  have s_turn : Sl ["house", "parts", "turn", "kept", "part", "good", "want", "others", "one"] "turn" 2 := ⟨rfl, by decide, by decide⟩
  have s_kept : Sl ["house", "parts", "turn", "kept", "part", "good", "want", "others", "one"] "kept" 3 := ⟨rfl, by decide, by decide⟩
  have s_part : Sl ["house", "parts", "turn", "kept", "part", "good", "want", "others", "one"] "part" 4 := ⟨rfl, by decide, by decide⟩
  have s_good : Sl ["house", "parts", "turn", "kept", "part", "good", "want", "others", "one"] "good" 5 := ⟨rfl, by decide, by decide⟩
  have s_want : Sl ["house", "parts", "turn", "kept", "part", "good", "want", "others", "one"] "want" 6 := ⟨rfl, by decide, by decide⟩
  have s_others : Sl ["house", "parts", "turn", "kept", "part", "good", "want", "others", "one"] "others" 7 := ⟨rfl, by decide, by decide⟩
  have s_one : Sl ["house", "parts", "turn", "kept", "part", "good", "want", "others", "one"] "one" 8 := ⟨rfl, by decide, by decide⟩
  have c__law_give : Cl P w K mg base "_law_give" 1 g__law_give := ⟨_, _, _, ok__law_give T, T.m__law_give, T.F__law_give.kp, T.b__law_give⟩
  have n_list : Nb mg "list" (.type "list") := ⟨T.n_list, by decide +kernel, by decide, by decide⟩
  have n_range : Nb mg "range" (.type "range") := ⟨T.n_range, by decide +kernel, by decide, by decide⟩
  obtain ⟨h, rfl, rfl, ok, hl⟩ := h
  walk_at "set 1"
  refine' xs_cons (sx_forS (List.range 7) (fun q : Nat => .int (q : Nat)) (fun b : List Part => [.val (encH h), .val (.list (b.map encP)), .un, .un, .un, .un, .un, .un, .un])
    (fun l b => lawIt l.length b = lawStand h ∧ OkH b ∧ b.length ≤ 64) h ?it ⟨rfl, ok, hl⟩ ?step ?done)
  case it => exact ei_range n_range.h ev_int
  case step =>
    rintro q rest b ⟨hb, okb, lb⟩
    refine' ⟨_, _, ?g, ?b⟩
    case g => walk_at "g"
    case b =>
    walk_at "new 3"
    refine' xs_cons (sx_forS b encP (fun k : List Part => [.val (encH h), .val (.list (b.map encP)), .val (.int (q : Nat)), .own (k.map encP), .un, .un, .un, .un, .un])
      (fun l k => k ++ l.filter (fun p => lawGood b p p.wants) = lawStep b ∧ (∀ p ∈ l, p ∈ b)) [] ?it2 ⟨rfl, fun _ h => h⟩ ?step2 ?done2)
    case it2 => walk_at "i"
    case step2 =>
      rintro p rest2 k ⟨hk, hm⟩
      have lk : (k.map encP).length < sizeLine := by
        have := congrArg List.length hk
        have := lawStep_len b
        simp only [List.length_append] at *
        rw [List.length_map, sizeLine_eq]; omega
      refine' ⟨_, _, ?g2, ?b2⟩
      case g2 => walk_at "g"
      case b2 =>
      walk_at "set 5"
      refine' xs_cons (sx_forS p.wants encW (fun g : Bool => [.val (encH h), .val (.list (b.map encP)), .val (.int (q : Nat)), .own (k.map encP), .val (encP p), .val (.bool g), .un, .un, .un])
        (fun l g => (g && lawGood b p l) = lawGood b p p.wants) true ?it3 (by simp) ?step3 ?done3)
      case it3 => walk_at "i"
      case step3 =>
        rintro w rest3 g hg
        refine' ⟨_, _, ?g3, ?b3⟩
        case g3 => walk_at "g"
        case b3 =>
        walk_at "lc 7"
        refine' xs_one (sx_set 5 nd ?e5 ⟨_, ?r5, ?l5⟩)
        case e5 => walk_at "v"
        case l5 => walk_at "le"
        case r5 =>
          rw [isE_map, ← hg]
          unfold lawGood
          rw [List.all_cons, ← Bool.and_assoc]
          rfl
      case done3 =>
        intro g hg
        refine' xs_one (sx_if (t := g) ?c6 ?y6 ?n6)
        case c6 => walk_at "t"
        case y6 =>
          rintro rfl
          refine' xs_one (sx_append 3 rfl ?e7 lk ⟨k ++ [p], ⟨?r7, ?m7⟩, ?l7⟩)
          case e7 => walk_at "v"
          case r7 =>
            have : lawGood b p p.wants = true := by rw [← hg]; rfl
            rw [List.filter_cons, if_pos this] at hk
            rw [List.append_assoc]; exact hk
          case m7 => exact fun x hx => hm x (by simp [hx])
          case l7 => rw [List.map_append]; walk_at "le"
        case n6 =>
          rintro rfl
          refine' xs_nil ⟨k, ⟨?r8, ?m8⟩, ?l8⟩
          case r8 =>
            have : ¬ lawGood b p p.wants = true := by rw [← hg]; simp
            rw [List.filter_cons, if_neg this] at hk
            exact hk
          case m8 => exact fun x hx => hm x (by simp [hx])
          case l8 => walk_at "le"
    case done2 =>
      rintro k ⟨hk, _⟩
      rw [List.filter_nil, List.append_nil] at hk
      subst hk
      refine' xs_one (sx_move 1 3 nd rfl ⟨_, ⟨hb, okb.filter, Nat.le_trans (lawStep_len b) lb⟩, ?l9⟩)
      case l9 => walk_at "le"
  case done =>
    rintro b ⟨hb, _, _⟩
    have hb : b = lawStand h := hb
    subst hb
    walk_at "ret"
    rfl
theorem sc__law_cell_at : FnScope ["script", "k"] ["script", "k"] (defScope (top 11)) := ⟨rfl, rfl, rfl, by decide +kernel, rfl, by decide +kernel, by decide +kernel⟩

-- slots 0:script 1:k
abbrev g__law_cell_at : List D → D → Prop := fun ds d => ∃ (ns : List Int) (k : Int), ds = [.list (ns.map .int), .int k] ∧ d = .int (cellAt ns k) ∧ 0 ≤ k
set_option maxHeartbeats 8000000 in
theorem ok__law_cell_at (T : Facts K mg) : FnD P w K mg base 1 T.f__law_cell_at T.fd__law_cell_at ["script", "k"] g__law_cell_at := by
  refine fn_d T.F__law_cell_at sc__law_cell_at (fun ds d h => by first | (obtain ⟨_, rfl, _⟩ := h; rfl) | (obtain ⟨_, _, rfl, _⟩ := h; rfl) | (obtain ⟨_, _, _, rfl, _⟩ := h; rfl) | (obtain ⟨_, _, _, _, rfl, _⟩ := h; rfl) | (obtain ⟨_, _, _, _, _, rfl, _⟩ := h; rfl) | (obtain ⟨_, _, _, _, _, _, rfl, _⟩ := h; rfl)) (fun cdv A outer s H E ds d hr h => ?_)
  have nd := sc__law_cell_at.nd
  have s_script : Sl ["script", "k"] "script" 0 := ⟨rfl, by decide, by decide⟩
  have s_k : Sl ["script", "k"] "k" 1 := ⟨rfl, by decide, by decide⟩
  have n_len : Nb mg "len" (.builtin "len") := ⟨T.n_len, by decide +kernel, by decide, by decide⟩
  obtain ⟨ns, k, rfl, rfl, hk⟩ := h
  refine' xs_cons (sx_if (t := decide (k < (ns.length : Int))) ?c ?y ?n)
  case c =>
    refine' EvT.cast (b := decide (k < (((ns.map PyData.int).length : Nat) : Int))) ?t ?e
    case t => walk_at "t"
    case e => rw [List.length_map]
  case y =>
    intro e
    have e := of_decide_eq_true e
    refine' xs_one (sx_ret (d := .int (cellAt ns k)) ?v rfl)
    case v =>
      refine' ev_ix (ix_lstD ?o) (Ev.q ?a) (Ev.q ?b)
      case a => walk_at "v"
      case b => walk_at "v"
      case o =>
        rw [atI_g hk (by rw [List.length_map]; exact e)]
        unfold cellAt
        rw [if_pos e, List.getD_eq_getElem?_getD, List.getD_eq_getElem?_getD, List.getElem?_map, List.getElem?_eq_getElem (by omega)]
        rfl
  case n =>
    intro e
    have e := of_decide_eq_false e
    refine' xs_nil ?_
    refine' xs_one (sx_ret (d := .int 0) ?v ?r)
    case v => walk_at "v"
    case r => show PyData.int 0 = _; unfold cellAt; rw [if_neg e]
theorem sc__law_mixed : FnScope ["script", "k", "drawn"] ["script", "k"] (defScope (top 12)) := ⟨rfl, rfl, rfl, by decide +kernel, rfl, by decide +kernel, by decide +kernel⟩

-- slots 0:script 1:k 2:drawn
abbrev g__law_mixed : List D → D → Prop := fun ds d => ∃ (ns : List Int) (k : Int), ds = [.list (ns.map .int), .int k] ∧ d = .int (mixed ns k) ∧ 0 ≤ k
set_option maxHeartbeats 8000000 in
theorem ok__law_mixed (T : Facts K mg) : FnD P w K mg base 2 T.f__law_mixed T.fd__law_mixed ["script", "k"] g__law_mixed := by
  refine fn_d T.F__law_mixed sc__law_mixed (fun ds d h => by first | (obtain ⟨_, rfl, _⟩ := h; rfl) | (obtain ⟨_, _, rfl, _⟩ := h; rfl) | (obtain ⟨_, _, _, rfl, _⟩ := h; rfl) | (obtain ⟨_, _, _, _, rfl, _⟩ := h; rfl) | (obtain ⟨_, _, _, _, _, rfl, _⟩ := h; rfl) | (obtain ⟨_, _, _, _, _, _, rfl, _⟩ := h; rfl)) (fun cdv A outer s H E ds d hr h => ?_)
  have nd := sc__law_mixed.nd
  have s_script : Sl ["script", "k", "drawn"] "script" 0 := ⟨rfl, by decide, by decide⟩
  have s_k : Sl ["script", "k", "drawn"] "k" 1 := ⟨rfl, by decide, by decide⟩
  have s_drawn : Sl ["script", "k", "drawn"] "drawn" 2 := ⟨rfl, by decide, by decide⟩
  have c__law_cell_at : Cl P w K mg base "_law_cell_at" 1 g__law_cell_at := ⟨_, _, _, ok__law_cell_at T, T.m__law_cell_at, T.F__law_cell_at.kp, T.b__law_cell_at⟩
  obtain ⟨ns, k, rfl, rfl, hk⟩ := h
  have b := mixed0_b ns k
  refine' xs_cons (sx_set 2 nd (d := .int (mixed0 ns k)) ?e ?n)
  case e => walk_at "v"
  case n =>
    refine' xs_one (sx_ret (d := .int (mixed ns k)) ?v rfl)
    case v => walk_at "v"
theorem sc_make_of : FnScope ["part", "face"] ["part", "face"] (defScope (top 1)) := ⟨rfl, rfl, rfl, by decide +kernel, rfl, by decide +kernel, by decide +kernel⟩

-- slots 0:part 1:face
abbrev g_make_of : List D → D → Prop := fun ds d => ∃ p x, ds = [encP p, .str x] ∧ d = .int (makeOf p x)
set_option maxHeartbeats 8000000 in
theorem ok_make_of (T : Facts K mg) : FnD P w K mg base 1 T.f_make_of T.fd_make_of ["part", "face"] g_make_of := by
  refine fn_d T.F_make_of sc_make_of (fun ds d h => by first | (obtain ⟨_, rfl, _⟩ := h; rfl) | (obtain ⟨_, _, rfl, _⟩ := h; rfl) | (obtain ⟨_, _, _, rfl, _⟩ := h; rfl) | (obtain ⟨_, _, _, _, rfl, _⟩ := h; rfl) | (obtain ⟨_, _, _, _, _, rfl, _⟩ := h; rfl) | (obtain ⟨_, _, _, _, _, _, rfl, _⟩ := h; rfl)) (fun cdv A outer s H E ds d hr h => ?_)
  have nd := sc_make_of.nd
  have s_part : Sl ["part", "face"] "part" 0 := ⟨rfl, by decide, by decide⟩
  have s_face : Sl ["part", "face"] "face" 1 := ⟨rfl, by decide, by decide⟩
  have n_dict : Nb mg "dict" (.type "dict") := ⟨T.n_dict, by decide +kernel, by decide, by decide⟩
  obtain ⟨p, x, rfl, rfl⟩ := h
  refine' xs_one (sx_ret (d := .int (makeOf p x)) (Ev.cast (ev_dgetx (kk := .inr x) (es := mergeD [] (facesK p.faces)) (r1 hr) (Ev.q (Ev.fzD (ev_nt n_dict (eq_cons (Ev.cast ?a ?z) eq_nil) c_dictT rfl rfl rfl))) ?b ?c) ?y) rfl)
  case a => walk_at "q"
  case z => show Kd.qua (.tuple (p.faces.map encF)) = _; rw [← faces_enc]
  case b => walk_at "v"
  case c => walk_at "v"
  case y =>
    rw [look_faces]
    unfold makeOf
    cases lookF p.faces x <;> rfl
theorem sc_gives : FnScope ["part", "want"] ["part", "want"] (defScope (top 2)) := ⟨rfl, rfl, rfl, by decide +kernel, rfl, by decide +kernel, by decide +kernel⟩

-- slots 0:part 1:want
abbrev g_gives : List D → D → Prop := fun ds d => ∃ p w, ds = [encP p, encW w] ∧ d = .bool (gives p w)
set_option maxHeartbeats 8000000 in
theorem ok_gives (T : Facts K mg) : FnD P w K mg base 2 T.f_gives T.fd_gives ["part", "want"] g_gives := by
  refine fn_d T.F_gives sc_gives (fun ds d h => by first | (obtain ⟨_, rfl, _⟩ := h; rfl) | (obtain ⟨_, _, rfl, _⟩ := h; rfl) | (obtain ⟨_, _, _, rfl, _⟩ := h; rfl) | (obtain ⟨_, _, _, _, rfl, _⟩ := h; rfl) | (obtain ⟨_, _, _, _, _, rfl, _⟩ := h; rfl) | (obtain ⟨_, _, _, _, _, _, rfl, _⟩ := h; rfl)) (fun cdv A outer s H E ds d hr h => ?_)
  have nd := sc_gives.nd
  have s_part : Sl ["part", "want"] "part" 0 := ⟨rfl, by decide, by decide⟩
  have s_want : Sl ["part", "want"] "want" 1 := ⟨rfl, by decide, by decide⟩
  have c_make_of : Cl P w K mg base "make_of" 1 g_make_of := ⟨_, _, _, ok_make_of T, T.m_make_of, T.F_make_of.kp, T.b_make_of⟩
  obtain ⟨p, w, rfl, rfl⟩ := h
  refine' xs_one (sx_ret ?v ?e)
  case v => walk_at "v"
  case e => rfl
theorem sc_givers_for : FnScope ["parts", "name", "want", "part"] ["parts", "name", "want"] (defScope (top 3)) := ⟨rfl, rfl, rfl, by decide +kernel, rfl, by decide +kernel, by decide +kernel⟩

-- slots 0:parts 1:name 2:want 3:part
abbrev g_givers_for : List D → D → Prop := fun ds d => ∃ ps n w, ds = [.list (ps.map encP), .str n, encW w] ∧ d = .list ((giversFor ps n w).map encP)
set_option maxHeartbeats 8000000 in
theorem ok_givers_for (T : Facts K mg) : FnD P w K mg base 3 T.f_givers_for T.fd_givers_for ["parts", "name", "want"] g_givers_for := by
  refine fn_d T.F_givers_for sc_givers_for (fun ds d h => by first | (obtain ⟨_, rfl, _⟩ := h; rfl) | (obtain ⟨_, _, rfl, _⟩ := h; rfl) | (obtain ⟨_, _, _, rfl, _⟩ := h; rfl) | (obtain ⟨_, _, _, _, rfl, _⟩ := h; rfl) | (obtain ⟨_, _, _, _, _, rfl, _⟩ := h; rfl) | (obtain ⟨_, _, _, _, _, _, rfl, _⟩ := h; rfl)) (fun cdv A outer s H E ds d hr h => ?_)
  have nd := sc_givers_for.nd
  have s_parts : Sl ["parts", "name", "want", "part"] "parts" 0 := ⟨rfl, by decide, by decide⟩
  have s_name : Sl ["parts", "name", "want", "part"] "name" 1 := ⟨rfl, by decide, by decide⟩
  have s_want : Sl ["parts", "name", "want", "part"] "want" 2 := ⟨rfl, by decide, by decide⟩
  have s_part : Sl ["parts", "name", "want", "part"] "part" 3 := ⟨rfl, by decide, by decide⟩
  have c_gives : Cl P w K mg base "gives" 2 g_gives := ⟨_, _, _, ok_gives T, T.m_gives, T.F_gives.kp, T.b_gives⟩
  obtain ⟨ps, n, w, rfl, rfl⟩ := h
  refine' xs_one (sx_ret ?v ?e)
  case v => walk_at "v"
  case e => rfl
theorem sc_lacks : FnScope ["parts", "part", "want"] ["parts", "part"] (defScope (top 4)) := ⟨rfl, rfl, rfl, by decide +kernel, rfl, by decide +kernel, by decide +kernel⟩

-- slots 0:parts 1:part 2:want
abbrev g_lacks : List D → D → Prop := fun ds d => ∃ ps p, ds = [.list (ps.map encP), encP p] ∧ d = .list ((lacksL ps p).map .str)
set_option maxHeartbeats 8000000 in
theorem ok_lacks (T : Facts K mg) : FnD P w K mg base 4 T.f_lacks T.fd_lacks ["parts", "part"] g_lacks := by
  refine fn_d T.F_lacks sc_lacks (fun ds d h => by first | (obtain ⟨_, rfl, _⟩ := h; rfl) | (obtain ⟨_, _, rfl, _⟩ := h; rfl) | (obtain ⟨_, _, _, rfl, _⟩ := h; rfl) | (obtain ⟨_, _, _, _, rfl, _⟩ := h; rfl) | (obtain ⟨_, _, _, _, _, rfl, _⟩ := h; rfl) | (obtain ⟨_, _, _, _, _, _, rfl, _⟩ := h; rfl)) (fun cdv A outer s H E ds d hr h => ?_)
  have nd := sc_lacks.nd
  have s_parts : Sl ["parts", "part", "want"] "parts" 0 := ⟨rfl, by decide, by decide⟩
  have s_part : Sl ["parts", "part", "want"] "part" 1 := ⟨rfl, by decide, by decide⟩
  have s_want : Sl ["parts", "part", "want"] "want" 2 := ⟨rfl, by decide, by decide⟩
  have c_givers_for : Cl P w K mg base "givers_for" 3 g_givers_for := ⟨_, _, _, ok_givers_for T, T.m_givers_for, T.F_givers_for.kp, T.b_givers_for⟩
  have n_len : Nb mg "len" (.builtin "len") := ⟨T.n_len, by decide +kernel, by decide, by decide⟩
  obtain ⟨ps, p, rfl, rfl⟩ := h
  walk_at "ret"
  show _ = _
  unfold lacksL
  simp only [eqv_len0, isE_map]
  rw [List.map_map]
  rfl
theorem sc_standing_parts : FnScope ["house", "parts", "left", "part"] ["house"] (defScope (top 5)) := ⟨rfl, rfl, rfl, by decide +kernel, rfl, by decide +kernel, by decide +kernel⟩

-- slots 0:house 1:parts 2:left 3:part
abbrev g_standing_parts : List D → D → Prop := fun ds d => ∃ h, ds = [encH h] ∧ d = .list ((st h).map encP)
set_option maxHeartbeats 8000000 in
theorem ok_standing_parts (T : Facts K mg) : FnD P w K mg base 5 T.f_standing_parts T.fd_standing_parts ["house"] g_standing_parts := by
  refine fn_d T.F_standing_parts sc_standing_parts (fun ds d h => by first | (obtain ⟨_, rfl, _⟩ := h; rfl) | (obtain ⟨_, _, rfl, _⟩ := h; rfl) | (obtain ⟨_, _, _, rfl, _⟩ := h; rfl) | (obtain ⟨_, _, _, _, rfl, _⟩ := h; rfl) | (obtain ⟨_, _, _, _, _, rfl, _⟩ := h; rfl) | (obtain ⟨_, _, _, _, _, _, rfl, _⟩ := h; rfl)) (fun cdv A outer s H E ds d hr h => ?_)
  have nd := sc_standing_parts.nd
  have s_house : Sl ["house", "parts", "left", "part"] "house" 0 := ⟨rfl, by decide, by decide⟩
  have s_parts : Sl ["house", "parts", "left", "part"] "parts" 1 := ⟨rfl, by decide, by decide⟩
  have s_left : Sl ["house", "parts", "left", "part"] "left" 2 := ⟨rfl, by decide, by decide⟩
  have s_part : Sl ["house", "parts", "left", "part"] "part" 3 := ⟨rfl, by decide, by decide⟩
  have c_lacks : Cl P w K mg base "lacks" 4 g_lacks := ⟨_, _, _, ok_lacks T, T.m_lacks, T.F_lacks.kp, T.b_lacks⟩
  have n_list : Nb mg "list" (.type "list") := ⟨T.n_list, by decide +kernel, by decide, by decide⟩
  have n_len : Nb mg "len" (.builtin "len") := ⟨T.n_len, by decide +kernel, by decide, by decide⟩
  obtain ⟨h, rfl, rfl⟩ := h
  walk_at "set 1"
  walk_at "lc 2"
  simp only [eqv_len0, isE_map]
  refine' xs_cons (sx_while (fun m ρ => ∃ ps : List Part, ρ = [.val (encH h), .val (.list (ps.map encP)), .val (.list ((stands ps).map encP)), .un] ∧ standIt ps.length ps = st h ∧ m = ps.length) h.length ⟨h, rfl, rfl, rfl⟩ ?turn)
  case turn =>
    rintro m _ ⟨ps, rfl, hs, rfl⟩
    refine' ⟨_, ?c, ?y, ?n⟩
    case c => walk_at "t"
    case y =>
      intro e
      have e : (stands ps).length < ps.length := by simpa using e
      walk_at "set 1"
      refine' xs_weak [.val (encH h), .val (.list ((stands ps).map encP)), .val (.list ((stands (stands ps)).map encP)), .un] ?w ⟨_, e, stands ps, rfl, ?s, rfl⟩
      case s =>
        rw [← hs]
        cases hp : ps.length with
        | zero => omega
        | succ k =>
          rw [standIt, if_pos (by omega)]
          exact standIt_ge (by omega) (by omega)
      case w =>
        refine' xs_one (sx_setLcA 2 ?nd ?ok ?hi (fun p hp _ _ _ _ _ => ?hg) (fun p hp _ _ _ _ _ => ?ht) (fun p hp hk _ _ _ _ _ => ?he) ?hw ?sw ?nn); (case nd => assumption); (case ok => kernel_rfl); (case hi => walk_at "iq"); (case hg => walk_at "g"); (case hw => kernel_rfl); (case ht => walk_at "ts"); (case he => walk_at "v"); (case sw => rfl)
        case nn =>
        simp only [eqv_len0, isE_map]
        exact Le.refl _
    case n =>
      intro e
      have e : ¬ (stands ps).length < ps.length := by simpa using e
      have : ps = st h := by
        rw [← hs]
        cases hp : ps.length with
        | zero => rfl
        | succ k => rw [standIt, if_neg (by omega)]
      subst this
      walk_at "ret"
      rfl
theorem sc_standing : FnScope ["house", "part"] ["house"] (defScope (top 6)) := ⟨rfl, rfl, rfl, by decide +kernel, rfl, by decide +kernel, by decide +kernel⟩

-- slots 0:house 1:part
abbrev g_standing : List D → D → Prop := fun ds d => ∃ h, ds = [encH h] ∧ d = .tuple ((st h).map fun p => .str p.name)
set_option maxHeartbeats 8000000 in
theorem ok_standing (T : Facts K mg) : FnD P w K mg base 6 T.f_standing T.fd_standing ["house"] g_standing := by
  refine fn_d T.F_standing sc_standing (fun ds d h => by first | (obtain ⟨_, rfl, _⟩ := h; rfl) | (obtain ⟨_, _, rfl, _⟩ := h; rfl) | (obtain ⟨_, _, _, rfl, _⟩ := h; rfl) | (obtain ⟨_, _, _, _, rfl, _⟩ := h; rfl) | (obtain ⟨_, _, _, _, _, rfl, _⟩ := h; rfl) | (obtain ⟨_, _, _, _, _, _, rfl, _⟩ := h; rfl)) (fun cdv A outer s H E ds d hr h => ?_)
  have nd := sc_standing.nd
  have s_house : Sl ["house", "part"] "house" 0 := ⟨rfl, by decide, by decide⟩
  have s_part : Sl ["house", "part"] "part" 1 := ⟨rfl, by decide, by decide⟩
  have c_standing_parts : Cl P w K mg base "standing_parts" 5 g_standing_parts := ⟨_, _, _, ok_standing_parts T, T.m_standing_parts, T.F_standing_parts.kp, T.b_standing_parts⟩
  have n_tuple : Nb mg "tuple" (.type "tuple") := ⟨T.n_tuple, by decide +kernel, by decide, by decide⟩
  obtain ⟨h, rfl, rfl⟩ := h
  walk_at "ret"
  rw [flt_true]
theorem sc_lacking : FnScope ["house", "parts", "found", "part", "face"] ["house"] (defScope (top 7)) := ⟨rfl, rfl, rfl, by decide +kernel, rfl, by decide +kernel, by decide +kernel⟩

-- slots 0:house 1:parts 2:found 3:part 4:face
abbrev g_lacking : List D → D → Prop := fun ds d => ∃ h, ds = [encH h] ∧ d = .tuple (sortD ((lackOf h (st h)).map encSS)) ∧ WfH h
set_option maxHeartbeats 8000000 in
theorem ok_lacking (T : Facts K mg) : FnD P w K mg base 6 T.f_lacking T.fd_lacking ["house"] g_lacking := by
  refine fn_d T.F_lacking sc_lacking (fun ds d h => by first | (obtain ⟨_, rfl, _⟩ := h; rfl) | (obtain ⟨_, _, rfl, _⟩ := h; rfl) | (obtain ⟨_, _, _, rfl, _⟩ := h; rfl) | (obtain ⟨_, _, _, _, rfl, _⟩ := h; rfl) | (obtain ⟨_, _, _, _, _, rfl, _⟩ := h; rfl) | (obtain ⟨_, _, _, _, _, _, rfl, _⟩ := h; rfl)) (fun cdv A outer s H E ds d hr h => ?_)
  have nd := sc_lacking.nd
  have s_house : Sl ["house", "parts", "found", "part", "face"] "house" 0 := ⟨rfl, by decide, by decide⟩
  have s_parts : Sl ["house", "parts", "found", "part", "face"] "parts" 1 := ⟨rfl, by decide, by decide⟩
  have s_found : Sl ["house", "parts", "found", "part", "face"] "found" 2 := ⟨rfl, by decide, by decide⟩
  have s_part : Sl ["house", "parts", "found", "part", "face"] "part" 3 := ⟨rfl, by decide, by decide⟩
  have s_face : Sl ["house", "parts", "found", "part", "face"] "face" 4 := ⟨rfl, by decide, by decide⟩
  have c_standing_parts : Cl P w K mg base "standing_parts" 5 g_standing_parts := ⟨_, _, _, ok_standing_parts T, T.m_standing_parts, T.F_standing_parts.kp, T.b_standing_parts⟩
  have c_lacks : Cl P w K mg base "lacks" 4 g_lacks := ⟨_, _, _, ok_lacks T, T.m_lacks, T.F_lacks.kp, T.b_lacks⟩
  have n_tuple : Nb mg "tuple" (.type "tuple") := ⟨T.n_tuple, by decide +kernel, by decide, by decide⟩
  have n_sorted : Nb mg "sorted" (.builtin "sorted") := ⟨T.n_sorted, by decide +kernel, by decide, by decide⟩
  obtain ⟨h, rfl, rfl, wf⟩ := h
  have oks := wf.st
  have okh := wf.ok
  have tl := lackOf_len h (st h) wf.wl
  have hl := wf.len
  walk_at "set 1"
  walk_at "new 2"
  refine' xs_cons (sx_forS h encP (fun b : List (Str × Str) => [.val (encH h), .val (.list ((st h).map encP)), .own (b.map encSS), .un, .un])
    (fun l b => b ++ lackOf l (st h) = lackOf h (st h) ∧ (∀ p ∈ l, p ∈ h)) [] ?it ⟨rfl, fun _ h => h⟩ ?step ?done)
  case it => walk_at "i"
  case step =>
    rintro p rest b ⟨hb, hm⟩
    have okp : OkP p := wf.ok p (hm p (by simp))
    have hb' := congrArg List.length hb
    unfold lackOf at hb hb' tl
    rw [List.flatMap_cons, List.length_append, List.length_append] at hb'
    rw [List.flatMap_cons] at hb
    refine' ⟨_, _, ?g, ?b⟩
    case g => walk_at "g"
    case b =>
    refine' xs_one (sx_if (t := notIn (st h) p) ?c ?y ?n)
    case c => walk_at "t"
    case y =>
      intro e
      rw [if_pos e] at hb hb'
      rw [List.length_map] at hb'
      refine' xs_one (sx_extend 2 rfl (es := ((lacksL (st h) p).map fun f => (p.name, f)).map encSS) (Ev.cast ?e ?k) ?z ⟨b ++ (lacksL (st h) p).map fun f => (p.name, f), ⟨?r, ?m⟩, ?l⟩)
      case e => walk_at "n"
      case k => rw [List.map_map, flt_true]; rfl
      case z => rw [List.length_map, List.length_map, List.length_map, sizeLine_eq]; omega
      case r => rw [List.append_assoc]; exact hb
      case m => exact fun x hx => hm x (by simp [hx])
      case l => rw [List.map_append]; walk_at "le"
    case n =>
      intro e
      rw [if_neg (by rw [e]; simp)] at hb
      refine' xs_nil ⟨b, ⟨hb, fun x hx => hm x (by simp [hx])⟩, ?l2⟩
      case l2 => walk_at "le"
  case done =>
    rintro b ⟨hb, _⟩
    have hb : b = lackOf h (st h) := by rw [← hb]; simp [lackOf]
    subst hb
    walk_at "ret"
    rfl
theorem sc__law_giver : FnScope ["parts", "name", "want", "some", "part"] ["parts", "name", "want"] (defScope (top 18)) := ⟨rfl, rfl, rfl, by decide +kernel, rfl, by decide +kernel, by decide +kernel⟩

-- slots 0:parts 1:name 2:want 3:some 4:part
abbrev g__law_giver : List D → D → Prop := fun ds d => ∃ ps n w, ds = [.list (ps.map encP), .str n, encW w] ∧ d = optS (lawGiver ps n w) ∧ ps.length ≤ 64
set_option maxHeartbeats 8000000 in
theorem ok__law_giver (T : Facts K mg) : FnD P w K mg base 2 T.f__law_giver T.fd__law_giver ["parts", "name", "want"] g__law_giver := by
  refine fn_d T.F__law_giver sc__law_giver (fun ds d h => by first | (obtain ⟨_, rfl, _⟩ := h; rfl) | (obtain ⟨_, _, rfl, _⟩ := h; rfl) | (obtain ⟨_, _, _, rfl, _⟩ := h; rfl) | (obtain ⟨_, _, _, _, rfl, _⟩ := h; rfl) | (obtain ⟨_, _, _, _, _, rfl, _⟩ := h; rfl) | (obtain ⟨_, _, _, _, _, _, rfl, _⟩ := h; rfl)) (fun cdv A outer s H E ds d hr h => ?_)
  have nd := sc__law_giver.nd
  have s_parts : Sl ["parts", "name", "want", "some", "part"] "parts" 0 := ⟨rfl, by decide, by decide⟩
  have s_name : Sl ["parts", "name", "want", "some", "part"] "name" 1 := ⟨rfl, by decide, by decide⟩
  have s_want : Sl ["parts", "name", "want", "some", "part"] "want" 2 := ⟨rfl, by decide, by decide⟩
  have s_some : Sl ["parts", "name", "want", "some", "part"] "some" 3 := ⟨rfl, by decide, by decide⟩
  have s_part : Sl ["parts", "name", "want", "some", "part"] "part" 4 := ⟨rfl, by decide, by decide⟩
  have c__law_give : Cl P w K mg base "_law_give" 1 g__law_give := ⟨_, _, _, ok__law_give T, T.m__law_give, T.F__law_give.kp, T.b__law_give⟩
  have n_sorted : Nb mg "sorted" (.builtin "sorted") := ⟨T.n_sorted, by decide +kernel, by decide, by decide⟩
  have n_dict : Nb mg "dict" (.type "dict") := ⟨T.n_dict, by decide +kernel, by decide, by decide⟩
  obtain ⟨ps, n, w, rfl, rfl, hl⟩ := h
  refine' xs_cons (sx_setLcA 3 (en := encP) (ps := ps) (keep := fun p => !decide (p.name = n) && lawGive p w) (f := fun p => encIS (0 - makeOf p w.face, p.name)) ?nd ?ok ?hi (fun p hp _ _ _ _ _ => ?hg) (fun p hp _ _ _ _ _ => ?ht) (fun p hp hk _ _ _ _ _ => ?he) ?hw ?sw ?nn); (case nd => assumption); (case ok => kernel_rfl); (case hi => walk_at "iq"); (case hg => walk_at "g"); (case hw => kernel_rfl); (case ht => walk_at "ts"); (case sw => rfl)
  case he =>
    have hk : lawGive p w = true := by
      have hk : (!decide (p.name = n) && lawGive p w) = true := hk
      rw [Bool.and_eq_true] at hk; exact hk.2
    refine' ev_tup (ea_cons (ev_bin o_sub (Ev.q ev_int) (Ev.q (ev_dget (kk := .inr w.face) (es := mergeD [] (facesK p.faces)) (r1 hr) (Ev.q (Ev.fzD (ev_nt n_dict (eq_cons (Ev.cast ?da ?dz) eq_nil) c_dictT rfl rfl rfl))) ?db (lawGive_look hk)))) (ea_cons ?dc ea_nil)) (by simp)
    case da => walk_at "q"
    case dz => show Kd.qua (.tuple (p.faces.map encF)) = _; rw [← faces_enc]
    case db => walk_at "v"
    case dc => walk_at "v"
  case nn =>
  have em : ((ps.filter fun p => !decide (p.name = n) && lawGive p w).map fun p => encIS (0 - makeOf p w.face, p.name)) = (lawSome ps n w).map encIS := by
    unfold lawSome lawOthers; rw [List.map_map]; rfl
  rw [em]
  have hd : ∃ x r, sortD ((lawSome ps n w).map encIS) ++ [.tuple [.int 0, .none]] = .tuple [.int x, optS (lawGiver ps n w)] :: r := by
    rw [sortIS_map]
    unfold lawGiver
    cases sortIS (lawSome ps n w) with
    | nil => exact ⟨_, _, rfl⟩
    | cons q l => exact ⟨_, _, rfl⟩
  obtain ⟨x, r, hd⟩ := hd
  refine' xs_one (sx_ret (ev_ix (ix_tupD (i := 1) (ds := [.int x, optS (lawGiver ps n w)]) rfl) (Ev.q (ev_ix (ix_lstD (i := 0) (ds := .tuple [.int x, optS (lawGiver ps n w)] :: r) (atI_zero _ _)) (Ev.q (Ev.fz (Ev.cast ?a2 ?k2))) ?i2)) ?i3) rfl)
  case i2 => walk_at "q"
  case i3 => walk_at "q"
  case k2 => rw [← hd]
  case a2 =>
    refine' ev_bin (o_addL ?h3) ?x3 ?y3
    case x3 => walk_at "q"
    case y3 => walk_at "q"
    case h3 =>
      have := lawSome_len ps n w
      rw [sortD_len, List.length_map, sizeLine_eq, List.length_cons, List.length_nil]; omega
theorem sc_giver_among : FnScope ["parts", "name", "want", "best", "part"] ["parts", "name", "want"] (defScope (top 8)) := ⟨rfl, rfl, rfl, by decide +kernel, rfl, by decide +kernel, by decide +kernel⟩

-- slots 0:parts 1:name 2:want 3:best 4:part
abbrev g_giver_among : List D → D → Prop := fun ds d => ∃ ps n w, ds = [.list (ps.map encP), .str n, encW w] ∧ d = optS (giverAmong ps n w)
set_option maxHeartbeats 8000000 in
theorem ok_giver_among (T : Facts K mg) : FnD P w K mg base 4 T.f_giver_among T.fd_giver_among ["parts", "name", "want"] g_giver_among := by
  refine fn_d T.F_giver_among sc_giver_among (fun ds d h => by first | (obtain ⟨_, rfl, _⟩ := h; rfl) | (obtain ⟨_, _, rfl, _⟩ := h; rfl) | (obtain ⟨_, _, _, rfl, _⟩ := h; rfl) | (obtain ⟨_, _, _, _, rfl, _⟩ := h; rfl) | (obtain ⟨_, _, _, _, _, rfl, _⟩ := h; rfl) | (obtain ⟨_, _, _, _, _, _, rfl, _⟩ := h; rfl)) (fun cdv A outer s H E ds d hr h => ?_)
  have nd := sc_giver_among.nd
  have s_parts : Sl ["parts", "name", "want", "best", "part"] "parts" 0 := ⟨rfl, by decide, by decide⟩
  have s_name : Sl ["parts", "name", "want", "best", "part"] "name" 1 := ⟨rfl, by decide, by decide⟩
  have s_want : Sl ["parts", "name", "want", "best", "part"] "want" 2 := ⟨rfl, by decide, by decide⟩
  have s_best : Sl ["parts", "name", "want", "best", "part"] "best" 3 := ⟨rfl, by decide, by decide⟩
  have s_part : Sl ["parts", "name", "want", "best", "part"] "part" 4 := ⟨rfl, by decide, by decide⟩
  have c_givers_for : Cl P w K mg base "givers_for" 3 g_givers_for := ⟨_, _, _, ok_givers_for T, T.m_givers_for, T.F_givers_for.kp, T.b_givers_for⟩
  have c_make_of : Cl P w K mg base "make_of" 1 g_make_of := ⟨_, _, _, ok_make_of T, T.m_make_of, T.F_make_of.kp, T.b_make_of⟩
  obtain ⟨ps, n, w, rfl, rfl⟩ := h
  walk_at "set 3"
  refine' xs_cons (sx_forS (giversFor ps n w) encP (fun b : Option Part => [.val (.list (ps.map encP)), .val (.str n), .val (encW w), .val (optP b), .un])
    (fun l b => l.foldl (better w.face) b = bestOf w.face (giversFor ps n w)) none ?it rfl ?step ?done)
  case it => walk_at "i"
  case step =>
    rintro p rest b hb
    rw [List.foldl_cons] at hb
    refine' ⟨_, _, ?g, ?b⟩
    case g => walk_at "g"
    case b =>
    cases b with
    | none =>
      refine' xs_one (sx_if (t := true) ?c1 (fun _ => ?y1) (fun e => nomatch e))
      case c1 =>
        refine' EvT.cast (EvW.t (ew_or (t' := true) ?cx (fun e => ?cy))) ?ck
        case cx => walk_at "t"
        case ck => rfl
        case cy => exact nomatch e
      case y1 =>
        refine' xs_one (sx_set 3 nd ?e2 ⟨some p, hb, ?l2⟩)
        case e2 => walk_at "v"
        case l2 => walk_at "le"
    | some q =>
      refine' xs_one (sx_if (t := decide (makeOf q w.face < makeOf p w.face)) ?c3 ?y3 ?n3)
      case c3 => exact EvT.cast (by walk_at "t") (by simp [optP, isNon, encP])
      case y3 =>
        intro e
        have e := of_decide_eq_true e
        refine' xs_one (sx_set 3 nd ?e4 ⟨some p, ?r4, ?l4⟩)
        case e4 => walk_at "v"
        case r4 => rw [show better w.face (some q) p = some p from if_pos e] at hb; exact hb
        case l4 => walk_at "le"
      case n3 =>
        intro e
        have e := of_decide_eq_false e
        refine' xs_nil ⟨some q, ?r5, ?l5⟩
        case r5 => rw [show better w.face (some q) p = some q from if_neg e] at hb; exact hb
        case l5 => walk_at "le"
  case done =>
    intro b hb
    have hb : b = bestOf w.face (giversFor ps n w) := hb
    have hr : optS (giverAmong ps n w) = optS (b.map (·.name)) := by rw [hb]; rfl
    rw [hr]
    clear hb hr
    cases b with
    | none =>
      refine' xs_cons (sx_if (t := true) ?c6 (fun _ => ?y6) (fun e => nomatch e))
      case c6 => walk_at "t"
      case y6 =>
        refine' xs_one (sx_ret (d := .none) ?v6 rfl)
        case v6 => walk_at "v"
    | some q =>
      refine' xs_cons (sx_if (t := false) ?c7 (fun e => nomatch e) (fun _ => ?n7))
      case c7 => walk_at "t"
      case n7 =>
        refine' xs_nil ?z7
        case z7 =>
        refine' xs_one (sx_ret (d := .str q.name) ?v7 rfl)
        case v7 => walk_at "v"
theorem sc_giver : FnScope ["house", "name", "face", "part", "want"] ["house", "name", "face"] (defScope (top 9)) := ⟨rfl, rfl, rfl, by decide +kernel, rfl, by decide +kernel, by decide +kernel⟩

-- slots 0:house 1:name 2:face 3:part 4:want
abbrev g_giver : List D → D → Prop := fun ds d => ∃ h n f p w, ds = [encH h, .str n, .str f] ∧ d = optS (giverAmong (st h) n w) ∧ (h.filter fun p => decide (p.name = n)).head? = some p ∧ (p.wants.filter fun w => decide (w.face = f)).head? = some w
set_option maxHeartbeats 8000000 in
theorem ok_giver (T : Facts K mg) : FnD P w K mg base 6 T.f_giver T.fd_giver ["house", "name", "face"] g_giver := by
  refine fn_d T.F_giver sc_giver (fun ds d h => by first | (obtain ⟨_, rfl, _⟩ := h; rfl) | (obtain ⟨_, _, rfl, _⟩ := h; rfl) | (obtain ⟨_, _, _, rfl, _⟩ := h; rfl) | (obtain ⟨_, _, _, _, rfl, _⟩ := h; rfl) | (obtain ⟨_, _, _, _, _, rfl, _⟩ := h; rfl) | (obtain ⟨_, _, _, _, _, _, rfl, _⟩ := h; rfl)) (fun cdv A outer s H E ds d hr h => ?_)
  have nd := sc_giver.nd
  have s_house : Sl ["house", "name", "face", "part", "want"] "house" 0 := ⟨rfl, by decide, by decide⟩
  have s_name : Sl ["house", "name", "face", "part", "want"] "name" 1 := ⟨rfl, by decide, by decide⟩
  have s_face : Sl ["house", "name", "face", "part", "want"] "face" 2 := ⟨rfl, by decide, by decide⟩
  have s_part : Sl ["house", "name", "face", "part", "want"] "part" 3 := ⟨rfl, by decide, by decide⟩
  have s_want : Sl ["house", "name", "face", "part", "want"] "want" 4 := ⟨rfl, by decide, by decide⟩
  have c_giver_among : Cl P w K mg base "giver_among" 4 g_giver_among := ⟨_, _, _, ok_giver_among T, T.m_giver_among, T.F_giver_among.kp, T.b_giver_among⟩
  have c_standing_parts : Cl P w K mg base "standing_parts" 5 g_standing_parts := ⟨_, _, _, ok_standing_parts T, T.m_standing_parts, T.F_standing_parts.kp, T.b_standing_parts⟩
  obtain ⟨h, n, f, p, w, rfl, rfl, hp, hw⟩ := h
  refine' xs_cons (sx_set 3 nd (d := encP p) (ev_ix (ix_lstD (i := 0) ?at1) ?ls1 ?ix1) ?n1)
  case ls1 => walk_at "q"
  case ix1 => walk_at "q"
  case at1 =>
    simp only [eqv_str]
    exact atI_head hp
  case n1 =>
  refine' xs_cons (sx_set 4 nd (d := encW w) (ev_ix (ix_lstD (i := 0) ?at2) ?ls2 ?ix2) ?n2)
  case ls2 => walk_at "q"
  case ix2 => walk_at "q"
  case at2 =>
    simp only [eqv_str]
    exact atI_head hw
  case n2 =>
  walk_at "ret"
  rfl
theorem sc_law : FnScope ["script", "house", "part", "parts", "due", "want", "name"] ["script"] (defScope (top 21)) := ⟨rfl, rfl, rfl, by decide +kernel, rfl, by decide +kernel, by decide +kernel⟩

-- slots 0:script 1:house 2:part 3:parts 4:due 5:want 6:name
abbrev g_law : List D → D → Prop := fun ds d => ∃ ns : List Int, ds = [.list (ns.map .int)] ∧ d = .bool true
set_option maxHeartbeats 8000000 in
theorem ok_law (T : Facts K mg) : FnD P w K mg base 7 T.f_law T.fd_law ["script"] g_law := by
  refine fn_d T.F_law sc_law (fun ds d h => by first | (obtain ⟨_, rfl, _⟩ := h; rfl) | (obtain ⟨_, _, rfl, _⟩ := h; rfl) | (obtain ⟨_, _, _, rfl, _⟩ := h; rfl) | (obtain ⟨_, _, _, _, rfl, _⟩ := h; rfl) | (obtain ⟨_, _, _, _, _, rfl, _⟩ := h; rfl) | (obtain ⟨_, _, _, _, _, _, rfl, _⟩ := h; rfl)) (fun cdv A outer s H E ds d hr h => ?_)
  have nd := sc_law.nd
  have s_script : Sl ["script", "house", "part", "parts", "due", "want", "name"] "script" 0 := ⟨rfl, by decide, by decide⟩
  have s_house : Sl ["script", "house", "part", "parts", "due", "want", "name"] "house" 1 := ⟨rfl, by decide, by decide⟩
  have s_part : Sl ["script", "house", "part", "parts", "due", "want", "name"] "part" 2 := ⟨rfl, by decide, by decide⟩
  have s_parts : Sl ["script", "house", "part", "parts", "due", "want", "name"] "parts" 3 := ⟨rfl, by decide, by decide⟩
  have s_due : Sl ["script", "house", "part", "parts", "due", "want", "name"] "due" 4 := ⟨rfl, by decide, by decide⟩
  have s_want : Sl ["script", "house", "part", "parts", "due", "want", "name"] "want" 5 := ⟨rfl, by decide, by decide⟩
  have s_name : Sl ["script", "house", "part", "parts", "due", "want", "name"] "name" 6 := ⟨rfl, by decide, by decide⟩
  have c__law_house : Cl P w K mg base "_law_house" 3 g__law_house := ⟨_, _, _, ok__law_house T, T.m__law_house, T.F__law_house.kp, T.b__law_house⟩
  have c__law_stand : Cl P w K mg base "_law_stand" 2 g__law_stand := ⟨_, _, _, ok__law_stand T, T.m__law_stand, T.F__law_stand.kp, T.b__law_stand⟩
  have c__law_mixed : Cl P w K mg base "_law_mixed" 2 g__law_mixed := ⟨_, _, _, ok__law_mixed T, T.m__law_mixed, T.F__law_mixed.kp, T.b__law_mixed⟩
  have c_standing : Cl P w K mg base "standing" 6 g_standing := ⟨_, _, _, ok_standing T, T.m_standing, T.F_standing.kp, T.b_standing⟩
  have c_lacking : Cl P w K mg base "lacking" 6 g_lacking := ⟨_, _, _, ok_lacking T, T.m_lacking, T.F_lacking.kp, T.b_lacking⟩
  have c__law_giver : Cl P w K mg base "_law_giver" 2 g__law_giver := ⟨_, _, _, ok__law_giver T, T.m__law_giver, T.F__law_giver.kp, T.b__law_giver⟩
  have c_giver : Cl P w K mg base "giver" 6 g_giver := ⟨_, _, _, ok_giver T, T.m_giver, T.F_giver.kp, T.b_giver⟩
  have n_tuple : Nb mg "tuple" (.type "tuple") := ⟨T.n_tuple, by decide +kernel, by decide, by decide⟩
  have n_sorted : Nb mg "sorted" (.builtin "sorted") := ⟨T.n_sorted, by decide +kernel, by decide, by decide⟩
  obtain ⟨ns, rfl, rfl⟩ := h
  walk_at "set 1"
  refine' xs_cons (sx_ifS (t := decide (mixed ns 1 % 2 = 1)) (fun b : List Part => [.val (.list (ns.map .int)), .val (encH b), .un, .un, .un, .un, .un]) (fun b => b = lawH10 ns) ?c ?y ?n ?k)
  case c => exact EvT.cast (by walk_at "t") (eqv_int _ _)
  case y =>
    intro e
    have e := of_decide_eq_true e
    refine' xs_one (sx_set 1 nd (d := encH ((houseOf (mixed ns 0)).map revP)) (Ev.cast ?e1 ?k1) ⟨_, ?r1, ?l1⟩)
    case e1 => walk_at "v"
    case k1 =>
      rw [flt_true]
      unfold encH
      rw [List.map_map]
      congr 2
      apply List.map_congr_left
      intro p _
      show PyData.tuple [_, _, _, _, _] = _
      rw [← List.map_reverse]
      rfl
    case r1 => exact (if_pos e).symm
    case l1 => walk_at "le"
  case n =>
    intro e
    have e := of_decide_eq_false e
    refine' xs_nil ⟨_, ?r2, ?l2⟩
    case r2 => exact (if_neg e).symm
    case l2 => walk_at "le"
  case k =>
  rintro _ rfl
  have G := lawH10_good ns
  generalize lawH10 ns = h at G
  have ok := G.wf.ok
  have oks := G.wf.st
  have wf := G.wf
  have hl : h.length ≤ 64 := G.wf.len
  have hls : (st h).length ≤ 64 := G.st.wf.len
  walk_at "set 3"
  rw [G.stand]
  refine' xs_cons (sx_if (t := false) (EvT.cast ?c3 ?k3) (fun e => nomatch e) (fun _ => xs_nil ?n3))
  case c3 => walk_at "t"
  case k3 =>
    rw [flt_true, Pl.self (n := 9) (by walk_at "pl")]
    rfl
  case n3 =>
  walk_at "new 4"
  refine' xs_cons (sx_forS h encP (fun b : List (Str × Str) => [.val (.list (ns.map .int)), .val (encH h), .un, .val (.list ((st h).map encP)), .own (b.map encSS), .un, .un])
    (fun l b => b ++ dueAll l (st h) = dueAll h (st h) ∧ (∀ p ∈ l, p ∈ h)) [] ?it ⟨rfl, fun _ h => h⟩ ?step ?done)
  case it => walk_at "i"
  case step =>
    rintro p rest b ⟨hb, hm⟩
    have ph : p ∈ h := hm p (by simp)
    have okp : OkP p := ok p ph
    have hp := head_name G ph
    refine' ⟨_, _, ?g3, ?b3⟩
    case g3 => walk_at "g"
    case b3 =>
    refine' xs_one (sx_forS p.wants encW (fun b : List (Str × Str) => [.val (.list (ns.map .int)), .val (encH h), .val (encP p), .val (.list ((st h).map encP)), .own (b.map encSS), .un, .un])
      (fun l b => b ++ ((l.filter fun w => w.must && ((lawGiver (st h) p.name w).isNone && notIn (st h) p)).map fun w => (p.name, w.face)) ++ dueAll rest (st h) = dueAll h (st h) ∧ (∀ w ∈ l, w ∈ p.wants)) b ?it4 ⟨?r4, fun _ h => h⟩ ?step4 ?done4)
    case it4 => walk_at "i"
    case r4 => rw [List.append_assoc]; exact hb
    case step4 =>
      rintro w rest2 b2 ⟨hb2, hm2⟩
      have wp : w ∈ p.wants := hm2 w (by simp)
      have hw := head_want (G.gp p ph).ws wp
      have ge := giver_eq G.st (n := p.name) ((G.gp p ph).lo w wp)
      refine' ⟨_, _, ?g5, ?b5⟩
      case g5 => walk_at "g"
      case b5 =>
      walk_at "set 6"
      refine' xs_cons (sx_if (t := false) (EvT.cast ?c6 ?k6) (fun e => nomatch e) (fun _ => xs_nil ?n6))
      case c6 => walk_at "t"
      case k6 => rw [ge]; simp
      case n6 =>
      refine' xs_one (sx_if (t := w.must && ((lawGiver (st h) p.name w).isNone && notIn (st h) p)) (EvT.cast ?c7 ?k7) ?y7 ?n7)
      case c7 => walk_at "t"
      case k7 => rw [isNon_opt]; rfl
      case y7 =>
        intro e
        rw [List.filter_cons, if_pos e, List.map_cons] at hb2
        refine' xs_one (sx_append 4 rfl ?e8 ?z8 ⟨b2 ++ [(p.name, w.face)], ⟨?r8, ?m8⟩, ?l8⟩)
        case e8 => walk_at "v"
        case z8 =>
          have tl := lackOf_len h (st h) G.wf.wl
          rw [← due_eq G.st.gp G.gp, ← hb2] at tl
          simp only [List.length_append, List.length_cons] at tl
          rw [List.length_map, sizeLine_eq]; omega
        case r8 => rw [← hb2]; simp
        case m8 => exact fun x hx => hm2 x (by simp [hx])
        case l8 => rw [List.map_append]; walk_at "le"
      case n7 =>
        intro e
        rw [List.filter_cons, if_neg (by rw [e]; simp)] at hb2
        refine' xs_nil ⟨b2, ⟨hb2, fun x hx => hm2 x (by simp [hx])⟩, ?l9⟩
        case l9 => walk_at "le"
    case done4 =>
      rintro b2 ⟨hb2, _⟩
      refine' ⟨b2, ⟨by simpa using hb2, fun x hx => hm x (by simp [hx])⟩, ?l10⟩
      case l10 => walk_at "le"
  case done =>
    rintro b ⟨hb, _⟩
    have hb : b = lackOf h (st h) := by rw [← due_eq G.st.gp G.gp, ← hb]; simp [dueAll]
    subst hb
    have hpl : PlAll 8 ((lackOf h (st h)).map encSS) := pl_SS (lack_ok ok)
    refine' xs_one (sx_ret ?v11 ?e11)
    case v11 => walk_at "v"
    case e11 =>
      show _ = _
      rw [Pl.self (n := 9) (by walk_at "pl")]
end
def d__law_drawn : He.DefD := ⟨("_law_drawn", none), "_law_drawn", "_law_drawn", defArgs (top 13), defBody (top 13), defScope (top 13), [], []⟩
def d__law_part : He.DefD := ⟨("_law_part", none), "_law_part", "_law_part", defArgs (top 14), defBody (top 14), defScope (top 14), [], []⟩
def d__law_house : He.DefD := ⟨("_law_house", none), "_law_house", "_law_house", defArgs (top 15), defBody (top 15), defScope (top 15), [], []⟩
def d__law_give : He.DefD := ⟨("_law_give", none), "_law_give", "_law_give", defArgs (top 16), defBody (top 16), defScope (top 16), [], []⟩
def d__law_stand : He.DefD := ⟨("_law_stand", none), "_law_stand", "_law_stand", defArgs (top 17), defBody (top 17), defScope (top 17), [], []⟩
def d__law_cell_at : He.DefD := ⟨("_law_cell_at", none), "_law_cell_at", "_law_cell_at", defArgs (top 11), defBody (top 11), defScope (top 11), [], []⟩
def d__law_mixed : He.DefD := ⟨("_law_mixed", none), "_law_mixed", "_law_mixed", defArgs (top 12), defBody (top 12), defScope (top 12), [], []⟩
def d_make_of : He.DefD := ⟨("make_of", none), "make_of", "make_of", defArgs (top 1), defBody (top 1), defScope (top 1), [], []⟩
def d_gives : He.DefD := ⟨("gives", none), "gives", "gives", defArgs (top 2), defBody (top 2), defScope (top 2), [], []⟩
def d_givers_for : He.DefD := ⟨("givers_for", none), "givers_for", "givers_for", defArgs (top 3), defBody (top 3), defScope (top 3), [], []⟩
def d_lacks : He.DefD := ⟨("lacks", none), "lacks", "lacks", defArgs (top 4), defBody (top 4), defScope (top 4), [], []⟩
def d_standing_parts : He.DefD := ⟨("standing_parts", none), "standing_parts", "standing_parts", defArgs (top 5), defBody (top 5), defScope (top 5), [], []⟩
def d_standing : He.DefD := ⟨("standing", none), "standing", "standing", defArgs (top 6), defBody (top 6), defScope (top 6), [], []⟩
def d_lacking : He.DefD := ⟨("lacking", none), "lacking", "lacking", defArgs (top 7), defBody (top 7), defScope (top 7), [], []⟩
def d__law_giver : He.DefD := ⟨("_law_giver", none), "_law_giver", "_law_giver", defArgs (top 18), defBody (top 18), defScope (top 18), [], []⟩
def d_giver_among : He.DefD := ⟨("giver_among", none), "giver_among", "giver_among", defArgs (top 8), defBody (top 8), defScope (top 8), [], []⟩
def d_giver : He.DefD := ⟨("giver", none), "giver", "giver", defArgs (top 9), defBody (top 9), defScope (top 9), [], []⟩
def d_law : He.DefD := ⟨("law", none), "law", "law", defArgs (top 21), defBody (top 21), defScope (top 21), [], []⟩
def fn : List He.DefD := [d__law_drawn, d__law_part, d__law_house, d__law_give, d__law_stand, d__law_cell_at, d__law_mixed, d_make_of, d_gives, d_givers_for, d_lacks, d_standing_parts, d_standing, d_lacking, d__law_giver, d_giver_among, d_giver, d_law]
def fa : List He.Fa := [.glo "_law_drawn", .glo "_law_part", .glo "_law_house", .glo "_law_give", .glo "_law_stand", .glo "_law_cell_at", .glo "_law_mixed", .glo "make_of", .glo "gives", .glo "givers_for", .glo "lacks", .glo "standing_parts", .glo "standing", .glo "lacking", .glo "_law_giver", .glo "giver_among", .glo "giver", .glo "law", .free "enumerate", .free "range", .free "min", .free "int", .free "list", .free "len", .free "dict", .free "tuple", .free "sorted"]
abbrev R : PySem.W.OpenRow := PySem.W.OpenLaw.row PySem.Challenge.rw_parthost_k10_who_stands
abbrev hk : PySem.W.Hook := He.hookD 4 fa fn
def ob (s : PySem.W.SharedT) : He.AlD := He.obsDG 4 fa fn (HandSHeadRun.getT s)
theorem ob_eq (s : PySem.W.SharedT) : ob s = hk.obs s.abs := He.obsDG_eq (HandSHeadRun.getT_eq s)
theorem run (w : World) : HandSHeadRun.RunEq R (PySem.W.view R.prog [21]) hk ob 4000 ["make_of", "gives", "givers_for", "lacks", "standing_parts", "standing", "lacking", "giver_among", "giver", "_law_cell_at", "_law_mixed", "_law_drawn", "_law_part", "_law_house", "_law_give", "_law_stand", "_law_giver", "_law_givers", "_law_order"] w := by
  intro os
  kernel_rfl
theorem facts {P : Program} {w : World} {K : PySem.W.Frag} {h : Heap} {mg : Str → Option Value} {f : Addr} (X : K.In h) (G : h.Ns mainGlobals mg) (hfa : mg ("law" : Str) = some (.ref f)) (c : He.SaysD fa fn K) :
    ∃ fd : FuncData, (∀ (s : Shared) (v : Value), BindsTo s fd ⟨[v], []⟩ [("script", v)]) ∧ ∀ base : Heap, K.In base → base.Ns mainGlobals mg → FnOk P w K mg base CX0 7 f fd ["script"] (SpD K g_law) := by
  obtain ⟨fd__law_drawn, F__law_drawn⟩ := c.def_ 0 (d := d__law_drawn) rfl
  have m__law_drawn := He.glo_ok X G (c.fact 0 (f := .glo "_law_drawn") rfl)
  obtain ⟨fd__law_part, F__law_part⟩ := c.def_ 1 (d := d__law_part) rfl
  have m__law_part := He.glo_ok X G (c.fact 1 (f := .glo "_law_part") rfl)
  obtain ⟨fd__law_house, F__law_house⟩ := c.def_ 2 (d := d__law_house) rfl
  have m__law_house := He.glo_ok X G (c.fact 2 (f := .glo "_law_house") rfl)
  obtain ⟨fd__law_give, F__law_give⟩ := c.def_ 3 (d := d__law_give) rfl
  have m__law_give := He.glo_ok X G (c.fact 3 (f := .glo "_law_give") rfl)
  obtain ⟨fd__law_stand, F__law_stand⟩ := c.def_ 4 (d := d__law_stand) rfl
  have m__law_stand := He.glo_ok X G (c.fact 4 (f := .glo "_law_stand") rfl)
  obtain ⟨fd__law_cell_at, F__law_cell_at⟩ := c.def_ 5 (d := d__law_cell_at) rfl
  have m__law_cell_at := He.glo_ok X G (c.fact 5 (f := .glo "_law_cell_at") rfl)
  obtain ⟨fd__law_mixed, F__law_mixed⟩ := c.def_ 6 (d := d__law_mixed) rfl
  have m__law_mixed := He.glo_ok X G (c.fact 6 (f := .glo "_law_mixed") rfl)
  obtain ⟨fd_make_of, F_make_of⟩ := c.def_ 7 (d := d_make_of) rfl
  have m_make_of := He.glo_ok X G (c.fact 7 (f := .glo "make_of") rfl)
  obtain ⟨fd_gives, F_gives⟩ := c.def_ 8 (d := d_gives) rfl
  have m_gives := He.glo_ok X G (c.fact 8 (f := .glo "gives") rfl)
  obtain ⟨fd_givers_for, F_givers_for⟩ := c.def_ 9 (d := d_givers_for) rfl
  have m_givers_for := He.glo_ok X G (c.fact 9 (f := .glo "givers_for") rfl)
  obtain ⟨fd_lacks, F_lacks⟩ := c.def_ 10 (d := d_lacks) rfl
  have m_lacks := He.glo_ok X G (c.fact 10 (f := .glo "lacks") rfl)
  obtain ⟨fd_standing_parts, F_standing_parts⟩ := c.def_ 11 (d := d_standing_parts) rfl
  have m_standing_parts := He.glo_ok X G (c.fact 11 (f := .glo "standing_parts") rfl)
  obtain ⟨fd_standing, F_standing⟩ := c.def_ 12 (d := d_standing) rfl
  have m_standing := He.glo_ok X G (c.fact 12 (f := .glo "standing") rfl)
  obtain ⟨fd_lacking, F_lacking⟩ := c.def_ 13 (d := d_lacking) rfl
  have m_lacking := He.glo_ok X G (c.fact 13 (f := .glo "lacking") rfl)
  obtain ⟨fd__law_giver, F__law_giver⟩ := c.def_ 14 (d := d__law_giver) rfl
  have m__law_giver := He.glo_ok X G (c.fact 14 (f := .glo "_law_giver") rfl)
  obtain ⟨fd_giver_among, F_giver_among⟩ := c.def_ 15 (d := d_giver_among) rfl
  have m_giver_among := He.glo_ok X G (c.fact 15 (f := .glo "giver_among") rfl)
  obtain ⟨fd_giver, F_giver⟩ := c.def_ 16 (d := d_giver) rfl
  have m_giver := He.glo_ok X G (c.fact 16 (f := .glo "giver") rfl)
  obtain ⟨fd_law, F_law⟩ := c.def_ 17 (d := d_law) rfl
  have m_law := He.glo_ok X G (c.fact 17 (f := .glo "law") rfl)
  have n_enumerate := He.free_ok X G (c.fact 18 (f := .free "enumerate") rfl)
  have n_range := He.free_ok X G (c.fact 19 (f := .free "range") rfl)
  have n_min := He.free_ok X G (c.fact 20 (f := .free "min") rfl)
  have n_int := He.free_ok X G (c.fact 21 (f := .free "int") rfl)
  have n_list := He.free_ok X G (c.fact 22 (f := .free "list") rfl)
  have n_len := He.free_ok X G (c.fact 23 (f := .free "len") rfl)
  have n_dict := He.free_ok X G (c.fact 24 (f := .free "dict") rfl)
  have n_tuple := He.free_ok X G (c.fact 25 (f := .free "tuple") rfl)
  have n_sorted := He.free_ok X G (c.fact 26 (f := .free "sorted") rfl)
  have e := hfa.symm.trans m_law
  cases e
  have T : Facts K mg := ⟨_, fd__law_drawn, F__law_drawn, m__law_drawn, FunD.bindsN (ps := ["number", "k"]) F__law_drawn fun _ _ _ _ _ _ us hl => match us, hl with | [_, _], _ => rfl, _, fd__law_part, F__law_part, m__law_part, FunD.bindsN (ps := ["number", "name"]) F__law_part fun _ _ _ _ _ _ us hl => match us, hl with | [_, _], _ => rfl, _, fd__law_house, F__law_house, m__law_house, FunD.bindsN (ps := ["number"]) F__law_house fun _ _ _ _ _ _ us hl => match us, hl with | [_], _ => rfl, _, fd__law_give, F__law_give, m__law_give, FunD.bindsN (ps := ["part", "want"]) F__law_give fun _ _ _ _ _ _ us hl => match us, hl with | [_, _], _ => rfl, _, fd__law_stand, F__law_stand, m__law_stand, FunD.bindsN (ps := ["house"]) F__law_stand fun _ _ _ _ _ _ us hl => match us, hl with | [_], _ => rfl, _, fd__law_cell_at, F__law_cell_at, m__law_cell_at, FunD.bindsN (ps := ["script", "k"]) F__law_cell_at fun _ _ _ _ _ _ us hl => match us, hl with | [_, _], _ => rfl, _, fd__law_mixed, F__law_mixed, m__law_mixed, FunD.bindsN (ps := ["script", "k"]) F__law_mixed fun _ _ _ _ _ _ us hl => match us, hl with | [_, _], _ => rfl, _, fd_make_of, F_make_of, m_make_of, FunD.bindsN (ps := ["part", "face"]) F_make_of fun _ _ _ _ _ _ us hl => match us, hl with | [_, _], _ => rfl, _, fd_gives, F_gives, m_gives, FunD.bindsN (ps := ["part", "want"]) F_gives fun _ _ _ _ _ _ us hl => match us, hl with | [_, _], _ => rfl, _, fd_givers_for, F_givers_for, m_givers_for, FunD.bindsN (ps := ["parts", "name", "want"]) F_givers_for fun _ _ _ _ _ _ us hl => match us, hl with | [_, _, _], _ => rfl, _, fd_lacks, F_lacks, m_lacks, FunD.bindsN (ps := ["parts", "part"]) F_lacks fun _ _ _ _ _ _ us hl => match us, hl with | [_, _], _ => rfl, _, fd_standing_parts, F_standing_parts, m_standing_parts, FunD.bindsN (ps := ["house"]) F_standing_parts fun _ _ _ _ _ _ us hl => match us, hl with | [_], _ => rfl, _, fd_standing, F_standing, m_standing, FunD.bindsN (ps := ["house"]) F_standing fun _ _ _ _ _ _ us hl => match us, hl with | [_], _ => rfl, _, fd_lacking, F_lacking, m_lacking, FunD.bindsN (ps := ["house"]) F_lacking fun _ _ _ _ _ _ us hl => match us, hl with | [_], _ => rfl, _, fd__law_giver, F__law_giver, m__law_giver, FunD.bindsN (ps := ["parts", "name", "want"]) F__law_giver fun _ _ _ _ _ _ us hl => match us, hl with | [_, _, _], _ => rfl, _, fd_giver_among, F_giver_among, m_giver_among, FunD.bindsN (ps := ["parts", "name", "want"]) F_giver_among fun _ _ _ _ _ _ us hl => match us, hl with | [_, _, _], _ => rfl, _, fd_giver, F_giver, m_giver, FunD.bindsN (ps := ["house", "name", "face"]) F_giver fun _ _ _ _ _ _ us hl => match us, hl with | [_, _, _], _ => rfl, _, fd_law, F_law, m_law, FunD.bindsN (ps := ["script"]) F_law fun _ _ _ _ _ _ us hl => match us, hl with | [_], _ => rfl, n_enumerate, n_range, n_min, n_int, n_list, n_len, n_dict, n_tuple, n_sorted⟩
  have b := FunD.bindsA (ps := ["script"]) F_law fun _ _ _ _ _ _ us hl => match us, hl with | [_], _ => rfl
  refine ⟨fd_law, fun s v => b s [v] rfl, fun base _ _ => ?_⟩
  have T' : Facts K mg := T
  exact ok_law (P := P) (w := w) (base := base) ⟨_, fd__law_drawn, F__law_drawn, m__law_drawn, FunD.bindsN (ps := ["number", "k"]) F__law_drawn fun _ _ _ _ _ _ us hl => match us, hl with | [_, _], _ => rfl, _, fd__law_part, F__law_part, m__law_part, FunD.bindsN (ps := ["number", "name"]) F__law_part fun _ _ _ _ _ _ us hl => match us, hl with | [_, _], _ => rfl, _, fd__law_house, F__law_house, m__law_house, FunD.bindsN (ps := ["number"]) F__law_house fun _ _ _ _ _ _ us hl => match us, hl with | [_], _ => rfl, _, fd__law_give, F__law_give, m__law_give, FunD.bindsN (ps := ["part", "want"]) F__law_give fun _ _ _ _ _ _ us hl => match us, hl with | [_, _], _ => rfl, _, fd__law_stand, F__law_stand, m__law_stand, FunD.bindsN (ps := ["house"]) F__law_stand fun _ _ _ _ _ _ us hl => match us, hl with | [_], _ => rfl, _, fd__law_cell_at, F__law_cell_at, m__law_cell_at, FunD.bindsN (ps := ["script", "k"]) F__law_cell_at fun _ _ _ _ _ _ us hl => match us, hl with | [_, _], _ => rfl, _, fd__law_mixed, F__law_mixed, m__law_mixed, FunD.bindsN (ps := ["script", "k"]) F__law_mixed fun _ _ _ _ _ _ us hl => match us, hl with | [_, _], _ => rfl, _, fd_make_of, F_make_of, m_make_of, FunD.bindsN (ps := ["part", "face"]) F_make_of fun _ _ _ _ _ _ us hl => match us, hl with | [_, _], _ => rfl, _, fd_gives, F_gives, m_gives, FunD.bindsN (ps := ["part", "want"]) F_gives fun _ _ _ _ _ _ us hl => match us, hl with | [_, _], _ => rfl, _, fd_givers_for, F_givers_for, m_givers_for, FunD.bindsN (ps := ["parts", "name", "want"]) F_givers_for fun _ _ _ _ _ _ us hl => match us, hl with | [_, _, _], _ => rfl, _, fd_lacks, F_lacks, m_lacks, FunD.bindsN (ps := ["parts", "part"]) F_lacks fun _ _ _ _ _ _ us hl => match us, hl with | [_, _], _ => rfl, _, fd_standing_parts, F_standing_parts, m_standing_parts, FunD.bindsN (ps := ["house"]) F_standing_parts fun _ _ _ _ _ _ us hl => match us, hl with | [_], _ => rfl, _, fd_standing, F_standing, m_standing, FunD.bindsN (ps := ["house"]) F_standing fun _ _ _ _ _ _ us hl => match us, hl with | [_], _ => rfl, _, fd_lacking, F_lacking, m_lacking, FunD.bindsN (ps := ["house"]) F_lacking fun _ _ _ _ _ _ us hl => match us, hl with | [_], _ => rfl, _, fd__law_giver, F__law_giver, m__law_giver, FunD.bindsN (ps := ["parts", "name", "want"]) F__law_giver fun _ _ _ _ _ _ us hl => match us, hl with | [_, _, _], _ => rfl, _, fd_giver_among, F_giver_among, m_giver_among, FunD.bindsN (ps := ["parts", "name", "want"]) F_giver_among fun _ _ _ _ _ _ us hl => match us, hl with | [_, _, _], _ => rfl, _, fd_giver, F_giver, m_giver, FunD.bindsN (ps := ["house", "name", "face"]) F_giver fun _ _ _ _ _ _ us hl => match us, hl with | [_, _, _], _ => rfl, _, fd_law, F_law, m_law, FunD.bindsN (ps := ["script"]) F_law fun _ _ _ _ _ _ us hl => match us, hl with | [_], _ => rfl, n_enumerate, n_range, n_min, n_int, n_list, n_len, n_dict, n_tuple, n_sorted⟩
end DL.K10
open PySem PySem.W PySem.Calls PyProof.Rows
set_option maxHeartbeats 0 in
set_option maxRecDepth 100000 in
theorem PySem.Challenge.cw_parthost_k10_who_stands_holds : PySem.Challenge.rw_parthost_k10_who_stands.Holds := by
  w_on; o_law
  refine HandSHeadRun.head_any (r := OpenLaw.row PySem.Challenge.rw_parthost_k10_who_stands) (q := view (OpenLaw.row PySem.Challenge.rw_parthost_k10_who_stands).prog [21]) (H := DL.K10.hk) (ob := DL.K10.ob) (M := 4000) (loose := ["make_of", "gives", "givers_for", "lacks", "standing_parts", "standing", "lacking", "giver_among", "giver", "_law_cell_at", "_law_mixed", "_law_drawn", "_law_part", "_law_house", "_law_give", "_law_stand", "_law_giver", "_law_givers", "_law_order"]) (d := HandSHeadRun.topDef (OpenLaw.row PySem.Challenge.rw_parthost_k10_who_stands).prog 21) (kwd := []) DL.K10.ob_eq
    (by kernel_rfl) (fun s => by kernel_rfl) DL.K10.run (by kernel_rfl) (by kernel_rfl) (by kernel_rfl) (by rfl) (by first | assumption | decide +kernel) (by decide +kernel) ⟨rfl, rfl, rfl, rfl, rfl, by decide +kernel⟩ ?hw ?hc
  case hw => w_witness2
  case hc =>
    refine L2.walk_ofE (l := PySem.Challenge.rw_parthost_k10_who_stands) (n := 63) (k := 7) (x := "script") (CX := L2.CX0) rfl (by decide) (by kernel_rfl) ⟨rfl, by decide, by decide⟩ ?F (fun _ _ _ _ z => z)
    intro w mg fa h Y G hmg0
    obtain ⟨K, KX, c⟩ := Y
    have hmg : mg ("law" : PySem.Str) = some (.ref fa) := by
      have e : (HandSHeadRun.topDef (OpenLaw.row PySem.Challenge.rw_parthost_k10_who_stands).prog 21).name = ("law" : PySem.Str) := by kernel_rfl
      rw [← e]
      exact hmg0
    obtain ⟨fd, hb, hF⟩ := DL.K10.facts (P := (PySem.Challenge.rw_parthost_k10_who_stands).prog) (w := w) KX G hmg c
    exact ⟨K, fd, DL.SpD K DL.K10.g_law, KX, hb, fun H a ns hl hO hS => DL.law_in hO hS ⟨ns, rfl, rfl⟩, hF⟩

