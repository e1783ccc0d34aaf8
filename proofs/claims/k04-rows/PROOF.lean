import PyProof.Rows.All
import Wide.All
import OpenK.AllK
import Wide.FinOn
import HandS.ForMost
import HandS.TupAny
import HandS.TupMul
import HandS.IsInst
import KE.DataEq
import KE.DataIsa
import PyProof.ReprReads
import HandS.Defaults
import HandS.Words
import HandS.Ends
import HandS.HeadEnd
import HandS.Style
import HandS.Strs
import HandS.TupSets
import HandS.Conv
import HandS.Zip
import HandS.SortInts
import HandS.SortKw
import HandS.Head0
import HandS.Head1
import HandS.Head2
import HandS.HeadHook1
import HandS.HeadHook2
import HandS.HeadNt
import KE.KStateDown
import Lean
import PySem.Challenge.RW_keyturns_k04_whole_rows_that_fall
set_option Elab.async false
set_option linter.all false
set_option maxRecDepth 100000
set_option maxHeartbeats 0
set_option autoImplicit false
section
/-! KV, part 1: data that stands still, owned lists, the state of a def's names as plain data. -/
namespace KV
open PySem PySem.Spec PyProof.Rows L2

/-- a list that stands still: locked, or of the written part -/
def FzL (K : PySem.W.Frag) (H : Hp) (a : Addr) (xs : List V) : Prop :=
  (∃ o, H a = some (.frz o (.lst xs))) ∨
    ∃ (o : Obj) (its : Array Value) (n : Nat), K.lookup a = some o ∧ o.cls = .type "list" ∧ o.dict = none ∧ o.data = .seq its n ∧ its.size ≤ sizeLine ∧ Vals xs its.toList
theorem FzL.sq {K : PySem.W.Frag} {H : Hp} {a : Addr} {xs : List V} (h : FzL K H a xs) : SqL K H a xs := by
  rcases h with h | h
  · exact .inl (.inr h)
  · exact .inr h
theorem FzL.of_sq {K : PySem.W.Frag} {H : Hp} {a : Addr} {xs : List V} (h : SqL K H a xs) (hn : ∀ ys, H a ≠ some (.lst ys)) : FzL K H a xs := by
  rcases h with (h | h) | h
  · exact absurd h (hn _)
  · exact .inl h
  · exact .inr h

mutual
/-- what a value is, as data that nobody changes any more -/
inductive Rp (K : PySem.W.Frag) (H : Hp) : V → PyData → Prop
  | non : Rp K H .non .none
  | bl (b : Bool) : Rp K H (.bl b) (.bool b)
  | int (i : Int) : Rp K H (.int i) (.int i)
  | str (x : Str) : Rp K H (.str x) (.str x)
  | lst {a : Addr} {vs : List V} {ds : List PyData} : FzL K H a vs → RpAll K H vs ds → Rp K H (.ref a) (.list ds)
  | tup {a : Addr} {vs : List V} {ds : List PyData} : SqT K H a vs → RpAll K H vs ds → Rp K H (.ref a) (.tuple ds)
inductive RpAll (K : PySem.W.Frag) (H : Hp) : List V → List PyData → Prop
  | nil : RpAll K H [] []
  | cons {v : V} {vs : List V} {d : PyData} {ds : List PyData} : Rp K H v d → RpAll K H vs ds → RpAll K H (v :: vs) (d :: ds)
end

/-- what never changes stands -/
structure Fx (H H' : Hp) : Prop where
  frz : ∀ b o u, H b = some (.frz o u) → H' b = some (.frz o u)
  tup : ∀ b xs, H b = some (.tup xs) → H' b = some (.tup xs)
theorem Fx.refl (H : Hp) : Fx H H := ⟨fun _ _ _ h => h, fun _ _ h => h⟩
theorem Fx.trans {H H1 H2 : Hp} (a : Fx H H1) (b : Fx H1 H2) : Fx H H2 := ⟨fun c o u h => b.frz c o u (a.frz c o u h), fun c xs h => b.tup c xs (a.tup c xs h)⟩
theorem Fx.of_same {H H' : Hp} (h : Same H H') : Fx H H' := ⟨fun b _ _ e => h b _ e, fun b _ e => h b _ e⟩
theorem SqT.fx {K : PySem.W.Frag} {H H' : Hp} {a : Addr} {xs : List V} (f : Fx H H') (h : SqT K H a xs) : SqT K H' a xs := by
  rcases h with (h | ⟨o, h⟩) | h
  · exact .inl (.inl (f.tup _ _ h))
  · exact .inl (.inr ⟨o, f.frz _ _ _ h⟩)
  · exact .inr h
theorem FzL.fx {K : PySem.W.Frag} {H H' : Hp} {a : Addr} {xs : List V} (f : Fx H H') (h : FzL K H a xs) : FzL K H' a xs := by
  rcases h with ⟨o, h⟩ | h
  · exact .inl ⟨o, f.frz _ _ _ h⟩
  · exact .inr h

section
variable {K : PySem.W.Frag} {H H' : Hp}
mutual
theorem Rp.fx (f : Fx H H') : ∀ {v : V} {d : PyData}, Rp K H v d → Rp K H' v d
  | _, _, .non => .non
  | _, _, .bl b => .bl b
  | _, _, .int i => .int i
  | _, _, .str x => .str x
  | _, _, .lst h1 h2 => .lst (h1.fx f) (RpAll.fx f h2)
  | _, _, .tup h1 h2 => .tup (SqT.fx f h1) (RpAll.fx f h2)
theorem RpAll.fx (f : Fx H H') : ∀ {vs : List V} {ds : List PyData}, RpAll K H vs ds → RpAll K H' vs ds
  | _, _, .nil => .nil
  | _, _, .cons h1 h2 => .cons (Rp.fx f h1) (RpAll.fx f h2)
end
mutual
theorem Rp.dp : ∀ {v : V} {d : PyData}, Rp K H v d → Dp K H v d
  | _, _, .non => .non
  | _, _, .bl b => .bl b
  | _, _, .int i => .int i
  | _, _, .str x => .str x
  | _, _, .lst h1 h2 => .lst h1.sq (RpAll.dp h2)
  | _, _, .tup h1 h2 => .tup h1 (RpAll.dp h2)
theorem RpAll.dp : ∀ {vs : List V} {ds : List PyData}, RpAll K H vs ds → DpAll K H vs ds
  | _, _, .nil => .nil
  | _, _, .cons h1 h2 => .cons (Rp.dp h1) (RpAll.dp h2)
end
theorem RpAll.length : ∀ {vs : List V} {ds : List PyData}, RpAll K H vs ds → vs.length = ds.length
  | _, _, .nil => rfl
  | _, _, .cons _ h => by simp [RpAll.length h]
theorem RpAll.get : ∀ {vs : List V} {ds : List PyData} {i : Nat} {v : V}, RpAll K H vs ds → vs[i]? = some v → ∃ d, ds[i]? = some d ∧ Rp K H v d
  | _, _, _, _, .nil, e => by simp at e
  | _, _, 0, _, .cons h _, e => by simp at e; subst e; exact ⟨_, rfl, h⟩
  | _, _, i + 1, _, .cons _ t, e => by
    obtain ⟨d, h1, h2⟩ := RpAll.get (i := i) t (by simpa using e)
    exact ⟨d, by simpa using h1, h2⟩
theorem RpAll.get' : ∀ {vs : List V} {ds : List PyData} {i : Nat} {d : PyData}, RpAll K H vs ds → ds[i]? = some d → ∃ v, vs[i]? = some v ∧ Rp K H v d
  | _, _, _, _, .nil, e => by simp at e
  | _, _, 0, _, .cons h _, e => by simp at e; subst e; exact ⟨_, rfl, h⟩
  | _, _, i + 1, _, .cons _ t, e => by
    obtain ⟨d, h1, h2⟩ := RpAll.get' (i := i) t (by simpa using e)
    exact ⟨d, by simpa using h1, h2⟩
theorem RpAll.append : ∀ {vs ws : List V} {ds es : List PyData}, RpAll K H vs ds → RpAll K H ws es → RpAll K H (vs ++ ws) (ds ++ es)
  | _, _, _, _, .nil, h => h
  | _, _, _, _, .cons a t, h => .cons a (RpAll.append t h)
theorem RpAll.take : ∀ {vs : List V} {ds : List PyData} (n : Nat), RpAll K H vs ds → RpAll K H (vs.take n) (ds.take n)
  | _, _, _, .nil => by simp; exact .nil
  | _, _, 0, .cons _ _ => .nil
  | _, _, n + 1, .cons a t => .cons a (RpAll.take n t)
theorem RpAll.drop : ∀ {vs : List V} {ds : List PyData} (n : Nat), RpAll K H vs ds → RpAll K H (vs.drop n) (ds.drop n)
  | _, _, _, .nil => by simp; exact .nil
  | _, _, 0, .cons a t => .cons a t
  | _, _, n + 1, .cons _ t => RpAll.drop n t
theorem RpAll.set : ∀ {vs : List V} {ds : List PyData} {v : V} {d : PyData} (i : Nat), Rp K H v d → RpAll K H vs ds → RpAll K H (vs.set i v) (ds.set i d)
  | _, _, _, _, _, _, .nil => .nil
  | _, _, _, _, 0, r, .cons _ t => .cons r t
  | _, _, _, _, i + 1, r, .cons a t => .cons a (RpAll.set i r t)
theorem RpAll.eraseIdx : ∀ {vs : List V} {ds : List PyData} (i : Nat), RpAll K H vs ds → RpAll K H (vs.eraseIdx i) (ds.eraseIdx i)
  | _, _, _, .nil => by simp; exact .nil
  | _, _, 0, .cons _ t => t
  | _, _, i + 1, .cons a t => .cons a (RpAll.eraseIdx i t)
theorem RpAll.reverse {vs : List V} {ds : List PyData} (h : RpAll K H vs ds) : RpAll K H vs.reverse ds.reverse := by
  induction vs generalizing ds with
  | nil => cases h; exact .nil
  | cons v vs ih =>
    cases h with
    | cons a t =>
      rw [List.reverse_cons, List.reverse_cons]
      exact (ih t).append (.cons a .nil)
theorem RpAll.one {vs : List V} {d : PyData} (h : RpAll K H vs [d]) : ∃ v, vs = [v] ∧ Rp K H v d := by
  cases h with
  | cons a t => cases t; exact ⟨_, rfl, a⟩
theorem RpAll.ints : ∀ (ns : List Int), RpAll K H (ns.map V.int) (ns.map PyData.int)
  | [] => .nil
  | n :: r => .cons (.int n) (RpAll.ints r)
theorem RpAll.ints_of : ∀ {vs : List V} {ns : List Int}, RpAll K H vs (ns.map PyData.int) → vs = ns.map V.int
  | _, [], h => by cases h; rfl
  | _, n :: r, h => by
    cases h with
    | cons a t => cases a; rw [RpAll.ints_of t]; rfl
end

/-! ### things that may change -/
inductive Ob where
  | lst (ds : List PyData)
def Ob.data : Ob → PyData
  | .lst ds => .list ds
def ObOk (K : PySem.W.Frag) (H : Hp) (p : Addr) : Ob → Prop
  | .lst ds => ∃ vs, H p = some (.lst vs) ∧ RpAll K H vs ds
theorem ObOk.mut {K : PySem.W.Frag} {H : Hp} {p : Addr} {c : Ob} (h : ObOk K H p c) : Mut (H p) := by
  cases c with
  | lst ds => obtain ⟨vs, e, _⟩ := h; rw [e]; trivial
theorem ObOk.fx {K : PySem.W.Frag} {H H' : Hp} {p : Addr} {c : Ob} (h : ObOk K H p c) (f : Fx H H') (e : H' p = H p) : ObOk K H' p c := by
  cases c with
  | lst ds => obtain ⟨vs, e1, r⟩ := h; exact ⟨vs, e.trans e1, r.fx f⟩

/-- frozen data, or a list as it stands now -/
inductive Bp (K : PySem.W.Frag) (H : Hp) : V → PyData → Prop
  | rp {v : V} {d : PyData} : Rp K H v d → Bp K H v d
  | ob {p : Addr} {c : Ob} : ObOk K H p c → Bp K H (.ref p) c.data
theorem Bp.dp {K : PySem.W.Frag} {H : Hp} {v : V} {d : PyData} (h : Bp K H v d) : Dp K H v d := by
  cases h with
  | rp h => exact h.dp
  | @ob p c h =>
    cases c with
    | lst ds =>
      obtain ⟨vs, e, r⟩ := h
      exact .lst (SqL.of e) r.dp
theorem Bp.list {K : PySem.W.Frag} {H : Hp} {v : V} {ds : List PyData} (h : Bp K H v (.list ds)) : ∃ a vs, v = .ref a ∧ SqL K H a vs ∧ RpAll K H vs ds := by
  generalize e : PyData.list ds = d at h
  cases h with
  | rp h =>
    subst e
    cases h with
    | lst h1 h2 => exact ⟨_, _, rfl, h1.sq, h2⟩
  | @ob p c h =>
    cases c with
    | lst ds' =>
      cases e
      obtain ⟨vs, e, r⟩ := h
      exact ⟨p, vs, rfl, SqL.of e, r⟩
theorem Bp.tuple {K : PySem.W.Frag} {H : Hp} {v : V} {ds : List PyData} (h : Bp K H v (.tuple ds)) : ∃ a vs, v = .ref a ∧ SqT K H a vs ∧ RpAll K H vs ds := by
  generalize e : PyData.tuple ds = d at h
  cases h with
  | rp h =>
    subst e
    cases h with
    | tup h1 h2 => exact ⟨_, _, rfl, h1, h2⟩
  | @ob p c h => cases c with | lst ds' => cases e
theorem Bp.int {K : PySem.W.Frag} {H : Hp} {v : V} {i : Int} (h : Bp K H v (.int i)) : v = .int i := by
  generalize e : PyData.int i = d at h
  cases h with
  | rp h => subst e; cases h; rfl
  | @ob p c h => cases c with | lst ds' => cases e
theorem Bp.bool {K : PySem.W.Frag} {H : Hp} {v : V} {b : Bool} (h : Bp K H v (.bool b)) : v = .bl b := by
  generalize e : PyData.bool b = d at h
  cases h with
  | rp h => subst e; cases h; rfl
  | @ob p c h => cases c with | lst ds' => cases e
theorem Bp.str {K : PySem.W.Frag} {H : Hp} {v : V} {x : Str} (h : Bp K H v (.str x)) : v = .str x := by
  generalize e : PyData.str x = d at h
  cases h with
  | rp h => subst e; cases h; rfl
  | @ob p c h => cases c with | lst ds' => cases e
theorem Bp.non {K : PySem.W.Frag} {H : Hp} {v : V} (h : Bp K H v .none) : v = .non := by
  generalize e : PyData.none = d at h
  cases h with
  | rp h => subst e; cases h; rfl
  | @ob p c h => cases c with | lst ds' => cases e

/-! ### the names of a def -/
inductive Sl where
  | un
  | fz (d : PyData)
  | own (c : Ob)
  | lck (c : Ob)
def Sl.ob : Sl → Option Ob
  | .own c => some c
  | .lck c => some c
  | _ => none
abbrev Nms := List Sl
def SlOk (K : PySem.W.Frag) (H : Hp) (O : Addr → Prop) (v : Option V) : Sl → Prop
  | .un => True
  | .fz d => ∃ x, v = some x ∧ Rp K H x d
  | .own c => ∃ p, v = some (.ref p) ∧ ObOk K H p c ∧ O p
  | .lck c => ∃ p, v = some (.ref p) ∧ ObOk K H p c ∧ O p
structure EnvOk (K : PySem.W.Frag) (H : Hp) (O : Addr → Prop) (r : Nms) (σ : L2.St) : Prop where
  len : r.length = σ.length
  ok : ∀ (i : Nat) (s : Sl), r[i]? = some s → ∃ v, σ[i]? = some v ∧ SlOk K H O v s
  sep : ∀ (i j : Nat) (s t : Sl) (c e : Ob) (p : Addr), r[i]? = some s → r[j]? = some t → s.ob = some c → t.ob = some e → σ[i]? = some (some (.ref p)) → σ[j]? = some (some (.ref p)) → i = j
  mt : ∀ p, O p → Mut (H p)
/-- a step of the heap: only what is owned changes; what is owned newly is new -/
structure Stp (H : Hp) (O : Addr → Prop) (H' : Hp) (O' : Addr → Prop) : Prop where
  keep : ∀ b o, H b = some o → ¬ O b → H' b = some o
  own : ∀ b, O' b → O b ∨ H b = none
theorem Stp.refl (H : Hp) (O : Addr → Prop) : Stp H O H O := ⟨fun _ _ h _ => h, fun _ h => .inl h⟩
theorem Stp.trans {H H1 H2 : Hp} {O O1 O2 : Addr → Prop} (a : Stp H O H1 O1) (b : Stp H1 O1 H2 O2) : Stp H O H2 O2 where
  keep := fun c o h n => b.keep c o (a.keep c o h n) fun z => by
    rcases a.own c z with q | q
    · exact n q
    · rw [h] at q; cases q
  own := fun c h => by
    rcases b.own c h with q | q
    · exact a.own c q
    · cases e : H c with
      | none => exact .inr rfl
      | some o =>
        by_cases n : O c
        · exact .inl n
        · rw [a.keep c o e n] at q; cases q
theorem Stp.fx {H H' : Hp} {O O' : Addr → Prop} (s : Stp H O H' O') (hm : ∀ p, O p → Mut (H p)) : Fx H H' :=
  ⟨fun b o u e => s.keep b _ e fun z => by have := hm b z; rw [e] at this; exact this, fun b xs e => s.keep b _ e fun z => by have := hm b z; rw [e] at this; exact this⟩
theorem Stp.of_same {H H' : Hp} {O : Addr → Prop} (h : Same H H') : Stp H O H' O := ⟨fun b o e _ => h b o e, fun _ z => .inl z⟩

theorem SlOk.same {K : PySem.W.Frag} {H H' : Hp} {O : Addr → Prop} {v : Option V} {s : Sl} (f : Fx H H') (e : ∀ p, O p → H' p = H p) (h : SlOk K H O v s) : SlOk K H' O v s := by
  cases s with
  | un => trivial
  | fz d => obtain ⟨x, e1, r⟩ := h; exact ⟨x, e1, r.fx f⟩
  | own c => obtain ⟨p, e1, r, o⟩ := h; exact ⟨p, e1, r.fx f (e p o), o⟩
  | lck c => obtain ⟨p, e1, r, o⟩ := h; exact ⟨p, e1, r.fx f (e p o), o⟩
theorem SlOk.mono {K : PySem.W.Frag} {H : Hp} {O O' : Addr → Prop} {v : Option V} {s : Sl} (f : ∀ p, O p → O' p) (h : SlOk K H O v s) : SlOk K H O' v s := by
  cases s with
  | un => trivial
  | fz d => exact h
  | own c => obtain ⟨p, e1, r, o⟩ := h; exact ⟨p, e1, r, f p o⟩
  | lck c => obtain ⟨p, e1, r, o⟩ := h; exact ⟨p, e1, r, f p o⟩
section
variable {K : PySem.W.Frag} {H H' : Hp} {O O' : Addr → Prop} {r : Nms} {σ : L2.St}
theorem EnvOk.same (I : EnvOk K H O r σ) (h : Same H H') : EnvOk K H' O r σ := by
  have e : ∀ p, O p → H' p = H p := fun p o => by
    have := I.mt p o
    cases q : H p with
    | none => rw [q] at this; exact this.elim
    | some u => exact h p u q
  exact ⟨I.len, fun i s q => let ⟨v, e1, z⟩ := I.ok i s q; ⟨v, e1, z.same (Fx.of_same h) e⟩, I.sep, fun p o => by rw [e p o]; exact I.mt p o⟩
/-- a new thing comes to what is owned -/
theorem EnvOk.add {p : Addr} (I : EnvOk K H O r σ) (h : Same H H') (hm : Mut (H' p)) : EnvOk K H' (fun b => O b ∨ b = p) r σ := by
  have I' := I.same h
  exact ⟨I'.len, fun i s q => let ⟨v, e1, z⟩ := I'.ok i s q; ⟨v, e1, z.mono fun _ => .inl⟩, I'.sep, fun b o => by
    rcases o with o | rfl
    · exact I'.mt b o
    · exact hm⟩
theorem Stp.add {p : Addr} (h : Same H H') (hp : H p = none) : Stp H O H' (fun b => O b ∨ b = p) := ⟨fun b o e _ => h b o e, fun b z => by
  rcases z with z | rfl
  · exact .inl z
  · exact .inr hp⟩
theorem EnvOk.fxOf (I : EnvOk K H O r σ) (s : Stp H O H' O') : Fx H H' := s.fx I.mt
end

/-! ### what an expression gives -/
inductive R where
  | val (d : PyData)
  | slot (i : Nat)
  | tmp (c : Ob)
def ROk (K : PySem.W.Frag) (H : Hp) (O : Addr → Prop) (r : Nms) (σ : L2.St) (v : V) : R → Prop
  | .val d => Rp K H v d
  | .slot i => σ[i]? = some (some v)
  | .tmp c => ∃ p, v = .ref p ∧ ObOk K H p c ∧ O p ∧ ∀ (i : Nat) (s : Sl) (e : Ob), r[i]? = some s → s.ob = some e → σ[i]? ≠ some (some (.ref p))
/-- locked names stay as they are -/
def Keep (r r' : Nms) : Prop := ∀ (i : Nat) (c : Ob), r[i]? = some (.lck c) → r'[i]? = some (.lck c)
theorem Keep.refl (r : Nms) : Keep r r := fun _ _ h => h
theorem Keep.trans {r r1 r2 : Nms} (a : Keep r r1) (b : Keep r1 r2) : Keep r r2 := fun i c h => b i c (a i c h)
theorem Keep.set {r : Nms} {i : Nat} {s : Sl} (h : ∀ c, r[i]? ≠ some (.lck c)) : Keep r (r.set i s) := fun j c e => by
  by_cases hj : i = j
  · subst hj; exact absurd e (h c)
  · rw [List.getElem?_set_ne hj]; exact e

abbrev Den := Nms → Option (R × Nms)
def tX (K : PySem.W.Frag) (f : Den) : TE := fun σ H Q => ∃ O r x r', EnvOk K H O r σ ∧ f r = some (x, r') ∧
  ∀ H' O' v, Stp H O H' O' → EnvOk K H' O' r' σ → Keep r r' → ROk K H' O' r' σ v x → Q v H'
abbrev Ex (X : Cx) (e : Expr) (f : Den) : Prop := PE X e (tX X.K f)

/-! ### names and constants -/
def dVar (i : Nat) : Den := fun r => match r[i]? with
  | some (.fz d) => some (.val d, r)
  | some (.own _) => some (.slot i, r)
  | some (.lck _) => some (.slot i, r)
  | _ => none
section
variable {X : Cx} {e a b : Expr} {f g : Den} {pos : Pos}
theorem ex_var {i : Nat} {x : Str} (h : PE X (.Name x pos) (tVar i)) : Ex X (.Name x pos) (dVar i) := by
  refine ⟨fun pins s σ H Q I hw => h.run pins s σ H Q I ?_⟩
  obtain ⟨O, r, y, r', E, hf, k⟩ := hw
  unfold dVar at hf
  split at hf
  · rename_i d q
    cases hf
    obtain ⟨v, e1, x, e2, z⟩ := E.ok i _ q
    subst e2
    exact ⟨x, e1, k H O x (Stp.refl _ _) E (Keep.refl _) z⟩
  · rename_i c q
    cases hf
    obtain ⟨v, e1, p, e2, z, o⟩ := E.ok i _ q
    subst e2
    exact ⟨_, e1, k H O _ (Stp.refl _ _) E (Keep.refl _) e1⟩
  · rename_i c q
    cases hf
    obtain ⟨v, e1, p, e2, z, o⟩ := E.ok i _ q
    subst e2
    exact ⟨_, e1, k H O _ (Stp.refl _ _) E (Keep.refl _) e1⟩
  · cases hf
def dC (d : PyData) : Den := fun r => some (.val d, r)
theorem ex_c {v : V} {d : PyData} (h : PE X e (tC v)) (hr : ∀ H, Rp X.K H v d) : Ex X e (dC d) := by
  refine ⟨fun pins s σ H Q I hw => h.run pins s σ H Q I ?_⟩
  obtain ⟨O, r, y, r', E, hf, k⟩ := hw
  cases hf
  exact k H O v (Stp.refl _ _) E (Keep.refl _) (hr H)
theorem ex_int {i j} : Ex X (.Constant (.int i) j pos) (dC (.int i)) := ex_c pe_int fun _ => .int i
theorem ex_bl {b j} : Ex X (.Constant (.bool b) j pos) (dC (.bool b)) := ex_c pe_bl fun _ => .bl b
theorem ex_non {j} : Ex X (.Constant .none j pos) (dC .none) := ex_c pe_non fun _ => .non
theorem ex_str {x j} : Ex X (.Constant (.str x) j pos) (dC (.str x)) := ex_c pe_str fun _ => .str x

/-! ### what is given away stands still from then on -/
theorem lock_rp {K : PySem.W.Frag} {H : Hp} {p : Addr} {c : Ob} {od : Obj} {u : HO} (h : ObOk K H p c) (hu : H p = some u) : Rp K (upd H p (.frz od u)) (.ref p) c.data ∧ Fx H (upd H p (.frz od u)) := by
  have m := h.mut
  have fx : Fx H (upd H p (.frz od u)) := by
    refine ⟨fun b o w e => ?_, fun b xs e => ?_⟩
    · rw [upd_ne (fun z => by rw [← z, e] at m; exact m)]; exact e
    · rw [upd_ne (fun z => by rw [← z, e] at m; exact m)]; exact e
  refine ⟨?_, fx⟩
  cases c with
  | lst ds =>
    obtain ⟨vs, e1, r⟩ := h
    rw [e1] at hu; cases hu
    exact .lst (.inl ⟨od, upd_same⟩) (r.fx fx)
/-- the other names when the thing at p is locked -/
theorem EnvOk.freeze {K : PySem.W.Frag} {H : Hp} {O : Addr → Prop} {r : Nms} {σ : L2.St} {p : Addr} {od : Obj} {u : HO} (E : EnvOk K H O r σ) (fx : Fx H (upd H p (.frz od u)))
    (hn : ∀ (i : Nat) (s : Sl) (e : Ob), r[i]? = some s → s.ob = some e → σ[i]? ≠ some (some (.ref p))) : EnvOk K (upd H p (.frz od u)) (fun b => O b ∧ b ≠ p) r σ := by
  refine ⟨E.len, fun i s q => ?_, E.sep, fun b ⟨o, ne⟩ => by rw [upd_ne ne]; exact E.mt b o⟩
  obtain ⟨v, e1, z⟩ := E.ok i s q
  refine ⟨v, e1, ?_⟩
  cases s with
  | un => trivial
  | fz d => obtain ⟨x, e2, rp⟩ := z; exact ⟨x, e2, rp.fx fx⟩
  | own c =>
    obtain ⟨p', e2, ob, o⟩ := z
    have ne : p' ≠ p := fun z => hn i _ c q rfl (by rw [e1, e2, z])
    exact ⟨p', e2, ob.fx fx (upd_ne ne), o, ne⟩
  | lck c =>
    obtain ⟨p', e2, ob, o⟩ := z
    have ne : p' ≠ p := fun z => hn i _ c q rfl (by rw [e1, e2, z])
    exact ⟨p', e2, ob.fx fx (upd_ne ne), o, ne⟩
theorem Stp.freeze {H : Hp} {O : Addr → Prop} {p : Addr} {od : Obj} {u : HO} (hp : O p) : Stp H O (upd H p (.frz od u)) (fun b => O b ∧ b ≠ p) :=
  ⟨fun b o e n => by rw [upd_ne (fun z => n (by rw [z]; exact hp))]; exact e, fun b z => .inl z.1⟩

/-- a temporary thing stands still -/
def stl : R × Nms → R × Nms
  | (.tmp c, r) => (.val c.data, r)
  | x => x
def dStl (f : Den) : Den := fun r => (f r).map stl
theorem ex_stl (h : Ex X e f) : Ex X e (dStl f) := by
  refine ⟨fun pins s σ H Q I hw => ?_⟩
  obtain ⟨O, r, y, r', E, hf, k⟩ := hw
  unfold dStl at hf
  cases q : f r with
  | none => rw [q] at hf; cases hf
  | some y0 =>
    rw [q] at hf
    obtain ⟨x0, r0⟩ := y0
    cases x0 with
    | val d => cases hf; exact h.run pins s σ H Q I ⟨O, r, _, _, E, q, k⟩
    | slot i => cases hf; exact h.run pins s σ H Q I ⟨O, r, _, _, E, q, k⟩
    | tmp c =>
      cases hf
      refine thn (h.run pins s σ H (fun v H1 => ∃ O1, Stp H O H1 O1 ∧ EnvOk X.K H1 O1 r' σ ∧ Keep r r' ∧ ROk X.K H1 O1 r' σ v (.tmp c)) I ⟨O, r, _, _, E, q, fun H' O' v a b c d => ⟨O', a, b, c, d⟩⟩) fun u s1 hh => ?_
      obtain ⟨v, H1, I1, rv, O1, st, E1, kp, p, rfl, ob, op, hn⟩ := hh
      obtain ⟨u0, hu⟩ : ∃ u0, H1 p = some u0 := by
        cases z : H1 p with
        | none => have := ob.mut; rw [z] at this; exact this.elim
        | some u0 => exact ⟨u0, rfl⟩
      obtain ⟨od, I2⟩ := I1.lock hu (by have := ob.mut; rw [hu] at this; exact this)
      obtain ⟨rp, fx⟩ := lock_rp (od := od) ob hu
      exact ⟨_, _, I2, rv, k _ _ _ (st.trans (Stp.freeze op)) (E1.freeze fx hn) kp rp⟩
/-- .. or a name's thing: it stands still, the name keeps it -/
def frz : R × Nms → Option (R × Nms)
  | (.tmp c, r) => some (.val c.data, r)
  | (.slot i, r) => match r[i]? with
    | some (.own c) => some (.val c.data, r.set i (.fz c.data))
    | some (.fz d) => some (.val d, r)
    | _ => none
  | x => some x
def dFrz (f : Den) : Den := fun r => (f r).bind frz
theorem EnvOk.set {K : PySem.W.Frag} {H : Hp} {O : Addr → Prop} {r : Nms} {σ : L2.St} {i : Nat} {s : Sl} (E : EnvOk K H O r σ) (h : ∀ v, σ[i]? = some v → SlOk K H O v s) (hs : s.ob = none) : EnvOk K H O (r.set i s) σ := by
  refine ⟨by rw [List.length_set]; exact E.len, fun j t q => ?_, fun a b s1 t1 c e p h1 h2 h3 h4 h5 h6 => ?_, E.mt⟩
  · by_cases hj : i = j
    · subst hj
      have hl : i < r.length := by
        rw [List.getElem?_eq_some_iff] at q
        obtain ⟨q, _⟩ := q
        simpa using q
      rw [List.getElem?_set_self hl] at q
      cases q
      have hl2 : i < σ.length := by rw [← E.len]; exact hl
      exact ⟨σ[i], List.getElem?_eq_getElem hl2, h _ (List.getElem?_eq_getElem hl2)⟩
    · rw [List.getElem?_set_ne hj] at q
      exact E.ok j t q
  · have n1 : i ≠ a := fun z => by
      subst z
      have hl : i < r.length := by
        rw [List.getElem?_eq_some_iff] at h1
        obtain ⟨q, _⟩ := h1
        simpa using q
      rw [List.getElem?_set_self hl] at h1
      cases h1
      rw [hs] at h3; cases h3
    have n2 : i ≠ b := fun z => by
      subst z
      have hl : i < r.length := by
        rw [List.getElem?_eq_some_iff] at h2
        obtain ⟨q, _⟩ := h2
        simpa using q
      rw [List.getElem?_set_self hl] at h2
      cases h2
      rw [hs] at h4; cases h4
    rw [List.getElem?_set_ne n1] at h1
    rw [List.getElem?_set_ne n2] at h2
    exact E.sep a b s1 t1 c e p h1 h2 h3 h4 h5 h6
theorem ex_frz (h : Ex X e f) : Ex X e (dFrz f) := by
  refine ⟨fun pins s σ H Q I hw => ?_⟩
  obtain ⟨O, r, y, r', E, hf, k⟩ := hw
  unfold dFrz at hf
  cases q : f r with
  | none => rw [q] at hf; cases hf
  | some y0 =>
    rw [q] at hf
    obtain ⟨x0, r0⟩ := y0
    cases x0 with
    | val d => cases hf; exact h.run pins s σ H Q I ⟨O, r, _, _, E, q, k⟩
    | tmp c =>
      cases hf
      exact (ex_stl h).run pins s σ H Q I ⟨O, r, _, _, E, by unfold dStl; rw [q]; rfl, k⟩
    | slot i =>
      have hf : (match r0[i]? with
        | some (.own c) => some (R.val c.data, r0.set i (.fz c.data))
        | some (.fz d) => some (R.val d, r0)
        | _ => none) = some (y, r') := hf
      split at hf
      · rename_i c qi
        cases hf
        refine thn (h.run pins s σ H (fun v H1 => ∃ O1, Stp H O H1 O1 ∧ EnvOk X.K H1 O1 r0 σ ∧ Keep r r0 ∧ ROk X.K H1 O1 r0 σ v (.slot i)) I ⟨O, r, _, _, E, q, fun H' O' v a b c d => ⟨O', a, b, c, d⟩⟩) fun u s1 hh => ?_
        obtain ⟨v, H1, I1, rv, O1, st, E1, kp, hv⟩ := hh
        have hv : σ[i]? = some (some v) := hv
        obtain ⟨v', e1, p, e2, ob, op⟩ := E1.ok i _ qi
        rw [hv] at e1; cases e1; cases e2
        obtain ⟨u0, hu⟩ : ∃ u0, H1 p = some u0 := by
          cases z : H1 p with
          | none => have := ob.mut; rw [z] at this; exact this.elim
          | some u0 => exact ⟨u0, rfl⟩
        obtain ⟨od, I2⟩ := I1.lock hu (by have := ob.mut; rw [hu] at this; exact this)
        obtain ⟨rp, fx⟩ := lock_rp (od := od) ob hu
        have E2 : EnvOk X.K H1 O1 (r0.set i .un) σ := E1.set (fun _ _ => trivial) rfl
        have E3 : EnvOk X.K (upd H1 p (.frz od u0)) (fun b => O1 b ∧ b ≠ p) (r0.set i .un) σ := E2.freeze fx fun j t e h1 h2 h3 => by
          have hl : i < r0.length := (List.getElem?_eq_some_iff.mp qi).1
          by_cases hj : i = j
          · subst hj
            rw [List.getElem?_set_self hl] at h1
            cases h1; cases h2
          · rw [List.getElem?_set_ne hj] at h1
            exact hj (E1.sep i j _ _ c e p qi h1 rfl h2 hv h3)
        have E4 : EnvOk X.K (upd H1 p (.frz od u0)) (fun b => O1 b ∧ b ≠ p) (r0.set i (.fz c.data)) σ := by
          have := E3.set (i := i) (s := .fz c.data) (fun v hv' => by rw [hv] at hv'; cases hv'; exact ⟨_, rfl, rp⟩) rfl
          rw [List.set_set] at this
          exact this
        exact ⟨_, _, I2, rv, k _ _ _ (st.trans (Stp.freeze op)) E4 (kp.trans (Keep.set fun c' z => by rw [qi] at z; cases z)) rp⟩
      · rename_i d qi
        cases hf
        refine h.run pins s σ H Q I ⟨O, r, _, _, E, q, fun H' O' v st E' kp hv => k H' O' v st E' kp ?_⟩
        have hv : σ[i]? = some (some v) := hv
        obtain ⟨v', e1, x, e2, rp⟩ := E'.ok i _ qi
        rw [hv] at e1; cases e1; cases e2
        exact rp
      · cases hf
end
end KV

end

section
/-! KV, part 2: operators, calls, displays over data. -/
namespace KV
open PySem PySem.Spec PyProof.Rows L2

def deref (r : Nms) : R → Option PyData
  | .val d => some d
  | .tmp c => some c.data
  | .slot i => match r[i]? with
    | some (.fz d) => some d
    | some (.own c) => some c.data
    | some (.lck c) => some c.data
    | _ => none
theorem ROk.deref {K : PySem.W.Frag} {H : Hp} {O : Addr → Prop} {r : Nms} {σ : L2.St} {v : V} {x : R} {d : PyData} (E : EnvOk K H O r σ) (h : ROk K H O r σ v x) (hd : deref r x = some d) : Bp K H v d := by
  cases x with
  | val d' => cases hd; exact .rp h
  | tmp c => cases hd; obtain ⟨p, rfl, ob, _⟩ := h; exact .ob ob
  | slot i =>
    have h : σ[i]? = some (some v) := h
    have hd : (match r[i]? with
      | some (.fz d) => some d
      | some (.own c) => some c.data
      | some (.lck c) => some c.data
      | _ => none) = some d := hd
    split at hd
    · rename_i d' q
      cases hd
      obtain ⟨v', e1, x, e2, rp⟩ := E.ok i _ q
      rw [h] at e1; cases e1; cases e2
      exact .rp rp
    · rename_i c q
      cases hd
      obtain ⟨v', e1, p, e2, ob, _⟩ := E.ok i _ q
      rw [h] at e1; cases e1; cases e2
      exact .ob ob
    · rename_i c q
      cases hd
      obtain ⟨v', e1, p, e2, ob, _⟩ := E.ok i _ q
      rw [h] at e1; cases e1; cases e2
      exact .ob ob
    · cases hd
def R.late : R → Bool
  | .tmp _ => false
  | _ => true
theorem ROk.go {K : PySem.W.Frag} {H H' : Hp} {O O' : Addr → Prop} {r r' : Nms} {σ : L2.St} {v : V} {x : R} (h : ROk K H O r σ v x) (f : Fx H H') (hl : x.late = true) : ROk K H' O' r' σ v x := by
  cases x with
  | val d => exact Rp.fx f h
  | slot i => exact h
  | tmp c => cases hl
theorem stl_late (y : R × Nms) : (stl y).1.late = true := by
  obtain ⟨x, r⟩ := y
  cases x <;> rfl
theorem dStl_late {f : Den} {r r' : Nms} {x : R} (h : dStl f r = some (x, r')) : x.late = true := by
  unfold dStl at h
  cases q : f r with
  | none => rw [q] at h; cases h
  | some y =>
    rw [q] at h
    have h : stl y = (x, r') := Option.some.inj h
    have := stl_late y
    rw [h] at this
    exact this

/-- what an operation gives: data, or a new thing -/
def NewR (K : PySem.W.Frag) (H H' : Hp) (v : V) : R → Prop
  | .val d => Same H H' ∧ Rp K H' v d
  | .tmp c => Same H H' ∧ ∃ p, v = .ref p ∧ H p = none ∧ ObOk K H' p c
  | .slot _ => False
theorem NewR.done {K : PySem.W.Frag} {H H' : Hp} {O : Addr → Prop} {r : Nms} {σ : L2.St} {v : V} {x : R} (n : NewR K H H' v x) (E : EnvOk K H O r σ) : ∃ O', Stp H O H' O' ∧ EnvOk K H' O' r σ ∧ ROk K H' O' r σ v x := by
  cases x with
  | val d => exact ⟨O, Stp.of_same n.1, E.same n.1, n.2⟩
  | slot i => exact n.elim
  | tmp c =>
    obtain ⟨sm, p, rfl, hp, ob⟩ := n
    refine ⟨_, Stp.add sm hp, E.add sm ob.mut, p, rfl, ob, .inr rfl, fun i s e h1 h2 h3 => ?_⟩
    obtain ⟨v, e1, z⟩ := E.ok i s h1
    rw [h3] at e1; cases e1
    cases s with
    | un => cases h2
    | fz d => cases h2
    | own c' => obtain ⟨q, e2, ob', _⟩ := z; cases e2; have := ob'.mut; rw [hp] at this; exact this
    | lck c' => obtain ⟨q, e2, ob', _⟩ := z; cases e2; have := ob'.mut; rw [hp] at this; exact this

abbrev Op2 := PyData → PyData → Option R
abbrev OpN := List PyData → Option R
def rD2 (K : PySem.W.Frag) (op : Op2) : R2 := fun x y H Q => ∃ dx dy z, Bp K H x dx ∧ Bp K H y dy ∧ op dx dy = some z ∧ ∀ H' w, NewR K H H' w z → Q w H'
inductive BpAll (K : PySem.W.Frag) (H : Hp) : List V → List PyData → Prop
  | nil : BpAll K H [] []
  | cons {v : V} {vs : List V} {d : PyData} {ds : List PyData} : Bp K H v d → BpAll K H vs ds → BpAll K H (v :: vs) (d :: ds)
def rDN (K : PySem.W.Frag) (op : OpN) : List V → Hp → VK → Prop := fun vs H Q => ∃ ds z, BpAll K H vs ds ∧ op ds = some z ∧ ∀ H' w, NewR K H H' w z → Q w H'

section
variable {X : Cx} {e a b c : Expr} {f g h : Den} {pos : Pos} {es : List Expr}

def dBin (f g : Den) (op : Op2) : Den := fun r => (dStl f r).bind fun (x, r1) => (g r1).bind fun (y, r2) => (deref r2 x).bind fun dx => (deref r2 y).bind fun dy => (op dx dy).bind fun z => some (z, r2)
theorem bin_inv {f g : Den} {op : Op2} {r r' : Nms} {z : R} (h : dBin f g op r = some (z, r')) : ∃ x r1 y dx dy, dStl f r = some (x, r1) ∧ g r1 = some (y, r') ∧ deref r' x = some dx ∧ deref r' y = some dy ∧ op dx dy = some z := by
  unfold dBin at h
  obtain ⟨⟨x, r1⟩, q1, h⟩ := Option.bind_eq_some_iff.mp h
  obtain ⟨⟨y, r2⟩, q2, h⟩ := Option.bind_eq_some_iff.mp h
  obtain ⟨dx, q3, h⟩ := Option.bind_eq_some_iff.mp h
  obtain ⟨dy, q4, h⟩ := Option.bind_eq_some_iff.mp h
  obtain ⟨z', q5, h⟩ := Option.bind_eq_some_iff.mp h
  cases h
  exact ⟨x, r1, y, dx, dy, q1, q2, q3, q4, q5⟩
/-- the reading of two operands -/
theorem bin_read {op : Op2} {σ : L2.St} {H : Hp} {Q : VK} (hw : tX X.K (dBin f g op) σ H Q) : tX X.K (dStl f) σ H fun x H1 => tX X.K g σ H1 fun y H2 => rD2 X.K op x y H2 Q := by
  obtain ⟨O, r, z, r', E, hf, k⟩ := hw
  obtain ⟨x, r1, y, dx, dy, q1, q2, q3, q4, q5⟩ := bin_inv hf
  refine ⟨O, r, x, r1, E, q1, fun H1 O1 v st1 E1 kp1 ro1 => ⟨O1, r1, y, r', E1, q2, fun H2 O2 u st2 E2 kp2 ro2 => ?_⟩⟩
  refine ⟨dx, dy, z, (ro1.go (O' := O2) (r' := r') (E1.fxOf st2) (dStl_late q1)).deref E2 q3, ro2.deref E2 q4, q5, fun H3 w n => ?_⟩
  obtain ⟨O3, st3, E3, ro3⟩ := n.done E2
  exact k H3 O3 w (st1.trans (st2.trans st3)) E3 (kp1.trans kp2) ro3
theorem ex_bin {o : Operator} {op : Op2} (ho : OpR X (binaryOp o) (rD2 X.K op)) (ha : Ex X a f) (hb : Ex X b g) : Ex X (.BinOp a o b pos) (dBin f g op) :=
  ⟨fun pins s σ H Q I hw => (pe_op ho (ex_stl ha) hb).run pins s σ H Q I (bin_read hw)⟩
theorem ex_cmp {o : CmpOp} {op : Op2} (ho : OpR X (compareOp o) (rD2 X.K op)) (ha : Ex X a f) (hb : Ex X b g) (hm : behindInMarks o b = false) : Ex X (.Compare a [o] [b] pos) (dBin f g op) :=
  ⟨fun pins s σ H Q I hw => (pe_cmpR ho (ex_stl ha) hb hm).run pins s σ H Q I (bin_read hw)⟩
def dUn (f : Den) (op : PyData → Option R) : Den := fun r => (f r).bind fun (x, r1) => (deref r1 x).bind fun d => (op d).bind fun z => some (z, r1)
def rD1 (K : PySem.W.Frag) (op : PyData → Option R) : V → Hp → VK → Prop := fun x H Q => ∃ d z, Bp K H x d ∧ op d = some z ∧ ∀ H' w, NewR K H H' w z → Q w H'
theorem un_inv {f : Den} {op : PyData → Option R} {r r' : Nms} {z : R} (h : dUn f op r = some (z, r')) : ∃ x d, f r = some (x, r') ∧ deref r' x = some d ∧ op d = some z := by
  unfold dUn at h
  obtain ⟨⟨x, r1⟩, q1, h⟩ := Option.bind_eq_some_iff.mp h
  obtain ⟨d, q3, h⟩ := Option.bind_eq_some_iff.mp h
  obtain ⟨z', q5, h⟩ := Option.bind_eq_some_iff.mp h
  cases h
  exact ⟨x, d, q1, q3, q5⟩
theorem un_read {op : PyData → Option R} {σ : L2.St} {H : Hp} {Q : VK} (hw : tX X.K (dUn f op) σ H Q) : tX X.K f σ H fun x H1 => rD1 X.K op x H1 Q := by
  obtain ⟨O, r, z, r', E, hf, k⟩ := hw
  obtain ⟨x, d, q1, q3, q5⟩ := un_inv hf
  refine ⟨O, r, x, r', E, q1, fun H1 O1 v st1 E1 kp1 ro1 => ⟨d, z, ro1.deref E1 q3, q5, fun H3 w n => ?_⟩⟩
  obtain ⟨O3, st3, E3, ro3⟩ := n.done E1
  exact k H3 O3 w (st1.trans st3) E3 kp1 ro3
theorem ex_un {o : UnaryOp} {op : PyData → Option R} (ho : UnR X (unaryOp o) (rD1 X.K op)) (ha : Ex X a f) : Ex X (.UnaryOp o a pos) (dUn f op) :=
  ⟨fun pins s σ H Q I hw => (pe_un ho ha).run pins s σ H Q I (un_read hw)⟩

/-! ### argument lists -/
inductive ROks (K : PySem.W.Frag) (H : Hp) (σ : L2.St) : List V → List R → Prop
  | nil : ROks K H σ [] []
  | cons {v : V} {vs : List V} {x : R} {xs : List R} : x.late = true → ROk K H (fun _ => False) [] σ v x → ROks K H σ vs xs → ROks K H σ (v :: vs) (x :: xs)
theorem ROk.any {K : PySem.W.Frag} {H : Hp} {O O' : Addr → Prop} {r r' : Nms} {σ : L2.St} {v : V} {x : R} (h : ROk K H O r σ v x) (hl : x.late = true) : ROk K H O' r' σ v x := by
  cases x with
  | val d => exact h
  | slot i => exact h
  | tmp c => cases hl
theorem ROks.fx {K : PySem.W.Frag} {H H' : Hp} {σ : L2.St} (f : Fx H H') : ∀ {vs : List V} {xs : List R}, ROks K H σ vs xs → ROks K H' σ vs xs
  | _, _, .nil => .nil
  | _, _, .cons hl h t => .cons hl (h.go f hl) (ROks.fx f t)
abbrev Dens := Nms → Option (List R × Nms)
def tXs (K : PySem.W.Frag) (f : Dens) : TA := fun σ H Q => ∃ O r x r', EnvOk K H O r σ ∧ f r = some (x, r') ∧
  ∀ H' O' v, Stp H O H' O' → EnvOk K H' O' r' σ → Keep r r' → ROks K H' σ v x → Q v H'
abbrev Exs (X : Cx) (es : List Expr) (f : Dens) : Prop := PA X es (tXs X.K f)
def dNil : Dens := fun r => some ([], r)
def dCons (f : Den) (g : Dens) : Dens := fun r => (dStl f r).bind fun (x, r1) => (g r1).bind fun (xs, r2) => some (x :: xs, r2)
theorem exs_nil : Exs X [] dNil := by
  refine ⟨fun pos pins s σ H Q I hw => ?_⟩
  obtain ⟨O, r, x, r', E, hf, k⟩ := hw
  cases hf
  exact pa_nil.run pos pins s σ H Q I (k H O [] (Stp.refl _ _) E (Keep.refl _) .nil)
theorem exs_cons {gs : Dens} (ha : Ex X e f) (hr : Exs X es gs) (hs : starEach (e :: es) X.env = (false, eval e X.env) :: starEach es X.env := by rfl) : Exs X (e :: es) (dCons f gs) := by
  refine ⟨fun pos pins s σ H Q I hw => (pa_cons (ex_stl ha) hr hs).run pos pins s σ H Q I ?_⟩
  obtain ⟨O, r, x, r', E, hf, k⟩ := hw
  unfold dCons at hf
  obtain ⟨⟨y, r1⟩, q1, hf⟩ := Option.bind_eq_some_iff.mp hf
  obtain ⟨⟨ys, r2⟩, q2, hf⟩ := Option.bind_eq_some_iff.mp hf
  cases hf
  refine ⟨O, r, y, r1, E, q1, fun H1 O1 v st1 E1 kp1 ro1 => ⟨O1, r1, ys, r', E1, q2, fun H2 O2 vs st2 E2 kp2 ro2 => ?_⟩⟩
  exact k H2 O2 _ (st1.trans st2) E2 (kp1.trans kp2) (.cons (dStl_late q1) ((ro1.go (O' := O2) (r' := r') (E1.fxOf st2) (dStl_late q1)).any (dStl_late q1)) ro2)
def derefs (r : Nms) : List R → Option (List PyData)
  | [] => some []
  | x :: xs => (deref r x).bind fun d => (derefs r xs).bind fun ds => some (d :: ds)
theorem ROks.derefs {K : PySem.W.Frag} {H : Hp} {O : Addr → Prop} {r : Nms} {σ : L2.St} (E : EnvOk K H O r σ) : ∀ {vs : List V} {xs : List R} {ds : List PyData}, ROks K H σ vs xs → derefs r xs = some ds → BpAll K H vs ds
  | _, _, _, .nil, h => by cases h; exact .nil
  | _, _, _, .cons hl h1 t, h => by
    unfold KV.derefs at h
    obtain ⟨d, q1, h⟩ := Option.bind_eq_some_iff.mp h
    obtain ⟨ds', q2, h⟩ := Option.bind_eq_some_iff.mp h
    cases h
    exact .cons ((h1.any (O' := O) (r' := r) hl).deref E q1) (ROks.derefs E t q2)
def dCB (fs : Dens) (op : OpN) : Den := fun r => (fs r).bind fun (xs, r1) => (derefs r1 xs).bind fun ds => (op ds).bind fun z => some (z, r1)
theorem cb_read {fs : Dens} {op : OpN} {σ : L2.St} {H : Hp} {Q : VK} (hw : tX X.K (dCB fs op) σ H Q) : tXs X.K fs σ H fun vs H1 => rDN X.K op vs H1 Q := by
  obtain ⟨O, r, z, r', E, hf, k⟩ := hw
  unfold dCB at hf
  obtain ⟨⟨xs, r1⟩, q1, hf⟩ := Option.bind_eq_some_iff.mp hf
  obtain ⟨ds, q2, hf⟩ := Option.bind_eq_some_iff.mp hf
  obtain ⟨z', q3, hf⟩ := Option.bind_eq_some_iff.mp hf
  cases hf
  refine ⟨O, r, xs, r', E, q1, fun H1 O1 v st1 E1 kp1 ro1 => ⟨ds, z, ro1.derefs E1 q2, q3, fun H3 w n => ?_⟩⟩
  obtain ⟨O3, st3, E3, ro3⟩ := n.done E1
  exact k H3 O3 w (st1.trans st3) E3 kp1 ro3
/-- f(e, ..), f a built-in function -/
theorem ex_callB {fs : Dens} {op : OpN} {x : Str} {p : Pos} {id : String} (hc : CallR X (.builtin id) (rDN X.K op)) (hg : Gl X x) (hm : X.mg x = none) (hv : bootBuiltins x = some (.builtin id)) (ha : Exs X (e :: es) fs) (hn : x ≠ "__name__" := by decide) (hdb : (x == ("__debug__" : Str)) = false := by decide)
    (he : starEach (e :: es) X.env = (false, eval e X.env) :: starEach es X.env := by rfl) (hpl : (backTo pos (starEach es X.env)).any (·.1) = false := by rfl) : Ex X (.Call (.Name x p) (e :: es) [] pos) (dCB fs op) :=
  ⟨fun pins s σ H Q I hw => (pe_callB hc hg hm hv ha hn hdb he hpl).run pins s σ H Q I (cb_read hw)⟩
/-- T(e, ..), T a built-in class -/
theorem ex_callTy {fs : Dens} {op : OpN} {x : Str} {p : Pos} {T : String} (hc : CallR X (.type T) (rDN X.K op)) (hg : Gl X x) (hm : X.mg x = none) (hv : bootBuiltins x = some (.type T)) (ha : Exs X (e :: es) fs) (hn : x ≠ "__name__" := by decide) (hdb : (x == ("__debug__" : Str)) = false := by decide)
    (he : starEach (e :: es) X.env = (false, eval e X.env) :: starEach es X.env := by rfl) (hpl : (backTo pos (starEach es X.env)).any (·.1) = false := by rfl) : Ex X (.Call (.Name x p) (e :: es) [] pos) (dCB fs op) :=
  ⟨fun pins s σ H Q I hw => (pe_callTy hc hg hm hv ha hn hdb he hpl).run pins s σ H Q I (cb_read hw)⟩

/-! ### arguments that stand still -/
abbrev Denv := Nms → Option (List PyData × Nms)
def tXv (K : PySem.W.Frag) (f : Denv) : TA := fun σ H Q => ∃ O r x r', EnvOk K H O r σ ∧ f r = some (x, r') ∧
  ∀ H' O' v, Stp H O H' O' → EnvOk K H' O' r' σ → Keep r r' → RpAll K H' v x → Q v H'
abbrev Exv (X : Cx) (es : List Expr) (f : Denv) : Prop := PA X es (tXv X.K f)
def vNil : Denv := fun r => some ([], r)
def vOf : R × Nms → Option (PyData × Nms)
  | (.val d, r) => some (d, r)
  | _ => none
def vCons (f : Den) (g : Denv) : Denv := fun r => ((dFrz f r).bind vOf).bind fun (x, r1) => (g r1).bind fun (xs, r2) => some (x :: xs, r2)
theorem vOf_some {y : R × Nms} {d : PyData} {r : Nms} (h : vOf y = some (d, r)) : y = (.val d, r) := by
  obtain ⟨x, r'⟩ := y
  cases x with
  | val d' => cases h; rfl
  | slot i => cases h
  | tmp c => cases h
theorem exv_nil : Exv X [] vNil := by
  refine ⟨fun pos pins s σ H Q I hw => ?_⟩
  obtain ⟨O, r, x, r', E, hf, k⟩ := hw
  cases hf
  exact pa_nil.run pos pins s σ H Q I (k H O [] (Stp.refl _ _) E (Keep.refl _) .nil)
theorem exv_cons {gs : Denv} (ha : Ex X e f) (hr : Exv X es gs) (hs : starEach (e :: es) X.env = (false, eval e X.env) :: starEach es X.env := by rfl) : Exv X (e :: es) (vCons f gs) := by
  refine ⟨fun pos pins s σ H Q I hw => (pa_cons (ex_frz ha) hr hs).run pos pins s σ H Q I ?_⟩
  obtain ⟨O, r, x, r', E, hf, k⟩ := hw
  unfold vCons at hf
  obtain ⟨⟨y, r1⟩, q1, hf⟩ := Option.bind_eq_some_iff.mp hf
  obtain ⟨⟨ys, r2⟩, q2, hf⟩ := Option.bind_eq_some_iff.mp hf
  cases hf
  obtain ⟨w, q3, q4⟩ := Option.bind_eq_some_iff.mp q1
  have := vOf_some q4
  subst this
  exact ⟨O, r, .val y, r1, E, q3, fun H1 O1 v st1 E1 kp1 ro1 => ⟨O1, r1, ys, r', E1, q2, fun H2 O2 vs st2 E2 kp2 ro2 => k H2 O2 _ (st1.trans st2) E2 (kp1.trans kp2) (.cons (Rp.fx (E1.fxOf st2) ro1) ro2)⟩⟩

/-! ### written tuples and lists -/
theorem same_upd {H : Hp} {p : Addr} {o : HO} (h : H p = none) : Same H (upd H p o) := fun b u e => by
  rw [upd_ne (ne_of_none e h)]; exact e
def dTup (fs : Denv) : Den := fun r => (fs r).bind fun (xs, r1) => if xs.length ≤ sizeLine then some (.val (.tuple xs), r1) else none
theorem ex_tup {fs : Denv} {x1} (h : Exv X es fs) : Ex X (.Tuple es x1 pos) (dTup fs) := by
  refine ⟨fun pins s σ H Q I hw => (pe_tup h).run pins s σ H Q I ?_⟩
  obtain ⟨O, r, x, r', E, hf, k⟩ := hw
  unfold dTup at hf
  obtain ⟨⟨xs, r1⟩, q1, hf⟩ := Option.bind_eq_some_iff.mp hf
  dsimp only at hf
  by_cases hl : xs.length ≤ sizeLine
  · rw [if_pos hl] at hf
    cases hf
    refine ⟨O, r, xs, r', E, q1, fun H1 O1 vs st1 E1 kp1 ro1 => ⟨by rw [ro1.length]; exact hl, fun p hp => ?_⟩⟩
    exact k _ O1 _ (st1.trans (Stp.of_same (same_upd hp))) (E1.same (same_upd hp)) kp1 (.tup (SqT.of upd_same) (ro1.fx (Fx.of_same (same_upd hp))))
  · rw [if_neg hl] at hf; cases hf
def dLst (fs : Denv) : Den := fun r => (fs r).bind fun (xs, r1) => if xs.length ≤ sizeLine then some (.tmp (.lst xs), r1) else none
theorem new_lst {K : PySem.W.Frag} {H : Hp} {p : Addr} {vs : List V} {ds : List PyData} (hp : H p = none) (r : RpAll K H vs ds) : NewR K H (upd H p (.lst vs)) (.ref p) (.tmp (.lst ds)) :=
  ⟨same_upd hp, p, rfl, hp, vs, upd_same, r.fx (Fx.of_same (same_upd hp))⟩
theorem new_tup {K : PySem.W.Frag} {H : Hp} {p : Addr} {vs : List V} {ds : List PyData} (hp : H p = none) (r : RpAll K H vs ds) : NewR K H (upd H p (.tup vs)) (.ref p) (.val (.tuple ds)) :=
  ⟨same_upd hp, .tup (SqT.of upd_same) (r.fx (Fx.of_same (same_upd hp)))⟩
theorem ex_lst {fs : Denv} (h : Exv X es fs) : Ex X (.List es pos) (dLst fs) := by
  refine ⟨fun pins s σ H Q I hw => (pe_lst h).run pins s σ H Q I ?_⟩
  obtain ⟨O, r, x, r', E, hf, k⟩ := hw
  unfold dLst at hf
  obtain ⟨⟨xs, r1⟩, q1, hf⟩ := Option.bind_eq_some_iff.mp hf
  dsimp only at hf
  by_cases hl : xs.length ≤ sizeLine
  · rw [if_pos hl] at hf
    cases hf
    refine ⟨O, r, xs, r', E, q1, fun H1 O1 vs st1 E1 kp1 ro1 => ⟨by rw [ro1.length]; exact hl, fun p hp => ?_⟩⟩
    obtain ⟨O3, st3, E3, ro3⟩ := (new_lst hp ro1).done E1
    exact k _ O3 _ (st1.trans st3) E3 kp1 ro3
  · rw [if_neg hl] at hf; cases hf

/-! ### tests, and, or, not, if -/
abbrev DenT := Nms → Option (Bool × Nms)
def tT (K : PySem.W.Frag) (f : DenT) : TT := fun σ H Q => ∃ O r x r', EnvOk K H O r σ ∧ f r = some (x, r') ∧
  ∀ H' O', Stp H O H' O' → EnvOk K H' O' r' σ → Keep r r' → Q x H'
abbrev Tx (X : Cx) (e : Expr) (f : DenT) : Prop := PT X e (tT X.K f)
abbrev Wx (X : Cx) (e : Expr) (f : DenT) : Prop := PW X e (tT X.K f)
def bOf : R × Nms → Option (Bool × Nms)
  | (.val (.bool b), r) => some (b, r)
  | _ => none
theorem bOf_some {y : R × Nms} {d : Bool} {r : Nms} (h : bOf y = some (d, r)) : y = (.val (.bool d), r) := by
  obtain ⟨x, r'⟩ := y
  cases x with
  | val d' => cases d' <;> cases h; rfl
  | slot i => cases h
  | tmp c => cases h
def dB (f : Den) : DenT := fun r => (f r).bind bOf
theorem b_read {σ : L2.St} {H : Hp} {Q : Bool → Hp → Prop} (hw : tT X.K (dB f) σ H Q) : tX X.K f σ H fun x H1 => ∃ c, x = .bl c ∧ Q c H1 := by
  obtain ⟨O, r, x, r', E, hf, k⟩ := hw
  unfold dB at hf
  obtain ⟨y, q1, hf⟩ := Option.bind_eq_some_iff.mp hf
  have := bOf_some hf
  subst this
  refine ⟨O, r, _, r', E, q1, fun H1 O1 v st1 E1 kp1 ro1 => ⟨x, ?_, k H1 O1 st1 E1 kp1⟩⟩
  have ro1 : Rp X.K H1 v (.bool x) := ro1
  cases ro1
  rfl
theorem tx_val (h : Ex X e f) (he : ∀ whole, isTrue e X.env whole = (do let v ← whole; standAt e.pos; holding [v] (truthy v)) := by intro _; rfl) : Tx X e (dB f) :=
  ⟨fun pins s σ H Q I hw => (pt_val h he).run pins s σ H Q I (b_read hw)⟩
theorem tx_cmp {o : CmpOp} {op : Op2} (ho : OpR X (compareOp o) (rD2 X.K op)) (ha : Ex X a f) (hb : Ex X b g) (hm : behindInMarks o b = false) : Tx X (.Compare a [o] [b] pos) (dB (dBin f g op)) := by
  refine ⟨fun pins s σ H Q I hw => (pt_cmpR ho (ex_stl ha) hb hm).run pins s σ H Q I ?_⟩
  exact bin_read (b_read hw)
theorem tx_of_wx {t : DenT} (h : Wx X e t) : Tx X e t := h.pt
variable {t u : DenT} {rest : List Expr}
def dAnd (t u : DenT) : DenT := fun r => (t r).bind fun (c, r1) => if c = true then u r1 else some (false, r1)
def dOr (t u : DenT) : DenT := fun r => (t r).bind fun (c, r1) => if c = true then some (true, r1) else u r1
def dNot (t : DenT) : DenT := fun r => (t r).bind fun (c, r1) => some (!c, r1)
theorem wx_and1 (ha : Tx X a t) : Wx X (.BoolOp .And [a] pos) t := pw_and1 ha
theorem wx_or1 (ha : Tx X a t) : Wx X (.BoolOp .Or [a] pos) t := pw_or1 ha
theorem and_read {σ : L2.St} {H : Hp} {Q : Bool → Hp → Prop} (hw : tT X.K (dAnd t u) σ H Q) : tT X.K t σ H fun c H1 => if c = true then tT X.K u σ H1 Q else Q false H1 := by
  obtain ⟨O, r, x, r', E, hf, k⟩ := hw
  unfold dAnd at hf
  obtain ⟨⟨c, r1⟩, q1, hf⟩ := Option.bind_eq_some_iff.mp hf
  refine ⟨O, r, c, r1, E, q1, fun H1 O1 st1 E1 kp1 => ?_⟩
  cases c with
  | true => exact ⟨O1, r1, x, r', E1, hf, fun H2 O2 st2 E2 kp2 => k H2 O2 (st1.trans st2) E2 (kp1.trans kp2)⟩
  | false => cases hf; exact k H1 O1 st1 E1 kp1
theorem or_read {σ : L2.St} {H : Hp} {Q : Bool → Hp → Prop} (hw : tT X.K (dOr t u) σ H Q) : tT X.K t σ H fun c H1 => if c = true then Q true H1 else tT X.K u σ H1 Q := by
  obtain ⟨O, r, x, r', E, hf, k⟩ := hw
  unfold dOr at hf
  obtain ⟨⟨c, r1⟩, q1, hf⟩ := Option.bind_eq_some_iff.mp hf
  refine ⟨O, r, c, r1, E, q1, fun H1 O1 st1 E1 kp1 => ?_⟩
  cases c with
  | false => exact ⟨O1, r1, x, r', E1, hf, fun H2 O2 st2 E2 kp2 => k H2 O2 (st1.trans st2) E2 (kp1.trans kp2)⟩
  | true => cases hf; exact k H1 O1 st1 E1 kp1
theorem wx_and (ha : Tx X a t) (hb : Wx X (.BoolOp .And (b :: rest) pos) u) : Wx X (.BoolOp .And (a :: b :: rest) pos) (dAnd t u) :=
  ⟨fun wh pins s σ H Q I hw => (pw_and ha hb).run wh pins s σ H Q I (and_read hw)⟩
theorem wx_or (ha : Tx X a t) (hb : Wx X (.BoolOp .Or (b :: rest) pos) u) : Wx X (.BoolOp .Or (a :: b :: rest) pos) (dOr t u) :=
  ⟨fun wh pins s σ H Q I hw => (pw_or ha hb).run wh pins s σ H Q I (or_read hw)⟩
theorem not_read {σ : L2.St} {H : Hp} {Q : Bool → Hp → Prop} (hw : tT X.K (dNot t) σ H Q) : tT X.K t σ H fun c H1 => Q (!c) H1 := by
  obtain ⟨O, r, x, r', E, hf, k⟩ := hw
  unfold dNot at hf
  obtain ⟨⟨c, r1⟩, q1, hf⟩ := Option.bind_eq_some_iff.mp hf
  cases hf
  exact ⟨O, r, c, r', E, q1, fun H1 O1 st1 E1 kp1 => k H1 O1 st1 E1 kp1⟩
theorem tx_not (ha : Tx X a t) : Tx X (.UnaryOp .Not a pos) (dNot t) :=
  ⟨fun pins s σ H Q I hw => (pt_not ha).run pins s σ H Q I (not_read hw)⟩
/-- .. as values -/
def dV (t : DenT) : Den := fun r => (t r).bind fun (c, r1) => some (.val (.bool c), r1)
theorem v_mono {σ : L2.St} {H : Hp} {Q : VK} (hw : tX X.K (dV t) σ H Q) : tT X.K t σ H fun c H1 => Q (.bl c) H1 := by
  obtain ⟨O, r, x, r', E, hf, k⟩ := hw
  unfold dV at hf
  obtain ⟨⟨c, r1⟩, q1, hf⟩ := Option.bind_eq_some_iff.mp hf
  cases hf
  exact ⟨O, r, c, r', E, q1, fun H1 O1 st1 E1 kp1 => k H1 O1 _ st1 E1 kp1 (.bl c)⟩
theorem dV_dB_read {σ : L2.St} {H : Hp} {Q : VK} (hw : tX X.K (dV (dB f)) σ H Q) : tX X.K f σ H fun x H1 => ∃ c, x = .bl c ∧ Q (.bl c) H1 := b_read (v_mono hw)
theorem ex_and1 {op} (ha : Ex X a f) : Ex X (.BoolOp op [a] pos) (dV (dB f)) := by
  refine ⟨fun pins s σ H Q I hw => (pe_one ha).run pins s σ H Q I ?_⟩
  obtain ⟨O, r, x, r', E, hf, k⟩ := hw
  unfold dV dB at hf
  obtain ⟨⟨c, r1⟩, q1, hf⟩ := Option.bind_eq_some_iff.mp hf
  obtain ⟨y, q2, q3⟩ := Option.bind_eq_some_iff.mp q1
  have := bOf_some q3
  subst this
  cases hf
  exact ⟨O, r, _, r', E, q2, k⟩
theorem ex_and {pu : DenT} (ha : Ex X a f) (hb : Ex X (.BoolOp .And (b :: rest) pos) (dV pu)) : Ex X (.BoolOp .And (a :: b :: rest) pos) (dV (dAnd (dB f) pu)) := by
  refine ⟨fun pins s σ H Q I hw => (pe_and ha hb).run pins s σ H Q I ?_⟩
  have h2 := b_read (and_read (v_mono hw))
  obtain ⟨O, r, x, r', E, hf, k⟩ := h2
  refine ⟨O, r, x, r', E, hf, fun H1 O1 v st1 E1 kp1 ro1 => ?_⟩
  obtain ⟨c, e, q⟩ := k H1 O1 v st1 E1 kp1 ro1
  refine ⟨c, e, ?_⟩
  cases c with
  | false => exact q
  | true =>
    obtain ⟨O2, r2, y, r3, E2, hf2, k2⟩ := q
    exact ⟨O2, r2, .val (.bool y), r3, E2, by unfold dV; rw [hf2]; rfl, fun H3 O3 v3 st3 E3 kp3 ro3 => by
      have ro3 : Rp X.K H3 v3 (.bool y) := ro3
      cases ro3
      exact k2 H3 O3 st3 E3 kp3⟩
theorem ex_or {pu : DenT} (ha : Ex X a f) (hb : Ex X (.BoolOp .Or (b :: rest) pos) (dV pu)) : Ex X (.BoolOp .Or (a :: b :: rest) pos) (dV (dOr (dB f) pu)) := by
  refine ⟨fun pins s σ H Q I hw => (pe_or ha hb).run pins s σ H Q I ?_⟩
  have h2 := b_read (or_read (v_mono hw))
  obtain ⟨O, r, x, r', E, hf, k⟩ := h2
  refine ⟨O, r, x, r', E, hf, fun H1 O1 v st1 E1 kp1 ro1 => ?_⟩
  obtain ⟨c, e, q⟩ := k H1 O1 v st1 E1 kp1 ro1
  refine ⟨c, e, ?_⟩
  cases c with
  | true => exact q
  | false =>
    obtain ⟨O2, r2, y, r3, E2, hf2, k2⟩ := q
    exact ⟨O2, r2, .val (.bool y), r3, E2, by unfold dV; rw [hf2]; rfl, fun H3 O3 v3 st3 E3 kp3 ro3 => by
      have ro3 : Rp X.K H3 v3 (.bool y) := ro3
      cases ro3
      exact k2 H3 O3 st3 E3 kp3⟩
theorem ex_not (ha : Ex X a f) : Ex X (.UnaryOp .Not a pos) (dV (dNot (dB f))) := by
  refine ⟨fun pins s σ H Q I hw => (pe_not ha).run pins s σ H Q I ?_⟩
  exact b_read (not_read (v_mono hw))
def dIfE (t : DenT) (f g : Den) : Den := fun r => (t r).bind fun (c, r1) => if c = true then f r1 else g r1
theorem ex_if (hc : Tx X c t) (ha : Ex X a f) (hb : Ex X b g) : Ex X (.IfExp c a b pos) (dIfE t f g) := by
  refine ⟨fun pins s σ H Q I hw => (pe_ifExp hc ha hb).run pins s σ H Q I ?_⟩
  obtain ⟨O, r, x, r', E, hf, k⟩ := hw
  unfold dIfE at hf
  obtain ⟨⟨c, r1⟩, q1, hf⟩ := Option.bind_eq_some_iff.mp hf
  refine ⟨O, r, c, r1, E, q1, fun H1 O1 st1 E1 kp1 => ?_⟩
  cases c with
  | true => exact ⟨O1, r1, x, r', E1, hf, fun H2 O2 v st2 E2 kp2 ro => k H2 O2 v (st1.trans st2) E2 (kp1.trans kp2) ro⟩
  | false => exact ⟨O1, r1, x, r', E1, hf, fun H2 O2 v st2 E2 kp2 ro => k H2 O2 v (st1.trans st2) E2 (kp1.trans kp2) ro⟩
end
end KV

end

section
/-! KV, part 3: statements, loops, comprehensions, defs. -/
namespace KV
open PySem PySem.Spec PyProof.Rows L2

inductive Out where
  | nx (r : Nms)
  | rt (x : R) (r : Nms)
  | bk (r : Nms)
  | ct (r : Nms)
/-- what a statement keeps of the names: locked ones, and (io) the first parameter -/
structure KeepS (io : Bool) (r : Nms) (σ : L2.St) (r' : Nms) (σ' : L2.St) : Prop where
  lk : Keep r r'
  lks : ∀ (i : Nat) (c : Ob), r[i]? = some (.lck c) → σ'[i]? = σ[i]?
  first : io = true → σ'[0]? = σ[0]?
theorem KeepS.refl (io : Bool) (r : Nms) (σ : L2.St) : KeepS io r σ r σ := ⟨Keep.refl r, fun _ _ _ => rfl, fun _ => rfl⟩
theorem KeepS.of {io : Bool} {r r' : Nms} {σ : L2.St} (k : Keep r r') : KeepS io r σ r' σ := ⟨k, fun _ _ _ => rfl, fun _ => rfl⟩
theorem KeepS.trans {io : Bool} {r r1 r2 : Nms} {σ σ1 σ2 : L2.St} (a : KeepS io r σ r1 σ1) (b : KeepS io r1 σ1 r2 σ2) : KeepS io r σ r2 σ2 :=
  ⟨a.lk.trans b.lk, fun i c h => (b.lks i c (a.lk i c h)).trans (a.lks i c h), fun h => (b.first h).trans (a.first h)⟩

def Post (K : PySem.W.Frag) (io : Bool) (D : Ends) (O : Addr → Prop) (r : Nms) (σ : L2.St) (H : Hp) : Out → Prop
  | .nx r' => ∀ H' O' σ', Stp H O H' O' → EnvOk K H' O' r' σ' → KeepS io r σ r' σ' → D.nx σ' H'
  | .rt x r' => ∀ H' O' σ' v, Stp H O H' O' → EnvOk K H' O' r' σ' → KeepS io r σ r' σ' → ROk K H' O' r' σ' v x → D.rt v H'
  | .bk r' => ∀ H' O' σ', Stp H O H' O' → EnvOk K H' O' r' σ' → KeepS io r σ r' σ' → D.bk σ' H'
  | .ct r' => ∀ H' O' σ', Stp H O H' O' → EnvOk K H' O' r' σ' → KeepS io r σ r' σ' → D.ct σ' H'
theorem Post.pre {K : PySem.W.Frag} {io : Bool} {D : Ends} {O O1 : Addr → Prop} {r r1 : Nms} {σ σ1 : L2.St} {H H1 : Hp} {o : Out} (h : Post K io D O r σ H o) (st : Stp H O H1 O1) (k : KeepS io r σ r1 σ1) : Post K io D O1 r1 σ1 H1 o := by
  cases o with
  | nx r' => exact fun H' O' σ' a b c => h H' O' σ' (st.trans a) b (k.trans c)
  | rt x r' => exact fun H' O' σ' v a b c d => h H' O' σ' v (st.trans a) b (k.trans c) d
  | bk r' => exact fun H' O' σ' a b c => h H' O' σ' (st.trans a) b (k.trans c)
  | ct r' => exact fun H' O' σ' a b c => h H' O' σ' (st.trans a) b (k.trans c)
abbrev DenS := Nms → Option Out
def tS (K : PySem.W.Frag) (io : Bool) (f : DenS) : TS := fun D σ H => ∃ O r o, EnvOk K H O r σ ∧ f r = some o ∧ Post K io D O r σ H o
abbrev Sx (io : Bool) (X : Cx) (st : Stmt) (f : DenS) : Prop := PS X st (tS X.K io f)
abbrev Bx (io : Bool) (X : Cx) (st : List Stmt) (f : DenS) : Prop := PSs X st (tS X.K io f)

def dNext : DenS := fun r => some (.nx r)
def dSeq (f g : DenS) : DenS := fun r => (f r).bind fun o => match o with
  | .nx r1 => g r1
  | o => some o
section
variable {io : Bool} {X : Cx} {e a b : Expr} {f g : Den} {t : DenT} {u w : DenS} {pos : Pos} {st : Stmt} {rest : List Stmt}
theorem bx_nil : Bx io X [] dNext := by
  refine ⟨fun pins s σ H D I hw => pss_nil.run pins s σ H D I ?_⟩
  obtain ⟨O, r, o, E, hf, k⟩ := hw
  cases hf
  exact k H O σ (Stp.refl _ _) E (KeepS.refl _ _ _)
theorem seq_read {D : Ends} {σ : L2.St} {H : Hp} (hw : tS X.K io (dSeq u w) D σ H) : tS X.K io u { D with nx := tS X.K io w D } σ H := by
  obtain ⟨O, r, o, E, hf, k⟩ := hw
  unfold dSeq at hf
  obtain ⟨o1, q1, hf⟩ := Option.bind_eq_some_iff.mp hf
  refine ⟨O, r, o1, E, q1, ?_⟩
  cases o1 with
  | nx r1 => exact fun H' O' σ' a b c => ⟨O', r1, o, b, hf, k.pre a c⟩
  | rt x r' => cases hf; exact k
  | bk r' => cases hf; exact k
  | ct r' => cases hf; exact k
theorem bx_cons (h1 : Sx io X st u) (h2 : Bx io X rest w) : Bx io X (st :: rest) (dSeq u w) :=
  ⟨fun pins s σ H D I hw => (pss_cons h1 h2).run pins s σ H D I (seq_read hw)⟩
theorem bx_one (h1 : Sx io X st u) : Bx io X [st] u := pss_one h1
def dIf (t : DenT) (u w : DenS) : DenS := fun r => (t r).bind fun (c, r1) => if c = true then u r1 else w r1
theorem sx_if {c : Expr} {A B : List Stmt} (hc : Tx X c t) (ha : Bx io X A u) (hb : Bx io X B w) : Sx io X (.If c A B pos) (dIf t u w) := by
  refine ⟨fun pins s σ H D I hw => (ps_if hc ha hb).run pins s σ H D I ?_⟩
  obtain ⟨O, r, o, E, hf, k⟩ := hw
  unfold dIf at hf
  obtain ⟨⟨c, r1⟩, q1, hf⟩ := Option.bind_eq_some_iff.mp hf
  refine ⟨O, r, c, r1, E, q1, fun H1 O1 st1 E1 kp1 => ?_⟩
  cases c with
  | true => exact ⟨O1, r1, o, E1, hf, k.pre st1 (KeepS.of kp1)⟩
  | false => exact ⟨O1, r1, o, E1, hf, k.pre st1 (KeepS.of kp1)⟩
def dRet (f : Den) : DenS := fun r => (f r).bind fun (x, r1) => some (.rt x r1)
theorem sx_ret (he : Ex X e f) : Sx io X (.Return (some e) pos) (dRet f) := by
  refine ⟨fun pins s σ H D I hw => ?_⟩
  obtain ⟨O, r, o, E, hf, k⟩ := hw
  unfold dRet at hf
  obtain ⟨⟨x, r1⟩, q1, hf⟩ := Option.bind_eq_some_iff.mp hf
  cases hf
  exact (ps_ret he).run pins s σ H D I ⟨O, r, x, r1, E, q1, fun H1 O1 v st1 E1 kp1 ro1 => k H1 O1 σ v st1 E1 (KeepS.of kp1) ro1⟩
theorem sx_pass : Sx io X (.Pass pos) dNext := by
  refine ⟨fun pins s σ H D I hw => ps_pass.run pins s σ H D I ?_⟩
  obtain ⟨O, r, o, E, hf, k⟩ := hw
  cases hf
  exact k H O σ (Stp.refl _ _) E (KeepS.refl _ _ _)
def dBreak : DenS := fun r => some (.bk r)
theorem sx_break : Sx io X (.Break pos) dBreak := by
  refine ⟨fun pins s σ H D I hw => ps_break.run pins s σ H D I ?_⟩
  obtain ⟨O, r, o, E, hf, k⟩ := hw
  cases hf
  exact k H O σ (Stp.refl _ _) E (KeepS.refl _ _ _)
theorem sx_doc {x j pos'} : Sx io X (.Expr (.Constant (.str x) j pos) pos') dNext := by
  refine ⟨fun pins s σ H D I hw => ps_doc.run pins s σ H D I ?_⟩
  obtain ⟨O, r, o, E, hf, k⟩ := hw
  cases hf
  exact k H O σ (Stp.refl _ _) E (KeepS.refl _ _ _)
def dDrop (f : Den) : DenS := fun r => (f r).bind fun (_, r1) => some (.nx r1)
theorem sx_expr (he : Ex X e f) (hs : swapsWith e none pos.line X.env = pure false := by rfl) : Sx io X (.Expr e pos) (dDrop f) := by
  refine ⟨fun pins s σ H D I hw => (ps_expr he hs).run pins s σ H D I ?_⟩
  obtain ⟨O, r, o, E, hf, k⟩ := hw
  unfold dDrop at hf
  obtain ⟨⟨x, r1⟩, q1, hf⟩ := Option.bind_eq_some_iff.mp hf
  cases hf
  exact ⟨O, r, x, r1, E, q1, fun H1 O1 v st1 E1 kp1 ro1 => k H1 O1 σ st1 E1 (KeepS.of kp1)⟩

/-! ### targets -/
/-- a name takes what is given -/
def setSl (i : Nat) (s : Sl) (r : Nms) : Option Nms := match r[i]? with
  | some (.lck _) => none
  | some _ => some (r.set i s)
  | none => none
theorem setSl_some {i : Nat} {s : Sl} {r r' : Nms} (h : setSl i s r = some r') : r' = r.set i s ∧ i < r.length ∧ ∀ c, r[i]? ≠ some (.lck c) := by
  unfold setSl at h
  split at h
  · cases h
  · rename_i t h1 h2
    cases h
    refine ⟨rfl, (List.getElem?_eq_some_iff.mp h2).1, fun c z => ?_⟩
    rw [z] at h2; cases h2; exact h1 c rfl
  · cases h
theorem EnvOk.store {K : PySem.W.Frag} {H : Hp} {O : Addr → Prop} {r : Nms} {σ : L2.St} {i : Nat} {s : Sl} {v : V} (E : EnvOk K H O r σ) (h : SlOk K H O (some v) s) (hs : ∀ c, s.ob = some c → ∀ (j : Nat) t e p, r[j]? = some t → t.ob = some e → j ≠ i → v = .ref p → σ[j]? ≠ some (some (.ref p))) : EnvOk K H O (r.set i s) (σ.set i (some v)) := by
  refine ⟨by rw [List.length_set, List.length_set]; exact E.len, fun j t q => ?_, fun a b s1 t1 c e p h1 h2 h3 h4 h5 h6 => ?_, E.mt⟩
  · by_cases hj : i = j
    · subst hj
      have hl : i < r.length := by
        obtain ⟨q, _⟩ := List.getElem?_eq_some_iff.mp q
        simpa using q
      rw [List.getElem?_set_self hl] at q
      cases q
      have hl2 : i < σ.length := by rw [← E.len]; exact hl
      exact ⟨some v, List.getElem?_set_self hl2, h⟩
    · rw [List.getElem?_set_ne hj] at q
      rw [List.getElem?_set_ne hj]
      exact E.ok j t q
  · have key : ∀ (a b : Nat) (s1 t1 : Sl) (c e : Ob), (r.set i s)[a]? = some s1 → (r.set i s)[b]? = some t1 → s1.ob = some c → t1.ob = some e → (σ.set i (some v))[a]? = some (some (.ref p)) → (σ.set i (some v))[b]? = some (some (.ref p)) → a = i → b ≠ i → False := by
      intro a b s1 t1 c e h1 h2 h3 h4 h5 h6 ha hb
      subst ha
      have hl : a < r.length := by
        obtain ⟨q, _⟩ := List.getElem?_eq_some_iff.mp h1
        simpa using q
      have hl2 : a < σ.length := by rw [← E.len]; exact hl
      rw [List.getElem?_set_self hl] at h1
      rw [List.getElem?_set_self hl2] at h5
      cases h1
      rw [List.getElem?_set_ne (Ne.symm hb)] at h2 h6
      exact hs c h3 b t1 e p h2 h4 hb (Option.some.inj (Option.some.inj h5)) h6
    by_cases ha : a = i
    · by_cases hb : b = i
      · rw [ha, hb]
      · exact (key a b s1 t1 c e h1 h2 h3 h4 h5 h6 ha hb).elim
    · by_cases hb : b = i
      · exact (key b a t1 s1 e c h2 h1 h4 h3 h6 h5 hb ha).elim
      · rw [List.getElem?_set_ne (Ne.symm ha)] at h1 h5
        rw [List.getElem?_set_ne (Ne.symm hb)] at h2 h6
        exact E.sep a b s1 t1 c e p h1 h2 h3 h4 h5 h6
theorem KeepS.store {io : Bool} {r : Nms} {σ : L2.St} {i : Nat} {s : Sl} {v : Option V} (hl : ∀ c, r[i]? ≠ some (.lck c)) (hi : io = true → i ≠ 0) : KeepS io r σ (r.set i s) (σ.set i v) :=
  ⟨Keep.set hl, fun j c h => by rw [List.getElem?_set_ne (fun z => hl c (by rw [z]; exact h))], fun h => by rw [List.getElem?_set_ne (hi h)]⟩
/-- name = value -/
def dSet (i : Nat) (f : Den) : DenS := fun r => (f r).bind fun y => match y with
  | (.val d, r1) => (setSl i (.fz d) r1).map Out.nx
  | (.tmp c, r1) => (setSl i (.own c) r1).map Out.nx
  | (.slot _, _) => none
theorem set_read {D : Ends} {σ : L2.St} {H : Hp} {i : Nat} (hi : io = true → i ≠ 0) (hw : tS X.K io (dSet i f) D σ H) : tX X.K f σ H fun v H1 => D.nx (σ.set i (some v)) H1 := by
  obtain ⟨O, r, o, E, hf, k⟩ := hw
  unfold dSet at hf
  obtain ⟨⟨x, r1⟩, q1, hf⟩ := Option.bind_eq_some_iff.mp hf
  refine ⟨O, r, x, r1, E, q1, fun H1 O1 v st1 E1 kp1 ro1 => ?_⟩
  cases x with
  | val d =>
    obtain ⟨r2, q2, e⟩ := Option.map_eq_some_iff.mp hf
    subst e
    obtain ⟨e, hl, hk⟩ := setSl_some q2
    subst e
    exact k H1 O1 _ st1 (E1.store ⟨v, rfl, ro1⟩ fun c z => by cases z) ((KeepS.of kp1).trans (KeepS.store hk hi))
  | tmp c =>
    obtain ⟨r2, q2, e⟩ := Option.map_eq_some_iff.mp hf
    subst e
    obtain ⟨e, hl, hk⟩ := setSl_some q2
    subst e
    obtain ⟨p, rfl, ob, op, hn⟩ := ro1
    exact k H1 O1 _ st1 (E1.store ⟨p, rfl, ob, op⟩ fun c z j t e p' h1 h2 h3 h4 => by cases h4; exact hn j t e h1 h2) ((KeepS.of kp1).trans (KeepS.store hk hi))
  | slot j => cases hf
theorem sx_set {i : Nat} {x : Str} {pos' : Pos} (hN : X.N.Nodup) (hi : X.N[i]? = some x) (hx : Loc X.env.scope x) (he : Ex X e f) (h0 : io = true → i ≠ 0 := by decide) (hs : swapsWith e (some (.Name x pos')) pos.line X.env = pure false := by rfl) (hf : X.fn x = true ∨ X.env.scope.names.lookup x = some .local := by first | exact .inl rfl | exact .inr rfl | assumption) :
    Sx io X (.Assign [.Name x pos'] e pos) (dSet i f) :=
  ⟨fun pins s σ H D I hw => (ps_set hN hi hx he hs hf).run pins s σ H D I (set_read h0 hw)⟩
/-- what a target takes: it stands still -/
abbrev DenG := PyData → Nms → Option Nms
/-- nothing but these slots -/
structure But (is : List Nat) (σ σ' : L2.St) : Prop where
  len : σ'.length = σ.length
  eq : ∀ j : Nat, j ∉ is → σ'[j]? = σ[j]?
theorem But.trans {is js : List Nat} {σ σ1 σ2 : L2.St} (a : But is σ σ1) (b : But js σ1 σ2) : But (is ++ js) σ σ2 := ⟨b.len.trans a.len, fun j h => by
  rw [List.mem_append] at h
  exact (b.eq j fun z => h (.inr z)).trans (a.eq j fun z => h (.inl z))⟩
def tG (K : PySem.W.Frag) (io : Bool) (is : List Nat) (g : DenG) : TG := fun v σ H Q => ∃ O r d r', EnvOk K H O r σ ∧ Rp K H v d ∧ g d r = some r' ∧ ∀ σ', EnvOk K H O r' σ' → KeepS io r σ r' σ' → But is σ σ' → Q σ' H
abbrev Gx (io : Bool) (is : List Nat) (X : Cx) (tg : Expr) (g : DenG) : Prop := PG X tg (tG X.K io is g)
def gN (i : Nat) : DenG := fun d r => setSl i (.fz d) r
theorem gx_name {i : Nat} {x : Str} (h : PG X (.Name x pos) (gName i)) (h0 : io = true → i ≠ 0 := by decide) : Gx io [i] X (.Name x pos) (gN i) := by
  refine ⟨fun pins s σ H v u Q I r hw => h.run pins s σ H v u Q I r ?_⟩
  obtain ⟨O, r, d, r', E, rp, hg, k⟩ := hw
  obtain ⟨e, hl, hk⟩ := setSl_some hg
  subst e
  exact k _ (E.store ⟨v, rfl, rp⟩ fun c z => by cases z) (KeepS.store hk h0) ⟨List.length_set .., fun j hj => List.getElem?_set_ne (by simpa using Ne.symm (by simpa using hj))⟩
abbrev DenGs := List PyData → Nms → Option Nms
def tGs (K : PySem.W.Frag) (io : Bool) (is : List Nat) (g : DenGs) : TGs := fun vs σ H Q => ∃ O r ds r', EnvOk K H O r σ ∧ RpAll K H vs ds ∧ g ds r = some r' ∧ ∀ σ', EnvOk K H O r' σ' → KeepS io r σ r' σ' → But is σ σ' → Q σ' H
abbrev Gxs (io : Bool) (is : List Nat) (X : Cx) (ts : List Expr) (g : DenGs) : Prop := PGs X ts (tGs X.K io is g)
def gsNil : DenGs := fun ds r => match ds with
  | [] => some r
  | _ => none
def gsCons (g : DenG) (h : DenGs) : DenGs := fun ds r => match ds with
  | d :: ds => (g d r).bind fun r1 => h ds r1
  | [] => none
theorem gxs_nil : Gxs io [] X [] gsNil := by
  refine ⟨fun pins s σ H vs us Q I r hw => pgs_nil.run pins s σ H vs us Q I r ?_⟩
  obtain ⟨O, r, ds, r', E, rp, hg, k⟩ := hw
  cases ds with
  | nil => cases rp; cases hg; exact ⟨rfl, k σ E (KeepS.refl _ _ _) ⟨rfl, fun _ _ => rfl⟩⟩
  | cons d ds => cases hg
theorem gxs_cons {is js : List Nat} {es : List Expr} {g : DenG} {h : DenGs} (h1 : Gx io is X e g) (h2 : Gxs io js X es h) (hs : (assignEach (e :: es) X.env).map (·.2) = assign e X.env :: (assignEach es X.env).map (·.2) := by rfl) : Gxs io (is ++ js) X (e :: es) (gsCons g h) := by
  refine ⟨fun pins s σ H vs us Q I rr hw => (pgs_cons h1 h2 hs).run pins s σ H vs us Q I rr ?_⟩
  obtain ⟨O, r, ds, r', E, rp, hg, k⟩ := hw
  cases ds with
  | nil => cases hg
  | cons d ds =>
    cases rp with
    | cons rp1 rp2 =>
      obtain ⟨r1, q1, hg⟩ := Option.bind_eq_some_iff.mp hg
      exact ⟨_, _, rfl, O, r, d, r1, E, rp1, q1, fun σ1 E1 k1 b1 => ⟨O, r1, ds, r', E1, rp2, hg, fun σ2 E2 k2 b2 => k σ2 E2 (k1.trans k2) (b1.trans b2)⟩⟩
def gT (h : DenGs) : DenG := fun d r => match d with
  | .tuple ds => h ds r
  | _ => none
theorem gx_tup {is : List Nat} {es : List Expr} {k : Nat} {h : DenGs} (n : Nat) (hc : X.calm = true) (hh : Gxs io is X es h) (hl : ∀ ds r r', h ds r = some r' → ds.length = n)
    (hn : (assignEach es X.env).length = n := by rfl) (hst : (assignEach es X.env).findIdx? (·.1) = none := by rfl) : Gx io is X (.Tuple es k pos) (gT h) := by
  refine ⟨fun pins s σ H v u Q I rr hw => (pg_tup hc hh hn hst).run pins s σ H v u Q I rr ?_⟩
  obtain ⟨O, r, d, r', E, rp, hg, k⟩ := hw
  cases d with
  | tuple ds =>
    cases rp with
    | @tup a vs _ hs ra => exact ⟨a, vs, rfl, hs, by rw [ra.length]; exact hl ds r r' hg, O, r, ds, r', E, ra, hg, k⟩
  | _ => cases hg
theorem gsNil_len (ds : List PyData) (r r' : Nms) (h : gsNil ds r = some r') : ds.length = 0 := by
  cases ds with
  | nil => rfl
  | cons d ds => cases h
theorem gsCons_len {g : DenG} {h : DenGs} {n : Nat} (hl : ∀ ds r r', h ds r = some r' → ds.length = n) (ds : List PyData) (r r' : Nms) (q : gsCons g h ds r = some r') : ds.length = n + 1 := by
  cases ds with
  | nil => cases q
  | cons d ds =>
    obtain ⟨r1, q1, q⟩ := Option.bind_eq_some_iff.mp q
    rw [List.length_cons, hl ds r1 r' q]
/-- target = value -/
def dAsg (f : Den) (g : DenG) : DenS := fun r => ((dFrz f r).bind vOf).bind fun (d, r1) => (g d r1).map Out.nx
theorem sx_asg {is : List Nat} {tg : Expr} {g : DenG} (he : Ex X e f) (hg : Gx io is X tg g) (hs : swapsWithSole [tg] e pos.line X.env = pure false := by rfl) (hw : swappedStores [tg] e X.env = pure none := by rfl)
    (h1 : (assignEach [tg] X.env).map (·.2) = [assign tg X.env] := by rfl) : Sx io X (.Assign [tg] e pos) (dAsg f g) := by
  refine ⟨fun pins s σ H D I hh => (ps_asg (ex_frz he) hg hs hw h1).run pins s σ H D I ?_⟩
  obtain ⟨O, r, o, E, hf, k⟩ := hh
  unfold dAsg at hf
  obtain ⟨⟨d, r1⟩, q1, hf⟩ := Option.bind_eq_some_iff.mp hf
  obtain ⟨y, q2, q3⟩ := Option.bind_eq_some_iff.mp q1
  have := vOf_some q3
  subst this
  obtain ⟨r2, q4, e⟩ := Option.map_eq_some_iff.mp hf
  subst e
  exact ⟨O, r, .val d, r1, E, q2, fun H1 O1 v st1 E1 kp1 ro1 => ⟨O1, r1, d, r2, E1, ro1, q4, fun σ' E2 k2 _ => k H1 O1 σ' st1 E2 ((KeepS.of kp1).trans k2)⟩⟩
/-- a, b = x, y: two local names -/
def dPar (i j : Nat) (fs : Denv) : DenS := fun r => (fs r).bind fun (ds, r1) => match ds with
  | [d, e] => ((setSl i (.fz d) r1).bind fun r2 => setSl j (.fz e) r2).map Out.nx
  | _ => none
theorem sx_par {i j : Nat} {x y : Str} {fs : Denv} {px py pt : Pos} {kt k2 pt2} (hc : X.calm = true) (hN : X.N.Nodup) (hi : X.N[i]? = some x) (hj : X.N[j]? = some y) (hij : i ≠ j)
    (hx : X.env.scope.names.lookup x = some .local) (hy : X.env.scope.names.lookup y = some .local) (ha : Exv X [a, b] fs)
    (hw : swappedStores [.Tuple [.Name x px, .Name y py] kt pt] (.Tuple [a, b] k2 pt2) X.env = pure (some [x, y])) (h0 : io = true → i ≠ 0 := by decide) (h1 : io = true → j ≠ 0 := by decide)
    (hs : swapsWithSole [.Tuple [.Name x px, .Name y py] kt pt] (.Tuple [a, b] k2 pt2) pos.line X.env = pure false := by rfl) :
    Sx io X (.Assign [.Tuple [.Name x px, .Name y py] kt pt] (.Tuple [a, b] k2 pt2) pos) (dPar i j fs) := by
  refine ⟨fun pins s σ H D I hh => (ps_par hc hN hi hj hij hx hy ha hw hs).run pins s σ H D I ?_⟩
  obtain ⟨O, r, o, E, hf, k⟩ := hh
  unfold dPar at hf
  obtain ⟨⟨ds, r1⟩, q1, hf⟩ := Option.bind_eq_some_iff.mp hf
  match ds, hf, q1 with
  | [d, e], hf, q1 =>
    obtain ⟨r3, q2, z⟩ := Option.map_eq_some_iff.mp hf
    subst z
    obtain ⟨r2, q3, q4⟩ := Option.bind_eq_some_iff.mp q2
    refine ⟨O, r, [d, e], r1, E, q1, fun H1 O1 vs st1 E1 kp1 ro1 => ?_⟩
    cases ro1 with
    | @cons v vs' _ _ rp1 ro2 =>
      cases ro2 with
      | @cons w ws' _ _ rp2 ro3 =>
        cases ro3
        obtain ⟨e1, hl, hk⟩ := setSl_some q3
        subst e1
        obtain ⟨e2, hl2, hk2⟩ := setSl_some q4
        subst e2
        have E2 := E1.store (i := i) (s := .fz d) ⟨v, rfl, rp1⟩ fun c z => by cases z
        have E3 := E2.store (i := j) (s := .fz e) ⟨w, rfl, rp2⟩ fun c z => by cases z
        exact ⟨v, w, rfl, k H1 O1 _ st1 E3 ((KeepS.of kp1).trans ((KeepS.store hk h0).trans (KeepS.store hk2 h1)))⟩
  | [], hf, _ => cases hf
  | [_], hf, _ => cases hf
  | _ :: _ :: _ :: _, hf, _ => cases hf

/-! ### a def -/
/-- a def that changes nothing of its arguments -/
def spP (K : PySem.W.Frag) (n : Nat) (F : List PyData → Option R) : Sp := fun vs H Q _ => ∃ ds z, RpAll K H vs ds ∧ ds.length = n ∧ F ds = some z ∧ ∀ H' w, NewR K H H' w z → Q w H'
/-- what comes back from a body -/
def ret : Out → Option (R × Nms)
  | .nx r => some (.val .none, r)
  | .rt (.val d) r => some (.val d, r)
  | .rt (.tmp c) r => some (.tmp c, r)
  | .rt (.slot i) r => match r[i]? with
    | some (.own c) => some (.tmp c, r.set i .un)
    | some (.fz d) => some (.val d, r)
    | _ => none
  | _ => none
def env0 (N : Nat) (ss : List Sl) : Nms := ss ++ List.replicate (N - ss.length) .un
def runP (N : Nat) (f : DenS) (ds : List PyData) : Option R := ((f (env0 N (ds.map .fz))).bind ret).map (·.1)
theorem env0_ok {K : PySem.W.Frag} {H : Hp} {O : Addr → Prop} {N : List Str} {vs : List V} {ss : List Sl} (hl : vs.length = ss.length) (h : ∀ (i : Nat) v s, vs[i]? = some v → ss[i]? = some s → SlOk K H O (some v) s)
    (sep : ∀ (i j : Nat) s t c e p, ss[i]? = some s → ss[j]? = some t → s.ob = some c → t.ob = some e → vs[i]? = some (.ref p) → vs[j]? = some (.ref p) → i = j) (mt : ∀ p, O p → Mut (H p)) : EnvOk K H O (env0 N.length ss) (L2.start N vs) := by
  have at1 : ∀ (i : Nat) s, (env0 N.length ss)[i]? = some s → (i < ss.length ∧ ss[i]? = some s) ∨ (ss.length ≤ i ∧ s = .un ∧ i < ss.length + (N.length - ss.length)) := fun i s q => by
    unfold env0 at q
    by_cases hi : i < ss.length
    · rw [List.getElem?_append_left hi] at q
      exact .inl ⟨hi, q⟩
    · rw [List.getElem?_append_right (by omega), List.getElem?_replicate] at q
      split at q
      · cases q; exact .inr ⟨by omega, rfl, by omega⟩
      · cases q
  have at2 : ∀ (i : Nat), i < ss.length → (L2.start N vs)[i]? = (vs[i]?).map some := fun i hi => by
    unfold L2.start
    rw [List.getElem?_append_left (by simpa [hl] using hi), List.getElem?_map]
  refine ⟨by unfold env0 L2.start; simp [hl], fun i s q => ?_, fun i j s t c e p h1 h2 h3 h4 h5 h6 => ?_, mt⟩
  · rcases at1 i s q with ⟨hi, q'⟩ | ⟨hi, rfl, hi2⟩
    · rw [at2 i hi]
      have hv : vs[i]? = some vs[i] := List.getElem?_eq_getElem (by omega)
      rw [hv]
      exact ⟨_, rfl, h i _ s hv q'⟩
    · have : i < (L2.start N vs).length := by unfold L2.start; simp [hl]; omega
      exact ⟨_, List.getElem?_eq_getElem this, trivial⟩
  · rcases at1 i s h1 with ⟨hi, q1⟩ | ⟨hi, rfl, _⟩
    · rcases at1 j t h2 with ⟨hj, q2⟩ | ⟨hj, rfl, _⟩
      · rw [at2 i hi] at h5
        rw [at2 j hj] at h6
        cases e5 : vs[i]? with
        | none => rw [e5] at h5; cases h5
        | some v =>
          rw [e5] at h5
          cases e6 : vs[j]? with
          | none => rw [e6] at h6; cases h6
          | some v' =>
            rw [e6] at h6
            cases h5; cases h6
            exact sep i j s t c e p q1 q2 h3 h4 e5 e6
      · cases h4
    · cases h3
theorem RpAll.env0 {K : PySem.W.Frag} {H : Hp} {N : List Str} {vs : List V} {ds : List PyData} (h : RpAll K H vs ds) : EnvOk K H (fun _ => False) (env0 N.length (ds.map .fz)) (L2.start N vs) := by
  refine env0_ok (by rw [List.length_map]; exact h.length) (fun i v s h1 h2 => ?_) (fun i j s t c e p h1 h2 h3 => ?_) fun p z => z.elim
  · obtain ⟨d, e, rp⟩ := h.get h1
    rw [List.getElem?_map, e] at h2
    cases h2
    exact ⟨v, rfl, rp⟩
  · rw [List.getElem?_map] at h1
    cases e : ds[i]? with
    | none => rw [e] at h1; cases h1
    | some d => rw [e] at h1; cases h1; cases h3
/-- the end of a body -/
theorem ret_read {K : PySem.W.Frag} {io : Bool} {Q : VK} {O : Addr → Prop} {r : Nms} {σ : L2.St} {H : Hp} {o : Out} {z : R} {r' : Nms} (ho : ret o = some (z, r'))
    (k : ∀ H' O' σ' v, Stp H O H' O' → EnvOk K H' O' r' σ' → KeepS io r σ r' σ' → ROk K H' O' r' σ' v z → Q v H') : Post K io { nx := fun _ H' => Q .non H', rt := Q } O r σ H o := by
  cases o with
  | nx r1 => cases ho; exact fun H' O' σ' a b c => k H' O' σ' .non a b c .non
  | bk r1 => cases ho
  | ct r1 => cases ho
  | rt x r1 =>
    cases x with
    | val d => cases ho; exact fun H' O' σ' v a b c d => k H' O' σ' v a b c d
    | tmp c => cases ho; exact fun H' O' σ' v a b c d => k H' O' σ' v a b c d
    | slot i =>
      have ho : (match r1[i]? with
        | some (.own c) => some (R.tmp c, r1.set i .un)
        | some (.fz d) => some (R.val d, r1)
        | _ => none) = some (z, r') := ho
      split at ho
      · rename_i c qi
        cases ho
        intro H' O' σ' v st E kp hv
        have hv : σ'[i]? = some (some v) := hv
        obtain ⟨v', e1, p, e2, ob, op⟩ := E.ok i _ qi
        rw [hv] at e1; cases e1; cases e2
        refine k H' O' σ' _ st (E.set (fun _ _ => trivial) rfl) (kp.trans (KeepS.of (Keep.set fun c' z => by rw [qi] at z; cases z))) ⟨p, rfl, ob, op, fun j t e h1 h2 h3 => ?_⟩
        have hl : i < r1.length := (List.getElem?_eq_some_iff.mp qi).1
        by_cases hj : i = j
        · subst hj
          rw [List.getElem?_set_self hl] at h1
          cases h1; cases h2
        · rw [List.getElem?_set_ne hj] at h1
          exact hj (E.sep i j _ _ c e p qi h1 rfl h2 hv h3)
      · rename_i d qi
        cases ho
        intro H' O' σ' v st E kp hv
        have hv : σ'[i]? = some (some v) := hv
        obtain ⟨v', e1, x, e2, rp⟩ := E.ok i _ qi
        rw [hv] at e1; cases e1; cases e2
        exact k H' O' σ' _ st E kp rp
      · cases ho
end
section
variable {P : Program} {w : World} {K : PySem.W.Frag} {mg : Str → Option Value} {base : Heap}
theorem fn_P {x qual : Str} {st : Stmt} {f : Addr} {fd : FuncData} {N ps : List Str} {k : Nat} {F : List PyData → Option R} (hF : Fun K x qual st f fd) (S : FnScope N ps (defScope st))
    (hbody : ∀ (cdv : Value) (A : Around) (outer : List Env) (s : Shared) (H : Hp), Room k (A.deeper (envOfC qual (defScope st) s.heap.objs.size f cdv)) →
      ∃ g, Bx false (cxOf CX0 P w K mg base N qual (defScope st) f cdv A outer s H E0).nox (defBody st) g ∧ ∀ ds z, F ds = some z → runP N.length g ds = some z) : FnOk P w K mg base CX0 (k + 1) f fd ps (spP K ps.length F) := by
  refine hF.ok S (fun vs H Q E h => ?_) (fun cdv A outer s H vs Q E hr h => ?_)
  · obtain ⟨ds, z, ra, hl, _⟩ := h
    rw [ra.length, hl]
  · obtain ⟨g, hg, hz⟩ := hbody cdv A outer s H hr
    obtain ⟨ds, z, ra, hl, hF, k⟩ := h
    refine ⟨_, hg, ?_⟩
    have q := hz ds z hF
    unfold runP at q
    obtain ⟨⟨z', r'⟩, q1, e⟩ := Option.map_eq_some_iff.mp q
    cases e
    obtain ⟨o, q2, q3⟩ := Option.bind_eq_some_iff.mp q1
    refine ⟨fun _ => False, _, o, ra.env0, q2, ret_read q3 fun H' O' σ' v st1 E1 _ ro => k H' v ?_⟩
    have sm : Same H H' := fun b o e => st1.keep b o e fun z => z
    cases z' with
    | val d => exact ⟨sm, ro⟩
    | tmp c =>
      obtain ⟨p, rfl, ob, op, _⟩ := ro
      exact ⟨sm, p, rfl, (st1.own p op).elim (fun z => z.elim) id, ob⟩
    | slot i =>
      exfalso
      cases o with
      | nx r1 => cases q3
      | bk r1 => cases q3
      | ct r1 => cases q3
      | rt x r1 =>
        cases x with
        | val d => cases q3
        | tmp c => cases q3
        | slot i =>
          have q3 : (match r1[i]? with
            | some (.own c) => some (R.tmp c, r1.set i .un)
            | some (.fz d) => some (R.val d, r1)
            | _ => none) = some _ := q3
          split at q3 <;> cases q3
end
end KV

end

section
/-! KV, part 4: loops and comprehensions. -/
namespace KV
open PySem PySem.Spec PyProof.Rows L2

/-! ### what is walked -/
/-- J goes over ds, whatever is done with the names (but the locked ones) -/
def JOk (K : PySem.W.Frag) (J : It) (ds : List PyData) (H0 : Hp) (r0 : Nms) (σ0 : L2.St) : Prop :=
  ∀ (H : Hp) (O : Addr → Prop) (r : Nms) (σ : L2.St), Fx H0 H → EnvOk K H O r σ → Keep r0 r → (∀ (i : Nat) (c : Ob), r0[i]? = some (.lck c) → σ[i]? = σ0[i]?) →
    ∀ i : Nat, (∀ d, ds[i]? = some d → J.go i H ∧ ∀ x H', J.yld i H x H' → Same H H' ∧ Rp K H' x d) ∧ (ds[i]? = none → J.stop i H)
abbrev DenI := Nms → Option (List PyData × Nms × Option Nat)
def tI (K : PySem.W.Frag) (f : DenI) : TI := fun σ H Q => ∃ O r ds r' u, EnvOk K H O r σ ∧ f r = some (ds, r', u) ∧
  ∀ H' O' J, Stp H O H' O' → EnvOk K H' O' r' σ → Keep r r' → ds.length ≤ sizeLine → (∀ i, u = some i → ∀ c, r[i]? ≠ some (.lck c)) → JOk K J ds H' r' σ → Q J H'
abbrev Ix (X : Cx) (tg iter : Expr) (f : DenI) : Prop := PI X tg iter (tI X.K f)
def unlck (u : Option Nat) (r : Nms) : Nms := match u with
  | none => r
  | some i => match r[i]? with
    | some (.lck c) => r.set i (.own c)
    | _ => r
theorem EnvOk.swap {K : PySem.W.Frag} {H : Hp} {O : Addr → Prop} {r : Nms} {σ : L2.St} {i : Nat} {s s' : Sl} {c : Ob} (E : EnvOk K H O r σ) (h : r[i]? = some s) (hs : s.ob = some c) (hs' : s'.ob = some c) : EnvOk K H O (r.set i s') σ := by
  have hl : i < r.length := (List.getElem?_eq_some_iff.mp h).1
  refine ⟨by rw [List.length_set]; exact E.len, fun j t q => ?_, fun a b s1 t1 c1 e1 p h1 h2 h3 h4 h5 h6 => ?_, E.mt⟩
  · by_cases hj : i = j
    · subst hj
      rw [List.getElem?_set_self hl] at q
      cases q
      obtain ⟨v, e1, z⟩ := E.ok i s h
      refine ⟨v, e1, ?_⟩
      have z' : ∃ p, v = some (.ref p) ∧ ObOk K H p c ∧ O p := by
        cases s with
        | un => cases hs
        | fz d => cases hs
        | own c' => cases hs; exact z
        | lck c' => cases hs; exact z
      cases s' with
      | un => cases hs'
      | fz d => cases hs'
      | own c' => cases hs'; exact z'
      | lck c' => cases hs'; exact z'
    · rw [List.getElem?_set_ne hj] at q
      exact E.ok j t q
  · have back : ∀ (a : Nat) (s1 : Sl) (c1 : Ob), (r.set i s')[a]? = some s1 → s1.ob = some c1 → ∃ s2, r[a]? = some s2 ∧ s2.ob = some c1 := fun a s1 c1 h1 h3 => by
      by_cases ha : i = a
      · subst ha
        rw [List.getElem?_set_self hl] at h1
        cases h1
        rw [hs'] at h3
        cases h3
        exact ⟨s, h, hs⟩
      · rw [List.getElem?_set_ne ha] at h1
        exact ⟨s1, h1, h3⟩
    obtain ⟨s2, q1, q2⟩ := back a s1 c1 h1 h3
    obtain ⟨t2, q3, q4⟩ := back b t1 e1 h2 h4
    exact E.sep a b s2 t2 c1 e1 p q1 q3 q2 q4 h5 h6
theorem EnvOk.unlck {K : PySem.W.Frag} {H : Hp} {O : Addr → Prop} {r : Nms} {σ : L2.St} (E : EnvOk K H O r σ) (u : Option Nat) : EnvOk K H O (unlck u r) σ := by
  cases u with
  | none => exact E
  | some i =>
    show EnvOk K H O (match r[i]? with
      | some (.lck c) => r.set i (.own c)
      | _ => r) σ
    split
    · rename_i c q
      exact E.swap q rfl rfl
    · exact E
theorem Keep.unlck {r r1 : Nms} {u : Option Nat} (k : Keep r r1) (hu : ∀ i, u = some i → ∀ c, r[i]? ≠ some (.lck c)) : Keep r (unlck u r1) := fun j c h => by
  cases u with
  | none => exact k j c h
  | some i =>
    show (match r1[i]? with
      | some (.lck c) => r1.set i (.own c)
      | _ => r1)[j]? = _
    split
    · rw [List.getElem?_set_ne (fun z => hu i rfl c (by rw [z]; exact h))]
      exact k j c h
    · exact k j c h
theorem ROk.unlck {K : PySem.W.Frag} {H : Hp} {O : Addr → Prop} {r : Nms} {σ : L2.St} {v : V} {x : R} (h : ROk K H O r σ v x) (u : Option Nat) : ROk K H O (unlck u r) σ v x := by
  cases x with
  | val d => exact h
  | slot i => exact h
  | tmp c =>
    obtain ⟨p, e, ob, o, hn⟩ := h
    refine ⟨p, e, ob, o, fun j s c' h1 h2 => ?_⟩
    cases u with
    | none => exact hn j s c' h1 h2
    | some i =>
      have h1 : (match r[i]? with
        | some (.lck c) => r.set i (.own c)
        | _ => r)[j]? = some s := h1
      split at h1
      · rename_i c0 q
        by_cases hj : i = j
        · subst hj
          have hl : i < r.length := (List.getElem?_eq_some_iff.mp q).1
          rw [List.getElem?_set_self hl] at h1
          cases h1
          exact hn i _ c0 q rfl
        · rw [List.getElem?_set_ne hj] at h1
          exact hn j s c' h1 h2
      · exact hn j s c' h1 h2
def Out.map (g : Nms → Nms) : Out → Out
  | .nx r => .nx (g r)
  | .rt x r => .rt x (g r)
  | .bk r => .bk (g r)
  | .ct r => .ct (g r)
def loopD (g : DenG) (body : DenS) : List PyData → DenS
  | [], r => some (.nx r)
  | d :: ds, r => (g d r).bind fun r1 => (body r1).bind fun o => match o with
    | .nx r2 => loopD g body ds r2
    | .ct r2 => loopD g body ds r2
    | .bk r2 => some (.nx r2)
    | .rt x r2 => some (.rt x r2)
def dFor (f : DenI) (g : DenG) (body : DenS) : DenS := fun r => (f r).bind fun (ds, r1, u) => (loopD g body ds r1).map (Out.map (unlck u))

section
variable {io : Bool} {is : List Nat} {X : Cx} {tg iter : Expr} {fi : DenI} {g : DenG} {u : DenS} {pos : Pos}
theorem sx_for {body : List Stmt} (hp : PassesOwn (model X.prog X.w) X.A X.env X.xe) (hc : X.calm = true) (hi : Ix X tg iter fi) (hg : Gx io is X tg g) (hb : Bx io X body u)
    (hs : ∀ x, foldedSetIterable iter X.env x = pure x := by intro _; rfl) : Sx io X (.For tg iter body [] pos) (dFor fi g u) := by
  refine ⟨fun pins s σ H D I hw => (ps_for hp hc hi hg hb hs).run pins s σ H D I ?_⟩
  obtain ⟨O, r, o, E, hf, k⟩ := hw
  unfold dFor at hf
  obtain ⟨⟨ds, r1, un⟩, q1, hf⟩ := Option.bind_eq_some_iff.mp hf
  obtain ⟨ob, q2, e⟩ := Option.map_eq_some_iff.mp hf
  subst e
  refine ⟨O, r, ds, r1, un, E, q1, fun H1 O1 J st1 E1 kp1 hlen hun jok => ?_⟩
  refine ⟨fun i m σi Hi => m = ds.length - i ∧ i ≤ ds.length ∧ ∃ Oi ri, Stp H1 O1 Hi Oi ∧ EnvOk X.K Hi Oi ri σi ∧ KeepS io r1 σ ri σi ∧ loopD g u (ds.drop i) ri = some ob, ⟨ds.length, by simp, Nat.zero_le _, O1, r1, Stp.refl _ _, E1, KeepS.refl _ _ _, q2⟩, ?_⟩
  rintro i m σi Hi ⟨rfl, hi, Oi, ri, sti, Ei, ki, hl⟩
  -- the way out by the loop's end
  have out : ∀ {Hj : Hp} {Oj : Addr → Prop} {rj : Nms} {σj : L2.St}, Stp H1 O1 Hj Oj → EnvOk X.K Hj Oj rj σj → KeepS io r1 σ rj σj → ob = .nx rj → D.nx σj Hj := fun {Hj Oj rj σj} a b c e => by
    subst e
    exact k Hj Oj σj (st1.trans a) (b.unlck un) ⟨(kp1.trans c.lk).unlck hun, fun j c' h => c.lks j c' (kp1 j c' h), c.first⟩
  have jk := jok Hi Oi ri σi (E1.fxOf sti) Ei ki.lk ki.lks i
  cases hd : ds[i]? with
  | none =>
    refine .inl ⟨jk.2 hd, ?_⟩
    rw [List.drop_eq_nil_of_le (List.getElem?_eq_none_iff.mp hd)] at hl
    cases hl
    exact out sti Ei ki rfl
  | some d =>
    obtain ⟨go, yl⟩ := jk.1 d hd
    have hlt : i < ds.length := (List.getElem?_eq_some_iff.mp hd).1
    have hdr : ds.drop i = d :: ds.drop (i + 1) := by
      rw [List.drop_eq_getElem_cons hlt]
      have : ds[i] = d := by rw [List.getElem?_eq_getElem hlt] at hd; exact Option.some.inj hd
      rw [this]
    rw [hdr] at hl
    unfold loopD at hl
    obtain ⟨r2, q3, hl⟩ := Option.bind_eq_some_iff.mp hl
    obtain ⟨o2, q4, hl⟩ := Option.bind_eq_some_iff.mp hl
    refine .inr ⟨go, fun σ' H' => ∃ O' r', Stp H1 O1 H' O' ∧ EnvOk X.K H' O' r' σ' ∧ KeepS io r1 σ r' σ' ∧ loopD g u (ds.drop (i + 1)) r' = some ob, fun σ' H' ⟨O', r', a, b, c, e⟩ => ⟨ds.length - (i + 1), by omega, rfl, hlt, O', r', a, b, c, e⟩, fun x H' y => ?_⟩
    obtain ⟨sm, rp⟩ := yl x H' y
    have st' : Stp H1 O1 H' Oi := sti.trans (Stp.of_same sm)
    refine ⟨Oi, ri, d, r2, Ei.same sm, rp, q3, fun σ2 E2 k2 _ => ⟨Oi, r2, o2, E2, q4, ?_⟩⟩
    have k12 : KeepS io r1 σ r2 σ2 := ki.trans k2
    cases o2 with
    | nx r3 => exact fun H3 O3 σ3 a b c => ⟨O3, r3, st'.trans a, b, k12.trans c, hl⟩
    | ct r3 => exact fun H3 O3 σ3 a b c => ⟨O3, r3, st'.trans a, b, k12.trans c, hl⟩
    | bk r3 => exact fun H3 O3 σ3 a b c => out (st'.trans a) b (k12.trans c) (Option.some.inj hl).symm
    | rt x r3 =>
      have e := (Option.some.inj hl).symm
      subst e
      exact fun H3 O3 σ3 v a b c ro => k H3 O3 σ3 v (st1.trans (st'.trans a)) (b.unlck un) (by
        have kk := k12.trans c
        exact ⟨(kp1.trans kk.lk).unlck hun, fun j c' h => kk.lks j c' (kp1 j c' h), kk.first⟩) (ro.unlck un)

/-! ### comprehensions -/
def wipeE : List Nat → Nms → Nms
  | [], r => r
  | v :: vs, r => (wipeE vs r).set v .un
def restE : List Nat → Nms → Nms → Nms
  | [], _, r => r
  | v :: vs, r0, r => (restE vs r0 r).set v (r0.getD v .un)
def noOb (vs : List Nat) (r : Nms) : Bool := vs.all fun v => ((r.getD v .un).ob).isNone
def compD (vs : List Nat) (g : DenG) (t : DenT) (f : Den) : List PyData → Nms → Option (List PyData × Nms)
  | [], r => some ([], r)
  | d :: ds, r => (g d r).bind fun r1 => (t r1).bind fun (c, r2) => if c = true then ((dFrz f r2).bind vOf).bind fun (x, r3) => (compD vs g t f ds (wipeE vs r3)).map fun (xs, r4) => (x :: xs, r4) else compD vs g t f ds (wipeE vs r2)
def dLc (vs : List Nat) (fi : DenI) (g : DenG) (t : DenT) (f : Den) : Den := fun r => (fi r).bind fun (ds, r1, u) => if noOb vs r1 = true then (compD vs g t f ds (wipeE vs r1)).map fun (xs, r2) => (.tmp (.lst xs), unlck u (restE vs r1 r2)) else none

theorem wipeE_length (r : Nms) : ∀ vs : List Nat, (wipeE vs r).length = r.length
  | [] => rfl
  | v :: vs => by unfold wipeE; rw [List.length_set, wipeE_length r vs]
theorem wipeE_ne {r : Nms} {j : Nat} : ∀ {vs : List Nat}, j ∉ vs → (wipeE vs r)[j]? = r[j]?
  | [], _ => rfl
  | v :: vs, h => by
    unfold wipeE
    simp only [List.mem_cons, not_or] at h
    rw [List.getElem?_set_ne (Ne.symm h.1)]
    exact wipeE_ne h.2
theorem wipeE_mem {r : Nms} {j : Nat} : ∀ {vs : List Nat}, j ∈ vs → j < r.length → (wipeE vs r)[j]? = some .un
  | v :: vs, h, hl => by
    unfold wipeE
    by_cases hv : v = j
    · subst hv
      rw [List.getElem?_set_self (by rw [wipeE_length]; exact hl)]
    · rw [List.getElem?_set_ne hv]
      rcases List.mem_cons.mp h with e | h
      · exact absurd e.symm hv
      · exact wipeE_mem h hl
theorem wipe_ne {σ : L2.St} {j : Nat} : ∀ {vs : List Nat}, j ∉ vs → (wipe σ vs)[j]? = σ[j]?
  | [], _ => rfl
  | v :: vs, h => by
    unfold wipe
    simp only [List.mem_cons, not_or] at h
    rw [List.getElem?_set_ne (Ne.symm h.1)]
    exact wipe_ne h.2
theorem wipe_mem {σ : L2.St} {j : Nat} : ∀ {vs : List Nat}, j ∈ vs → j < σ.length → (wipe σ vs)[j]? = some none
  | v :: vs, h, hl => by
    unfold wipe
    by_cases hv : v = j
    · subst hv
      rw [List.getElem?_set_self (by rw [wipe_length]; exact hl)]
    · rw [List.getElem?_set_ne hv]
      rcases List.mem_cons.mp h with e | h
      · exact absurd e.symm hv
      · exact wipe_mem h hl
theorem restE_length (r0 r : Nms) : ∀ vs : List Nat, (restE vs r0 r).length = r.length
  | [] => rfl
  | v :: vs => by unfold restE; rw [List.length_set, restE_length r0 r vs]
theorem restE_ne {r0 r : Nms} {j : Nat} : ∀ {vs : List Nat}, j ∉ vs → (restE vs r0 r)[j]? = r[j]?
  | [], _ => rfl
  | v :: vs, h => by
    unfold restE
    simp only [List.mem_cons, not_or] at h
    rw [List.getElem?_set_ne (Ne.symm h.1)]
    exact restE_ne h.2
theorem restE_mem {r0 r : Nms} {j : Nat} : ∀ {vs : List Nat}, j ∈ vs → j < r.length → (restE vs r0 r)[j]? = some (r0.getD j .un)
  | v :: vs, h, hl => by
    unfold restE
    by_cases hv : v = j
    · subst hv
      rw [List.getElem?_set_self (by rw [restE_length]; exact hl)]
    · rw [List.getElem?_set_ne hv]
      rcases List.mem_cons.mp h with e | h
      · exact absurd e.symm hv
      · exact restE_mem h hl
theorem wipe_but {σ σ' : L2.St} {is vs : List Nat} (hs : ∀ i ∈ is, i ∈ vs) (b : But is σ σ') : wipe σ' vs = wipe σ vs := by
  refine List.ext_getElem? fun j => ?_
  by_cases hj : j ∈ vs
  · by_cases hb : j < σ.length
    · rw [wipe_mem hj hb, wipe_mem hj (by rw [b.len]; exact hb)]
    · rw [List.getElem?_eq_none (by rw [wipe_length, b.len]; omega), List.getElem?_eq_none (by rw [wipe_length]; omega)]
  · rw [wipe_ne hj, wipe_ne hj]
    exact b.eq j fun z => hj (hs j z)
theorem wipe_wipe {σ : L2.St} {vs : List Nat} : wipe (wipe σ vs) vs = wipe σ vs := by
  refine List.ext_getElem? fun j => ?_
  by_cases hj : j ∈ vs
  · by_cases hb : j < σ.length
    · rw [wipe_mem hj hb, wipe_mem hj (by rw [wipe_length]; exact hb)]
    · rw [List.getElem?_eq_none (by rw [wipe_length, wipe_length]; omega), List.getElem?_eq_none (by rw [wipe_length]; omega)]
  · rw [wipe_ne hj]
/-- names forgotten -/
theorem EnvOk.wipes {K : PySem.W.Frag} {H : Hp} {O : Addr → Prop} {r : Nms} {σ σ' : L2.St} {vs : List Nat} (E : EnvOk K H O r σ) (hl : σ'.length = σ.length) (h : ∀ j, j ∉ vs → σ'[j]? = σ[j]?) : EnvOk K H O (wipeE vs r) σ' := by
  have back : ∀ (i : Nat) (s : Sl), (wipeE vs r)[i]? = some s → (i ∉ vs ∧ r[i]? = some s) ∨ s = .un := fun i s q => by
    by_cases hi : i ∈ vs
    · have hb : i < r.length := by
        have := (List.getElem?_eq_some_iff.mp q).1
        rwa [wipeE_length] at this
      rw [wipeE_mem hi hb] at q
      cases q
      exact .inr rfl
    · rw [wipeE_ne hi] at q
      exact .inl ⟨hi, q⟩
  refine ⟨by rw [wipeE_length, hl]; exact E.len, fun i s q => ?_, fun a b s t c e p h1 h2 h3 h4 h5 h6 => ?_, E.mt⟩
  · rcases back i s q with ⟨hi, q'⟩ | rfl
    · rw [h i hi]
      exact E.ok i s q'
    · have hb : i < σ'.length := by
        have := (List.getElem?_eq_some_iff.mp q).1
        rw [wipeE_length, E.len, ← hl] at this
        exact this
      exact ⟨_, List.getElem?_eq_getElem hb, trivial⟩
  · rcases back a s h1 with ⟨ha, q1⟩ | rfl
    · rcases back b t h2 with ⟨hb, q2⟩ | rfl
      · rw [h a ha] at h5
        rw [h b hb] at h6
        exact E.sep a b s t c e p q1 q2 h3 h4 h5 h6
      · cases h4
    · cases h3
/-- the forgotten names are there again -/
theorem EnvOk.rest {K : PySem.W.Frag} {H0 H : Hp} {O0 O : Addr → Prop} {r0 r : Nms} {σ0 σ : L2.St} {vs : List Nat} (E0 : EnvOk K H0 O0 r0 σ0) (fx : Fx H0 H) (no : noOb vs r0 = true) (E : EnvOk K H O r σ) (hl : σ.length = σ0.length) (h : ∀ j, j ∉ vs → σ[j]? = σ0[j]?) : EnvOk K H O (restE vs r0 r) σ0 := by
  have back : ∀ (i : Nat) (s : Sl), (restE vs r0 r)[i]? = some s → (i ∉ vs ∧ r[i]? = some s) ∨ (i ∈ vs ∧ r0[i]? = some s ∧ s.ob = none) := fun i s q => by
    by_cases hi : i ∈ vs
    · have hb : i < r.length := by
        have := (List.getElem?_eq_some_iff.mp q).1
        rwa [restE_length] at this
      rw [restE_mem hi hb] at q
      have hb0 : i < r0.length := by rw [E0.len, ← hl, ← E.len]; exact hb
      have e : r0.getD i .un = r0[i] := by rw [List.getD_eq_getElem?_getD, List.getElem?_eq_getElem hb0]; rfl
      have n := List.all_eq_true.mp no i hi
      rw [e] at n q
      cases q
      exact .inr ⟨hi, List.getElem?_eq_getElem hb0, by simpa using n⟩
    · rw [restE_ne hi] at q
      exact .inl ⟨hi, q⟩
  refine ⟨by rw [restE_length, E.len, hl], fun i s q => ?_, fun a b s t c e p h1 h2 h3 h4 h5 h6 => ?_, E.mt⟩
  · rcases back i s q with ⟨hi, q'⟩ | ⟨hi, q', n⟩
    · obtain ⟨v, e1, z⟩ := E.ok i s q'
      rw [h i hi] at e1
      exact ⟨v, e1, z⟩
    · obtain ⟨v, e1, z⟩ := E0.ok i s q'
      refine ⟨v, e1, ?_⟩
      cases s with
      | un => trivial
      | fz d => obtain ⟨x, e2, rp⟩ := z; exact ⟨x, e2, rp.fx fx⟩
      | own c => cases n
      | lck c => cases n
  · rcases back a s h1 with ⟨ha, q1⟩ | ⟨_, _, n⟩
    · rcases back b t h2 with ⟨hb, q2⟩ | ⟨_, _, n⟩
      · rw [← h a ha] at h5
        rw [← h b hb] at h6
        exact E.sep a b s t c e p q1 q2 h3 h4 h5 h6
      · rw [h4] at n; cases n
    · rw [h3] at n; cases n
theorem Keep.wipes {r r1 : Nms} {vs : List Nat} (k : Keep r r1) (no : noOb vs r = true) : Keep r (wipeE vs r1) := fun i c h => by
  by_cases hi : i ∈ vs
  · have n := List.all_eq_true.mp no i hi
    rw [List.getD_eq_getElem?_getD, h] at n
    cases n
  · rw [wipeE_ne hi]; exact k i c h
theorem Keep.rests {r r1 : Nms} {vs : List Nat} (k : Keep r r1) (no : noOb vs r = true) : Keep r (restE vs r r1) := fun i c h => by
  by_cases hi : i ∈ vs
  · have n := List.all_eq_true.mp no i hi
    rw [List.getD_eq_getElem?_getD, h] at n
    cases n
  · rw [restE_ne hi]; exact k i c h
theorem noOb_lock {r : Nms} {vs : List Nat} (no : noOb vs r = true) {i : Nat} {c : Ob} (h : r[i]? = some (.lck c)) : i ∉ vs := fun hi => by
  have n := List.all_eq_true.mp no i hi
  rw [List.getD_eq_getElem?_getD, h] at n
  cases n
theorem noOb_all {r : Nms} {vs : List Nat} (h : ∀ j ∈ vs, ((r[j]?.getD .un).ob) = none) : noOb vs r = true := by
  refine List.all_eq_true.mpr fun v hv => ?_
  rw [List.getD_eq_getElem?_getD, h v hv] <;> rfl

theorem noOb_wipe (r : Nms) (vs : List Nat) : noOb vs (wipeE vs r) = true := noOb_all fun v hv => by
  by_cases hb : v < r.length
  · rw [wipeE_mem hv hb] <;> rfl
  · rw [List.getElem?_eq_none (by rw [wipeE_length]; omega)] <;> rfl
theorem EnvOk.off {K : PySem.W.Frag} {H : Hp} {O : Addr → Prop} {r : Nms} {σ : L2.St} {D : Addr} {xs ys : List V} (E : EnvOk K H O r σ) (hD : H D = some (.lst xs)) (nD : ¬ O D) : Fx H (upd H D (.lst ys)) ∧ EnvOk K (upd H D (.lst ys)) O r σ := by
  have fx : Fx H (upd H D (.lst ys)) := by
    refine ⟨fun b o w e => ?_, fun b zs e => ?_⟩
    · rw [upd_ne (fun z => by rw [z, hD] at e; cases e)]; exact e
    · rw [upd_ne (fun z => by rw [z, hD] at e; cases e)]; exact e
  have e : ∀ p, O p → upd H D (.lst ys) p = H p := fun p o => upd_ne (fun z => nD (by rw [← z]; exact o))
  exact ⟨fx, E.len, fun i s q => let ⟨v, e1, z⟩ := E.ok i s q; ⟨v, e1, z.same fx e⟩, E.sep, fun p o => by rw [e p o]; exact E.mt p o⟩
/-- [elt for target in iter if ..] -/
theorem lc_read {vs : List Nat} {t : DenT} {f : Den} {σ : L2.St} {H : Hp} {Q : VK} (his : ∀ i ∈ is, i ∈ vs) (hw : tX X.K (dLc vs fi g t f) σ H Q) : tLc (tI X.K fi) (tG X.K false is g) (tT X.K t) (tX X.K (dFrz f)) vs σ H Q := by
  obtain ⟨O, r, z, r', E, hf, k⟩ := hw
  unfold dLc at hf
  obtain ⟨⟨ds, r1, un⟩, q1, hf⟩ := Option.bind_eq_some_iff.mp hf
  dsimp only at hf
  by_cases hno : noOb vs r1 = true
  · rw [if_pos hno] at hf
    obtain ⟨⟨xs, r2⟩, q2, e⟩ := Option.map_eq_some_iff.mp hf
    cases e
    refine ⟨O, r, ds, r1, un, E, q1, fun H1 O1 J st1 E1 kp1 hlen hun jok D hD => ?_⟩
    -- the new list comes to what stands
    have sm0 : Same H1 (upd H1 D (.lst [])) := same_upd hD
    have E1w : EnvOk X.K (upd H1 D (.lst [])) O1 (wipeE vs r1) (wipe σ vs) := (E1.same sm0).wipes (wipe_length _ _) fun j hj => wipe_ne hj
    have nD : ¬ O1 D := fun z => by have := E1.mt D z; rw [hD] at this; exact this
    refine ⟨fun i m Hi => m = ds.length - i ∧ i ≤ ds.length ∧ ∃ Oi ri acc ys vys, Stp H1 O1 Hi Oi ∧ ¬ Oi D ∧ EnvOk X.K Hi Oi ri (wipe σ vs) ∧ Keep (wipeE vs r1) ri ∧ Hi D = some (.lst vys) ∧ RpAll X.K Hi vys ys ∧ vys.length ≤ i ∧ compD vs g t f (ds.drop i) ri = some (acc, r2) ∧ ys ++ acc = xs, ⟨ds.length, by simp, Nat.zero_le _, O1, wipeE vs r1, xs, [], [], Stp.of_same sm0, nD, E1w, Keep.refl _, upd_same, .nil, Nat.le_refl _, q2, rfl⟩, ?_⟩
    rintro i m Hi ⟨rfl, hi, Oi, ri, acc, ys, vys, sti, nDi, Ei, ki, hDi, rpi, lei, hcd, hxs⟩
    have kr1 : Keep r1 ri := ((Keep.refl r1).wipes hno).trans ki
    have jk := jok Hi Oi ri (wipe σ vs) (E1.fxOf sti) Ei kr1 (fun j c h => wipe_ne (noOb_lock hno h)) i
    cases hd : ds[i]? with
    | none =>
      refine .inl ⟨jk.2 hd, ?_⟩
      rw [List.drop_eq_nil_of_le (List.getElem?_eq_none_iff.mp hd)] at hcd
      obtain ⟨e1, e2⟩ := Prod.mk.inj (Option.some.inj hcd)
      subst e1
      subst e2
      rw [List.append_nil] at hxs
      subst hxs
      have Er : EnvOk X.K Hi Oi (unlck un (restE vs r1 ri)) σ := (E1.rest (E1.fxOf sti) hno Ei (wipe_length _ _) fun j hj => wipe_ne hj).unlck un
      have mD : Mut (Hi D) := by rw [hDi]; trivial
      refine k Hi (fun b => Oi b ∨ b = D) (.ref D) (st1.trans ⟨sti.keep, fun b z => ?_⟩) (Er.add (Same.refl _) mD) ((kp1.trans (kr1.rests hno)).unlck hun) ⟨D, rfl, ⟨vys, hDi, rpi⟩, .inr rfl, fun j s e h1 h2 h3 => ?_⟩
      · rcases z with z | rfl
        · exact sti.own b z
        · exact .inr hD
      · obtain ⟨v, e1, z⟩ := Er.ok j s h1
        rw [h3] at e1; cases e1
        cases s with
        | un => cases h2
        | fz d => cases h2
        | own c => obtain ⟨p, e2, _, o⟩ := z; cases e2; exact nDi o
        | lck c => obtain ⟨p, e2, _, o⟩ := z; cases e2; exact nDi o
    | some d =>
      obtain ⟨go, yl⟩ := jk.1 d hd
      have hlt : i < ds.length := (List.getElem?_eq_some_iff.mp hd).1
      have hdr : ds.drop i = d :: ds.drop (i + 1) := by
        rw [List.drop_eq_getElem_cons hlt]
        have : ds[i] = d := by rw [List.getElem?_eq_getElem hlt] at hd; exact Option.some.inj hd
        rw [this]
      rw [hdr] at hcd
      unfold compD at hcd
      obtain ⟨rg, q3, hcd⟩ := Option.bind_eq_some_iff.mp hcd
      obtain ⟨⟨c, rt⟩, q4, hcd⟩ := Option.bind_eq_some_iff.mp hcd
      dsimp only at hcd
      refine .inr ⟨go, fun H' => ∃ Oj rj acc ys vys, Stp H1 O1 H' Oj ∧ ¬ Oj D ∧ EnvOk X.K H' Oj rj (wipe σ vs) ∧ Keep (wipeE vs r1) rj ∧ H' D = some (.lst vys) ∧ RpAll X.K H' vys ys ∧ vys.length ≤ i + 1 ∧ compD vs g t f (ds.drop (i + 1)) rj = some (acc, r2) ∧ ys ++ acc = xs, fun H' ⟨Oj, rj, acc', ys', vys', a⟩ => ⟨ds.length - (i + 1), by omega, rfl, hlt, Oj, rj, acc', ys', vys', a⟩, fun x H' y => ?_⟩
      obtain ⟨sm, rp⟩ := yl x H' y
      have hD' : H' D = some (.lst vys) := sm _ _ hDi
      have st' : Stp H1 O1 H' Oi := sti.trans (Stp.of_same sm)
      refine ⟨Oi, ri, d, rg, Ei.same sm, rp, q3, fun σ2 E2 k2 b2 => ⟨(wipe_but his b2).trans wipe_wipe, Oi, rg, c, rt, E2, q4, fun H3 O3 st3 E3 kp3 => ?_⟩⟩
      have hD3 : H3 D = some (.lst vys) := st3.keep D _ hD' nDi
      have nD3 : ¬ O3 D := fun z => (st3.own D z).elim nDi fun q => by rw [hD'] at q; cases q
      have hσ : ∀ j, j ∉ vs → (wipe σ vs)[j]? = σ2[j]? := fun j hj => (b2.eq j fun z => hj (his j z)).symm
      cases c with
      | false =>
        simp only [Bool.false_eq_true, if_false] at hcd ⊢
        refine ⟨O3, wipeE vs rt, acc, ys, vys, st'.trans st3, nD3, E3.wipes b2.len.symm hσ, ?_, hD3, rpi.fx ((Fx.of_same sm).trans ((Ei.same sm).fxOf st3)), by omega, hcd, hxs⟩
        exact (ki.trans (k2.lk.trans kp3)).wipes (noOb_wipe _ _)
      | true =>
        simp only [if_true] at hcd ⊢
        obtain ⟨⟨xv, r4⟩, q5, hcd⟩ := Option.bind_eq_some_iff.mp hcd
        obtain ⟨w, q6, q7⟩ := Option.bind_eq_some_iff.mp q5
        have := vOf_some q7
        subst this
        obtain ⟨⟨xs', r5⟩, q8, e8⟩ := Option.map_eq_some_iff.mp hcd
        cases e8
        refine ⟨O3, rt, .val xv, r4, E3, q6, fun H4 O4 v st4 E4 kp4 ro4 => ?_⟩
        have hD4 : H4 D = some (.lst vys) := st4.keep D _ hD3 nD3
        have nD4 : ¬ O4 D := fun z => (st4.own D z).elim nD3 fun q => by rw [hD3] at q; cases q
        obtain ⟨fx, E5⟩ := E4.off (ys := vys ++ [v]) hD4 nD4
        have fx4 : Fx Hi (upd H4 D (.lst (vys ++ [v]))) := (Fx.of_same sm).trans (((Ei.same sm).fxOf st3).trans ((E3.fxOf st4).trans fx))
        have st5 : Stp H1 O1 H4 O4 := st'.trans (st3.trans st4)
        refine ⟨vys, hD4, by omega, O4, wipeE vs r4, xs', ys ++ [xv], vys ++ [v], ⟨fun b o e n => ?_, st5.own⟩, nD4, E5.wipes b2.len.symm hσ, ?_, upd_same, (rpi.fx fx4).append (.cons (Rp.fx fx ro4) .nil), by simp; omega, q8, by rw [List.append_assoc]; exact hxs⟩
        · rw [upd_ne (fun z => by rw [z, hD] at e; cases e)]
          exact st5.keep b o e n
        · exact (ki.trans (k2.lk.trans (kp3.trans kp4))).wipes (noOb_wipe _ _)
  · rw [if_neg hno] at hf; cases hf
theorem ex_lc {elt : Expr} {ifs : List Expr} {scope : Scope} {own : List (Str × Nat)} {t : DenT} {f : Den} (hc : X.calm = true) (hN : X.N.Nodup) (hi : Ix X tg iter fi) (ok : BlkOk X.N X.env.scope scope own) (his : ∀ i ∈ is, i ∈ own.map (·.2))
    (hg : ∀ (s : Shared) (H : Hp) (C : Addr) (cl : List (Str × Addr)) (fp : List Addr), Gx false is (X.blk s H scope (compEnvC scope cl C X.env) fp) tg g) (ht : ∀ (s : Shared) (H : Hp) (C : Addr) (cl : List (Str × Addr)) (fp : List Addr), PTs (X.blk s H scope (compEnvC scope cl C X.env) fp) ifs (tT X.K t))
    (he : ∀ (s : Shared) (H : Hp) (C : Addr) (cl : List (Str × Addr)) (fp : List Addr), Ex (X.blk s H scope (compEnvC scope cl C X.env) fp) elt f) (hs : ∀ x, foldedSetIterable iter X.env x = pure x := by intro _; rfl) :
    Ex X (.ListComp elt [⟨tg, iter, ifs, 0⟩] scope pos) (dLc (own.map (·.2)) fi g t f) :=
  ⟨fun pins s σ H Q I hw => (pe_lc hc hN hi ok hg ht (fun s H C cl fp => ex_frz (he s H C cl fp)) hs).run pins s σ H Q I (lc_read his hw)⟩
/-- name = [..] on one line, the name a local -/
theorem sx_setLc {i : Nat} {y : Str} {py spos : Pos} {elt : Expr} {ifs : List Expr} {scope : Scope} {own : List (Str × Nat)} {t : DenT} {f : Den} (hc : X.calm = true) (hN : X.N.Nodup) (hy : X.N[i]? = some y) (hyl : X.env.scope.names.lookup y = some .local)
    (hsw : swapsWith (.ListComp elt [⟨tg, iter, ifs, 0⟩] scope pos) (some (.Name y py)) spos.line X.env = pure true) (hi : Ix X tg iter fi) (ok : BlkOk X.N X.env.scope scope own) (his : ∀ i ∈ is, i ∈ own.map (·.2))
    (hg : ∀ (s : Shared) (H : Hp) (C : Addr) (cl : List (Str × Addr)) (fp : List Addr), Gx false is (X.blk s H scope (compEnvC scope cl C X.env) fp) tg g) (ht : ∀ (s : Shared) (H : Hp) (C : Addr) (cl : List (Str × Addr)) (fp : List Addr), PTs (X.blk s H scope (compEnvC scope cl C X.env) fp) ifs (tT X.K t))
    (he : ∀ (s : Shared) (H : Hp) (C : Addr) (cl : List (Str × Addr)) (fp : List Addr), Ex (X.blk s H scope (compEnvC scope cl C X.env) fp) elt f) (h0 : io = true → i ≠ 0 := by decide) (hs : ∀ x, foldedSetIterable iter X.env x = pure x := by intro _; rfl) :
    Sx io X (.Assign [.Name y py] (.ListComp elt [⟨tg, iter, ifs, 0⟩] scope pos) spos) (dSet i (dLc (own.map (·.2)) fi g t f)) := by
  refine ⟨fun pins s σ H D I hw => (ps_setLc (wi := tI X.K fi) (g := tG X.K false is g) (tt := tT X.K t) (te := tX X.K (dFrz f)) hc hN hy hyl hsw hi ok hg ht (fun s H C cl fp => ex_frz (he s H C cl fp)) hs).run pins s σ H D I ?_⟩
  exact lc_read his (set_read h0 hw)
def tYesD : DenT := fun r => some (true, r)
theorem pts0 : PTs X [] (tT X.K tYesD) := by
  refine ⟨fun pins s σ H Q I hw => pts_nil.run pins s σ H Q I ?_⟩
  obtain ⟨O, r, x, r', E, hf, k⟩ := hw
  cases hf
  exact k H O (Stp.refl _ _) E (Keep.refl _)

/-! ### sources -/
def seqOf : PyData → Option (List PyData)
  | .list ds => some ds
  | .tuple ds => some ds
  | _ => none
/-- a list or a tuple: a name's own list is locked meanwhile -/
def iSeq (f : Den) : DenI := fun r => (dStl f r).bind fun y => match y with
  | (.val d, r1) => (seqOf d).map fun ds => (ds, r1, none)
  | (.slot i, r1) => match r1[i]? with
    | some (.own (.lst ds)) => some (ds, r1.set i (.lck (.lst ds)), some i)
    | some (.lck (.lst ds)) => some (ds, r1, none)
    | some (.fz d) => (seqOf d).map fun ds => (ds, r1, none)
    | _ => none
  | (.tmp _, _) => none
theorem jok_list' {K : PySem.W.Frag} {a : Addr} {vs : List V} {ds : List PyData} {H0 : Hp} {r0 : Nms} {σ0 : L2.St} (h : FzL K H0 a vs) (ra : RpAll K H0 vs ds) : JOk K (Itl K a) ds H0 r0 σ0 := by
  intro H O r σ fx E kp lk i
  have h' := h.fx fx
  have ra' := ra.fx fx
  refine ⟨fun d hd => ?_, fun hd => ⟨vs, h'.sq, by rw [ra.length]; exact List.getElem?_eq_none_iff.mp hd⟩⟩
  obtain ⟨v, hv, rp⟩ := ra'.get' hd
  refine ⟨⟨vs, v, h'.sq, hv⟩, fun x H' y => ?_⟩
  obtain ⟨e, y⟩ := y
  subst e
  have := y vs h'.sq
  rw [hv] at this
  cases this
  exact ⟨Same.refl _, rp⟩
theorem jok_tup {K : PySem.W.Frag} {a : Addr} {vs : List V} {ds : List PyData} {H0 : Hp} {r0 : Nms} {σ0 : L2.St} (h : SqT K H0 a vs) (ra : RpAll K H0 vs ds) : JOk K (Itt K a) ds H0 r0 σ0 := by
  intro H O r σ fx E kp lk i
  have h' := SqT.fx fx h
  have ra' := ra.fx fx
  refine ⟨fun d hd => ?_, fun hd => ⟨vs, h', by rw [ra.length]; exact List.getElem?_eq_none_iff.mp hd⟩⟩
  obtain ⟨v, hv, rp⟩ := ra'.get' hd
  refine ⟨⟨vs, v, h', hv⟩, fun x H' y => ?_⟩
  obtain ⟨e, y⟩ := y
  subst e
  have := y vs h'
  rw [hv] at this
  cases this
  exact ⟨Same.refl _, rp⟩
/-- a locked name's list -/
theorem jok_lck {K : PySem.W.Frag} {a : Addr} {ds : List PyData} {H0 : Hp} {r0 : Nms} {σ0 : L2.St} {n : Nat} (h : r0[n]? = some (.lck (.lst ds))) (hσ : σ0[n]? = some (some (.ref a))) : JOk K (Itl K a) ds H0 r0 σ0 := by
  intro H O r σ fx E kp lk i
  obtain ⟨v, e1, p, e2, ⟨vs, hp, ra⟩, op⟩ := E.ok n _ (kp n _ h)
  rw [lk n _ h, hσ] at e1
  cases e1; cases e2
  refine ⟨fun d hd => ?_, fun hd => ⟨vs, SqL.of hp, by rw [ra.length]; exact List.getElem?_eq_none_iff.mp hd⟩⟩
  obtain ⟨v, hv, rp⟩ := ra.get' hd
  refine ⟨⟨vs, v, SqL.of hp, hv⟩, fun x H' y => ?_⟩
  obtain ⟨e, y⟩ := y
  subst e
  have := y vs (SqL.of hp)
  rw [hv] at this
  cases this
  exact ⟨Same.refl _, rp⟩
/-- the walk over a list or a tuple, whatever it is -/
def iLT (K : PySem.W.Frag) (tl : TE) : TI := fun σ H R => tl σ H fun x H1 => ∃ a, x = .ref a ∧ ((∃ xs, SqL K H1 a xs ∧ (xs.length ≤ sizeLine → R (Itl K a) H1)) ∨ (∃ xs, SqT K H1 a xs ∧ (xs.length ≤ sizeLine → R (Itt K a) H1)))
theorem pi_lt {l : Expr} {tl : TE} (hl : PE X l tl) : PI X tg l (iLT X.K tl) := by
  refine ⟨fun pins s σ H R I h => ?_⟩
  refine thn (hl.run pins s σ H _ I h) fun v s1 ⟨x, H1, I1, r1, q1⟩ => ?_
  obtain ⟨a, e, q⟩ := q1
  subst e
  cases r1
  rcases q with ⟨xs, hq, q⟩ | ⟨xs, hq, q⟩
  · obtain ⟨its, rv, p, hz⟩ := I1.list hq
    refine wpAny_pyIter_list p.isList ?_
    refine ⟨s1.heap.objs.size, [s1.heap.objs.size], _, _, H1, rfl, I1.kept (t' := s1.toks) fun b o e => Heap.get?_push_of_some _ e, turn_list a _, ⟨_, Heap.get?_push_size _ rfl, rfl, rfl⟩, fun b hb => ?_, q hz⟩
    have e : b = s1.heap.objs.size := by simpa using hb
    subst e
    exact I1.fpOk (Nat.le_refl _) (I1.hok.fresh (Nat.le_refl _))
  · obtain ⟨its, rv, p, hz⟩ := I1.tuple hq
    refine wpAny_pyIter_tuple (show s1.heap.IsTuple a its.toArray from p) ?_
    refine ⟨s1.heap.objs.size, [s1.heap.objs.size], _, _, H1, rfl, I1.kept (t' := s1.toks) fun b o e => Heap.get?_push_of_some _ e, turn_tuple a _, ⟨_, Heap.get?_push_size _ rfl, rfl, rfl⟩, fun b hb => ?_, q hz⟩
    have e : b = s1.heap.objs.size := by simpa using hb
    subst e
    exact I1.fpOk (Nat.le_refl _) (I1.hok.fresh (Nat.le_refl _))
theorem seq_jok {K : PySem.W.Frag} {H : Hp} {r : Nms} {σ : L2.St} {v : V} {d : PyData} {ds : List PyData} {Q : It → Hp → Prop} (rp : Rp K H v d) (hd : seqOf d = some ds) (k : ∀ J, ds.length ≤ sizeLine → JOk K J ds H r σ → Q J H) :
    ∃ a, v = .ref a ∧ ((∃ xs, SqL K H a xs ∧ (xs.length ≤ sizeLine → Q (Itl K a) H)) ∨ (∃ xs, SqT K H a xs ∧ (xs.length ≤ sizeLine → Q (Itt K a) H))) := by
  cases rp with
  | non => cases hd
  | bl b => cases hd
  | int i => cases hd
  | str x => cases hd
  | @lst a vs _ h1 h2 =>
    cases hd
    exact ⟨a, rfl, .inl ⟨vs, h1.sq, fun hz => k _ (by rw [← h2.length]; exact hz) (jok_list' h1 h2)⟩⟩
  | @tup a vs _ h1 h2 =>
    cases hd
    exact ⟨a, rfl, .inr ⟨vs, h1, fun hz => k _ (by rw [← h2.length]; exact hz) (jok_tup h1 h2)⟩⟩
theorem ix_seq {e : Expr} {f : Den} (he : Ex X e f) : Ix X tg e (iSeq f) := by
  refine ⟨fun pins s σ H Q I hw => (pi_lt (ex_stl he)).run pins s σ H Q I ?_⟩
  obtain ⟨O, r, ds, r', u, E, hf, k⟩ := hw
  unfold iSeq at hf
  obtain ⟨⟨y, r1⟩, q1, hf⟩ := Option.bind_eq_some_iff.mp hf
  cases y with
  | tmp c => cases hf
  | val d =>
    obtain ⟨ds', q2, e⟩ := Option.map_eq_some_iff.mp hf
    cases e
    exact ⟨O, r, .val d, r', E, q1, fun H1 O1 v st1 E1 kp1 ro1 => seq_jok ro1 q2 fun J hz jk => k H1 O1 J st1 E1 kp1 hz (fun _ z => nomatch z) jk⟩
  | slot i =>
    have hf : (match r1[i]? with
      | some (.own (.lst ds)) => some (ds, r1.set i (.lck (.lst ds)), some i)
      | some (.lck (.lst ds)) => some (ds, r1, none)
      | some (.fz d) => (seqOf d).map fun ds => (ds, r1, none)
      | _ => none) = some (ds, r', u) := hf
    split at hf
    · rename_i ds' qi
      cases hf
      refine ⟨O, r, .slot i, r1, E, q1, fun H1 O1 v st1 E1 kp1 ro1 => ?_⟩
      have hv : σ[i]? = some (some v) := ro1
      obtain ⟨v', e1, p, e2, ⟨vs, hp, ra⟩, op⟩ := E1.ok i _ qi
      rw [hv] at e1; cases e1; cases e2
      have hl : i < r1.length := (List.getElem?_eq_some_iff.mp qi).1
      refine ⟨p, rfl, .inl ⟨vs, SqL.of hp, fun hz => k H1 O1 _ st1 (E1.swap qi rfl rfl) (kp1.trans (Keep.set fun c z => by rw [qi] at z; cases z)) (by rw [← ra.length]; exact hz) (fun j z c h => ?_) (jok_lck (List.getElem?_set_self hl) hv)⟩⟩
      cases z
      have := kp1 i c h
      rw [qi] at this
      cases this
    · rename_i ds' qi
      cases hf
      refine ⟨O, r, .slot i, r', E, q1, fun H1 O1 v st1 E1 kp1 ro1 => ?_⟩
      have hv : σ[i]? = some (some v) := ro1
      obtain ⟨v', e1, p, e2, ⟨vs, hp, ra⟩, op⟩ := E1.ok i _ qi
      rw [hv] at e1; cases e1; cases e2
      exact ⟨p, rfl, .inl ⟨vs, SqL.of hp, fun hz => k H1 O1 _ st1 E1 kp1 (by rw [← ra.length]; exact hz) (fun _ z => nomatch z) (jok_lck qi hv)⟩⟩
    · rename_i d qi
      obtain ⟨ds', q2, e⟩ := Option.map_eq_some_iff.mp hf
      cases e
      refine ⟨O, r, .slot i, r', E, q1, fun H1 O1 v st1 E1 kp1 ro1 => ?_⟩
      have hv : σ[i]? = some (some v) := ro1
      obtain ⟨v', e1, x, e2, rp⟩ := E1.ok i _ qi
      rw [hv] at e1; cases e1; cases e2
      exact seq_jok rp q2 fun J hz jk => k H1 O1 J st1 E1 kp1 hz (fun _ z => nomatch z) jk
    · cases hf
/-- range(n), range(a, b) -/
def rangeD (lo : Int) (n : Nat) : List PyData := (List.range n).map fun (k : Nat) => PyData.int (lo + (k : Int))
def iR1 (fs : Dens) : DenI := fun r => (fs r).bind fun (xs, r1) => (derefs r1 xs).bind fun ds => match ds with
  | [.int j] => if -(2 ^ 62) ≤ j ∧ j < 2 ^ 62 ∧ j.toNat ≤ sizeLine then some (rangeD 0 j.toNat, r1, none) else none
  | _ => none
def iR2 (fs : Dens) : DenI := fun r => (fs r).bind fun (xs, r1) => (derefs r1 xs).bind fun ds => match ds with
  | [.int i, .int j] => if (-(2 ^ 62) ≤ i ∧ i < 2 ^ 62 ∧ -(2 ^ 62) ≤ j ∧ j < 2 ^ 62) ∧ (j - i).toNat ≤ sizeLine then some (rangeD i (j - i).toNat, r1, none) else none
  | _ => none
theorem rangeD_get {lo : Int} {n i : Nat} : (rangeD lo n)[i]? = if i < n then some (PyData.int (lo + (i : Int))) else none := by
  unfold rangeD
  rw [List.getElem?_map]
  by_cases h : i < n
  · rw [if_pos h, List.getElem?_range h]; rfl
  · rw [if_neg h, List.getElem?_eq_none (by simpa using Nat.le_of_not_lt h)]; rfl
theorem rangeD_length {lo : Int} {n : Nat} : (rangeD lo n).length = n := by simp [rangeD]
theorem jok_range {K : PySem.W.Frag} {lo : Int} {n : Nat} {H0 : Hp} {r0 : Nms} {σ0 : L2.St} : JOk K (Itr lo n) (rangeD lo n) H0 r0 σ0 := by
  intro H O r σ fx E kp lk i
  rw [rangeD_get]
  by_cases h : i < n
  · rw [if_pos h]
    refine ⟨fun d hd => ⟨h, fun x H' y => ?_⟩, fun hd => nomatch hd⟩
    cases hd
    obtain ⟨e, y⟩ := y
    subst e; subst y
    exact ⟨Same.refl _, .int _⟩
  · rw [if_neg h]
    exact ⟨fun d hd => (nomatch hd), fun _ => Nat.le_of_not_lt h⟩
theorem ix_range1 {a : Expr} {fs : Dens} {p : Pos} (hg : Gl X "range") (hm : X.mg "range" = none) (ha : Exs X [a] fs) (hs : starEach [a] X.env = [(false, eval a X.env)] := by rfl) : Ix X tg (.Call (.Name "range" p) [a] [] pos) (iR1 fs) := by
  refine ⟨fun pins s σ H Q I hw => (pi_range1 hg hm ha hs).run pins s σ H Q I ?_⟩
  obtain ⟨O, r, ds, r', u, E, hf, k⟩ := hw
  unfold iR1 at hf
  obtain ⟨⟨xs, r1⟩, q1, hf⟩ := Option.bind_eq_some_iff.mp hf
  obtain ⟨es, q2, hf⟩ := Option.bind_eq_some_iff.mp hf
  split at hf
  · rename_i j
    split at hf
    · rename_i hb
      cases hf
      refine ⟨O, r, xs, r', E, q1, fun H1 O1 vs st1 E1 kp1 ro1 => ?_⟩
      have bp := ro1.derefs E1 q2
      cases bp with
      | cons b1 b2 =>
        cases b2
        refine ⟨j, by rw [b1.int], hb.1, hb.2.1, k H1 O1 _ st1 E1 kp1 (by rw [rangeD_length]; exact hb.2.2) (fun _ z => nomatch z) jok_range⟩
    · cases hf
  · cases hf
theorem ix_range2 {a b : Expr} {fs : Dens} {p : Pos} (hg : Gl X "range") (hm : X.mg "range" = none) (ha : Exs X [a, b] fs) (hs : starEach [a, b] X.env = [(false, eval a X.env), (false, eval b X.env)] := by rfl) (hs2 : starEach [b] X.env = [(false, eval b X.env)] := by rfl) : Ix X tg (.Call (.Name "range" p) [a, b] [] pos) (iR2 fs) := by
  refine ⟨fun pins s σ H Q I hw => (pi_range2 hg hm ha hs hs2).run pins s σ H Q I ?_⟩
  obtain ⟨O, r, ds, r', u, E, hf, k⟩ := hw
  unfold iR2 at hf
  obtain ⟨⟨xs, r1⟩, q1, hf⟩ := Option.bind_eq_some_iff.mp hf
  obtain ⟨es, q2, hf⟩ := Option.bind_eq_some_iff.mp hf
  split at hf
  · rename_i i j
    split at hf
    · rename_i hb
      cases hf
      refine ⟨O, r, xs, r', E, q1, fun H1 O1 vs st1 E1 kp1 ro1 => ?_⟩
      have bp := ro1.derefs E1 q2
      cases bp with
      | cons b1 b2 =>
        cases b2 with
        | cons b2 b3 =>
          cases b3
          exact ⟨i, j, by rw [b1.int, b2.int], hb.1, k H1 O1 _ st1 E1 kp1 (by rw [rangeD_length]; exact hb.2) (fun _ z => nomatch z) jok_range⟩
    · cases hf
  · cases hf
end
end KV

end

section
/-! KV, part 5: the operations. -/
namespace KV
open PySem PySem.Spec PyProof.Rows L2

mutual
theorem dp_plain {K : PySem.W.Frag} {H : Hp} : ∀ {v : V} {d : PyData}, Dp K H v d → d.plain = true
  | _, _, .non => rfl
  | _, _, .bl _ => rfl
  | _, _, .int _ => rfl
  | _, _, .str _ => rfl
  | _, _, .lst _ h => by rw [PyData.plain]; exact dpAll_plain h
  | _, _, .tup _ h => by rw [PyData.plain]; exact dpAll_plain h
theorem dpAll_plain {K : PySem.W.Frag} {H : Hp} : ∀ {vs : List V} {ds : List PyData}, DpAll K H vs ds → PyData.plainAll ds = true
  | _, _, .nil => rfl
  | _, _, .cons h t => by rw [PyData.plainAll, dp_plain h, dpAll_plain t]; rfl
end
theorem new_val {K : PySem.W.Frag} {H : Hp} {v : V} {d : PyData} (r : Rp K H v d) : NewR K H H v (.val d) := ⟨Same.refl _, r⟩
theorem new_int {K : PySem.W.Frag} {H : Hp} (i : Int) : NewR K H H (.int i) (.val (.int i)) := new_val (.int i)
theorem new_bl {K : PySem.W.Frag} {H : Hp} (i : Bool) : NewR K H H (.bl i) (.val (.bool i)) := new_val (.bl i)

section
variable {X : Cx}
/-! ### arithmetic -/
def opI (f : Int → Int → Option Int) : Op2 := fun x y => match x, y with
  | .int i, .int j => (f i j).map fun k => .val (.int k)
  | _, _ => none
theorem opI_inv {f : Int → Int → Option Int} {x y : PyData} {z : R} (h : opI f x y = some z) : ∃ i j k, x = .int i ∧ y = .int j ∧ f i j = some k ∧ z = .val (.int k) := by
  unfold opI at h
  split at h
  · obtain ⟨k, q, e⟩ := Option.map_eq_some_iff.mp h
    exact ⟨_, _, k, rfl, rfl, q, e.symm⟩
  · cases h
theorem opI_ok {o : Value → Value → Sem Value} {f : Int → Int → Option Int} {C : Int → Int → Prop} {g : Int → Int → Int} (h : OpR X o (rI C fun i j => .int (g i j))) (hf : ∀ i j k, f i j = some k → C i j ∧ k = g i j) : OpR X o (rD2 X.K (opI f)) := by
  intro pins s σ H x y v u Q I rx ry hw
  obtain ⟨dx, dy, z, bx, b, ho, k⟩ := hw
  obtain ⟨i, j, m, rfl, rfl, q, rfl⟩ := opI_inv ho
  obtain ⟨c, rfl⟩ := hf i j m q
  exact h pins s σ H x y v u Q I rx ry ⟨i, j, bx.int, b.int, c, k H _ (new_int _)⟩
theorem opI_ok0 {o : Value → Value → Sem Value} {g : Int → Int → Int} (h : OpR X o (rI0 fun i j => .int (g i j))) : OpR X o (rD2 X.K (opI fun i j => some (g i j))) := by
  intro pins s σ H x y v u Q I rx ry hw
  obtain ⟨dx, dy, z, bx, b, ho, k⟩ := hw
  obtain ⟨i, j, m, rfl, rfl, q, rfl⟩ := opI_inv ho
  cases q
  exact h pins s σ H x y v u Q I rx ry ⟨i, j, bx.int, b.int, k H _ (new_int _)⟩
def opSub : Op2 := opI fun i j => some (i - j)
def opMod : Op2 := opI fun i j => if j ≠ 0 then some (i.fmod j) else none
def opDiv : Op2 := opI fun i j => if j ≠ 0 ∧ j.natAbs < 1073741824 then some (i.fdiv j) else none
def opPow : Op2 := opI fun i j => if 0 ≤ j ∧ j ≤ 1000000 ∧ i.natAbs < 2 ^ 64 then some (i ^ j.toNat) else none
theorem o_sub : OpR X (binaryOp .Sub) (rD2 X.K opSub) := opI_ok0 op_sub
theorem o_mod : OpR X (binaryOp .Mod) (rD2 X.K opMod) := opI_ok op_modN fun i j k h => by
  split at h
  · rename_i c; cases h; exact ⟨c, rfl⟩
  · cases h
theorem o_div : OpR X (binaryOp .FloorDiv) (rD2 X.K opDiv) := opI_ok op_fdivN fun i j k h => by
  split at h
  · rename_i c; cases h; exact ⟨c, rfl⟩
  · cases h
theorem o_pow : OpR X (binaryOp .Pow) (rD2 X.K opPow) := opI_ok op_pow fun i j k h => by
  split at h
  · rename_i c; cases h; exact ⟨c, rfl⟩
  · cases h
def opAdd : Op2 := fun x y => match x, y with
  | .int i, .int j => some (.val (.int (i + j)))
  | .list xs, .list ys => if xs.length + ys.length ≤ sizeLine then some (.tmp (.lst (xs ++ ys))) else none
  | .tuple xs, .tuple ys => if xs.length + ys.length ≤ sizeLine then some (.val (.tuple (xs ++ ys))) else none
  | .str x, .str y => if x.length + y.length ≤ sizeLine then some (.val (.str (x ++ y))) else none
  | _, _ => none
theorem list_addS (l : Addr) (items : Array Value) (n : Nat) (b : Addr) (items2 : Array Value) (n2 : Nat) (sl sl2 : Array (Option Value)) (hc0 : items.size + items2.size ≤ sizeLine) :
    Meets (Builtin.«list.__add__» ⟨[.ref l, .ref b], []⟩) (fun _ R s => s.heap.get? l = some { cls := .type "list", dict := none, data := .seq items n, slots := sl } ∧ s.heap.get? b = some { cls := .type "list", dict := none, data := .seq items2 n2, slots := sl2 } ∧ R (.ok (.ret (Value.ref s.heap.objs.size))) { s with heap := s.heap.push { cls := Value.type "list", data := Data.seq (items ++ items2) } }) :=
  .of_wp fun prog w A R s h => by
    obtain ⟨hp, g, d, tk, os⟩ := s
    obtain ⟨hl, hb, h⟩ := h
    have f1 := AutoSeq1.idx_int
    have f2 := AutoSeq1.sub_tuple_tuple
    have f3 := AutoSeq1.sub_list_list
    have f4 := AutoSeq1.sub_tuple_list
    have f5 := AutoSeq1.sub_list_tuple
    wp_walk using AutoSeq1.wpAny_loadPart' hl, AutoSeq1.wpAny_loadPart' hb
    exact ⟨_, rfl, h⟩
theorem add_lists {pins : List (Addr × Obj)} {s : Shared} {σ : L2.St} {H : Hp} {a b : Addr} {xs ys : List V} {Q : VK} (I : Inv X pins σ H s) (ha : SqL X.K H a xs) (hb : SqL X.K H b ys) (hz : xs.length + ys.length ≤ sizeLine) (q : ∀ p, H p = none → Q (.ref p) (upd H p (.lst (xs ++ ys)))) :
    wpAny (model X.prog X.w) X.A (binaryOp .Add (.ref a) (.ref b)) (EP X pins σ Q) X.xe s := by
  obtain ⟨its, r, ⟨⟨c1, d1, dt1, sl1⟩, n, e, hc, hd, ht⟩, _⟩ := I.list ha
  obtain ⟨its2, r2, ⟨⟨c2, d2, dt2, sl2⟩, n2, e2, hc2, hd2, ht2⟩, _⟩ := I.list hb
  simp only at hc hd ht hc2 hd2 ht2
  subst hc hd ht hc2 hd2 ht2
  refine PySem.concat_meets ⟨_, e, rfl⟩ ⟨_, e2, rfl⟩ PySem.noFill_list_add PySem.seq_list_add PySem.F.slot_list_add PySem.F.entry_list_add (PySem.F.args_list_add_2 _ _) (list_addS a its.toArray n b its2.toArray n2 sl1 sl2 (by rw [List.size_toArray, List.size_toArray, ← r.length, ← r2.length]; exact hz)) ⟨e, e2, ?_⟩
  have ea : its.toArray ++ its2.toArray = (its ++ its2).toArray := by simp
  rw [ea]
  refine ⟨.ref _, _, I.laid (t' := s.toks) (o := .lst (xs ++ ys)) (fun b ob q => Heap.get?_push_of_some _ q) (Nat.le_refl _) ?_, rfl, q _ (I.hok.fresh (Nat.le_refl _))⟩
  exact ⟨by rw [List.length_append]; exact hz, _, 0, r.append r2, Heap.get?_push_size _ rfl⟩
theorem o_add : OpR X (binaryOp .Add) (rD2 X.K opAdd) := by
  intro pins s σ H x y v u Q I rx ry hw
  obtain ⟨dx, dy, z, bx, b, ho, k⟩ := hw
  unfold opAdd at ho
  split at ho
  · cases ho
    exact op_add pins s σ H x y v u Q I rx ry ⟨_, _, bx.int, b.int, k H _ (new_int _)⟩
  · split at ho
    · rename_i hz
      cases ho
      obtain ⟨a, vs, rfl, h1, r1⟩ := bx.list
      obtain ⟨c, ws, rfl, h2, r2⟩ := b.list
      cases rx
      cases ry
      exact add_lists I h1 h2 (by rw [r1.length, r2.length]; exact hz) fun p hp => k _ _ (new_lst hp (r1.append r2))
    · cases ho
  · split at ho
    · rename_i hz
      cases ho
      obtain ⟨a, vs, rfl, h1, r1⟩ := bx.tuple
      obtain ⟨c, ws, rfl, h2, r2⟩ := b.tuple
      refine op_catA pins s σ H _ _ v u Q I rx ry ⟨a, c, vs, ws, rfl, rfl, h1, h2, by rw [r1.length, r2.length]; exact hz, fun e => ?_, fun e1 e2 => ?_, fun e1 e2 p hp => k _ _ (new_tup hp (r1.append r2))⟩
      · subst e
        cases r1
        exact k _ _ (new_val (.tup h2 r2))
      · subst e2
        cases r2
        rw [List.append_nil] at k
        exact k _ _ (new_val (.tup h1 r1))
    · cases ho
  · split at ho
    · rename_i hz
      cases ho
      exact op_add_str pins s σ H x y v u Q I rx ry ⟨_, _, bx.str, b.str, hz, k H _ (new_val (.str _))⟩
    · cases ho
  · cases ho
def opMul : Op2 := fun x y => match x, y with
  | .int i, .int j => if (-(2 ^ 64) < i ∧ i < 2 ^ 64) ∨ (-(2 ^ 64) < j ∧ j < 2 ^ 64) then some (.val (.int (i * j))) else none
  | _, _ => none
theorem o_mul : OpR X (binaryOp .Mult) (rD2 X.K opMul) := by
  intro pins s σ H x y v u Q I rx ry hw
  obtain ⟨dx, dy, z, bx, b, ho, k⟩ := hw
  unfold opMul at ho
  split at ho
  · split at ho
    · rename_i hc
      cases ho
      exact op_mul pins s σ H x y v u Q I rx ry ⟨_, _, bx.int, b.int, hc, k H _ (new_int _)⟩
    · cases ho
  · cases ho
def opNeg : PyData → Option R := fun x => match x with
  | .int i => some (.val (.int (-i)))
  | _ => none
theorem o_neg : UnR X (unaryOp .USub) (rD1 X.K opNeg) := by
  intro pins s σ H x v Q I rx hw
  obtain ⟨d, z, bx, ho, k⟩ := hw
  unfold opNeg at ho
  split at ho
  · cases ho
    exact un_neg pins s σ H x v Q I rx ⟨_, bx.int, k H _ (new_int _)⟩
  · cases ho

/-! ### comparisons -/
def opC (f : Int → Int → Bool) : Op2 := fun x y => match x, y with
  | .int i, .int j => some (.val (.bool (f i j)))
  | _, _ => none
theorem opC_ok {o : Value → Value → Sem Value} {f : Int → Int → Bool} (h : OpR X o (rI0 fun i j => .bl (f i j))) : OpR X o (rD2 X.K (opC f)) := by
  intro pins s σ H x y v u Q I rx ry hw
  obtain ⟨dx, dy, z, bx, b, ho, k⟩ := hw
  unfold opC at ho
  split at ho
  · cases ho
    exact h pins s σ H x y v u Q I rx ry ⟨_, _, bx.int, b.int, k H _ (new_bl _)⟩
  · cases ho
abbrev opLt : Op2 := opC fun i j => decide (i < j)
abbrev opLe : Op2 := opC fun i j => decide (i ≤ j)
abbrev opGt : Op2 := opC fun i j => decide (j < i)
abbrev opGe : Op2 := opC fun i j => decide (j ≤ i)
theorem o_lt : OpR X (compareOp .Lt) (rD2 X.K opLt) := opC_ok op_lt
theorem o_le : OpR X (compareOp .LtE) (rD2 X.K opLe) := opC_ok op_le
theorem o_gt : OpR X (compareOp .Gt) (rD2 X.K opGt) := opC_ok op_gt
theorem o_ge : OpR X (compareOp .GtE) (rD2 X.K opGe) := opC_ok op_ge
/-- x is None, x is not None -/
def isNon : PyData → Bool
  | .none => true
  | _ => false
def opIsN : Op2 := fun x y => match y with
  | .none => some (.val (.bool (isNon x)))
  | _ => none
def opNotN : Op2 := fun x y => match y with
  | .none => some (.val (.bool (!isNon x)))
  | _ => none
theorem Bp.isN {K : PySem.W.Frag} {H : Hp} {v : V} {d : PyData} (h : Bp K H v d) : decide (v = .non) = isNon d := by
  cases h with
  | rp h => cases h <;> simp [isNon]
  | @ob p c h => cases c; simp [Ob.data, isNon]
theorem o_isN : OpR X (compareOp .Is) (rD2 X.K opIsN) := by
  intro pins s σ H x y v u Q I rx ry hw
  obtain ⟨dx, dy, z, bx, b, ho, k⟩ := hw
  unfold opIsN at ho
  split at ho
  · cases ho
    exact op_isN pins s σ H x y v u Q I rx ry ⟨b.non, by rw [bx.isN]; exact k H _ (new_bl _)⟩
  · cases ho
theorem o_notN : OpR X (compareOp .IsNot) (rD2 X.K opNotN) := by
  intro pins s σ H x y v u Q I rx ry hw
  obtain ⟨dx, dy, z, bx, b, ho, k⟩ := hw
  unfold opNotN at ho
  split at ho
  · cases ho
    exact op_notN pins s σ H x y v u Q I rx ry ⟨b.non, by rw [bx.isN]; exact k H _ (new_bl _)⟩
  · cases ho
/-- == of data -/
def opEq : Op2 := fun x y => if min x.depth y.depth ≤ 60 then some (.val (.bool (PyData.eqv x y))) else none
def opNe : Op2 := fun x y => if min x.depth y.depth ≤ 60 then some (.val (.bool (!PyData.eqv x y))) else none
theorem o_eq (hu : X.A.units + 64 < cLine) : OpR X (compareOp .Eq) (rD2 X.K opEq) := by
  intro pins s σ H x y v u Q I rx ry hw
  obtain ⟨dx, dy, z, bx, b, ho, k⟩ := hw
  unfold opEq at ho
  split at ho
  · rename_i hd
    cases ho
    obtain ⟨as, r1⟩ := Dp.reads I dx x v bx.dp rx
    obtain ⟨bs, r2⟩ := Dp.reads I dy y u b.dp ry
    exact SeqAt.eq_plain r1 r2 (dp_plain bx.dp) (dp_plain b.dp) (by omega) ⟨.bl _, H, I, rfl, k H _ (new_bl _)⟩
  · cases ho
theorem o_ne (hu : X.A.units + 64 < cLine) : OpR X (compareOp .NotEq) (rD2 X.K opNe) := by
  intro pins s σ H x y v u Q I rx ry hw
  obtain ⟨dx, dy, z, bx, b, ho, k⟩ := hw
  unfold opNe at ho
  split at ho
  · rename_i hd
    cases ho
    obtain ⟨as, r1⟩ := Dp.reads I dx x v bx.dp rx
    obtain ⟨bs, r2⟩ := Dp.reads I dy y u b.dp ry
    exact SeqAt.ne_plain r1 r2 (dp_plain bx.dp) (dp_plain b.dp) (by omega) ⟨.bl _, H, I, rfl, k H _ (new_bl _)⟩
  · cases ho
/-- x in c, x not in c -/
def opIn : Op2 := fun x c => (seqOf c).bind fun xs => if min (PyData.depthAll xs) x.depth ≤ 60 then some (.val (.bool (xs.any fun y => PyData.eqv y x))) else none
def opNotIn : Op2 := fun x c => (seqOf c).bind fun xs => if min (PyData.depthAll xs) x.depth ≤ 60 then some (.val (.bool (!xs.any fun y => PyData.eqv y x))) else none
theorem seqOf_some {d : PyData} {xs : List PyData} (h : seqOf d = some xs) : d = .list xs ∨ d = .tuple xs := by
  cases d with
  | list ys => cases h; exact .inl rfl
  | tuple ys => cases h; exact .inr rfl
  | _ => cases h
theorem o_in (hu : X.A.units + 64 < cLine) : OpR X (compareOp .In) (rD2 X.K opIn) := by
  intro pins s σ H x y v u Q I rx ry hw
  obtain ⟨dx, dy, z, bx, b, ho, k⟩ := hw
  obtain ⟨xs, hs, ho⟩ := Option.bind_eq_some_iff.mp ho
  split at ho
  · rename_i hd
    cases ho
    obtain ⟨as, r1⟩ := Dp.reads I dx x v bx.dp rx
    obtain ⟨bs, r2⟩ := Dp.reads I dy y u b.dp ry
    have pl := (dp_plain b.dp)
    rcases seqOf_some hs with e | e
    · subst e
      rw [PyData.plain] at pl
      exact SeqAt.in_list_data r2 r1 pl (dp_plain bx.dp) (by omega) ⟨.bl _, H, I, rfl, k H _ (new_bl _)⟩
    · subst e
      rw [PyData.plain] at pl
      exact SeqAt.in_tuple_data r2 r1 pl (dp_plain bx.dp) (by omega) ⟨.bl _, H, I, rfl, k H _ (new_bl _)⟩
  · cases ho
theorem o_notIn (hu : X.A.units + 64 < cLine) : OpR X (compareOp .NotIn) (rD2 X.K opNotIn) := by
  intro pins s σ H x y v u Q I rx ry hw
  obtain ⟨dx, dy, z, bx, b, ho, k⟩ := hw
  obtain ⟨xs, hs, ho⟩ := Option.bind_eq_some_iff.mp ho
  split at ho
  · rename_i hd
    cases ho
    obtain ⟨as, r1⟩ := Dp.reads I dx x v bx.dp rx
    obtain ⟨bs, r2⟩ := Dp.reads I dy y u b.dp ry
    have pl := (dp_plain b.dp)
    rcases seqOf_some hs with e | e
    · subst e
      rw [PyData.plain] at pl
      exact SeqAt.notIn_list_data r2 r1 pl (dp_plain bx.dp) (by omega) ⟨.bl _, H, I, rfl, k H _ (new_bl _)⟩
    · subst e
      rw [PyData.plain] at pl
      exact SeqAt.notIn_tuple_data r2 r1 pl (dp_plain bx.dp) (by omega) ⟨.bl _, H, I, rfl, k H _ (new_bl _)⟩
  · cases ho

/-! ### built-in functions -/
theorem BpAll.one {K : PySem.W.Frag} {H : Hp} {vs : List V} {d : PyData} (h : BpAll K H vs [d]) : ∃ v, vs = [v] ∧ Bp K H v d := by
  cases h with
  | cons a t => cases t; exact ⟨_, rfl, a⟩
theorem BpAll.two {K : PySem.W.Frag} {H : Hp} {vs : List V} {d e : PyData} (h : BpAll K H vs [d, e]) : ∃ v w, vs = [v, w] ∧ Bp K H v d ∧ Bp K H w e := by
  cases h with
  | cons a t => cases t with
    | cons b t => cases t; exact ⟨_, _, rfl, a, b⟩
def opLen : OpN := fun ds => match ds with
  | [.list xs] => some (.val (.int xs.length))
  | [.tuple xs] => some (.val (.int xs.length))
  | [.str x] => if x.length ≤ sizeLine then some (.val (.int x.length)) else none
  | _ => none
theorem c_len : CallR X (.builtin "len") (rDN X.K opLen) := by
  intro pins s σ H vs us Q I rv hw
  obtain ⟨ds, z, bs, ho, k⟩ := hw
  unfold opLen at ho
  split at ho
  · cases ho
    obtain ⟨v, rfl, b⟩ := bs.one
    obtain ⟨a, ws, rfl, h1, r1⟩ := b.list
    refine call_len_seq pins s σ H _ us Q I rv ⟨a, ws, rfl, .inl h1, ?_⟩
    rw [r1.length]
    exact k H _ (new_int _)
  · cases ho
    obtain ⟨v, rfl, b⟩ := bs.one
    obtain ⟨a, ws, rfl, h1, r1⟩ := b.tuple
    refine call_len_seq pins s σ H _ us Q I rv ⟨a, ws, rfl, .inr h1, ?_⟩
    rw [r1.length]
    exact k H _ (new_int _)
  · split at ho
    · rename_i hz
      cases ho
      obtain ⟨v, rfl, b⟩ := bs.one
      exact call_len_str pins s σ H _ us Q I rv ⟨_, by rw [b.str], hz, k H _ (new_int _)⟩
    · cases ho
  · cases ho
def opAbs : OpN := fun ds => match ds with
  | [.int i] => some (.val (.int (if i < 0 then -i else i)))
  | _ => none
theorem c_abs : CallR X (.builtin "abs") (rDN X.K opAbs) := by
  intro pins s σ H vs us Q I rv hw
  obtain ⟨ds, z, bs, ho, k⟩ := hw
  unfold opAbs at ho
  split at ho
  · cases ho
    obtain ⟨v, rfl, b⟩ := bs.one
    exact call_abs pins s σ H _ us Q I rv ⟨_, by rw [b.int], k H _ (new_int _)⟩
  · cases ho
def opInt : OpN := fun ds => match ds with
  | [.int i] => some (.val (.int i))
  | [.bool b] => some (.val (.int (if b then 1 else 0)))
  | _ => none
theorem c_int : CallR X (.type "int") (rDN X.K opInt) := by
  intro pins s σ H vs us Q I rv hw
  obtain ⟨ds, z, bs, ho, k⟩ := hw
  unfold opInt at ho
  split at ho
  · cases ho
    obtain ⟨v, rfl, b⟩ := bs.one
    exact call_int1 pins s σ H _ us Q I rv (.inl ⟨_, by rw [b.int], k H _ (new_int _)⟩)
  · cases ho
    obtain ⟨v, rfl, b⟩ := bs.one
    exact call_int1 pins s σ H _ us Q I rv (.inr ⟨_, by rw [b.bool], k H _ (new_int _)⟩)
  · cases ho
def boolsOf : List PyData → Option (List Bool)
  | [] => some []
  | .bool b :: r => (boolsOf r).map (b :: ·)
  | _ :: _ => none
theorem boolsOf_some : ∀ {ds : List PyData} {bs : List Bool}, boolsOf ds = some bs → ds = bs.map .bool
  | [], bs, h => by cases h; rfl
  | .bool b :: r, bs, h => by
    obtain ⟨cs, q, e⟩ := Option.map_eq_some_iff.mp h
    subst e
    rw [boolsOf_some q]; rfl
  | .none :: _, _, h => nomatch h
  | .int _ :: _, _, h => nomatch h
  | .str _ :: _, _, h => nomatch h
  | .list _ :: _, _, h => nomatch h
  | .tuple _ :: _, _, h => nomatch h
  | .dict _ :: _, _, h => nomatch h
theorem boolsOf_map (bs : List Bool) : boolsOf (bs.map .bool) = some bs := by
  induction bs with
  | nil => rfl
  | cons b r ih => show (boolsOf (r.map .bool)).map _ = _; rw [ih]; rfl
theorem RpAll.bools {K : PySem.W.Frag} {H : Hp} : ∀ {vs : List V} {bs : List Bool}, RpAll K H vs (bs.map .bool) → vs = bs.map V.bl
  | _, [], h => by cases h; rfl
  | _, b :: r, h => by
    cases h with
    | cons a t => cases a; rw [RpAll.bools t]; rfl
def opAll : OpN := fun ds => match ds with
  | [.list xs] => (boolsOf xs).map fun bs => .val (.bool (bs.all id))
  | _ => none
def opAny : OpN := fun ds => match ds with
  | [.list xs] => (boolsOf xs).map fun bs => .val (.bool (bs.any id))
  | _ => none
theorem c_all (hc : X.calm = true) : CallR X (.builtin "all") (rDN X.K opAll) := by
  intro pins s σ H vs us Q I rv hw
  obtain ⟨ds, z, bs, ho, k⟩ := hw
  unfold opAll at ho
  split at ho
  · obtain ⟨cs, q, e⟩ := Option.map_eq_some_iff.mp ho
    subst e
    obtain ⟨v, rfl, b⟩ := bs.one
    obtain ⟨a, ws, rfl, h1, r1⟩ := b.list
    rw [boolsOf_some q] at r1
    have := r1.bools
    subst this
    exact cr_all hc pins s σ H _ us Q I rv ⟨a, cs, rfl, h1, k H _ (new_bl _)⟩
  · cases ho
theorem c_any (hc : X.calm = true) : CallR X (.builtin "any") (rDN X.K opAny) := by
  intro pins s σ H vs us Q I rv hw
  obtain ⟨ds, z, bs, ho, k⟩ := hw
  unfold opAny at ho
  split at ho
  · obtain ⟨cs, q, e⟩ := Option.map_eq_some_iff.mp ho
    subst e
    obtain ⟨v, rfl, b⟩ := bs.one
    obtain ⟨a, ws, rfl, h1, r1⟩ := b.list
    rw [boolsOf_some q] at r1
    have := r1.bools
    subst this
    exact cr_any hc pins s σ H _ us Q I rv ⟨a, cs, rfl, h1, k H _ (new_bl _)⟩
  · cases ho
def opMin2 : OpN := fun ds => match ds with
  | [.int i, .int j] => some (.val (.int (if j < i then j else i)))
  | _ => none
def opMax2 : OpN := fun ds => match ds with
  | [.int i, .int j] => some (.val (.int (if j > i then j else i)))
  | _ => none
theorem c_min2 (hc : X.calm = true) : CallR X (.builtin "min") (rDN X.K opMin2) := by
  intro pins s σ H vs us Q I rv hw
  obtain ⟨ds, z, bs, ho, k⟩ := hw
  unfold opMin2 at ho
  split at ho
  · cases ho
    obtain ⟨v, w, rfl, b1, b2⟩ := bs.two
    exact call_min2 hc pins s σ H _ us Q I rv ⟨_, _, by rw [b1.int, b2.int], k H _ (new_int _)⟩
  · cases ho
theorem c_max2 (hc : X.calm = true) : CallR X (.builtin "max") (rDN X.K opMax2) := by
  intro pins s σ H vs us Q I rv hw
  obtain ⟨ds, z, bs, ho, k⟩ := hw
  unfold opMax2 at ho
  split at ho
  · cases ho
    obtain ⟨v, w, rfl, b1, b2⟩ := bs.two
    exact call_max2 hc pins s σ H _ us Q I rv ⟨_, _, by rw [b1.int, b2.int], k H _ (new_int _)⟩
  · cases ho
def opTuple : OpN := fun ds => match ds with
  | [.list xs] => some (.val (.tuple xs))
  | [.tuple xs] => some (.val (.tuple xs))
  | _ => none
def opList : OpN := fun ds => match ds with
  | [.list xs] => some (.tmp (.lst xs))
  | [.tuple xs] => some (.tmp (.lst xs))
  | _ => none
theorem c_tuple : CallR X (.type "tuple") (rDN X.K opTuple) := by
  intro pins s σ H vs us Q I rv hw
  obtain ⟨ds, z, bs, ho, k⟩ := hw
  unfold opTuple at ho
  split at ho
  · cases ho
    obtain ⟨v, rfl, b⟩ := bs.one
    obtain ⟨a, ws, rfl, h1, r1⟩ := b.list
    exact call_tuple_of pins s σ H _ us Q I rv ⟨a, ws, rfl, .inl ⟨h1, fun l hl => k _ _ (new_tup hl r1)⟩⟩
  · cases ho
    obtain ⟨v, rfl, b⟩ := bs.one
    obtain ⟨a, ws, rfl, h1, r1⟩ := b.tuple
    exact call_tuple_of pins s σ H _ us Q I rv ⟨a, ws, rfl, .inr ⟨h1, k _ _ (new_val (.tup h1 r1))⟩⟩
  · cases ho
theorem c_list : CallR X (.type "list") (rDN X.K opList) := by
  intro pins s σ H vs us Q I rv hw
  obtain ⟨ds, z, bs, ho, k⟩ := hw
  unfold opList at ho
  split at ho
  · cases ho
    obtain ⟨v, rfl, b⟩ := bs.one
    obtain ⟨a, ws, rfl, h1, r1⟩ := b.list
    exact call_list_of pins s σ H _ us Q I rv ⟨a, ws, rfl, .inl h1, fun l hl => k _ _ (new_lst hl r1)⟩
  · cases ho
    obtain ⟨v, rfl, b⟩ := bs.one
    obtain ⟨a, ws, rfl, h1, r1⟩ := b.tuple
    exact call_list_of pins s σ H _ us Q I rv ⟨a, ws, rfl, .inr h1, fun l hl => k _ _ (new_lst hl r1)⟩
  · cases ho

/-! ### places, slices -/
theorem RpAll.atI {K : PySem.W.Frag} {H : Hp} {vs : List V} {ds : List PyData} {i : Int} {d : PyData} (r : RpAll K H vs ds) (h : atI ds i = some d) : ∃ v, L2.atI vs i = some v ∧ Rp K H v d := by
  unfold L2.atI at h ⊢
  rw [r.length]
  obtain ⟨j, q, e⟩ := Option.bind_eq_some_iff.mp h
  obtain ⟨v, hv, rp⟩ := r.get' e
  exact ⟨v, by rw [q]; exact hv, rp⟩
def opIx : Op2 := fun x y => match y with
  | .int i => (seqOf x).bind fun xs => (atI xs i).map .val
  | _ => none
theorem i_ix : IxR X (rD2 X.K opIx) := by
  intro value slice pins s σ H x y v u Q I rx ry hw hs
  obtain ⟨dx, dy, z, bx, b, ho, k⟩ := hw
  unfold opIx at ho
  split at ho
  · obtain ⟨xs, hq, ho⟩ := Option.bind_eq_some_iff.mp ho
    obtain ⟨d, hd, e⟩ := Option.map_eq_some_iff.mp ho
    subst e
    rcases seqOf_some hq with e | e
    · subst e
      obtain ⟨a, ws, rfl, h1, r1⟩ := bx.list
      obtain ⟨w, hw, rp⟩ := r1.atI hd
      exact L2.ix_seq value slice pins s σ H _ y v u Q I rx ry (.inl ⟨a, ws, _, w, rfl, b.int, h1, hw, k _ _ (new_val rp)⟩) hs
    · subst e
      obtain ⟨a, ws, rfl, h1, r1⟩ := bx.tuple
      obtain ⟨w, hw, rp⟩ := r1.atI hd
      exact L2.ix_seq value slice pins s σ H _ y v u Q I rx ry (.inr (.inl ⟨a, ws, _, w, rfl, b.int, h1, hw, k _ _ (new_val rp)⟩)) hs
  · cases ho
variable {a b e : Expr} {f g : Den} {pos : Pos}
theorem ex_ix (ha : Ex X a f) (hb : Ex X b g) (hs : PlainIx b) : Ex X (.Subscript a b pos) (dBin f g opIx) :=
  ⟨fun pins s σ H Q I hw => (pe_ix i_ix (ex_stl ha) hb hs).run pins s σ H Q I (bin_read hw)⟩
end
end KV

end

section
/-! KV, part 6: defs (with nothing on the repr guard's pile) and their calls; what changes a list. -/
namespace KV
open PySem PySem.Spec PyProof.Rows L2

/-- a def's promise, where no repr is under way -/
structure FnG (P : Program) (w : World) (K : PySem.W.Frag) (mg : Str → Option Value) (base : Heap) (CX : CXT) (k : Nat) (f : Addr) (fd : FuncData) (ps : List Str) (sp : Sp) : Prop where
  len : ∀ vs H Q E, sp vs H Q E → vs.length = ps.length
  run : ∀ (A : Around) (outer : List Env) (s : Shared) (H : Hp) (args : Args) (us : List Value) (vs : List V) (Q : VK) (E : XK), A.guards = some [] → Room k A → Env0 P w K mg base A outer s H → BindsTo s fd args (ps.zip us) → Vals vs us → sp vs H Q E →
    codeAny (model P w) A (.call (.ref f) args) (CR CX outer P w H s Q E) s
theorem FnG.mono {P : Program} {w : World} {K : PySem.W.Frag} {mg : Str → Option Value} {base : Heap} {CX : CXT} {j k : Nat} {f : Addr} {fd : FuncData} {ps : List Str} {sp : Sp} (F : FnG P w K mg base CX j f fd ps sp) (h : j ≤ k) :
    FnG P w K mg base CX k f fd ps sp := ⟨F.len, fun A outer s H args us vs Q E hg hr => F.run A outer s H args us vs Q E hg (hr.mono h)⟩
theorem deeper_guards {A : Around} {qual : Str} {scope : Scope} {L f : Addr} {cd : Value} (h : A.guards = some []) : (A.deeper (envOfC qual scope L f cd)).guards = some [] := h

theorem fn_G {CX : CXT} {P : Program} {w : World} {K : PySem.W.Frag} {mg : Str → Option Value} {base : Heap} {k : Nat} {f : Addr} {name qual : Str} {params : Arguments} {body : List Stmt} {scope : Scope} {dV kV doc pm cdv ct oc : Value} {an od : Option Addr}
    {osl : Array (Option Value)} {N ps : List Str} {sp : Sp} (lk : K.lookup f = some ⟨oc, od, .func (PySem.W.fnOf name qual params body scope dV kV doc pm an cdv ct), osl⟩) (hcd : PySem.W.codeIn K cdv qual = true) (S : FnScope N ps scope)
    (len : ∀ vs H Q E, sp vs H Q E → vs.length = ps.length)
    (hbody : ∀ (A : Around) (outer : List Env) (s : Shared) (H : Hp) (vs : List V) (Q : VK) (E : XK), (A.deeper (envOfC qual scope s.heap.objs.size f cdv)).guards = some [] → Room k (A.deeper (envOfC qual scope s.heap.objs.size f cdv)) → sp vs H Q E →
      ∃ t, PSs (cxOf CX P w K mg base N qual scope f cdv A outer s H E) body t ∧ t { nx := fun _ H' => Q .non H', rt := Q } (L2.start N vs) H) :
    FnG P w K mg base CX (k + 1) f (PySem.W.fnOf name qual params body scope dV kV doc pm an cdv ct) ps sp := by
  refine ⟨len, fun A outer s H args us vs Q E hg hr e0 hb r hsp => ?_⟩
  have hl := len _ _ _ _ hsp
  have KX : K.In s.heap := e0.mod.kin.keeps fun b o e => (e0.bs b o e).1
  have lim : s.heap.NoLimit := e0.mod.nolimit.keeps fun b o e => (e0.bs b o e).1
  have hkind : ∀ y ∈ ps.zip us, scope.names.lookup y.1 = some .local ∨ (scope.names.lookup y.1 = some .cell ∧ ((cellsFrom (s.heap.objs.size + 1) scope.names []).lookup y.1).isSome = true) := fun ⟨n, v⟩ hy => by
    rcases S.par n (List.of_mem_zip hy).1 with q | q
    · exact .inl q
    · exact .inr ⟨q, PySem.W.cellsFrom_some _ _ _ (.inl q)⟩
  refine codeAny_call_function hr.depth (KX _ _ lk) rfl S.co S.gen rfl (PySem.W.codeRec_of KX hcd) (hb _ _ _ _ ?_)
  refine wpAny_newFunctionEnv_cells S.kind hkind fun env he s1 x => ?_
  subst he
  refine ⟨lim.keeps x.toInCall.keep, codeAny_func ?_⟩
  obtain ⟨t, ht, hq⟩ := hbody A outer s H vs Q E (deeper_guards hg) (hr.deeper _) hsp
  have I : Inv (cxOf CX P w K mg base N qual scope f cdv A outer s H E) [] (L2.start N vs) H s1 := inv_start S hr.hd e0 hl r x
  refine wpAny_mono (ht.run [] s1 (L2.start N vs) H _ I hq) (fun fl s' hs => ?_) fun e s' hs => hs
  have fin : ∀ {σ' : L2.St} {H' : Hp} {v : V} {u : Value}, Inv (cxOf CX P w K mg base N qual scope f cdv A outer s H E) [] σ' H' s' → L2.RelV v u → Q v H' → CE outer P w H s Q u s' :=
    fun {σ' H' v u} J rv q => ⟨v, H', J.os, J.bare, J.base, J.hok, rv, q⟩
  cases fl with
  | ret u =>
    obtain ⟨v, σ', H', J, rv, q⟩ := hs
    exact fin J rv q
  | next =>
    obtain ⟨σ', H', J, q⟩ := hs
    exact fin (v := V.non) (u := Value.none) J rfl q
  | brk =>
    obtain ⟨_, _, _, q⟩ := hs
    exact False.elim q
  | cont =>
    obtain ⟨_, _, _, q⟩ := hs
    exact False.elim q

section
variable {X : Cx} {CX : CXT} {k : Nat} {f : Addr} {fd : FuncData} {ps ks : List Str} {sp : Sp} {dvs : List V} {ds : List Value} {E : XK} {x : Str} {p pos : Pos} {e : Expr} {es : List Expr} {t tk : TA} {kws : List Keyword}
theorem run_fnG {pins : List (Addr × Obj)} {σ : L2.St} {H : Hp} {s : Shared} {Q : VK} {us : List Value} {vs : List V} (F : FnG X.prog X.w X.K X.mg X.base CX k f fd ps sp) (hg : X.A.guards = some []) (hr : Room k X.A) (hb : Binds X.K fd ps ds) (hd : Vals dvs ds) (hx : Passes CX X E)
    (I : Inv X pins σ H s) (r : Vals vs us) (h : sp (vs ++ dvs) H Q E) : wpAny (model X.prog X.w) X.A (call (.ref f) us) (EP X pins σ Q) X.xe s := by
  have r2 : Vals (vs ++ dvs) (us ++ ds) := r.append hd
  have hl : (us ++ ds).length = ps.length := by rw [← r2.length]; exact F.len _ _ _ _ h
  refine wpAny_call (codeAny_mono (F.run X.A X.stack s H ⟨us, []⟩ (us ++ ds) (vs ++ dvs) Q E hg hr I.env0 (hb s us I.kIn hl) r2 h) fun r s' hq => ?_)
  cases r with
  | error e => exact hx pins σ H s e s' I hq
  | ok fl =>
    cases fl with
    | ret u => exact I.after hq
    | next => exact False.elim hq
    | brk => exact False.elim hq
    | cont => exact False.elim hq
theorem pe_callG (F : FnG X.prog X.w X.K X.mg X.base CX k f fd ps sp) (hgd : X.A.guards = some []) (hr : Room k X.A) (hg : Gl X x) (hm : X.mg x = some (.ref f)) (hk : PySem.W.keepIn X.K (.ref f) = true) (hb : Binds X.K fd ps ds) (hd : Vals dvs ds) (hx : Passes CX X E)
    (ha : PA X (e :: es) t) (hdb : (x == ("__debug__" : Str)) = false := by decide) (he : starEach (e :: es) X.env = (false, eval e X.env) :: starEach es X.env := by rfl) (hpl : (backTo pos (starEach es X.env)).any (·.1) = false := by rfl) :
    PE X (.Call (.Name x p) (e :: es) [] pos) (tCall sp dvs E t) := by
  refine ⟨fun pins s σ H Q I h => ?_⟩
  refine wpAny_Call_Name_kw (ld_glob I hg hm ?_ hdb)
  refine PySem.W.callWith_K (h₀ := X.base) I.ok.mod.kin hk (thn (ha.run pos pins s σ H _ I h) fun us s1 ⟨vs, H1, I1, r, q⟩ => ⟨I1.kIn, ?_⟩) he hpl
  exact run_fnG F hgd hr hb hd hx I1 r q
variable {g : List Value → List Value → List Value} {gV : List V → List V → List V}
theorem run_fnkG {pins : List (Addr × Obj)} {σ : L2.St} {H : Hp} {s : Shared} {Q : VK} {us ws : List Value} {vs zs : List V} (F : FnG X.prog X.w X.K X.mg X.base CX k f fd ps sp) (hgd : X.A.guards = some []) (hr : Room k X.A) (hb : KBinds X.K fd ps ks g gV) (hx : Passes CX X E)
    (I : Inv X pins σ H s) (r : Vals vs us) (rz : Vals zs ws) (h : sp (gV vs zs) H Q E) : wpAny (model X.prog X.w) X.A (call (.ref f) us (ks.zip ws)) (EP X pins σ Q) X.xe s := by
  have r2 := hb.rel r rz
  have hl : (g us ws).length = ps.length := by rw [← r2.length]; exact F.len _ _ _ _ h
  refine wpAny_call (codeAny_mono (F.run X.A X.stack s H ⟨us, ks.zip ws⟩ (g us ws) (gV vs zs) Q E hgd hr I.env0 (hb.to s us ws I.kIn hl) r2 h) fun r s' hq => ?_)
  cases r with
  | error e => exact hx pins σ H s e s' I hq
  | ok fl =>
    cases fl with
    | ret u => exact I.after hq
    | next => exact False.elim hq
    | brk => exact False.elim hq
    | cont => exact False.elim hq
/-- f(k = v, ..) -/
theorem pe_callK0 (F : FnG X.prog X.w X.K X.mg X.base CX k f fd ps sp) (hgd : X.A.guards = some []) (hr : Room k X.A) (hg : Gl X x) (hm : X.mg x = some (.ref f)) (hk : PySem.W.keepIn X.K (.ref f) = true) (hb : KBinds X.K fd ps ks g gV) (hx : Passes CX X E)
    (hkw : PK X kws tk) (hall : (backToKw pos (keywordEach kws X.env)).all (·.1.isSome) = true := by rfl) (hks : (backToKw pos (keywordEach kws X.env)).filterMap (·.1) = ks := by rfl)
    (hdb : (x == ("__debug__" : Str)) = false := by decide) (hpl : ((backTo pos (starEach [] X.env)).any (·.1) || (backToKw pos (keywordEach kws X.env)).any (·.1.isNone)) = false := by rfl) :
    PE X (.Call (.Name x p) [] kws pos) (fun σ H Q => tk σ H fun zs H2 => sp (gV [] zs) H2 Q E) := by
  refine ⟨fun pins s σ H Q I h => ?_⟩
  refine wpAny_Call_Name_kw (ld_glob I hg hm ?_ hdb)
  refine PySem.W.callWith_KW0 (h₀ := X.base) I.ok.mod.kin hk hall ?_ hpl
  refine thn (hkw.run pos pins s σ H _ I h) fun ws s2 ⟨zs, H2, I2, rz, q2⟩ => ⟨I2.kIn, ?_⟩
  rw [hks]
  exact run_fnkG F hgd hr hb hx I2 .nil rz q2
theorem pe_callKG (F : FnG X.prog X.w X.K X.mg X.base CX k f fd ps sp) (hgd : X.A.guards = some []) (hr : Room k X.A) (hg : Gl X x) (hm : X.mg x = some (.ref f)) (hk : PySem.W.keepIn X.K (.ref f) = true) (hb : KBinds X.K fd ps ks g gV) (hx : Passes CX X E)
    (ha : PA X (e :: es) t) (hkw : PK X kws tk) (hall : (backToKw pos (keywordEach kws X.env)).all (·.1.isSome) = true := by rfl) (hks : (backToKw pos (keywordEach kws X.env)).filterMap (·.1) = ks := by rfl)
    (hdb : (x == ("__debug__" : Str)) = false := by decide) (he : starEach (e :: es) X.env = (false, eval e X.env) :: starEach es X.env := by rfl)
    (hpl : ((backTo pos (starEach (e :: es) X.env)).any (·.1) || (backToKw pos (keywordEach kws X.env)).any (·.1.isNone)) = false := by rfl) :
    PE X (.Call (.Name x p) (e :: es) kws pos) (tCallK sp gV E t tk) := by
  refine ⟨fun pins s σ H Q I h => ?_⟩
  refine wpAny_Call_Name_kw (ld_glob I hg hm ?_ hdb)
  refine PySem.W.callWith_KW (h₀ := X.base) I.ok.mod.kin hk hall (thn (ha.run pos pins s σ H _ I h) fun us s1 ⟨vs, H1, I1, r, q⟩ => ?_) hpl he
  refine thn (hkw.run pos pins s1 σ H1 _ I1 q) fun ws s2 ⟨zs, H2, I2, rz, q2⟩ => ⟨I2.kIn, ?_⟩
  rw [hks]
  exact run_fnkG F hgd hr hb hx I2 r rz q2
end

/-! ### pure defs -/
abbrev FnP (P : Program) (w : World) (K : PySem.W.Frag) (mg : Str → Option Value) (base : Heap) (k : Nat) (f : Addr) (fd : FuncData) (ps : List Str) (F : List PyData → Option R) : Prop := FnG P w K mg base CX0 k f fd ps (spP K ps.length F)
def NewB (K : PySem.W.Frag) (H H' : Hp) (w : V) : R → Prop
  | .val d => Rp K H' w d
  | .tmp e => ∃ q, w = .ref q ∧ H q = none ∧ ObOk K H' q e
  | .slot _ => False
/-- a def whose first argument is a list of its caller's (the draws' box), which it changes -/
def spB (K : PySem.W.Frag) (n : Nat) (G : Ob → List PyData → Option (R × Ob)) : Sp := fun vs H Q _ => ∃ p c vs' ds z c', vs = .ref p :: vs' ∧ ObOk K H p c ∧ RpAll K H vs' ds ∧ ds.length + 1 = n ∧ G c ds = some (z, c') ∧
  ∀ H' w, (∀ b o, b ≠ p → H b = some o → H' b = some o) → ObOk K H' p c' → NewB K H H' w z → Q w H'
abbrev FnB (P : Program) (w : World) (K : PySem.W.Frag) (mg : Str → Option Value) (base : Heap) (k : Nat) (f : Addr) (fd : FuncData) (ps : List Str) (G : Ob → List PyData → Option (R × Ob)) : Prop := FnG P w K mg base CX0 k f fd ps (spB K ps.length G)
def runB (N : Nat) (f : DenS) (c : Ob) (ds : List PyData) : Option (R × Ob) := ((f (env0 N (.own c :: ds.map .fz))).bind ret).bind fun y => match y.2[0]? with
  | some (Sl.own c') => some (y.1, c')
  | _ => none
section
variable {P : Program} {w : World} {K : PySem.W.Frag} {mg : Str → Option Value} {base : Heap}
theorem ret_noslot {o : Out} {r' : Nms} {i : Nat} (q3 : ret o = some (.slot i, r')) : False := by
  cases o with
  | nx r1 => cases q3
  | bk r1 => cases q3
  | ct r1 => cases q3
  | rt x r1 =>
    cases x with
    | val d => cases q3
    | tmp c => cases q3
    | slot i =>
      have q3 : (match r1[i]? with
        | some (.own c) => some (R.tmp c, r1.set i .un)
        | some (.fz d) => some (R.val d, r1)
        | _ => none) = some _ := q3
      split at q3 <;> cases q3
theorem fnP_of {x qual : Str} {st : Stmt} {f : Addr} {fd : FuncData} {N ps : List Str} {k : Nat} {F : List PyData → Option R} (hF : Fun K x qual st f fd) (S : FnScope N ps (defScope st))
    (hbody : ∀ (cdv : Value) (A : Around) (outer : List Env) (s : Shared) (H : Hp), (A.deeper (envOfC qual (defScope st) s.heap.objs.size f cdv)).guards = some [] → Room k (A.deeper (envOfC qual (defScope st) s.heap.objs.size f cdv)) →
      ∃ g, Bx false (cxOf CX0 P w K mg base N qual (defScope st) f cdv A outer s H E0).nox (defBody st) g ∧ ∀ ds z, F ds = some z → runP N.length g ds = some z) : FnP P w K mg base (k + 1) f fd ps F := by
  obtain ⟨oc, od, kV, doc, pm, an, cdv, ct, osl, rfl, lk, hcd⟩ := hF.ex
  refine fn_G lk hcd S (fun vs H Q E h => ?_) (fun A outer s H vs Q E hgd hr h => ?_)
  · obtain ⟨ds, z, ra, hl, _⟩ := h
    rw [ra.length, hl]
  · obtain ⟨g, hg, hz⟩ := hbody cdv A outer s H hgd hr
    obtain ⟨ds, z, ra, hl, hF, k⟩ := h
    refine ⟨_, hg.nox, ?_⟩
    have q := hz ds z hF
    unfold runP at q
    obtain ⟨⟨z', r'⟩, q1, e⟩ := Option.map_eq_some_iff.mp q
    cases e
    obtain ⟨o, q2, q3⟩ := Option.bind_eq_some_iff.mp q1
    refine ⟨fun _ => False, _, o, ra.env0, q2, ret_read q3 fun H' O' σ' v st1 E1 _ ro => k H' v ?_⟩
    have sm : Same H H' := fun b o e => st1.keep b o e fun z => z
    cases z' with
    | val d => exact ⟨sm, ro⟩
    | tmp c =>
      obtain ⟨p, rfl, ob, op, _⟩ := ro
      exact ⟨sm, p, rfl, (st1.own p op).elim (fun z => z.elim) id, ob⟩
    | slot i => exact (ret_noslot q3).elim
theorem fnB_of {x qual : Str} {st : Stmt} {f : Addr} {fd : FuncData} {N ps : List Str} {k : Nat} {G : Ob → List PyData → Option (R × Ob)} (hF : Fun K x qual st f fd) (S : FnScope N ps (defScope st))
    (hbody : ∀ (cdv : Value) (A : Around) (outer : List Env) (s : Shared) (H : Hp), (A.deeper (envOfC qual (defScope st) s.heap.objs.size f cdv)).guards = some [] → Room k (A.deeper (envOfC qual (defScope st) s.heap.objs.size f cdv)) →
      ∃ g, Bx true (cxOf CX0 P w K mg base N qual (defScope st) f cdv A outer s H E0).nox (defBody st) g ∧ ∀ c ds z, G c ds = some z → runB N.length g c ds = some z) : FnB P w K mg base (k + 1) f fd ps G := by
  obtain ⟨oc, od, kV, doc, pm, an, cdv, ct, osl, rfl, lk, hcd⟩ := hF.ex
  refine fn_G lk hcd S (fun vs H Q E h => ?_) (fun A outer s H vs Q E hgd hr h => ?_)
  · obtain ⟨p, c, vs', ds, z, c', rfl, ob, ra, hl, _⟩ := h
    rw [List.length_cons, ra.length, hl]
  · obtain ⟨g, hg, hz⟩ := hbody cdv A outer s H hgd hr
    obtain ⟨p, c, vs', ds, z, c', rfl, ob, ra, hl, hG, k⟩ := h
    refine ⟨_, hg.nox, ?_⟩
    have q := hz c ds _ hG
    unfold runB at q
    obtain ⟨⟨z', r'⟩, q1, q4⟩ := Option.bind_eq_some_iff.mp q
    obtain ⟨o, q2, q3⟩ := Option.bind_eq_some_iff.mp q1
    have q4 : (match r'[0]? with
      | some (Sl.own c') => some (z', c')
      | _ => none) = some (z, c') := q4
    split at q4
    · rename_i c'' q5
      cases q4
      have E0' : EnvOk K H (fun b => b = p) (env0 N.length (.own c :: ds.map .fz)) (L2.start N (.ref p :: vs')) := by
        refine env0_ok (by rw [List.length_cons, List.length_cons, List.length_map, ra.length]) (fun i v s h1 h2 => ?_) (fun i j s t c1 e1 p1 h1 h2 h3 h4 h5 h6 => ?_) (fun b z => by rw [z]; exact ob.mut)
        · cases i with
          | zero => cases h1; cases h2; exact ⟨p, rfl, ob, rfl⟩
          | succ i =>
            rw [List.getElem?_cons_succ] at h1 h2
            obtain ⟨d, e, rp⟩ := ra.get h1
            rw [List.getElem?_map, e] at h2
            cases h2
            exact ⟨v, rfl, rp⟩
        · have no : ∀ (i : Nat) (s : Sl) (c1 : Ob), (Sl.own c :: ds.map Sl.fz)[i]? = some s → s.ob = some c1 → i = 0 := fun i s c1 h1 h3 => by
            cases i with
            | zero => rfl
            | succ i =>
              rw [List.getElem?_cons_succ, List.getElem?_map] at h1
              cases e : ds[i]? with
              | none => rw [e] at h1; cases h1
              | some d => rw [e] at h1; cases h1; cases h3
          rw [no i s c1 h1 h3, no j t e1 h2 h4]
      refine ⟨fun b => b = p, _, o, E0', q2, ret_read q3 fun H' O' σ' v st1 E1 kp ro => ?_⟩
      -- the box is at its place
      have hσ0 : σ'[0]? = some (some (.ref p)) := by rw [kp.first rfl]; rfl
      obtain ⟨v0, e1, p0, e2, ob', op'⟩ := E1.ok 0 _ q5
      rw [hσ0] at e1; cases e1; cases e2
      refine k H' v (fun b o hb e => st1.keep b o e hb) ob' ?_
      cases z with
      | val d => exact ro
      | tmp c1 =>
        obtain ⟨p1, rfl, ob1, op1, hn⟩ := ro
        refine ⟨p1, rfl, ?_, ob1⟩
        rcases st1.own p1 op1 with z | z
        · exact absurd (show σ'[0]? = some (some (.ref p1)) by rw [z]; exact hσ0) (hn 0 _ _ q5 rfl)
        · exact z
      | slot i => exact (ret_noslot q3).elim
    · cases q4
end

/-! ### calls of defs -/
section
variable {X : Cx} {k : Nat} {f : Addr} {fd : FuncData} {ps : List Str} {x : Str} {p pos : Pos} {e : Expr} {es : List Expr}
def dCall (F : List PyData → Option R) (fs : Denv) : Den := fun r => (fs r).bind fun (ds, r1) => (F ds).bind fun z => some (z, r1)
theorem call_read {K : PySem.W.Frag} {F : List PyData → Option R} {fs : Denv} {n : Nat} {σ : L2.St} {H : Hp} {Q : VK} (hl : ∀ r ds r', fs r = some (ds, r') → ds.length = n) (hw : tX K (dCall F fs) σ H Q) : tXv K fs σ H fun vs H1 => spP K n F vs H1 Q E0 := by
  obtain ⟨O, r, z, r', E, hf, k⟩ := hw
  unfold dCall at hf
  obtain ⟨⟨ds, r1⟩, q1, hf⟩ := Option.bind_eq_some_iff.mp hf
  obtain ⟨z', q2, hf⟩ := Option.bind_eq_some_iff.mp hf
  cases hf
  exact ⟨O, r, ds, r', E, q1, fun H1 O1 vs st1 E1 kp1 ra => ⟨ds, z, ra, hl _ _ _ q1, q2, fun H2 w n => by
    obtain ⟨O3, st3, E3, ro3⟩ := n.done E1
    exact k H2 O3 w (st1.trans st3) E3 kp1 ro3⟩⟩
theorem vNil_len (r : Nms) (ds : List PyData) (r' : Nms) (h : vNil r = some (ds, r')) : ds.length = 0 := by cases h; rfl
theorem vCons_len {g : Den} {gs : Denv} {n : Nat} (hl : ∀ r ds r', gs r = some (ds, r') → ds.length = n) (r : Nms) (ds : List PyData) (r' : Nms) (h : vCons g gs r = some (ds, r')) : ds.length = n + 1 := by
  unfold vCons at h
  obtain ⟨⟨d, r1⟩, _, h⟩ := Option.bind_eq_some_iff.mp h
  obtain ⟨⟨es, r2⟩, q2, h⟩ := Option.bind_eq_some_iff.mp h
  cases h
  rw [List.length_cons, hl _ _ _ q2]
/-- f(e, ..) of a pure def -/
theorem ex_call {F : List PyData → Option R} {fs : Denv} (hF : FnP X.prog X.w X.K X.mg X.base k f fd ps F) (hgd : X.A.guards = some []) (hr : Room k X.A) (hm : X.mg x = some (.ref f)) (hk : PySem.W.keepIn X.K (.ref f) = true) (hb : Binds X.K fd ps [])
    (ha : Exv X (e :: es) fs) (hl : ∀ r ds r', fs r = some (ds, r') → ds.length = ps.length) (hg : Gl X x := by rfl) (hdb : (x == ("__debug__" : Str)) = false := by decide) (he : starEach (e :: es) X.env = (false, eval e X.env) :: starEach es X.env := by rfl) (hpl : (backTo pos (starEach es X.env)).any (·.1) = false := by rfl) :
    Ex X (.Call (.Name x p) (e :: es) [] pos) (dCall F fs) := by
  refine ⟨fun pins s σ H Q I hw => (pe_callG hF hgd hr hg hm hk hb .nil pass0 ha hdb he hpl).run pins s σ H Q I ?_⟩
  obtain ⟨O, r, ds, r', E, q, k⟩ := call_read hl hw
  exact ⟨O, r, ds, r', E, q, fun H1 O1 vs st1 E1 kp1 ra => by
    have := k H1 O1 vs st1 E1 kp1 ra
    show spP X.K ps.length F (vs ++ []) H1 Q E0
    rw [List.append_nil]
    exact this⟩
/-- keywords -/
abbrev Kxv (X : Cx) (kws : List Keyword) (f : Denv) : Prop := PK X kws (tXv X.K f)
theorem kxv_nil : Kxv X [] vNil := by
  refine ⟨fun pos pins s σ H Q I hw => ?_⟩
  obtain ⟨O, r, x, r', E, hf, k⟩ := hw
  cases hf
  exact pk_nil.run pos pins s σ H Q I (k H O [] (Stp.refl _ _) E (Keep.refl _) .nil)
theorem kxv_cons {g : Den} {gs : Denv} {nm : Option Str} {kpos : Pos} {kws : List Keyword} (ha : Ex X e g) (hr : Kxv X kws gs) : Kxv X (⟨nm, e, kpos⟩ :: kws) (vCons g gs) := by
  refine ⟨fun pos pins s σ H Q I hw => (pk_cons (ex_frz ha) hr).run pos pins s σ H Q I ?_⟩
  obtain ⟨O, r, x, r', E, hf, k⟩ := hw
  unfold vCons at hf
  obtain ⟨⟨y, r1⟩, q1, hf⟩ := Option.bind_eq_some_iff.mp hf
  obtain ⟨⟨ys, r2⟩, q2, hf⟩ := Option.bind_eq_some_iff.mp hf
  cases hf
  obtain ⟨w, q3, q4⟩ := Option.bind_eq_some_iff.mp q1
  have := vOf_some q4
  subst this
  exact ⟨O, r, .val y, r1, E, q3, fun H1 O1 v st1 E1 kp1 ro1 => ⟨O1, r1, ys, r', E1, q2, fun H2 O2 vs st2 E2 kp2 ro2 => k H2 O2 _ (st1.trans st2) E2 (kp1.trans kp2) (.cons (Rp.fx (E1.fxOf st2) ro1) ro2)⟩⟩
/-- the keywords' values in the parameters' order: is, the place of each parameter's value -/
def pick {α : Type} (is : List Nat) (xs : List α) : List α := is.filterMap fun i => xs[i]?
theorem RpAll.pick {K : PySem.W.Frag} {H : Hp} {vs : List V} {ds : List PyData} (r : RpAll K H vs ds) : ∀ is : List Nat, RpAll K H (pick is vs) (pick is ds)
  | [] => .nil
  | i :: is => by
    unfold KV.pick
    rw [List.filterMap_cons, List.filterMap_cons]
    cases e : vs[i]? with
    | none =>
      have : ds[i]? = none := by
        rw [List.getElem?_eq_none_iff] at e ⊢
        rw [← r.length]; exact e
      rw [this]
      exact RpAll.pick r is
    | some v =>
      obtain ⟨d, e2, rp⟩ := r.get e
      rw [e2]
      exact .cons rp (RpAll.pick r is)
theorem Vals.pick {vs : List V} {us : List Value} (r : Vals vs us) : ∀ is : List Nat, Vals (pick is vs) (pick is us)
  | [] => .nil
  | i :: is => by
    unfold KV.pick
    rw [List.filterMap_cons, List.filterMap_cons]
    cases e : vs[i]? with
    | none =>
      rw [r.none_of e]
      exact Vals.pick r is
    | some v =>
      obtain ⟨u, e2, rp⟩ := r.get e
      rw [e2]
      exact .cons rp (Vals.pick r is)
def pickK {α : Type} (is : List Nat) (m n : Nat) (us ws : List α) : List α := if us.length = m ∧ ws.length = n then pick is (us ++ ws) else []
theorem kb_of {K : PySem.W.Frag} {qual : Str} {params : Arguments} {body : List Stmt} {scope : Scope} {is : List Nat} {m n : Nat} {ks : List Str} (F : FunD K x qual params body scope [] [] f fd) (hp : ps ≠ [])
    (h : ∀ (kV doc pm : Value) (an : Option Addr) (cdv ct : Value) (us ws : List Value), us.length = m → ws.length = n → bindArgs (PySem.W.fnOf x qual params body scope .none kV doc pm an cdv ct) ⟨us, ks.zip ws⟩ = pure (ps.zip (pick is (us ++ ws)))) :
    KBinds K fd ps ks (pickK is m n) (pickK is m n) := by
  obtain ⟨oc, od, dV, kV, doc, pm, an, cdv, ct, osl, rfl, lk, hcd, hD, hK⟩ := F.ex
  rcases hD with ⟨_, rfl⟩ | ⟨e, _⟩
  · refine ⟨fun s us ws _ hl => ?_, fun {vs us zs ws} r1 r2 => ?_⟩
    · unfold pickK at hl ⊢
      by_cases c : us.length = m ∧ ws.length = n
      · rw [if_pos c]
        exact .of_eq (h kV doc pm an cdv ct us ws c.1 c.2)
      · rw [if_neg c] at hl
        exact absurd (List.eq_nil_of_length_eq_zero hl.symm) hp
    · unfold pickK
      rw [r1.length, r2.length]
      by_cases c : us.length = m ∧ ws.length = n
      · rw [if_pos c, if_pos c]
        exact Vals.pick (r1.append r2) is
      · rw [if_neg c, if_neg c]
        exact .nil
  · exact absurd rfl e
def dCallK (F : List PyData → Option R) (is : List Nat) (gs fs : Denv) : Den := fun r => (gs r).bind fun (cs, r1) => (fs r1).bind fun (ds, r2) => (F (pick is (cs ++ ds))).bind fun z => some (z, r2)
theorem callK_read {K : PySem.W.Frag} {F : List PyData → Option R} {gs fs : Denv} {is : List Nat} {m n l : Nat} {σ : L2.St} {H : Hp} {Q : VK} (hm : ∀ r ds r', gs r = some (ds, r') → ds.length = m) (hn : ∀ r ds r', fs r = some (ds, r') → ds.length = n)
    (hl : ∀ cs ds : List PyData, cs.length = m → ds.length = n → (pick is (cs ++ ds)).length = l) (hw : tX K (dCallK F is gs fs) σ H Q) : tXv K gs σ H fun vs H1 => tXv K fs σ H1 fun zs H2 => spP K l F (pickK is m n vs zs) H2 Q E0 := by
  obtain ⟨O, r, z, r', E, hf, k⟩ := hw
  unfold dCallK at hf
  obtain ⟨⟨cs, r1⟩, q1, hf⟩ := Option.bind_eq_some_iff.mp hf
  obtain ⟨⟨ds, r2⟩, q2, hf⟩ := Option.bind_eq_some_iff.mp hf
  obtain ⟨z', q3, hf⟩ := Option.bind_eq_some_iff.mp hf
  cases hf
  refine ⟨O, r, cs, r1, E, q1, fun H1 O1 vs st1 E1 kp1 ra => ⟨O1, r1, ds, r', E1, q2, fun H2 O2 zs st2 E2 kp2 rb => ?_⟩⟩
  have ra2 := ra.fx (E1.fxOf st2)
  show spP K l F (pickK is m n vs zs) H2 Q E0
  unfold pickK
  rw [if_pos ⟨ra.length.trans (hm _ _ _ q1), rb.length.trans (hn _ _ _ q2)⟩]
  exact ⟨_, z, (ra2.append rb).pick is, hl _ _ (hm _ _ _ q1) (hn _ _ _ q2), q3, fun H3 w n => by
    obtain ⟨O3, st3, E3, ro3⟩ := n.done E2
    exact k H3 O3 w (st1.trans (st2.trans st3)) E3 (kp1.trans kp2) ro3⟩
theorem ex_callK0 {F : List PyData → Option R} {fs : Denv} {is : List Nat} {n : Nat} {ks : List Str} {kws : List Keyword} (hF : FnP X.prog X.w X.K X.mg X.base k f fd ps F) (hgd : X.A.guards = some []) (hr : Room k X.A) (hm : X.mg x = some (.ref f)) (hk : PySem.W.keepIn X.K (.ref f) = true)
    (hb : KBinds X.K fd ps ks (pickK is 0 n) (pickK is 0 n)) (hkw : Kxv X kws fs) (hn : ∀ r ds r', fs r = some (ds, r') → ds.length = n) (hl : ∀ cs ds : List PyData, cs.length = 0 → ds.length = n → (pick is (cs ++ ds)).length = ps.length) (hg : Gl X x := by rfl)
    (hall : (backToKw pos (keywordEach kws X.env)).all (·.1.isSome) = true := by rfl) (hks : (backToKw pos (keywordEach kws X.env)).filterMap (·.1) = ks := by rfl)
    (hdb : (x == ("__debug__" : Str)) = false := by decide) (hpl : ((backTo pos (starEach [] X.env)).any (·.1) || (backToKw pos (keywordEach kws X.env)).any (·.1.isNone)) = false := by rfl) :
    Ex X (.Call (.Name x p) [] kws pos) (dCallK F is vNil fs) :=
  ⟨fun pins s σ H Q I hw => (pe_callK0 hF hgd hr hg hm hk hb pass0 hkw hall hks hdb hpl).run pins s σ H Q I (by
    obtain ⟨O, r, cs, r1, E, q1, h⟩ := callK_read vNil_len hn hl hw
    cases q1
    exact h H O [] (Stp.refl _ _) E (Keep.refl _) .nil)⟩
theorem ex_callKM {F : List PyData → Option R} {gs fs : Denv} {is : List Nat} {m n : Nat} {ks : List Str} {kws : List Keyword} (hF : FnP X.prog X.w X.K X.mg X.base k f fd ps F) (hgd : X.A.guards = some []) (hr : Room k X.A) (hm : X.mg x = some (.ref f)) (hk : PySem.W.keepIn X.K (.ref f) = true)
    (hb : KBinds X.K fd ps ks (pickK is m n) (pickK is m n)) (ha : Exv X (e :: es) gs) (hkw : Kxv X kws fs) (hm2 : ∀ r ds r', gs r = some (ds, r') → ds.length = m) (hn : ∀ r ds r', fs r = some (ds, r') → ds.length = n) (hl : ∀ cs ds : List PyData, cs.length = m → ds.length = n → (pick is (cs ++ ds)).length = ps.length) (hg : Gl X x := by rfl)
    (hall : (backToKw pos (keywordEach kws X.env)).all (·.1.isSome) = true := by rfl) (hks : (backToKw pos (keywordEach kws X.env)).filterMap (·.1) = ks := by rfl)
    (hdb : (x == ("__debug__" : Str)) = false := by decide) (he : starEach (e :: es) X.env = (false, eval e X.env) :: starEach es X.env := by rfl)
    (hpl : ((backTo pos (starEach (e :: es) X.env)).any (·.1) || (backToKw pos (keywordEach kws X.env)).any (·.1.isNone)) = false := by rfl) :
    Ex X (.Call (.Name x p) (e :: es) kws pos) (dCallK F is gs fs) :=
  ⟨fun pins s σ H Q I hw => (pe_callKG hF hgd hr hg hm hk hb pass0 ha hkw hall hks hdb he hpl).run pins s σ H Q I (callK_read hm2 hn hl hw)⟩

/-- f(box, e, ..): the box is a name's own list -/
def dCallB (G : Ob → List PyData → Option (R × Ob)) (i : Nat) (fs : Denv) : Den := fun r => match r[i]? with
  | some (.own _) => (fs r).bind fun (ds, r1) => match r1[i]? with
    | some (.own c) => (G c ds).bind fun (z, c') => some (z, r1.set i (.own c'))
    | _ => none
  | _ => none
theorem callB_done {K : PySem.W.Frag} {H H' : Hp} {O : Addr → Prop} {r : Nms} {σ : L2.St} {p : Addr} {i : Nat} {c c' : Ob} {w : V} {z : R} (E : EnvOk K H O r σ) (hi : r[i]? = some (.own c)) (hσ : σ[i]? = some (some (.ref p)))
    (hk : ∀ b o, b ≠ p → H b = some o → H' b = some o) (ob' : ObOk K H' p c') (hz : NewB K H H' w z) : ∃ O', Stp H O H' O' ∧ EnvOk K H' O' (r.set i (.own c')) σ ∧ ROk K H' O' (r.set i (.own c')) σ w z := by
  obtain ⟨v, e1, p0, e2, ob, op⟩ := E.ok i _ hi
  rw [hσ] at e1; cases e1; cases e2
  have hl : i < r.length := (List.getElem?_eq_some_iff.mp hi).1
  have mp := ob.mut
  have fx : Fx H H' := ⟨fun b o u e => hk b _ (fun z => by rw [z] at e; rw [e] at mp; exact mp) e, fun b xs e => hk b _ (fun z => by rw [z] at e; rw [e] at mp; exact mp) e⟩
  have st : Stp H O H' O := ⟨fun b o e n => hk b o (fun z => n (by rw [z]; exact op)) e, fun _ z => .inl z⟩
  have keep : ∀ q, O q → q ≠ p → H' q = H q := fun q o ne => by
    have := E.mt q o
    cases e : H q with
    | none => rw [e] at this; exact this.elim
    | some u => exact hk q u ne e
  have E' : EnvOk K H' O (r.set i (.own c')) σ := by
    refine ⟨by rw [List.length_set]; exact E.len, fun j t q => ?_, fun a b s t c1 e1 p1 h1 h2 h3 h4 h5 h6 => ?_, fun q o => ?_⟩
    · by_cases hj : i = j
      · subst hj
        rw [List.getElem?_set_self hl] at q
        cases q
        exact ⟨_, hσ, p, rfl, ob', op⟩
      · rw [List.getElem?_set_ne hj] at q
        obtain ⟨v, e1, z⟩ := E.ok j t q
        refine ⟨v, e1, ?_⟩
        have ne : ∀ c1 p1, t.ob = some c1 → v = some (.ref p1) → p1 ≠ p := fun c1 p1 h1 h2 h3 => hj (E.sep i j _ t c c1 p hi q rfl h1 hσ (by rw [e1, h2, h3]))
        cases t with
        | un => trivial
        | fz d => obtain ⟨x, e2, rp⟩ := z; exact ⟨x, e2, rp.fx fx⟩
        | own c1 => obtain ⟨p1, e2, ob1, o1⟩ := z; exact ⟨p1, e2, ob1.fx fx (keep p1 o1 (ne c1 p1 rfl e2)), o1⟩
        | lck c1 => obtain ⟨p1, e2, ob1, o1⟩ := z; exact ⟨p1, e2, ob1.fx fx (keep p1 o1 (ne c1 p1 rfl e2)), o1⟩
    · have back : ∀ (a : Nat) (s : Sl) (c1 : Ob), (r.set i (.own c'))[a]? = some s → s.ob = some c1 → ∃ s2 c2, r[a]? = some s2 ∧ s2.ob = some c2 := fun a s c1 h1 h3 => by
        by_cases ha : i = a
        · subst ha
          exact ⟨_, c, hi, rfl⟩
        · rw [List.getElem?_set_ne ha] at h1
          exact ⟨s, c1, h1, h3⟩
      obtain ⟨s2, c2, q1, q2⟩ := back a s c1 h1 h3
      obtain ⟨t2, d2, q3, q4⟩ := back b t e1 h2 h4
      exact E.sep a b s2 t2 c2 d2 p1 q1 q3 q2 q4 h5 h6
    · by_cases hq : q = p
      · rw [hq]; exact ob'.mut
      · rw [keep q o hq]; exact E.mt q o
  cases z with
  | val d => exact ⟨O, st, E', hz⟩
  | slot j => exact hz.elim
  | tmp e =>
    obtain ⟨q, rfl, hq, obq⟩ := hz
    refine ⟨fun b => O b ∨ b = q, ⟨st.keep, fun b z => by
      rcases z with z | rfl
      · exact .inl z
      · exact .inr hq⟩, E'.add (Same.refl _) obq.mut, q, rfl, obq, .inr rfl, fun j s e h1 h2 h3 => ?_⟩
    obtain ⟨v, e1, z⟩ := E'.ok j s h1
    rw [h3] at e1; cases e1
    have : O q := by
      cases s with
      | un => cases h2
      | fz d => cases h2
      | own c1 => obtain ⟨p1, e2, _, o1⟩ := z; cases e2; exact o1
      | lck c1 => obtain ⟨p1, e2, _, o1⟩ := z; cases e2; exact o1
    have := E.mt q this
    rw [hq] at this
    exact this
theorem ex_callBx {G : Ob → List PyData → Option (R × Ob)} {fs : Denv} {i : Nat} {bx : Str} {bp : Pos} (hF : FnB X.prog X.w X.K X.mg X.base k f fd ps G) (hgd : X.A.guards = some []) (hr : Room k X.A) (hm : X.mg x = some (.ref f)) (hk : PySem.W.keepIn X.K (.ref f) = true) (hb : Binds X.K fd ps [])
    (hv : PE X (.Name bx bp) (tVar i)) (ha : Exv X es fs) (hl : ∀ r ds r', fs r = some (ds, r') → ds.length + 1 = ps.length) (hg : Gl X x := by rfl) (hdb : (x == ("__debug__" : Str)) = false := by decide)
    (he : starEach (.Name bx bp :: es) X.env = (false, eval (.Name bx bp) X.env) :: starEach es X.env := by rfl) (hpl : (backTo pos (starEach es X.env)).any (·.1) = false := by rfl) :
    Ex X (.Call (.Name x p) (.Name bx bp :: es) [] pos) (dCallB G i fs) := by
  refine ⟨fun pins s σ H Q I hw => (pe_callG hF hgd hr hg hm hk hb .nil pass0 (pa_cons hv ha he) hdb he hpl).run pins s σ H Q I ?_⟩
  obtain ⟨O, r, z, r', E, hf, k⟩ := hw
  unfold dCallB at hf
  split at hf
  · rename_i c0 q0
    obtain ⟨⟨ds, r1⟩, q1, hf⟩ := Option.bind_eq_some_iff.mp hf
    have hf : (match r1[i]? with
      | some (.own c) => (G c ds).bind fun (z, c') => some (z, r1.set i (.own c'))
      | _ => none) = some (z, r') := hf
    split at hf
    · rename_i c q2
      obtain ⟨⟨z', c'⟩, q3, hf⟩ := Option.bind_eq_some_iff.mp hf
      cases hf
      obtain ⟨v, e1, p0, e2, _, _⟩ := E.ok i _ q0
      subst e2
      refine ⟨.ref p0, e1, O, r, ds, r1, E, q1, fun H1 O1 vs st1 E1 kp1 ra => ?_⟩
      obtain ⟨v1, e3, p1, e4, ob, op⟩ := E1.ok i _ q2
      rw [e1] at e3; cases e3; cases e4
      rw [List.append_nil]
      refine ⟨p0, c, vs, ds, z, c', rfl, ob, ra, hl _ _ _ q1, q3, fun H2 w hk2 ob2 hz2 => ?_⟩
      obtain ⟨O3, st3, E3, ro3⟩ := callB_done E1 q2 e1 hk2 ob2 hz2
      exact k H2 O3 w (st1.trans st3) E3 (kp1.trans (Keep.set fun c1 z => by rw [q2] at z; cases z)) ro3
    · cases hf
  · cases hf
/-- f(g(..)): the box is just made -/
def dCallT (G : Ob → List PyData → Option (R × Ob)) (g : Den) : Den := fun r => (g r).bind fun y => match y with
  | (.tmp c, r1) => (G c []).bind fun (z, _) => some (z, r1)
  | _ => none
theorem ex_callT {G : Ob → List PyData → Option (R × Ob)} {g : Den} (hF : FnB X.prog X.w X.K X.mg X.base k f fd ps G) (hgd : X.A.guards = some []) (hr : Room k X.A) (hm : X.mg x = some (.ref f)) (hk : PySem.W.keepIn X.K (.ref f) = true) (hb : Binds X.K fd ps [])
    (ha : Ex X e g) (hl : ps.length = 1) (hg : Gl X x := by rfl) (hdb : (x == ("__debug__" : Str)) = false := by decide)
    (he : starEach [e] X.env = (false, eval e X.env) :: starEach [] X.env := by rfl) (hpl : (backTo pos (starEach [] X.env)).any (·.1) = false := by rfl) :
    Ex X (.Call (.Name x p) [e] [] pos) (dCallT G g) := by
  refine ⟨fun pins s σ H Q I hw => (pe_callG hF hgd hr hg hm hk hb .nil pass0 (pa_cons ha pa_nil he) hdb he hpl).run pins s σ H Q I ?_⟩
  obtain ⟨O, r, z, r', E, hf, k⟩ := hw
  unfold dCallT at hf
  obtain ⟨⟨y, r1⟩, q1, hf⟩ := Option.bind_eq_some_iff.mp hf
  cases y with
  | val d => cases hf
  | slot i => cases hf
  | tmp c =>
    obtain ⟨⟨z', c'⟩, q2, hf⟩ := Option.bind_eq_some_iff.mp hf
    cases hf
    refine ⟨O, r, .tmp c, r', E, q1, fun H1 O1 v st1 E1 kp1 ro1 => ?_⟩
    obtain ⟨p0, rfl, ob, op, hn⟩ := ro1
    refine ⟨p0, c, [], [], z, c', rfl, ob, .nil, by rw [hl]; rfl, q2, fun H2 w hk2 ob2 hz2 => ?_⟩
    -- p0 is nobody's: the names stand
    have mp := ob.mut
    have fx : Fx H1 H2 := ⟨fun b o u e => hk2 b _ (fun z => by rw [z] at e; rw [e] at mp; exact mp) e, fun b xs e => hk2 b _ (fun z => by rw [z] at e; rw [e] at mp; exact mp) e⟩
    have st : Stp H1 O1 H2 O1 := ⟨fun b o e n => hk2 b o (fun z => n (by rw [z]; exact op)) e, fun _ z => .inl z⟩
    have keep : ∀ q, O1 q → q ≠ p0 → H2 q = H1 q := fun q o ne => by
      have := E1.mt q o
      cases e : H1 q with
      | none => rw [e] at this; exact this.elim
      | some u => exact hk2 q u ne e
    have E2 : EnvOk X.K H2 O1 r' σ := by
      refine ⟨E1.len, fun j t q => ?_, E1.sep, fun q o => ?_⟩
      · obtain ⟨v, e1, z⟩ := E1.ok j t q
        refine ⟨v, e1, ?_⟩
        have ne : ∀ c1 p1, t.ob = some c1 → v = some (.ref p1) → p1 ≠ p0 := fun c1 p1 h1 h2 h3 => hn j t c1 q h1 (by rw [e1, h2, h3])
        cases t with
        | un => trivial
        | fz d => obtain ⟨x, e2, rp⟩ := z; exact ⟨x, e2, rp.fx fx⟩
        | own c1 => obtain ⟨p1, e2, ob1, o1⟩ := z; exact ⟨p1, e2, ob1.fx fx (keep p1 o1 (ne c1 p1 rfl e2)), o1⟩
        | lck c1 => obtain ⟨p1, e2, ob1, o1⟩ := z; exact ⟨p1, e2, ob1.fx fx (keep p1 o1 (ne c1 p1 rfl e2)), o1⟩
      · by_cases hq : q = p0
        · rw [hq]; exact ob2.mut
        · rw [keep q o hq]; exact E1.mt q o
    cases z with
    | val d => exact k H2 O1 w (st1.trans st) E2 kp1 hz2
    | slot j => exact hz2.elim
    | tmp e =>
      obtain ⟨q, rfl, hq, obq⟩ := hz2
      refine k H2 (fun b => O1 b ∨ b = q) _ (st1.trans ⟨st.keep, fun b z => by
        rcases z with z | rfl
        · exact .inl z
        · exact .inr hq⟩) (E2.add (Same.refl _) obq.mut) kp1 ⟨q, rfl, obq, .inr rfl, fun j s e h1 h2 h3 => ?_⟩
      obtain ⟨v, e1, z⟩ := E2.ok j s h1
      rw [h3] at e1; cases e1
      have : O1 q := by
        cases s with
        | un => cases h2
        | fz d => cases h2
        | own c1 => obtain ⟨p1, e2, _, o1⟩ := z; cases e2; exact o1
        | lck c1 => obtain ⟨p1, e2, _, o1⟩ := z; cases e2; exact o1
      have := E1.mt q this
      rw [hq] at this
      exact this
end
end KV

end

section
/-! KV, part 7: slices, stores into lists, isinstance, repr, a module's constants; the law's end. -/
namespace KV
open PySem PySem.Spec PyProof.Rows L2

section
variable {io : Bool} {X : Cx} {a b e : Expr} {f g : Den} {pos : Pos}
/-! ### slices -/
def part (o : Option Den) (r : Nms) : Option (Option Int × Nms) := match o with
  | none => some (none, r)
  | some g => (g r).bind fun y => match y with
    | (.val (.int i), r1) => some (some i, r1)
    | _ => none
def tO (K : PySem.W.Frag) (o : Option Den) : TO := fun σ H Q => ∃ O r x r', EnvOk K H O r σ ∧ part o r = some (x, r') ∧ ∀ H' O', Stp H O H' O' → EnvOk K H' O' r' σ → Keep r r' → Q x H'
theorem po0 : PO X none (tO X.K none) := by
  refine ⟨fun pins s σ H Q I hw => po_none.run pins s σ H Q I ?_⟩
  obtain ⟨O, r, x, r', E, hf, k⟩ := hw
  cases hf
  exact k H O (Stp.refl _ _) E (Keep.refl _)
theorem po1 (he : Ex X e f) : PO X (some e) (tO X.K (some f)) := by
  refine ⟨fun pins s σ H Q I hw => (po_some he).run pins s σ H Q I ?_⟩
  obtain ⟨O, r, x, r', E, hf, k⟩ := hw
  obtain ⟨⟨y, r1⟩, q1, hf⟩ := Option.bind_eq_some_iff.mp hf
  cases y with
  | val d =>
    cases d with
    | int i =>
      cases hf
      refine ⟨O, r, _, r', E, q1, fun H1 O1 v st1 E1 kp1 ro1 => ⟨i, ?_, k H1 O1 st1 E1 kp1⟩⟩
      have ro1 : Rp X.K H1 v (.int i) := ro1
      cases ro1
      rfl
    | _ => cases hf
  | slot i => cases hf
  | tmp c => cases hf
def cutD (xs : List PyData) (lo hi : Option Int) : List PyData := (xs.drop (HT.sIx xs.length 0 lo)).take (HT.sIx xs.length xs.length hi - HT.sIx xs.length 0 lo)
theorem RpAll.cut {K : PySem.W.Frag} {H : Hp} {vs : List V} {ds : List PyData} (r : RpAll K H vs ds) (lo hi : Option Int) : RpAll K H (cutV vs lo hi) (cutD ds lo hi) := by
  unfold cutV cutD
  rw [r.length]
  exact (r.drop _).take _
def opSlice (x : PyData) (lo hi : Option Int) : Option R := match x with
  | .list xs => some (.tmp (.lst (cutD xs lo hi)))
  | .tuple xs => some (.val (.tuple (cutD xs lo hi)))
  | _ => none
def rSl (K : PySem.W.Frag) : V → Option Int → Option Int → Hp → VK → Prop := fun x lo hi H Q => ∃ dx z, Bp K H x dx ∧ opSlice dx lo hi = some z ∧ ∀ H' w, NewR K H H' w z → Q w H'
theorem whole_cut {xs : List PyData} {lo hi : Option Int} (h : HT.sIx xs.length 0 lo = 0 ∧ HT.sIx xs.length xs.length hi = xs.length) : cutD xs lo hi = xs := by
  unfold cutD
  rw [h.1, h.2]
  simp
theorem s_slice : SlR X (rSl X.K) := by
  intro pins s σ H x v vl vu lo hi sl Q I rx hs pl pu hw
  obtain ⟨dx, z, bx, ho, k⟩ := hw
  unfold opSlice at ho
  split at ho
  · cases ho
    obtain ⟨a, ws, rfl, h1, r1⟩ := bx.list
    exact sl_list pins s σ H _ v vl vu lo hi sl Q I rx hs pl pu ⟨a, ws, rfl, h1, fun p hp => k _ _ (new_lst hp (r1.cut lo hi))⟩
  · cases ho
    obtain ⟨a, ws, rfl, h1, r1⟩ := bx.tuple
    refine sl_tupA pins s σ H _ v vl vu lo hi sl Q I rx hs pl pu ⟨a, ws, rfl, h1, fun hh => ?_, fun _ p hp => k _ _ (new_tup hp (r1.cut lo hi))⟩
    rw [r1.length] at hh
    rw [whole_cut hh] at k
    exact k _ _ (new_val (.tup h1 r1))
  · cases ho
def dSlice (f : Den) (lo hi : Option Den) : Den := fun r => (dStl f r).bind fun (x, r1) => (part lo r1).bind fun (l, r2) => (part hi r2).bind fun (h, r3) => (deref r3 x).bind fun dx => (opSlice dx l h).bind fun z => some (z, r3)
theorem ex_slice {lo hi : Option Expr} {dl dh : Option Den} {p2 : Pos} (ha : Ex X a f) (hl : PO X lo (tO X.K dl)) (hh : PO X hi (tO X.K dh)) : Ex X (.Subscript a (.Slice lo hi none p2) pos) (dSlice f dl dh) := by
  refine ⟨fun pins s σ H Q I hw => (pe_slice s_slice (ex_stl ha) hl hh).run pins s σ H Q I ?_⟩
  obtain ⟨O, r, z, r', E, hf, k⟩ := hw
  unfold dSlice at hf
  obtain ⟨⟨x, r1⟩, q1, hf⟩ := Option.bind_eq_some_iff.mp hf
  obtain ⟨⟨l, r2⟩, q2, hf⟩ := Option.bind_eq_some_iff.mp hf
  obtain ⟨⟨h, r3⟩, q3, hf⟩ := Option.bind_eq_some_iff.mp hf
  obtain ⟨dx, q4, hf⟩ := Option.bind_eq_some_iff.mp hf
  obtain ⟨z', q5, hf⟩ := Option.bind_eq_some_iff.mp hf
  cases hf
  refine ⟨O, r, x, r1, E, q1, fun H1 O1 v st1 E1 kp1 ro1 => ⟨O1, r1, l, r2, E1, q2, fun H2 O2 st2 E2 kp2 => ⟨O2, r2, h, r', E2, q3, fun H3 O3 st3 E3 kp3 => ?_⟩⟩⟩
  have fx : Fx H1 H3 := (E1.fxOf st2).trans (E2.fxOf st3)
  refine ⟨dx, z, (ro1.go (O' := O3) (r' := r') fx (dStl_late q1)).deref E3 q4, q5, fun H4 w n => ?_⟩
  obtain ⟨O4, st4, E4, ro4⟩ := n.done E3
  exact k H4 O4 w (st1.trans (st2.trans (st3.trans st4))) E4 (kp1.trans (kp2.trans kp3)) ro4

/-! ### stores into a name's list -/
theorem own_write {K : PySem.W.Frag} {H : Hp} {O : Addr → Prop} {r : Nms} {σ : L2.St} {p : Addr} {i : Nat} {c c' : Ob} {o : HO} (E : EnvOk K H O r σ) (hi : r[i]? = some (.own c)) (hσ : σ[i]? = some (some (.ref p))) (ob' : ObOk K (upd H p o) p c') :
    Stp H O (upd H p o) O ∧ EnvOk K (upd H p o) O (r.set i (.own c')) σ := by
  obtain ⟨v, e1, p0, e2, ob, op⟩ := E.ok i _ hi
  rw [hσ] at e1; cases e1; cases e2
  refine ⟨⟨fun b u e n => by rw [upd_ne (fun z => n (by rw [z]; exact op))]; exact e, fun _ z => .inl z⟩, ?_⟩
  have hl : i < r.length := (List.getElem?_eq_some_iff.mp hi).1
  have mp := ob.mut
  have fx : Fx H (upd H p o) := ⟨fun b o' u e => by rw [upd_ne (fun z => by rw [z] at e; rw [e] at mp; exact mp)]; exact e, fun b xs e => by rw [upd_ne (fun z => by rw [z] at e; rw [e] at mp; exact mp)]; exact e⟩
  refine ⟨by rw [List.length_set]; exact E.len, fun j t q => ?_, fun a b s t c1 e1 p1 h1 h2 h3 h4 h5 h6 => ?_, fun q oq => ?_⟩
  · by_cases hj : i = j
    · subst hj
      rw [List.getElem?_set_self hl] at q
      cases q
      exact ⟨_, hσ, p, rfl, ob', op⟩
    · rw [List.getElem?_set_ne hj] at q
      obtain ⟨v, e1, z⟩ := E.ok j t q
      refine ⟨v, e1, ?_⟩
      have ne : ∀ c1 p1, t.ob = some c1 → v = some (.ref p1) → p1 ≠ p := fun c1 p1 h1 h2 h3 => hj (E.sep i j _ t c c1 p hi q rfl h1 hσ (by rw [e1, h2, h3]))
      cases t with
      | un => trivial
      | fz d => obtain ⟨x, e2, rp⟩ := z; exact ⟨x, e2, rp.fx fx⟩
      | own c1 => obtain ⟨p1, e2, ob1, o1⟩ := z; exact ⟨p1, e2, ob1.fx fx (upd_ne (ne c1 p1 rfl e2)), o1⟩
      | lck c1 => obtain ⟨p1, e2, ob1, o1⟩ := z; exact ⟨p1, e2, ob1.fx fx (upd_ne (ne c1 p1 rfl e2)), o1⟩
  · have back : ∀ (a : Nat) (s : Sl) (c1 : Ob), (r.set i (.own c'))[a]? = some s → s.ob = some c1 → ∃ s2 c2, r[a]? = some s2 ∧ s2.ob = some c2 := fun a s c1 h1 h3 => by
      by_cases ha : i = a
      · subst ha
        exact ⟨_, c, hi, rfl⟩
      · rw [List.getElem?_set_ne ha] at h1
        exact ⟨s, c1, h1, h3⟩
    obtain ⟨s2, c2, q1, q2⟩ := back a s c1 h1 h3
    obtain ⟨t2, d2, q3, q4⟩ := back b t e1 h2 h4
    exact E.sep a b s2 t2 c2 d2 p1 q1 q3 q2 q4 h5 h6
  · by_cases hq : q = p
    · rw [hq]; exact ob'.mut
    · rw [upd_ne hq]; exact E.mt q oq
def intOf : R → Option Int
  | .val (.int k) => some k
  | _ => none
theorem intOf_some {x : R} {k : Int} (h : intOf x = some k) : x = .val (.int k) := by
  cases x with
  | val d => cases d <;> cases h; rfl
  | slot i => cases h
  | tmp c => cases h
def ownL (r : Nms) (i : Nat) : Option (List PyData) := match r[i]? with
  | some (.own (.lst ds)) => some ds
  | _ => none
theorem ownL_some {r : Nms} {i : Nat} {ds : List PyData} (h : ownL r i = some ds) : r[i]? = some (.own (.lst ds)) := by
  unfold ownL at h
  split at h
  · rename_i e q
    cases h
    exact q
  · cases h
/-- xs.append(e), as a value (None) -/
def dApp (i : Nat) (g : Den) : Den := fun r => (ownL r i).bind fun _ => ((dFrz g r).bind vOf).bind fun (d, r1) => (ownL r1 i).bind fun ds => if ds.length < sizeLine then some (.val .none, r1.set i (.own (.lst (ds ++ [d])))) else none
theorem ex_app {i : Nat} {x : Str} {px apos cpos : Pos} (hv : PE X (.Name x px) (tVar i)) (he : Ex X e g) (hbase : attributeBase (.Name x px) ("append" : Str) X.env (eval (.Name x px) X.env) = eval (.Name x px) X.env := by rfl)
    (hfew : ((backTo cpos (starEach [e] X.env)).all (fun x => !x.1) && (backToKw cpos (keywordEach [] X.env)).all (fun x => x.1.isSome)
      && decide ([e].length + ([] : List Keyword).length + (if ([] : List Keyword).isEmpty then 0 else 1) < 30)) = true := by rfl)
    (hline : (apos.endLine == cpos.line) = true := by rfl) (hs : starEach [e] X.env = (false, eval e X.env) :: starEach [] X.env := by rfl) (hplain : (backTo cpos (starEach [] X.env)).any (·.1) = false := by rfl) :
    Ex X (.Call (.Attribute (.Name x px) ("append" : Str) apos) [e] [] cpos) (dApp i g) := by
  refine ⟨fun pins s σ H Q I hw => (pe_bm PySem.F.plainAttrs_list PySem.F.slot_list_append PySem.F.type_list_append mt_append hv (pa_cons (ex_frz he) pa_nil hs) hbase hfew hline hs hplain).run pins s σ H Q I ?_⟩
  obtain ⟨O, r, z, r', E, hf, k⟩ := hw
  unfold dApp at hf
  obtain ⟨ds0, q0, hf⟩ := Option.bind_eq_some_iff.mp hf
  obtain ⟨⟨d, r1⟩, q1, hf⟩ := Option.bind_eq_some_iff.mp hf
  obtain ⟨y, q2, q3⟩ := Option.bind_eq_some_iff.mp q1
  have := vOf_some q3
  subst this
  obtain ⟨ds, q4, hf⟩ := Option.bind_eq_some_iff.mp hf
  have q0 := ownL_some q0
  have q4 := ownL_some q4
  split at hf
  · rename_i hz
    cases hf
    obtain ⟨v, e1, p0, e2, ⟨vs0, hp0, _⟩, _⟩ := E.ok i _ q0
    subst e2
    refine ⟨.ref p0, e1, .inl ⟨rfl, vs0, SqL.of hp0⟩, O, r, .val d, r1, E, q2, fun H1 O1 w st1 E1 kp1 ro1 => ?_⟩
    obtain ⟨v1, e3, p1, e4, ⟨vs, hp, ra⟩, op⟩ := E1.ok i _ q4
    rw [e1] at e3; cases e3; cases e4
    refine ⟨p0, vs, w, rfl, rfl, hp, by rw [ra.length]; exact hz, ?_⟩
    have fx : Fx H1 (upd H1 p0 (.lst (vs ++ [w]))) := ⟨fun b o' u e => by rw [upd_ne (fun z => by rw [z, hp] at e; cases e)]; exact e, fun b xs e => by rw [upd_ne (fun z => by rw [z, hp] at e; cases e)]; exact e⟩
    obtain ⟨st2, E2⟩ := own_write (c' := .lst (ds ++ [d])) E1 q4 e1 ⟨vs ++ [w], upd_same, (ra.fx fx).append (.cons (Rp.fx fx ro1) .nil)⟩
    exact k _ O1 .non (st1.trans st2) E2 (kp1.trans (Keep.set fun c1 z => by rw [q4] at z; cases z)) .non
  · cases hf
/-- xs[h] = e -/
def dSetIx (i : Nat) (g h : Den) : DenS := fun r => ((dFrz g r).bind vOf).bind fun (d, r1) => (ownL r1 i).bind fun _ => (h r1).bind fun (y, r2) => (intOf y).bind fun k => (ownL r2 i).bind fun ds => (ixN ds.length k).bind fun j => some (.nx (r2.set i (.own (.lst (ds.set j d)))))
theorem sx_setIx {i : Nat} {x : Str} {px tpos : Pos} {h : Den} (hv : PE X (.Name x px) (tVar i)) (he : Ex X e g) (hi : Ex X a h)
    (ha : ∀ v, assign (.Subscript (.Name x px) a tpos) X.env v = (do
      let ov ← holding [v] (eval (.Name x px) X.env)
      let iv ← holding [v, ov] (eval a X.env)
      standAt tpos
      holding [v, ov, iv] (setItem ov iv v)
      release [v, ov, iv] []) := by intro _; rfl)
    (hs : swapsWithSole [.Subscript (.Name x px) a tpos] e pos.line X.env = pure false := by rfl) (hw : swappedStores [.Subscript (.Name x px) a tpos] e X.env = pure none := by rfl)
    (h1 : (assignEach [.Subscript (.Name x px) a tpos] X.env).map (·.2) = [assign (.Subscript (.Name x px) a tpos) X.env] := by rfl) : Sx io X (.Assign [.Subscript (.Name x px) a tpos] e pos) (dSetIx i g h) := by
  refine ⟨fun pins s σ H D I hh => (ps_asg (ex_frz he) (pg_sub hv hi set_list ha) hs hw h1).run pins s σ H D I ?_⟩
  obtain ⟨O, r, o, E, hf, k⟩ := hh
  unfold dSetIx at hf
  obtain ⟨⟨d, r1⟩, q1, hf⟩ := Option.bind_eq_some_iff.mp hf
  obtain ⟨y, q2, q3⟩ := Option.bind_eq_some_iff.mp q1
  have := vOf_some q3
  subst this
  obtain ⟨ds0, q0, hf⟩ := Option.bind_eq_some_iff.mp hf
  obtain ⟨⟨y, r2⟩, q4, hf⟩ := Option.bind_eq_some_iff.mp hf
  obtain ⟨kk, q5, hf⟩ := Option.bind_eq_some_iff.mp hf
  obtain ⟨ds, q6, hf⟩ := Option.bind_eq_some_iff.mp hf
  obtain ⟨j, q7, hf⟩ := Option.bind_eq_some_iff.mp hf
  cases hf
  have := intOf_some q5
  subst this
  have q0 := ownL_some q0
  have q6 := ownL_some q6
  refine ⟨O, r, .val d, r1, E, q2, fun H1 O1 w st1 E1 kp1 ro1 => ?_⟩
  obtain ⟨v, e1, p0, e2, _, _⟩ := E1.ok i _ q0
  subst e2
  refine ⟨.ref p0, e1, O1, r1, .val (.int kk), r2, E1, q4, fun H2 O2 u st2 E2 kp2 ro2 => ?_⟩
  have ro2 : Rp X.K H2 u (.int kk) := ro2
  cases ro2
  obtain ⟨v1, e3, p1, e4, ⟨vs, hp, ra⟩, op⟩ := E2.ok i _ q6
  rw [e1] at e3; cases e3; cases e4
  refine ⟨p0, vs, kk, j, rfl, rfl, hp, by rw [ra.length]; exact q7, ?_⟩
  have fx : Fx H2 (upd H2 p0 (.lst (vs.set j w))) := ⟨fun b o' u e => by rw [upd_ne (fun z => by rw [z, hp] at e; cases e)]; exact e, fun b xs e => by rw [upd_ne (fun z => by rw [z, hp] at e; cases e)]; exact e⟩
  obtain ⟨st3, E3⟩ := own_write (c' := .lst (ds.set j d)) E2 q6 e1 ⟨vs.set j w, upd_same, (ra.fx fx).set j (Rp.fx fx (Rp.fx (E1.fxOf st2) ro1))⟩
  exact k _ O2 σ (st1.trans (st2.trans st3)) E3 (KeepS.of (kp1.trans (kp2.trans (Keep.set fun c1 z => by rw [q6] at z; cases z))))

/-! ### isinstance -/
def tyN : PyData → String
  | .none => "NoneType"
  | .bool _ => "bool"
  | .int _ => "int"
  | .str _ => "str"
  | .list _ => "list"
  | .tuple _ => "tuple"
  | .dict _ => "dict"
theorem Bp.ty {K : PySem.W.Frag} {H : Hp} {v : V} {d : PyData} (h : Bp K H v d) : TyX K H v (.type (tyN d)) := by
  cases h with
  | rp h =>
    cases h with
    | non => exact .base .non
    | bl b => exact .base (.bl b)
    | int i => exact .base (.int i)
    | str x => exact .base (.str x)
    | lst h1 h2 =>
      rcases h1 with ⟨o, h1⟩ | ⟨o, its, n, h1, hc, _⟩
      · exact .base (.frz h1)
      · exact .kList h1 hc
    | tup h1 h2 =>
      rcases h1 with (h1 | ⟨o, h1⟩) | ⟨o, its, n, h1, hc, _⟩
      · exact .base (.tup h1)
      · exact .fTuple h1
      · exact .kTuple h1 hc
  | @ob p c h =>
    cases c with
    | lst ds => obtain ⟨vs, e, _⟩ := h; exact .base (.lst e)
def isT (T : String) (d : PyData) : Option Bool := kitB (tyN d) T
def dIsi (f : Den) (T : String) : Den := fun r => (dStl f r).bind fun (x, r1) => (deref r1 x).bind fun d => (isT T d).map fun b => (.val (.bool b), r1)
theorem ex_isi {T : String} {TN : Str} {p p2 : Pos} (ha : Ex X e f) (hg : Gl X "isinstance") (hm : X.mg "isinstance" = none) (hg2 : Gl X TN) (hm2 : X.mg TN = none) (hv : bootBuiltins TN = some (.type T)) (hn : TN ≠ "__name__" := by decide) (hd : (TN == ("__debug__" : Str)) = false := by decide)
    (hs : starEach [e, .Name TN p2] X.env = (false, eval e X.env) :: starEach [.Name TN p2] X.env := by rfl) (hs2 : starEach [.Name TN p2] X.env = (false, eval (.Name TN p2) X.env) :: starEach [] X.env := by rfl) (hpl : (backTo pos (starEach [.Name TN p2] X.env)).any (·.1) = false := by rfl) :
    Ex X (.Call (.Name "isinstance" p) [e, .Name TN p2] [] pos) (dIsi f T) := by
  refine ⟨fun pins s σ H Q I hw => (pe_callB call_isi hg hm (by decide +kernel) (pa_cons (ex_stl ha) (pa_cons (pe_bltn hg2 hm2 hv (v := .ty T) rfl hn hd) pa_nil hs2) hs) (he := hs) (hpl := hpl)).run pins s σ H Q I ?_⟩
  obtain ⟨O, r, z, r', E, hf, k⟩ := hw
  unfold dIsi at hf
  obtain ⟨⟨x, r1⟩, q1, hf⟩ := Option.bind_eq_some_iff.mp hf
  obtain ⟨d, q2, hf⟩ := Option.bind_eq_some_iff.mp hf
  obtain ⟨b, q3, e⟩ := Option.map_eq_some_iff.mp hf
  cases e
  exact ⟨O, r, x, r', E, q1, fun H1 O1 v st1 E1 kp1 ro1 => ⟨v, .ty T, _, .type T, b, rfl, .ty T, (ro1.deref E1 q2).ty, kit_ty q3, k H1 O1 _ st1 E1 kp1 (.bl b)⟩⟩
def isT2 (T U : String) (d : PyData) : Option Bool := (isT T d).bind fun b => if b = true then some true else isT U d
def dIsi2 (f : Den) (T U : String) : Den := fun r => (dStl f r).bind fun (x, r1) => (deref r1 x).bind fun d => (isT2 T U d).map fun b => (.val (.bool b), r1)
theorem kit2 {K : PySem.W.Frag} {T U : String} {d : PyData} {b : Bool} (h : isT2 T U d = some b) : PySem.W.kitAny K (.type (tyN d)) [.type T, .type U] = some b := by
  obtain ⟨c, q, h⟩ := Option.bind_eq_some_iff.mp h
  refine kitAny_cons (kit_ty q) (fun e => ?_) (fun e => ?_)
  · subst e
    rw [if_neg Bool.false_ne_true] at h
    exact kitAny_cons (kit_ty h) (fun e => by subst e; rfl) (fun e => e)
  · subst e
    rw [if_pos rfl] at h
    exact (Option.some.inj h).symm
theorem ex_isi2 {T U : String} {TN UN : Str} {p p2 p3 tp : Pos} {kk : Nat} (ha : Ex X e f) (hg : Gl X "isinstance") (hm : X.mg "isinstance" = none) (hg2 : Gl X TN) (hm2 : X.mg TN = none) (hv : bootBuiltins TN = some (.type T)) (hg3 : Gl X UN) (hm3 : X.mg UN = none) (hv3 : bootBuiltins UN = some (.type U))
    (hn : TN ≠ "__name__" := by decide) (hd : (TN == ("__debug__" : Str)) = false := by decide) (hn3 : UN ≠ "__name__" := by decide) (hd3 : (UN == ("__debug__" : Str)) = false := by decide)
    (hs : starEach [e, .Tuple [.Name TN p2, .Name UN p3] kk tp] X.env = (false, eval e X.env) :: starEach [.Tuple [.Name TN p2, .Name UN p3] kk tp] X.env := by rfl) (hpl : (backTo pos (starEach [.Tuple [.Name TN p2, .Name UN p3] kk tp] X.env)).any (·.1) = false := by rfl) :
    Ex X (.Call (.Name "isinstance" p) [e, .Tuple [.Name TN p2, .Name UN p3] kk tp] [] pos) (dIsi2 f T U) := by
  refine ⟨fun pins s σ H Q I hw => (pe_callB call_isiT hg hm (by decide +kernel) (pa_cons (ex_stl ha) (pa_cons (pe_tup (pa_cons (pe_bltn hg2 hm2 hv (v := .ty T) rfl hn hd) (pa_cons (pe_bltn hg3 hm3 hv3 (v := .ty U) rfl hn3 hd3) pa_nil))) pa_nil) hs) (he := hs) (hpl := hpl)).run pins s σ H Q I ?_⟩
  obtain ⟨O, r, z, r', E, hf, k⟩ := hw
  unfold dIsi2 at hf
  obtain ⟨⟨x, r1⟩, q1, hf⟩ := Option.bind_eq_some_iff.mp hf
  obtain ⟨d, q2, hf⟩ := Option.bind_eq_some_iff.mp hf
  obtain ⟨b, q3, e⟩ := Option.map_eq_some_iff.mp hf
  cases e
  refine ⟨O, r, x, r', E, q1, fun H1 O1 v st1 E1 kp1 ro1 => ⟨by rw [sizeLine_eq]; show 2 ≤ 16777216; decide, fun q hq => ?_⟩⟩
  have sm : Same H1 (upd H1 q (.tup [.ty T, .ty U])) := same_upd hq
  have E2 := E1.same sm
  have ro2 : ROk X.K (upd H1 q (.tup [.ty T, .ty U])) O1 r' σ v x := ro1.go (Fx.of_same sm) (dStl_late q1)
  exact ⟨v, q, [.ty T, .ty U], _, [.type T, .type U], b, rfl, upd_same, .cons (.ty T) (.cons (.ty U) .nil), (ro2.deref E2 q2).ty, kit2 q3, k _ O1 _ (st1.trans (Stp.of_same sm)) E2 kp1 (.bl b)⟩

/-! ### repr -/
def opRepr : OpN := fun ds => match ds with
  | [d] => if d.showable = true ∧ d.shown.length ≤ sizeLine ∧ d.depth ≤ 60 then some (.val (.str d.shown)) else none
  | _ => none
mutual
theorem no_dict : ∀ d : PyData, d.plain = true → d.hasDict = false
  | .none, _ => rfl
  | .bool _, _ => rfl
  | .int _, _ => rfl
  | .str _, _ => rfl
  | .list xs, h => by rw [PyData.plain] at h; rw [PyData.hasDict]; exact no_dictAll xs h
  | .tuple xs, h => by rw [PyData.plain] at h; rw [PyData.hasDict]; exact no_dictAll xs h
  | .dict _, h => nomatch h
theorem no_dictAll : ∀ xs : List PyData, PyData.plainAll xs = true → PyData.hasDictAll xs = false
  | [], _ => rfl
  | x :: xs, h => by
    rw [PyData.plainAll, Bool.and_eq_true] at h
    rw [PyData.hasDictAll, no_dict x h.1, no_dictAll xs h.2]; rfl
end
theorem c_repr (hg : X.A.guards = some []) (hu : X.A.units + 64 < cLine) : CallR X (.builtin "repr") (rDN X.K opRepr) := by
  intro pins s σ H vs us Q I rv hw
  obtain ⟨ds, z, bs, ho, k⟩ := hw
  unfold opRepr at ho
  split at ho
  · rename_i d
    split at ho
    · rename_i hc
      cases ho
      obtain ⟨v, rfl, b⟩ := bs.one
      obtain ⟨u, rfl, ru⟩ := vals1 rv
      obtain ⟨as, r1⟩ := Dp.reads I d v u b.dp ru
      have nd := no_dict d (dp_plain b.dp)
      have fin : ∀ (h' : Heap) (u : Tok) (tk : Nat), (∀ b o, s.heap.get? b = some o → h'.get? b = some o) → EP X pins σ Q (.str d.shown u) { s with heap := h', toks := tk } :=
        fun h' u tk hk => ⟨.str d.shown, H, I.kept hk, ⟨u, rfl⟩, k H _ (new_val (.str _))⟩
      have big : ∀ a, u = .ref a → wpAny (model X.prog X.w) X.A (call (.builtin "repr") [u]) (EP X pins σ Q) X.xe s := fun a e => by
        subst e
        exact repr_of_reads' r1 hc.1 (fun h => by rw [nd] at h; cases h) hg (by omega) (fun _ _ e => e) fin hc.2.1
      cases r1 with
      | none => exact PySem.P.repr_of_none (fin s.heap _ _ fun _ _ e => e)
      | bool b => exact PySem.P.repr_of_bool (by
          have := fin s.heap s.toks (s.toks + 1) fun _ _ e => e
          rw [PyData.shown] at this
          exact this)
      | int i t => exact PySem.P.repr_of_int (by have := hc.1; rw [PyData.showable] at this; exact of_decide_eq_true this) (by
          have := fin s.heap s.toks (s.toks + 1) fun _ _ e => e
          rw [PyData.shown] at this
          exact this)
      | str x t => exact PySem.P.repr_of_str (by
          have := fin s.heap s.toks (s.toks + 1) fun _ _ e => e
          rw [PyData.shown] at this
          exact this) (by have := hc.2.1; rw [PyData.shown] at this; exact this)
      | list h1 h2 h3 h4 => exact big _ rfl
      | tuple h1 h2 h3 h4 => exact big _ rfl
      | dict h1 h2 h3 h4 h5 => exact big _ rfl
    · cases ho
  · cases ho

/-! ### a module's constant -/
theorem ex_glob {x : Str} {v : V} {d : PyData} {u : Value} (hm : X.mg x = some u) (r : L2.RelV v u) (hr : ∀ H, Rp X.K H v d) (hg : Gl X x := by rfl) (hd : (x == ("__debug__" : Str)) = false := by decide) : Ex X (.Name x pos) (dC d) := ex_c (pe_glob hg hm r hd) hr
end

/-! ### the law's end -/
theorem law_callG {P : Program} {w : World} {K : PySem.W.Frag} {mg mb : Str → Option Value} {k : Nat} {fa a : Addr} {fd : FuncData} {x : Str} {F : List PyData → Option R} {s₁ : Shared} {vs : List Value} {ns : List Int}
    (KX : K.In s₁.heap) (hns : s₁.heap.Ns mainGlobals mg) (hb : s₁.heap.Ns builtinsNs mb) (hbb : ∀ x : Str, x ≠ "__name__" → mb x = bootBuiltins x) (hlim : s₁.heap.NoLimit) (hg : s₁.gens = #[])
    (ha : s₁.heap.get? a = some { cls := .type "list", data := .seq vs.toArray }) (hi : IntsAre vs ns) (hl : ns.length ≤ sizeLine) (hr : Room k callerA)
    (hF : ∀ base : Heap, K.In base → base.Ns mainGlobals mg → FnP P w K mg base k fa fd [x] F) (hbind : ∀ (s : Shared) (u : Value), BindsTo s fd ⟨[u], []⟩ [(x, u)])
    (hsp : F [.list (ns.map .int)] = some (.val (.bool true))) :
    codeAny (model P w) callerA (.call (.ref fa) ⟨[.ref a], []⟩) (fun r s' => r = .ok (.ret (.bool true)) ∧ OldK s₁.heap s'.heap ∧ s'.os = s₁.os ∧ AllBare s'.gens) s₁ := by
  have rv := vals_ints hi
  have lenV := hi.length
  have core : ∀ H : Hp, Only H → FzL K H a (ns.map V.int) → HOk P w H s₁.heap → (∀ b, H b ≠ none → b = a) → (H a ≠ none → K.lookup a = none) →
      codeAny (model P w) callerA (.call (.ref fa) ⟨[.ref a], []⟩) (fun r s' => r = .ok (.ret (.bool true)) ∧ OldK s₁.heap s'.heap ∧ s'.os = s₁.os ∧ AllBare s'.gens) s₁ := by
    intro H hO hS hok hA hK
    have base_of : ∀ {b : Addr} {o : Obj}, s₁.heap.get? b = some o → H b = none → (hidT s₁.heap H).get? b = some o := fun e n => hidT_get e n
    have noA : ∀ {b : Addr} {o : Obj} {es : Array DictEntry} {ep : Nat}, s₁.heap.get? b = some o → o.data = .dict es ep → H b = none := fun {b o es ep} e d => by
      cases q : H b with
      | none => rfl
      | some u =>
        have e' : b = a := hA b (by rw [q]; simp)
        subst e'
        rw [ha] at e; cases e
        have d' : Data.seq vs.toArray _ = Data.dict es ep := d
        cases d'
    have nsK : ∀ {b : Addr} {m : Str → Option Value}, s₁.heap.Ns b m → (hidT s₁.heap H).Ns b m := fun {b m} ⟨o, es, ep, e, d, r⟩ => ⟨o, es, ep, base_of e (noA e d), d, r⟩
    have hKb : K.In (hidT s₁.heap H) := fun b o e => base_of (KX b o e) (by
      cases q : H b with
      | none => rfl
      | some u =>
        have e' : b = a := hA b (by rw [q]; simp)
        subst e'
        rw [hK (by rw [q]; simp)] at e; cases e)
    have hM : Mod K mg (hidT s₁.heap H) := ⟨hKb, nsK hns, ⟨mb, nsK hb, hbb⟩, let ⟨mc, h1, h2⟩ := hlim; ⟨mc, nsK h1, h2⟩⟩
    have e0 : Env0 P w K mg (hidT s₁.heap H) callerA [] s₁ H := ⟨rfl, hM, fun b o e => of_hidT e, Nat.le_of_eq (hidT_size _ _), trivial, fun b hb => absurd (show b ∈ ([] : List Addr) from hb) (by simp), hok, .of_eq hg⟩
    have hsp' : spP K 1 F [.ref a] H (fun v _ => v = .bl true) fun _ _ _ => False := ⟨[.list (ns.map .int)], _, .cons (.lst hS (RpAll.ints ns)) .nil, rfl, hsp, fun H' w n => by
      obtain ⟨_, n⟩ := n
      cases n
      rfl⟩
    refine codeAny_mono ((hF _ hKb (nsK hns)).run callerA [] s₁ H ⟨[.ref a], []⟩ [.ref a] [.ref a] _ _ rfl hr e0 (hbind s₁ (.ref a)) (.cons rfl .nil) hsp') fun r s' h => ?_
    cases r with
    | error e => exact False.elim h
    | ok fl =>
      cases fl with
      | next => exact False.elim h
      | brk => exact False.elim h
      | cont => exact False.elim h
      | ret u =>
        obtain ⟨v, H', os, bare, un, hok', r', q⟩ := h
        have q' : v = .bl true := q
        subst q'
        obtain rfl : u = Value.bool true := r'
        refine ⟨rfl, OldK.of_keep fun b o e => ?_, os, bare⟩
        cases q : H b with
        | none => exact un.keep b o e q (by intro z; exact absurd (show b ∈ ([] : List Addr) from z) (by simp)) (by simp)
        | some u =>
          rcases hO b with z | ⟨ob, xs, z⟩
          · rw [q] at z; cases z
          · have z2 := un.frzs b ob _ z
            obtain ⟨e1, _⟩ := hok b _ z
            obtain ⟨e2, _⟩ := hok' b _ z2
            rw [e] at e1; cases e1
            exact e2
  cases hk : K.lookup a with
  | some o =>
    have e := KX a o hk
    rw [ha] at e
    cases e
    refine core (fun _ => none) (fun _ => .inl rfl) (.inr ⟨_, vs.toArray, _, hk, rfl, rfl, rfl, by rw [List.size_toArray, lenV]; exact hl, by simpa using rv⟩) (fun b u z => by have z' : (none : Option HO) = some u := z; cases z') (fun b z => absurd rfl z) fun z => absurd rfl z
  | none =>
    refine core (fun b => if b = a then some (.frz { cls := .type "list", data := .seq vs.toArray } (.lst (ns.map V.int))) else none) (fun b => ?_) (.inl ⟨{ cls := .type "list", data := .seq vs.toArray }, if_pos rfl⟩) (fun b u z => ?_) (fun b z => ?_) fun _ => hk
    · by_cases hb : b = a
      · exact .inr ⟨_, _, if_pos hb⟩
      · exact .inl (if_neg hb)
    · by_cases hb : b = a
      · have z' := (if_pos hb).symm.trans z
        cases z'
        subst hb
        exact ⟨ha, by rw [List.length_map]; exact hl, vs, _, rv, ha⟩
      · have z' := (if_neg hb).symm.trans z
        cases z'
    · by_cases hb : b = a
      · exact hb
      · exact absurd (if_neg hb) z
/-- the goal that a head leaves, from the law's meaning F -/
theorem walk_G {l : PySem.W.OpenLaw} {n k : Nat} {q : Program} {loose : List Str} {XP : (Str → Option Value) → Heap → Prop} {YP : World → Heap → Prop} {d : DefRec} {x : Str}
    (hn : l.most = some n) (hn2 : n ≤ sizeLine) (hdf : d.params.defaults = []) (hr : Room k callerA)
    (hF : ∀ (w : World) (mg : Str → Option Value) (fa : Addr) (h : Heap), YP w h → h.Ns mainGlobals mg → mg d.name = some (.ref fa) →
      ∃ (K : PySem.W.Frag) (fd : FuncData) (F : List PyData → Option R), K.In h ∧ (∀ (s : Shared) (u : Value), BindsTo s fd ⟨[u], []⟩ [(x, u)]) ∧
        (∀ ns : List Int, ns.length ≤ n → F [.list (ns.map .int)] = some (.val (.bool true))) ∧
        ∀ base : Heap, K.In base → base.Ns mainGlobals mg → FnP l.prog w K mg base k fa fd [x] F) :
    PySem.W.WalkO q loose XP YP l.row.toRowW d [] (fun f vs => PySem.call f vs) := by
  refine Att.attach_call hn hdf fun w s₀ s₁ mg mb fa o pm cd doc a vs ns G Y ho hd hcd hmg hobj hints hlen hg => ?_
  obtain ⟨K, fd, F, KX, hb, hsp, hF⟩ := hF w mg fa _ Y G.T.g hmg
  exact law_callG KX G.T.g G.T.b G.T.builtins G.T.nolimit hg hobj hints (Nat.le_trans hlen hn2) hr hF hb (hsp ns hlen)
end KV

end

section
/-! KV, part 8: what was added law by law. -/
namespace KV
open PySem PySem.Spec PyProof.Rows L2
section
variable {X : Cx} {a b c e : Expr} {io : Bool} {pos : Pos} {f g : Den}
/-- x, y, z = a, b, c with plain local names -/
def dPar3 (i j l : Nat) (fs : Denv) : DenS := fun r => (fs r).bind fun (ds, r1) => match ds with
  | [d, e, h] => (((setSl i (.fz d) r1).bind (setSl j (.fz e))).bind (setSl l (.fz h))).map Out.nx
  | _ => none
theorem sx_par3 {i j l : Nat} {x y z : Str} {fs : Denv} {px py pz pt : Pos} {kt k2 pt2} (hc : X.calm = true) (hN : X.N.Nodup) (hi : X.N[i]? = some x) (hj : X.N[j]? = some y) (hl : X.N[l]? = some z) (hij : i ≠ j) (hil : i ≠ l) (hjl : j ≠ l)
    (hx : X.env.scope.names.lookup x = some .local) (hy : X.env.scope.names.lookup y = some .local) (hz : X.env.scope.names.lookup z = some .local) (ha : Exv X [a, b, c] fs)
    (hw : swappedStores [.Tuple [.Name x px, .Name y py, .Name z pz] kt pt] (.Tuple [a, b, c] k2 pt2) X.env = pure (some [x, y, z])) (h0 : io = true → i ≠ 0 := by decide) (h1 : io = true → j ≠ 0 := by decide) (h2 : io = true → l ≠ 0 := by decide)
    (hs : swapsWithSole [.Tuple [.Name x px, .Name y py, .Name z pz] kt pt] (.Tuple [a, b, c] k2 pt2) pos.line X.env = pure false := by rfl) :
    Sx io X (.Assign [.Tuple [.Name x px, .Name y py, .Name z pz] kt pt] (.Tuple [a, b, c] k2 pt2) pos) (dPar3 i j l fs) := by
  refine ⟨fun pins s σ H D I hh => (ps_par3 hc hN hi hj hl hij hil hjl hx hy hz ha hw hs).run pins s σ H D I ?_⟩
  obtain ⟨O, r, o, E, hf, k⟩ := hh
  unfold dPar3 at hf
  obtain ⟨⟨ds, r1⟩, q1, hf⟩ := Option.bind_eq_some_iff.mp hf
  match ds, hf, q1 with
  | [d, e, h], hf, q1 =>
    obtain ⟨r4, q2, z⟩ := Option.map_eq_some_iff.mp hf
    subst z
    obtain ⟨r3, q2, q5⟩ := Option.bind_eq_some_iff.mp q2
    obtain ⟨r2, q3, q4⟩ := Option.bind_eq_some_iff.mp q2
    refine ⟨O, r, [d, e, h], r1, E, q1, fun H1 O1 vs st1 E1 kp1 ro1 => ?_⟩
    cases ro1 with
    | @cons v vs' _ _ rp1 ro2 =>
      cases ro2 with
      | @cons w ws' _ _ rp2 ro3 =>
        cases ro3 with
        | @cons u us' _ _ rp3 ro4 =>
          cases ro4
          obtain ⟨e1, hl, hk⟩ := setSl_some q3
          subst e1
          obtain ⟨e2, hl2, hk2⟩ := setSl_some q4
          subst e2
          obtain ⟨e3, hl3, hk3⟩ := setSl_some q5
          subst e3
          have E2 := E1.store (i := i) (s := .fz d) ⟨v, rfl, rp1⟩ fun c z => by cases z
          have E3 := E2.store (i := j) (s := .fz e) ⟨w, rfl, rp2⟩ fun c z => by cases z
          have E4 := E3.store (i := l) (s := .fz h) ⟨u, rfl, rp3⟩ fun c z => by cases z
          exact ⟨v, w, u, rfl, k H1 O1 _ st1 E4 ((KeepS.of kp1).trans ((KeepS.store hk h0).trans ((KeepS.store hk2 h1).trans (KeepS.store hk3 h2))))⟩
  | [], hf, _ => cases hf
  | [_], hf, _ => cases hf
  | [_, _], hf, _ => cases hf
  | _ :: _ :: _ :: _ :: _, hf, _ => cases hf
end
end KV

end

section
/-! KV, part 9: chained comparisons; one test behind a comprehension. -/
namespace KV
open PySem PySem.Spec PyProof.Rows L2
section
variable {X : Cx} {a b c e : Expr} {io : Bool} {pos : Pos} {f g h : Den}
/-- a op b op c; the first two stand still -/
def dCh (f g h : Den) (o p : Op2) : Den := fun r => ((dStl f r).bind vOf).bind fun (dx, r1) => ((dStl g r1).bind vOf).bind fun (dy, r2) => (o dx dy).bind fun z => (bOf (z, r2)).bind fun (k, _) =>
  if k = true then (h r2).bind fun (w, r3) => (deref r3 w).bind fun dw => (p dy dw).bind fun z2 => some (z2, r3) else some (.val (.bool false), r2)
theorem ch_read {o p : Op2} {σ : L2.St} {H : Hp} {Q : VK} (hw : tX X.K (dCh f g h o p) σ H Q) : tChain (rD2 X.K o) (rD2 X.K p) (tX X.K (dStl f)) (tX X.K (dStl g)) (tX X.K h) σ H Q := by
  obtain ⟨O, r, z, r', E, hf, k⟩ := hw
  unfold dCh at hf
  obtain ⟨⟨dx, r1⟩, q1, hf⟩ := Option.bind_eq_some_iff.mp hf
  obtain ⟨⟨dy, r2⟩, q2, hf⟩ := Option.bind_eq_some_iff.mp hf
  obtain ⟨z1, q3, hf⟩ := Option.bind_eq_some_iff.mp hf
  obtain ⟨⟨k1, r2'⟩, q4, hf⟩ := Option.bind_eq_some_iff.mp hf
  obtain ⟨y1, q5, q6⟩ := Option.bind_eq_some_iff.mp q1
  obtain ⟨y2, q7, q8⟩ := Option.bind_eq_some_iff.mp q2
  have e1 := vOf_some q6
  have e2 := vOf_some q8
  have e3 := bOf_some q4
  subst e1
  subst e2
  cases e3
  refine ⟨O, r, .val dx, r1, E, q5, fun H1 O1 v st1 E1 kp1 ro1 => ⟨O1, r1, .val dy, r2, E1, q7, fun H2 O2 u st2 E2 kp2 ro2 => ?_⟩⟩
  have ro1 : Rp X.K H1 v dx := ro1
  have ro2 : Rp X.K H2 u dy := ro2
  refine ⟨dx, dy, _, .rp (Rp.fx (E1.fxOf st2) ro1), .rp ro2, q3, fun H3 w n => ?_⟩
  obtain ⟨O3, st3, E3, ro3⟩ := n.done E2
  have ro3 : Rp X.K H3 w (.bool k1) := ro3
  cases ro3
  refine ⟨k1, rfl, ?_⟩
  cases k1 with
  | false =>
    have hf : some (R.val (.bool false), r2) = some (z, r') := hf
    cases hf
    exact ite_ff (k H3 O3 (.bl false) (st1.trans (st2.trans st3)) E3 (kp1.trans kp2) (.bl false))
  | true =>
    have hf : ((h r2).bind fun (w, r3) => (deref r3 w).bind fun dw => (p dy dw).bind fun z2 => some (z2, r3)) = some (z, r') := hf
    obtain ⟨⟨wv, r3⟩, p1, hf⟩ := Option.bind_eq_some_iff.mp hf
    obtain ⟨dw, p2, hf⟩ := Option.bind_eq_some_iff.mp hf
    obtain ⟨z2, p3, hf⟩ := Option.bind_eq_some_iff.mp hf
    cases hf
    refine ite_tt ⟨O3, r2, wv, r', E3, p1, fun H4 O4 v4 st4 E4 kp4 ro4 => ?_⟩
    refine ⟨dy, dw, z, .rp (Rp.fx (E3.fxOf st4) (Rp.fx (E2.fxOf st3) ro2)), ro4.deref E4 p2, p3, fun H5 w5 n5 => ?_⟩
    obtain ⟨O5, st5, E5, ro5⟩ := n5.done E4
    exact k H5 O5 w5 (st1.trans (st2.trans (st3.trans (st4.trans st5)))) E5 (kp1.trans (kp2.trans kp4)) ro5
theorem ex_chain {o1 o2 : CmpOp} {o p : Op2} (ho : OpR X (compareOp o1) (rD2 X.K o)) (hp : OpR X (compareOp o2) (rD2 X.K p)) (ha : Ex X a f) (hb : Ex X b g) (hc : Ex X c h)
    (hm : lastMarks [o1, o2] [b, c] = false := by with_unfolding_all rfl) : Ex X (.Compare a [o1, o2] [b, c] pos) (dCh f g h o p) :=
  ⟨fun pins s σ H Q I hw => (pe_chain ho hp (ex_stl ha) (ex_stl hb) hc hm).run pins s σ H Q I (ch_read hw)⟩
theorem tx_chain {o1 o2 : CmpOp} {o p : Op2} (ho : OpR X (compareOp o1) (rD2 X.K o)) (hp : OpR X (compareOp o2) (rD2 X.K p)) (ha : Ex X a f) (hb : Ex X b g) (hc : Ex X c h)
    (hm : lastMarks [o1, o2] [b, c] = false := by with_unfolding_all rfl) : Tx X (.Compare a [o1, o2] [b, c] pos) (dB (dCh f g h o p)) := by
  refine ⟨fun pins s σ H Q I hw => (pt_chain ho hp (ex_stl ha) (ex_stl hb) hc hm).run pins s σ H Q I ?_⟩
  have := b_read hw
  exact ch_read this
end
end KV

end

section
/-! Ev: how denotations are evaluated. -/
namespace KV
open PySem PySem.Spec PyProof.Rows L2
theorem comp_steady {vs : List Nat} {g : DenG} {t : DenT} {f : Den} {r0 : Nms} {keep : PyData → Bool} {val : PyData → PyData} : ∀ ds : List PyData,
    (∀ d ∈ ds, ∃ r1, g d r0 = some r1 ∧ t r1 = some (keep d, r1) ∧ wipeE vs r1 = r0 ∧ (keep d = true → (dFrz f r1).bind vOf = some (val d, r1))) → compD vs g t f ds r0 = some ((ds.filter keep).map val, r0)
  | [], _ => rfl
  | d :: ds, h => by
    obtain ⟨r1, h1, h2, h3, h4⟩ := h d (List.mem_cons_self ..)
    have ih := comp_steady ds fun e he => h e (List.mem_cons_of_mem _ he)
    unfold compD
    rw [h1, Option.bind_some, h2, Option.bind_some]
    show (if keep d = true then _ else _) = _
    by_cases c : keep d = true
    · rw [if_pos c, h4 c, Option.bind_some]
      show Option.map _ (compD vs g t f ds (wipeE vs r1)) = _
      rw [h3, ih, List.filter_cons_of_pos c]
      rfl
    · rw [if_neg c, h3, ih, List.filter_cons_of_neg c]
theorem lc_steady {vs : List Nat} {fi : DenI} {g : DenG} {t : DenT} {f : Den} {r r1 r2 : Nms} {u : Option Nat} {ds : List PyData} {keep : PyData → Bool} {val : PyData → PyData} (hi : fi r = some (ds, r1, u)) (no : noOb vs r1 = true)
    (h : ∀ d ∈ ds, ∃ r3, g d (wipeE vs r1) = some r3 ∧ t r3 = some (keep d, r3) ∧ wipeE vs r3 = wipeE vs r1 ∧ (keep d = true → (dFrz f r3).bind vOf = some (val d, r3))) (hr : unlck u (restE vs r1 (wipeE vs r1)) = r2) :
    dLc vs fi g t f r = some (.tmp (.lst ((ds.filter keep).map val)), r2) := by
  unfold dLc
  rw [hi, Option.bind_some]
  show (if noOb vs r1 = true then _ else _) = _
  rw [if_pos no, comp_steady ds h, ← hr]
  rfl
theorem lc_map {vs : List Nat} {fi : DenI} {g : DenG} {f : Den} {r r1 r2 : Nms} {u : Option Nat} {ds : List PyData} {val : PyData → PyData} (hi : fi r = some (ds, r1, u)) (no : noOb vs r1 = true)
    (h : ∀ d ∈ ds, ∃ r3, g d (wipeE vs r1) = some r3 ∧ wipeE vs r3 = wipeE vs r1 ∧ (dFrz f r3).bind vOf = some (val d, r3)) (hr : unlck u (restE vs r1 (wipeE vs r1)) = r2) :
    dLc vs fi g tYesD f r = some (.tmp (.lst (ds.map val)), r2) := by
  have := lc_steady (t := tYesD) (keep := fun _ => true) hi no (fun d hd => by
    obtain ⟨r3, h1, h2, h3⟩ := h d hd
    exact ⟨r3, h1, rfl, h2, fun _ => h3⟩) hr
  rw [List.filter_eq_self.mpr fun _ _ => rfl] at this
  exact this
theorem ev_seq {f g : DenS} {r r1 : Nms} (h : f r = some (.nx r1)) : dSeq f g r = g r1 := by unfold dSeq; rw [h]; rfl
theorem ev_seqR {f g : DenS} {r r1 : Nms} {x : R} (h : f r = some (.rt x r1)) : dSeq f g r = some (.rt x r1) := by unfold dSeq; rw [h]; rfl
theorem ev_if {t : DenT} {u w : DenS} {r r1 : Nms} {b : Bool} (h : t r = some (b, r1)) : dIf t u w r = if b = true then u r1 else w r1 := by unfold dIf; rw [h]; rfl
theorem ev_ret {f : Den} {r r1 : Nms} {x : R} (h : f r = some (x, r1)) : dRet f r = some (.rt x r1) := by unfold dRet; rw [h]; rfl
theorem ev_cb {fs : Dens} {op : OpN} {r r1 : Nms} {xs : List R} {ds : List PyData} {z : R} (h : fs r = some (xs, r1)) (h1 : derefs r1 xs = some ds) (h2 : op ds = some z) : dCB fs op r = some (z, r1) := by
  unfold dCB; rw [h, Option.bind_some]
  show (derefs r1 xs).bind _ = _
  rw [h1, Option.bind_some, h2]; rfl
theorem ev_cons {f : Den} {g : Dens} {r r1 r2 : Nms} {x : R} {xs : List R} (h : dStl f r = some (x, r1)) (h1 : g r1 = some (xs, r2)) : dCons f g r = some (x :: xs, r2) := by
  unfold dCons; rw [h, Option.bind_some]
  show (g r1).bind _ = _
  rw [h1]; rfl
theorem ev_stl {f : Den} {r : Nms} {y : R × Nms} (h : f r = some y) : dStl f r = some (stl y) := by unfold dStl; rw [h]; rfl
theorem ev_run {N : Nat} {f : DenS} {ds : List PyData} {x z : R} {r r1 : Nms} (h : f (env0 N (ds.map .fz)) = some (.rt x r)) (h1 : ret (.rt x r) = some (z, r1)) : runP N f ds = some z := by
  unfold runP; rw [h, Option.bind_some, h1]; rfl
theorem ev_set {i : Nat} {f : Den} {r r1 r2 : Nms} {d : PyData} (h : f r = some (.val d, r1)) (h1 : setSl i (.fz d) r1 = some r2) : dSet i f r = some (.nx r2) := by unfold dSet; rw [h, Option.bind_some]; show Option.map _ _ = _; rw [h1]; rfl
theorem ev_setT {i : Nat} {f : Den} {r r1 r2 : Nms} {c : Ob} (h : f r = some (.tmp c, r1)) (h1 : setSl i (.own c) r1 = some r2) : dSet i f r = some (.nx r2) := by unfold dSet; rw [h, Option.bind_some]; show Option.map _ _ = _; rw [h1]; rfl
theorem ev_call {F : List PyData → Option R} {fs : Denv} {r r1 : Nms} {ds : List PyData} {z : R} (h : fs r = some (ds, r1)) (h1 : F ds = some z) : dCall F fs r = some (z, r1) := by unfold dCall; rw [h, Option.bind_some]; show (F ds).bind _ = _; rw [h1]; rfl
theorem ev_asg {f : Den} {g : DenG} {r r1 r2 : Nms} {d : PyData} (h : f r = some (.val d, r1)) (h1 : g d r1 = some r2) : dAsg f g r = some (.nx r2) := by
  unfold dAsg dFrz; rw [h]
  show (g d r1).map _ = _
  rw [h1]; rfl
theorem ev_bin {f g : Den} {op : Op2} {r r1 r2 : Nms} {x y z : R} {dx dy : PyData} (h : f r = some (x, r1)) (h1 : g (stl (x, r1)).2 = some (y, r2)) (h2 : deref r2 (stl (x, r1)).1 = some dx) (h3 : deref r2 y = some dy) (h4 : op dx dy = some z) : dBin f g op r = some (z, r2) := by
  unfold dBin dStl; rw [h]
  show (g (stl (x, r1)).2).bind _ = _
  rw [h1]
  show (deref r2 (stl (x, r1)).1).bind _ = _
  rw [h2, Option.bind_some, h3, Option.bind_some, h4]; rfl
theorem ev_b {f : Den} {r r1 : Nms} {c : Bool} (h : f r = some (.val (.bool c), r1)) : dB f r = some (c, r1) := by unfold dB; rw [h]; rfl
theorem ev_and {t u : DenT} {r r1 : Nms} {a b : Bool} (h : t r = some (a, r1)) (h1 : u r1 = some (b, r1)) : dAnd t u r = some (a && b, r1) := by
  unfold dAnd; rw [h, Option.bind_some]
  show (if a = true then u r1 else some (false, r1)) = _
  cases a
  · rfl
  · rw [if_pos rfl, h1]; rfl
theorem ev_or {t u : DenT} {r r1 : Nms} {a b : Bool} (h : t r = some (a, r1)) (h1 : u r1 = some (b, r1)) : dOr t u r = some (a || b, r1) := by
  unfold dOr; rw [h, Option.bind_some]
  show (if a = true then some (true, r1) else u r1) = _
  cases a
  · rw [if_neg Bool.false_ne_true, h1]; rfl
  · rfl
theorem ev_not {t : DenT} {r r1 : Nms} {a : Bool} (h : t r = some (a, r1)) : dNot t r = some (!a, r1) := by unfold dNot; rw [h]; rfl
theorem ev_v {t : DenT} {r r1 : Nms} {a : Bool} (h : t r = some (a, r1)) : dV t r = some (.val (.bool a), r1) := by unfold dV; rw [h]; rfl
theorem ev_vc {f : Den} {g : Denv} {r r1 r2 : Nms} {d : PyData} {ds : List PyData} (h : f r = some (.val d, r1)) (h1 : g r1 = some (ds, r2)) : vCons f g r = some (d :: ds, r2) := by
  unfold vCons dFrz; rw [h]
  show (g r1).bind _ = _
  rw [h1]; rfl
theorem ev_vc' {f : Den} {g : Denv} {r r1 r2 : Nms} {d : PyData} {ds : List PyData} (h : (dFrz f r).bind vOf = some (d, r1)) (h1 : g r1 = some (ds, r2)) : vCons f g r = some (d :: ds, r2) := by
  unfold vCons; rw [h]
  show (g r1).bind _ = _
  rw [h1]; rfl
theorem ev_vn {r : Nms} : vNil r = some ([], r) := rfl
theorem ev_tup {fs : Denv} {r r1 : Nms} {ds : List PyData} (h : fs r = some (ds, r1)) (hl : ds.length ≤ 16777216) : dTup fs r = some (.val (.tuple ds), r1) := by
  unfold dTup; rw [h]
  exact if_pos (by rw [sizeLine_eq]; exact hl)
theorem ev_lst {fs : Denv} {r r1 : Nms} {ds : List PyData} (h : fs r = some (ds, r1)) (hl : ds.length ≤ 16777216) : dLst fs r = some (.tmp (.lst ds), r1) := by
  unfold dLst; rw [h]
  exact if_pos (by rw [sizeLine_eq]; exact hl)
theorem ev_fz {f : Den} {r r1 : Nms} {d : PyData} (h : f r = some (.val d, r1)) : (dFrz f r).bind vOf = some (d, r1) := by unfold dFrz; rw [h]; rfl
end KV

end

section
/-! KW: what holds of a denotation's outcome, step by step. -/
namespace KV
open PySem PySem.Spec PyProof.Rows L2
structure wD (f : Den) (r : Nms) (Q : R → Nms → Prop) : Prop where
  ex : ∃ x r', f r = some (x, r') ∧ Q x r'
structure wN (f : Dens) (r : Nms) (Q : List R → Nms → Prop) : Prop where
  ex : ∃ x r', f r = some (x, r') ∧ Q x r'
structure wV (f : Denv) (r : Nms) (Q : List PyData → Nms → Prop) : Prop where
  ex : ∃ x r', f r = some (x, r') ∧ Q x r'
structure wT (f : DenT) (r : Nms) (Q : Bool → Nms → Prop) : Prop where
  ex : ∃ x r', f r = some (x, r') ∧ Q x r'
structure wI (f : DenI) (r : Nms) (Q : List PyData → Nms → Option Nat → Prop) : Prop where
  ex : ∃ x r' u, f r = some (x, r', u) ∧ Q x r' u
structure wG (g : DenG) (d : PyData) (r : Nms) (Q : Nms → Prop) : Prop where
  ex : ∃ r', g d r = some r' ∧ Q r'
structure wGs (g : DenGs) (d : List PyData) (r : Nms) (Q : Nms → Prop) : Prop where
  ex : ∃ r', g d r = some r' ∧ Q r'
structure wZ (f : Den) (r : Nms) (Q : PyData → Nms → Prop) : Prop where
  ex : ∃ x r', (dFrz f r).bind vOf = some (x, r') ∧ Q x r'
def toO (N : Nms → Prop) (T : R → Nms → Prop) (B C : Nms → Prop) : Out → Prop
  | .nx r => N r
  | .rt x r => T x r
  | .bk r => B r
  | .ct r => C r
structure wS (f : DenS) (r : Nms) (N : Nms → Prop) (T : R → Nms → Prop) (B C : Nms → Prop) : Prop where
  ex : ∃ o, f r = some o ∧ toO N T B C o
structure wF (F : List PyData → Option R) (ds : List PyData) (Q : R → Prop) : Prop where
  ex : ∃ z, F ds = some z ∧ Q z
structure wB (G : Ob → List PyData → Option (R × Ob)) (c : Ob) (ds : List PyData) (Q : R → Ob → Prop) : Prop where
  ex : ∃ z c', G c ds = some (z, c') ∧ Q z c'
structure wO {α : Type} (o : Option α) (Q : α → Prop) : Prop where
  ex : ∃ z, o = some z ∧ Q z
structure wSt (x : R) (r : Nms) (Q : R → Nms → Prop) : Prop where
  ex : Q (stl (x, r)).1 (stl (x, r)).2
structure wDr (r : Nms) (x : R) (Q : PyData → Prop) : Prop where
  ex : ∃ d, deref r x = some d ∧ Q d
structure wFz (x : R) (r : Nms) (Q : PyData → Nms → Prop) : Prop where
  ex : ∃ d r', (frz (x, r)).bind vOf = some (d, r') ∧ Q d r'
structure wPt (o : Option Den) (r : Nms) (Q : Option Int → Nms → Prop) : Prop where
  ex : ∃ k r', part o r = some (k, r') ∧ Q k r'
structure wDrs (r : Nms) (xs : List R) (Q : List PyData → Prop) : Prop where
  ex : ∃ d, derefs r xs = some d ∧ Q d
section
variable {f g h : Den} {r r1 : Nms} {Q : R → Nms → Prop} {op : Op2} {d e : PyData} {i j k : Nat} {N B C : Nms → Prop} {T : R → Nms → Prop} {u w : DenS} {t s : DenT} {gs hs : Denv} {ns : Dens} {x : R}
theorem wO.mono {α : Type} {o : Option α} {P Q : α → Prop} (h : wO o P) (k : ∀ z, P z → Q z) : wO o Q := let ⟨z, e, q⟩ := h.ex; ⟨z, e, k z q⟩
theorem wD.mono {P Q : R → Nms → Prop} (h : wD f r P) (k : ∀ x r', P x r' → Q x r') : wD f r Q := let ⟨x, r', e, q⟩ := h.ex; ⟨x, r', e, k x r' q⟩
theorem wF.mono {F : List PyData → Option R} {ds : List PyData} {P Q : R → Prop} (h : wF F ds P) (k : ∀ z, P z → Q z) : wF F ds Q := let ⟨z, e, q⟩ := h.ex; ⟨z, e, k z q⟩
theorem wB.mono {G : Ob → List PyData → Option (R × Ob)} {c : Ob} {ds : List PyData} {P Q : R → Ob → Prop} (h : wB G c ds P) (k : ∀ z c', P z c' → Q z c') : wB G c ds Q := let ⟨z, c', e, q⟩ := h.ex; ⟨z, c', e, k z c' q⟩
theorem wS.mono {N' B' C' : Nms → Prop} {T' : R → Nms → Prop} (h : wS u r N T B C) (k : ∀ r, N r → N' r) (k2 : ∀ x r, T x r → T' x r) (k3 : ∀ r, B r → B' r) (k4 : ∀ r, C r → C' r) : wS u r N' T' B' C' := by
  obtain ⟨o, e, q⟩ := h.ex
  refine ⟨o, e, ?_⟩
  cases o with
  | nx r => exact k r q
  | rt x r => exact k2 x r q
  | bk r => exact k3 r q
  | ct r => exact k4 r q
/-! values that are taken -/
theorem wst_val (h : Q (.val d) r) : wSt (.val d) r Q := ⟨h⟩
theorem wst_tmp {ds : List PyData} (h : Q (.val (.list ds)) r) : wSt (.tmp (.lst ds)) r Q := ⟨h⟩
theorem wst_slot (h : Q (.slot i) r) : wSt (.slot i) r Q := ⟨h⟩
theorem wdr_val {Q : PyData → Prop} (h : Q d) : wDr r (.val d) Q := ⟨d, rfl, h⟩
theorem wdr_tmp {Q : PyData → Prop} {ds : List PyData} (h : Q (.list ds)) : wDr r (.tmp (.lst ds)) Q := ⟨_, rfl, h⟩
theorem wdr_own {Q : PyData → Prop} {ds : List PyData} (e : r[i]? = some (.own (.lst ds))) (h : Q (.list ds)) : wDr r (.slot i) Q := ⟨_, by unfold deref; simp only [e]; rfl, h⟩
theorem wdr_lck {Q : PyData → Prop} {ds : List PyData} (e : r[i]? = some (.lck (.lst ds))) (h : Q (.list ds)) : wDr r (.slot i) Q := ⟨_, by unfold deref; simp only [e]; rfl, h⟩
theorem wdr_fz {Q : PyData → Prop} (e : r[i]? = some (.fz d)) (h : Q d) : wDr r (.slot i) Q := ⟨_, by unfold deref; simp only [e], h⟩
theorem wfz_val {Q : PyData → Nms → Prop} (h : Q d r) : wFz (.val d) r Q := ⟨d, r, rfl, h⟩
theorem wfz_tmp {Q : PyData → Nms → Prop} {ds : List PyData} (h : Q (.list ds) r) : wFz (.tmp (.lst ds)) r Q := ⟨_, r, rfl, h⟩
theorem wfz_own {Q : PyData → Nms → Prop} {ds : List PyData} (e : r[i]? = some (.own (.lst ds))) (e2 : r.set i (.fz (.list ds)) = r1) (h : Q (.list ds) r1) : wFz (.slot i) r Q := ⟨_, _, by unfold frz; simp only [e]; rw [Option.bind_some]; subst e2; rfl, h⟩
theorem wfz_fz {Q : PyData → Nms → Prop} (e : r[i]? = some (.fz d)) (h : Q d r) : wFz (.slot i) r Q := ⟨_, _, by unfold frz; simp only [e]; rfl, h⟩
theorem wz_of {Q : PyData → Nms → Prop} (h : wD f r fun x r1 => wFz x r1 Q) : wZ f r Q := by
  obtain ⟨x, r1, e, ⟨d, r2, e2, q⟩⟩ := h.ex
  refine ⟨d, r2, ?_, q⟩
  unfold dFrz
  rw [e]
  exact e2
theorem wst_of (h : wD f r fun x r1 => wSt x r1 Q) : wD (dStl f) r Q := by
  obtain ⟨x, r1, e, ⟨q⟩⟩ := h.ex
  exact ⟨_, _, by unfold dStl; rw [e] <;> rfl, q⟩
/-! expressions -/
theorem wd_fz (e : r[i]? = some (.fz d)) (h : Q (.val d) r) : wD (dVar i) r Q := ⟨_, _, by unfold dVar; rw [e], h⟩
theorem wd_own {c : Ob} (e : r[i]? = some (.own c)) (h : Q (.slot i) r) : wD (dVar i) r Q := ⟨_, _, by unfold dVar; rw [e], h⟩
theorem wd_lck {c : Ob} (e : r[i]? = some (.lck c)) (h : Q (.slot i) r) : wD (dVar i) r Q := ⟨_, _, by unfold dVar; rw [e], h⟩
theorem wd_c (h : Q (.val d) r) : wD (dC d) r Q := ⟨_, _, rfl, h⟩
theorem wd_bin (h : wD f r fun x r1 => wSt x r1 fun x r1 => wD g r1 fun y r2 => wDr r2 x fun dx => wDr r2 y fun dy => wO (op dx dy) fun z => Q z r2) : wD (dBin f g op) r Q := by
  obtain ⟨x, r1, e, ⟨q⟩⟩ := h.ex
  obtain ⟨y, r2, e2, ⟨dx, e3, ⟨dy, e4, ⟨z, e5, q⟩⟩⟩⟩ := q
  exact ⟨z, r2, by unfold dBin; rw [show dStl f r = some (stl (x, r1)) by unfold dStl; rw [e] <;> rfl]; simp only [Option.bind_some, e2, e3, e4, e5], q⟩
theorem wd_un {op : PyData → Option R} (h : wD f r fun x r1 => wDr r1 x fun dx => wO (op dx) fun z => Q z r1) : wD (dUn f op) r Q := by
  obtain ⟨x, r1, e, ⟨dx, e3, ⟨z, e5, q⟩⟩⟩ := h.ex
  exact ⟨z, r1, by unfold dUn; simp only [e, Option.bind_some, e3, e5], q⟩
theorem wn_nil {Q : List R → Nms → Prop} (h : Q [] r) : wN dNil r Q := ⟨_, _, rfl, h⟩
theorem wn_cons {Q : List R → Nms → Prop} (h : wD f r fun x r1 => wSt x r1 fun x r1 => wN ns r1 fun xs r2 => Q (x :: xs) r2) : wN (dCons f ns) r Q := by
  obtain ⟨x, r1, e, ⟨q⟩⟩ := h.ex
  obtain ⟨xs, r2, e2, q⟩ := q
  exact ⟨_, _, by unfold dCons; rw [show dStl f r = some (stl (x, r1)) by unfold dStl; rw [e] <;> rfl]; simp only [Option.bind_some, e2], q⟩
theorem wdrs_nil {Q : List PyData → Prop} (h : Q []) : wDrs r [] Q := ⟨_, rfl, h⟩
theorem wdrs_cons {Q : List PyData → Prop} {xs : List R} (h : wDr r x fun d => wDrs r xs fun ds => Q (d :: ds)) : wDrs r (x :: xs) Q := by
  obtain ⟨d, e, ⟨ds, e2, q⟩⟩ := h
  exact ⟨_, by unfold derefs; simp only [e, e2, Option.bind_some], q⟩
theorem wd_cb {op : OpN} (h : wN ns r fun xs r1 => wDrs r1 xs fun ds => wO (op ds) fun z => Q z r1) : wD (dCB ns op) r Q := by
  obtain ⟨xs, r1, e, ⟨ds, e2, ⟨z, e3, q⟩⟩⟩ := h.ex
  exact ⟨z, r1, by unfold dCB; simp only [e, e2, e3, Option.bind_some], q⟩
theorem wv_nil {Q : List PyData → Nms → Prop} (h : Q [] r) : wV vNil r Q := ⟨_, _, rfl, h⟩
theorem wv_cons {Q : List PyData → Nms → Prop} (h : wD f r fun x r1 => wFz x r1 fun d r2 => wV gs r2 fun ds r3 => Q (d :: ds) r3) : wV (vCons f gs) r Q := by
  obtain ⟨x, r1, e, ⟨d, r2, e2, ⟨ds, r3, e3, q⟩⟩⟩ := h.ex
  exact ⟨_, _, by unfold vCons; rw [show (dFrz f r).bind vOf = some (d, r2) by unfold dFrz; rw [e]; exact e2]; simp only [e3, Option.bind_some], q⟩
theorem wd_tup (h : wV gs r fun ds r1 => ds.length ≤ sizeLine ∧ Q (.val (.tuple ds)) r1) : wD (dTup gs) r Q := by
  obtain ⟨ds, r1, e, l, q⟩ := h.ex
  exact ⟨_, _, by unfold dTup; simp only [e, Option.bind_some]; exact if_pos l, q⟩
theorem wd_lst (h : wV gs r fun ds r1 => ds.length ≤ sizeLine ∧ Q (.tmp (.lst ds)) r1) : wD (dLst gs) r Q := by
  obtain ⟨ds, r1, e, l, q⟩ := h.ex
  exact ⟨_, _, by unfold dLst; simp only [e, Option.bind_some]; exact if_pos l, q⟩
theorem wd_call {F : List PyData → Option R} (h : wV gs r fun ds r1 => wF F ds fun z => Q z r1) : wD (dCall F gs) r Q := by
  obtain ⟨ds, r1, e, ⟨z, e2, q⟩⟩ := h.ex
  exact ⟨z, r1, by unfold dCall; simp only [e, e2, Option.bind_some], q⟩
theorem wd_callK {F : List PyData → Option R} {is : List Nat} (h : wV gs r fun cs r1 => wV hs r1 fun ds r2 => wF F (pick is (cs ++ ds)) fun z => Q z r2) : wD (dCallK F is gs hs) r Q := by
  obtain ⟨cs, r1, e, ⟨ds, r2, e1, ⟨z, e2, q⟩⟩⟩ := h.ex
  exact ⟨z, r2, by unfold dCallK; simp only [e, e1, e2, Option.bind_some], q⟩
theorem wd_callB {G : Ob → List PyData → Option (R × Ob)} {c : Ob} (e0 : r[i]? = some (.own c)) (h : wV gs r fun ds r1 => ∃ c1, r1[i]? = some (.own c1) ∧ wB G c1 ds fun z c' => Q z (r1.set i (.own c'))) : wD (dCallB G i gs) r Q := by
  obtain ⟨ds, r1, e, c1, e1, ⟨z, c', e2, q⟩⟩ := h.ex
  exact ⟨z, _, by unfold dCallB; simp only [e0, e, e1, e2, Option.bind_some], q⟩
theorem wd_callT {G : Ob → List PyData → Option (R × Ob)} (h : wD f r fun x r1 => ∃ c, x = .tmp c ∧ wB G c [] fun z c' => Q z r1) : wD (dCallT G f) r Q := by
  obtain ⟨x, r1, e, c, rfl, ⟨z, c', e2, q⟩⟩ := h.ex
  exact ⟨z, _, by unfold dCallT; simp only [e, e2, Option.bind_some], q⟩
theorem wd_v (h : wT t r fun b r1 => Q (.val (.bool b)) r1) : wD (dV t) r Q := by
  obtain ⟨b, r1, e, q⟩ := h.ex
  exact ⟨_, _, by unfold dV; simp only [e, Option.bind_some], q⟩
theorem wd_if (h : wT t r fun b r1 => (b = true → wD f r1 Q) ∧ (b = false → wD g r1 Q)) : wD (dIfE t f g) r Q := by
  obtain ⟨b, r1, e, q1, q2⟩ := h.ex
  cases b with
  | true => obtain ⟨x, r2, e2, q⟩ := (q1 rfl).ex; exact ⟨_, _, by unfold dIfE; simp only [e, Option.bind_some, if_true, e2], q⟩
  | false => obtain ⟨x, r2, e2, q⟩ := (q2 rfl).ex; exact ⟨_, _, by unfold dIfE; simp only [e, Option.bind_some]; rw [if_neg Bool.false_ne_true, e2], q⟩
theorem wd_ch {op2 : Op2} (h0 : wD f r fun x r1 => wSt x r1 fun x r1 => ∃ dx, x = .val dx ∧ wD g r1 fun y r2 => wSt y r2 fun y r2 => ∃ dy, y = .val dy ∧ wO (op dx dy) fun z => ∃ k, z = .val (.bool k) ∧ (k = true → wD h r2 fun w r3 => wDr r3 w fun dw => wO (op2 dy dw) fun z2 => Q z2 r3) ∧ (k = false → Q (.val (.bool false)) r2)) : wD (dCh f g h op op2) r Q := by
  obtain ⟨x, r1, e, ⟨q⟩⟩ := h0.ex
  obtain ⟨dx, ex, ⟨y, r2, e2, ⟨q⟩⟩⟩ := q
  obtain ⟨dy, ey, ⟨z, e3, k, rfl, q1, q2⟩⟩ := q
  have a1 : (dStl f r).bind vOf = some (dx, (stl (x, r1)).2) := by
    unfold dStl; rw [e, Option.map_some, Option.bind_some]
    rw [show stl (x, r1) = ((stl (x, r1)).1, (stl (x, r1)).2) from rfl, ex]; rfl
  have a2 : (dStl g (stl (x, r1)).2).bind vOf = some (dy, (stl (y, r2)).2) := by
    unfold dStl; rw [e2, Option.map_some, Option.bind_some]
    rw [show stl (y, r2) = ((stl (y, r2)).1, (stl (y, r2)).2) from rfl, ey]; rfl
  cases k with
  | true =>
    obtain ⟨w, r3, e4, ⟨dw, e5, ⟨z2, e6, q⟩⟩⟩ := (q1 rfl).ex
    exact ⟨_, _, by unfold dCh; simp only [a1, a2, e3, Option.bind_some, bOf, if_true, e4, e5, e6], q⟩
  | false => exact ⟨_, _, by unfold dCh; simp only [a1, a2, e3, Option.bind_some, bOf]; exact if_neg Bool.false_ne_true, q2 rfl⟩
theorem wd_ch' {op2 : Op2} (h0 : wD f r fun x r1 => wSt x r1 fun x r1 => ∃ dx, x = .val dx ∧ wD g r1 fun y r2 => wSt y r2 fun y r2 => ∃ dy, y = .val dy ∧ wO (op dx dy) fun z => ∃ k, z = .val (.bool k) ∧ wD h r2 fun w r3 => wDr r3 w fun dw => wO (op2 dy dw) fun z2 => ∃ k2, z2 = .val (.bool k2) ∧ r3 = r2 ∧ Q (.val (.bool (k && k2))) r2) : wD (dCh f g h op op2) r Q := by
  refine wd_ch (h0.mono fun x r1 ⟨q⟩ => ⟨?_⟩)
  obtain ⟨dx, ex, q⟩ := q
  refine ⟨dx, ex, q.mono fun y r2 ⟨q⟩ => ⟨?_⟩⟩
  obtain ⟨dy, ey, q⟩ := q
  refine ⟨dy, ey, q.mono fun z ⟨k, ez, q⟩ => ⟨k, ez, fun hk => q.mono fun w r3 ⟨dw, e5, ⟨z2, e6, k2, e7, e8, q⟩⟩ => ⟨dw, e5, ⟨z2, e6, ?_⟩⟩, fun hk => ?_⟩⟩
  · subst e7 e8 hk; simpa using q
  · obtain ⟨w, r3, e4, ⟨dw, e5, ⟨z2, e6, k2, e7, e8, q⟩⟩⟩ := q.ex
    subst hk; simpa using q
theorem wd_slice {lo hi : Option Den} (h : wD f r fun x r1 => wSt x r1 fun x r1 => wPt lo r1 fun l r2 => wPt hi r2 fun h r3 => wDr r3 x fun dx => wO (opSlice dx l h) fun z => Q z r3) : wD (dSlice f lo hi) r Q := by
  obtain ⟨x, r1, e, ⟨q⟩⟩ := h.ex
  obtain ⟨l, r2, e2, ⟨h, r3, e3, ⟨dx, e4, ⟨z, e5, q⟩⟩⟩⟩ := q
  exact ⟨z, r3, by unfold dSlice; rw [show dStl f r = some (stl (x, r1)) by unfold dStl; rw [e] <;> rfl]; simp only [Option.bind_some, e2, e3, e4, e5], q⟩
theorem wp_none {Q : Option Int → Nms → Prop} (h : Q none r) : wPt none r Q := ⟨_, _, rfl, h⟩
theorem wp_some {Q : Option Int → Nms → Prop} (h : wD f r fun x r1 => ∃ k, x = .val (.int k) ∧ Q (some k) r1) : wPt (some f) r Q := by
  obtain ⟨x, r1, e, k, rfl, q⟩ := h.ex
  exact ⟨_, _, by unfold part; simp only [e, Option.bind_some], q⟩
theorem wd_isi {A : String} (h : wD f r fun x r1 => wSt x r1 fun x r1 => wDr r1 x fun d => wO (isT A d) fun b => Q (.val (.bool b)) r1) : wD (dIsi f A) r Q := by
  obtain ⟨x, r1, e, ⟨q⟩⟩ := h.ex
  obtain ⟨d, e2, ⟨b, e3, q⟩⟩ := q
  exact ⟨_, _, by unfold dIsi; rw [show dStl f r = some (stl (x, r1)) by unfold dStl; rw [e] <;> rfl]; simp only [Option.bind_some, e2, e3, Option.map_some], q⟩
theorem wd_isi2 {A A' : String} (h : wD f r fun x r1 => wSt x r1 fun x r1 => wDr r1 x fun d => wO (isT2 A A' d) fun b => Q (.val (.bool b)) r1) : wD (dIsi2 f A A') r Q := by
  obtain ⟨x, r1, e, ⟨q⟩⟩ := h.ex
  obtain ⟨d, e2, ⟨b, e3, q⟩⟩ := q
  exact ⟨_, _, by unfold dIsi2; rw [show dStl f r = some (stl (x, r1)) by unfold dStl; rw [e] <;> rfl]; simp only [Option.bind_some, e2, e3, Option.map_some], q⟩
theorem wd_app {ds0 : List PyData} (e0 : r[i]? = some (.own (.lst ds0))) (h : wD f r fun x r1 => wFz x r1 fun d r2 => ∃ ds, r2[i]? = some (.own (.lst ds)) ∧ ds.length < sizeLine ∧ Q (.val .none) (r2.set i (.own (.lst (ds ++ [d]))))) : wD (dApp i f) r Q := by
  obtain ⟨x, r1, e, ⟨d, r2, e2, ds, e3, l, q⟩⟩ := h.ex
  refine ⟨_, _, ?_, q⟩
  unfold dApp ownL
  rw [show (dFrz f r).bind vOf = some (d, r2) by unfold dFrz; rw [e]; exact e2]
  simp only [e0, e3, Option.bind_some]
  exact if_pos l
/-! tests -/
theorem wt_b {Q : Bool → Nms → Prop} (h : wD f r fun x r1 => ∃ b, x = .val (.bool b) ∧ Q b r1) : wT (dB f) r Q := by
  obtain ⟨x, r1, e, b, rfl, q⟩ := h.ex
  exact ⟨_, _, by unfold dB; simp only [e, Option.bind_some]; rfl, q⟩
theorem wt_and {Q : Bool → Nms → Prop} (h : wT t r fun b r1 => (b = true → wT s r1 Q) ∧ (b = false → Q false r1)) : wT (dAnd t s) r Q := by
  obtain ⟨b, r1, e, q1, q2⟩ := h.ex
  cases b with
  | true => obtain ⟨x, r2, e2, q⟩ := (q1 rfl).ex; exact ⟨_, _, by unfold dAnd; simp only [e, Option.bind_some, if_true, e2], q⟩
  | false => exact ⟨_, _, by unfold dAnd; simp only [e, Option.bind_some]; rw [if_neg Bool.false_ne_true], q2 rfl⟩
theorem wt_or {Q : Bool → Nms → Prop} (h : wT t r fun b r1 => (b = true → Q true r1) ∧ (b = false → wT s r1 Q)) : wT (dOr t s) r Q := by
  obtain ⟨b, r1, e, q1, q2⟩ := h.ex
  cases b with
  | false => obtain ⟨x, r2, e2, q⟩ := (q2 rfl).ex; exact ⟨_, _, by unfold dOr; simp only [e, Option.bind_some]; rw [if_neg Bool.false_ne_true, e2], q⟩
  | true => exact ⟨_, _, by unfold dOr; simp only [e, Option.bind_some, if_true], q1 rfl⟩
/-- both sides told at once, where the second one is there all the same -/
theorem wt_and' {Q : Bool → Nms → Prop} (h : wT t r fun b r1 => wT s r1 fun b' r2 => r2 = r1 ∧ Q (b && b') r1) : wT (dAnd t s) r Q := by
  obtain ⟨b, r1, e, ⟨b', r2, e2, rfl, q⟩⟩ := h.ex
  cases b with
  | true => exact ⟨b', r2, by unfold dAnd; simp only [e, Option.bind_some, if_true, e2], by simpa using q⟩
  | false => exact ⟨false, r2, by unfold dAnd; simp only [e, Option.bind_some]; rw [if_neg Bool.false_ne_true], by simpa using q⟩
theorem wt_or' {Q : Bool → Nms → Prop} (h : wT t r fun b r1 => wT s r1 fun b' r2 => r2 = r1 ∧ Q (b || b') r1) : wT (dOr t s) r Q := by
  obtain ⟨b, r1, e, ⟨b', r2, e2, rfl, q⟩⟩ := h.ex
  cases b with
  | false => exact ⟨b', r2, by unfold dOr; simp only [e, Option.bind_some]; rw [if_neg Bool.false_ne_true, e2], by simpa using q⟩
  | true => exact ⟨true, r2, by unfold dOr; simp only [e, Option.bind_some, if_true], by simpa using q⟩
theorem wt_not {Q : Bool → Nms → Prop} (h : wT t r fun b r1 => Q (!b) r1) : wT (dNot t) r Q := by
  obtain ⟨b, r1, e, q⟩ := h.ex
  exact ⟨_, _, by unfold dNot; simp only [e, Option.bind_some], q⟩
theorem wt_yes {Q : Bool → Nms → Prop} (h : Q true r) : wT tYesD r Q := ⟨_, _, rfl, h⟩
/-! targets -/
theorem wg_name (e : setSl i (.fz d) r = some r1) {Q : Nms → Prop} (h : Q r1) : wG (gN i) d r Q := ⟨_, e, h⟩
theorem wg_tup {gg : DenGs} {ds : List PyData} {Q : Nms → Prop} (h : wGs gg ds r Q) : wG (gT gg) (.tuple ds) r Q := by
  obtain ⟨r', e, q⟩ := h.ex
  exact ⟨r', e, q⟩
theorem wgs_nil {Q : Nms → Prop} (h : Q r) : wGs gsNil [] r Q := ⟨_, rfl, h⟩
theorem wgs_cons {g0 : DenG} {gg : DenGs} {ds : List PyData} {Q : Nms → Prop} (h : wG g0 d r fun r1 => wGs gg ds r1 Q) : wGs (gsCons g0 gg) (d :: ds) r Q := by
  obtain ⟨r1, e, ⟨r2, e2, q⟩⟩ := h.ex
  exact ⟨r2, by unfold gsCons; simp only [e, Option.bind_some, e2], q⟩
/-! statements -/
theorem ws_next (h : N r) : wS dNext r N T B C := ⟨_, rfl, h⟩
theorem ws_break (h : B r) : wS dBreak r N T B C := ⟨_, rfl, h⟩
theorem ws_seq (h : wS u r (fun r1 => wS w r1 N T B C) T B C) : wS (dSeq u w) r N T B C := by
  obtain ⟨o, e, q⟩ := h.ex
  cases o with
  | nx r1 => obtain ⟨o, e2, q2⟩ := wS.ex q; exact ⟨o, by unfold dSeq; simp only [e, Option.bind_some, e2], q2⟩
  | rt x r1 => exact ⟨.rt x r1, by unfold dSeq; simp only [e, Option.bind_some], q⟩
  | bk r1 => exact ⟨.bk r1, by unfold dSeq; simp only [e, Option.bind_some], q⟩
  | ct r1 => exact ⟨.ct r1, by unfold dSeq; simp only [e, Option.bind_some], q⟩
theorem ws_if (h : wT t r fun b r1 => (b = true → wS u r1 N T B C) ∧ (b = false → wS w r1 N T B C)) : wS (dIf t u w) r N T B C := by
  obtain ⟨b, r1, e, q1, q2⟩ := h.ex
  cases b with
  | true => obtain ⟨x, e2, q⟩ := (q1 rfl).ex; exact ⟨_, by unfold dIf; simp only [e, Option.bind_some, if_true, e2], q⟩
  | false => obtain ⟨x, e2, q⟩ := (q2 rfl).ex; exact ⟨_, by unfold dIf; simp only [e, Option.bind_some]; rw [if_neg Bool.false_ne_true, e2], q⟩
theorem ws_ret (h : wD f r T) : wS (dRet f) r N T B C := by
  obtain ⟨x, r1, e, q⟩ := h.ex
  exact ⟨.rt x r1, by unfold dRet; simp only [e, Option.bind_some], q⟩
theorem ws_drop (h : wD f r fun _ r1 => N r1) : wS (dDrop f) r N T B C := by
  obtain ⟨x, r1, e, q⟩ := h.ex
  exact ⟨.nx r1, by unfold dDrop; simp only [e, Option.bind_some], q⟩
/-- a store of a value -/
structure wPut (i : Nat) (x : R) (r : Nms) (Q : Nms → Prop) : Prop where
  ex : ∃ s r', (match x with | .val d => some (Sl.fz d) | .tmp c => some (Sl.own c) | .slot _ => none) = some s ∧ setSl i s r = some r' ∧ Q r'
theorem wput_val {Q : Nms → Prop} (e : setSl i (.fz d) r = some r1) (h : Q r1) : wPut i (.val d) r Q := ⟨_, _, rfl, e, h⟩
theorem wput_tmp {c : Ob} {Q : Nms → Prop} (e : setSl i (.own c) r = some r1) (h : Q r1) : wPut i (.tmp c) r Q := ⟨_, _, rfl, e, h⟩
theorem ws_set (h : wD f r fun x r1 => wPut i x r1 N) : wS (dSet i f) r N T B C := by
  obtain ⟨x, r1, e, ⟨s, r2, e2, e3, q⟩⟩ := h.ex
  refine ⟨.nx r2, ?_, q⟩
  unfold dSet
  simp only [e, Option.bind_some]
  cases x with
  | val d => cases e2; simp only [e3, Option.map_some]
  | tmp c => cases e2; simp only [e3, Option.map_some]
  | slot i => cases e2
theorem ws_asg {g0 : DenG} (h : wD f r fun x r1 => wFz x r1 fun d r2 => wG g0 d r2 N) : wS (dAsg f g0) r N T B C := by
  obtain ⟨x, r1, e, ⟨d, r2, e2, ⟨r3, e3, q⟩⟩⟩ := h.ex
  exact ⟨.nx r3, by unfold dAsg; rw [show (dFrz f r).bind vOf = some (d, r2) by unfold dFrz; rw [e]; exact e2]; simp only [e3, Option.bind_some, Option.map_some], q⟩
theorem ws_par (h : wV gs r fun ds r1 => ∃ d e r2 r3, ds = [d, e] ∧ setSl i (.fz d) r1 = some r2 ∧ setSl j (.fz e) r2 = some r3 ∧ N r3) : wS (dPar i j gs) r N T B C := by
  obtain ⟨ds, r1, e0, d, e, r2, r3, rfl, e1, e2, q⟩ := h.ex
  exact ⟨.nx r3, by unfold dPar; simp only [e0, e1, e2, Option.bind_some, Option.map_some], q⟩
theorem ws_par3 (h : wV gs r fun ds r1 => ∃ d e e' r2 r3 r4, ds = [d, e, e'] ∧ setSl i (.fz d) r1 = some r2 ∧ setSl j (.fz e) r2 = some r3 ∧ setSl k (.fz e') r3 = some r4 ∧ N r4) : wS (dPar3 i j k gs) r N T B C := by
  obtain ⟨ds, r1, e0, d, e, e', r2, r3, r4, rfl, e1, e2, e3, q⟩ := h.ex
  exact ⟨.nx r4, by unfold dPar3; simp only [e0, e1, e2, e3, Option.bind_some, Option.map_some], q⟩
theorem ws_setIx (h : wD f r fun x r1 => wFz x r1 fun d r2 => ∃ ds0, r2[i]? = some (.own (.lst ds0)) ∧ wD g r2 fun y r3 => ∃ k ds j, y = .val (.int k) ∧ r3[i]? = some (.own (.lst ds)) ∧ ixN ds.length k = some j ∧ N (r3.set i (.own (.lst (ds.set j d))))) : wS (dSetIx i f g) r N T B C := by
  obtain ⟨x, r1, e, ⟨d, r2, e2, ds0, e3, ⟨y, r3, e4, k, ds, j, rfl, e5, e6, q⟩⟩⟩ := h.ex
  exact ⟨.nx _, by unfold dSetIx ownL; rw [show (dFrz f r).bind vOf = some (d, r2) by unfold dFrz; rw [e]; exact e2]; simp only [e3, e4, e5, e6, Option.bind_some, intOf], q⟩
/-! what is walked -/
structure wSq (x : R) (r : Nms) (Q : List PyData → Nms → Option Nat → Prop) : Prop where
  ex : ∃ ds r' u, (match (x, r) with
    | (.val d, r1) => (seqOf d).map fun ds => (ds, r1, none)
    | (.slot i, r1) => match r1[i]? with
      | some (.own (.lst ds)) => some (ds, r1.set i (.lck (.lst ds)), some i)
      | some (.lck (.lst ds)) => some (ds, r1, none)
      | some (.fz d) => (seqOf d).map fun ds => (ds, r1, none)
      | _ => none
    | (.tmp _, _) => none) = some (ds, r', u) ∧ Q ds r' u
theorem wsq_list {ds : List PyData} {Q : List PyData → Nms → Option Nat → Prop} (h : Q ds r none) : wSq (.val (.list ds)) r Q := ⟨_, _, _, rfl, h⟩
theorem wsq_tup {ds : List PyData} {Q : List PyData → Nms → Option Nat → Prop} (h : Q ds r none) : wSq (.val (.tuple ds)) r Q := ⟨_, _, _, rfl, h⟩
theorem wsq_own {ds : List PyData} {Q : List PyData → Nms → Option Nat → Prop} (e : r[i]? = some (.own (.lst ds))) (e2 : r.set i (.lck (.lst ds)) = r1) (h : Q ds r1 (some i)) : wSq (.slot i) r Q := ⟨_, _, _, by simp only [e]; subst e2; rfl, h⟩
theorem wsq_lck {ds : List PyData} {Q : List PyData → Nms → Option Nat → Prop} (e : r[i]? = some (.lck (.lst ds))) (h : Q ds r none) : wSq (.slot i) r Q := ⟨_, _, _, by simp only [e] <;> rfl, h⟩
theorem wi_seq {Q : List PyData → Nms → Option Nat → Prop} (h : wD f r fun x r1 => wSt x r1 fun x r1 => wSq x r1 Q) : wI (iSeq f) r Q := by
  obtain ⟨x, r1, e, ⟨q⟩⟩ := h.ex
  obtain ⟨ds, r2, u, e2, q⟩ := q
  exact ⟨ds, r2, u, by unfold iSeq; rw [show dStl f r = some (stl (x, r1)) by unfold dStl; rw [e] <;> rfl]; exact e2, q⟩
theorem wi_r1 {Q : List PyData → Nms → Option Nat → Prop} (h : wN ns r fun xs r1 => wDrs r1 xs fun ds => ∃ k : Int, ds = [.int k] ∧ k ≤ 16777216 ∧ -1000000000 ≤ k ∧ Q (rangeD 0 k.toNat) r1 none) : wI (iR1 ns) r Q := by
  obtain ⟨xs, r1, e, ⟨ds, e2, k, rfl, l, l2, q⟩⟩ := h.ex
  refine ⟨_, _, _, ?_, q⟩
  unfold iR1
  simp only [e, e2, Option.bind_some]
  exact if_pos ⟨by omega, by omega, by rw [sizeLine_eq]; omega⟩
theorem wi_r2 {Q : List PyData → Nms → Option Nat → Prop} (h : wN ns r fun xs r1 => wDrs r1 xs fun ds => ∃ k l : Int, ds = [.int k, .int l] ∧ -1000000000 ≤ k ∧ k ≤ 1000000000 ∧ -1000000000 ≤ l ∧ l ≤ 1000000000 ∧ l - k ≤ 16777216 ∧ Q (rangeD k (l - k).toNat) r1 none) : wI (iR2 ns) r Q := by
  obtain ⟨xs, r1, e, ⟨ds, e2, k, l, rfl, l1, l2, l3, l4, l5, q⟩⟩ := h.ex
  refine ⟨_, _, _, ?_, q⟩
  unfold iR2
  simp only [e, e2, Option.bind_some]
  exact if_pos ⟨⟨by omega, by omega, by omega, by omega⟩, by rw [sizeLine_eq]; omega⟩
/-- a loop by its invariant -/
theorem wloop {g0 : DenG} {Q : Nms → Prop} (I : Nat → Nms → Prop) : ∀ (ds : List PyData) (n : Nat) (r : Nms), I n r →
    (∀ i d r2, ds[i]? = some d → I (n + i) r2 → wG g0 d r2 fun r3 => wS u r3 (I (n + i + 1)) T Q (I (n + i + 1))) → (∀ r2, I (n + ds.length) r2 → Q r2) →
    ∃ o, loopD g0 u ds r = some o ∧ toO Q T (fun _ => False) (fun _ => False) o
  | [], n, r, h0, _, he => ⟨.nx r, rfl, he r h0⟩
  | d :: ds, n, r, h0, hs, he => by
    obtain ⟨r3, e3, ⟨o, e4, q⟩⟩ := (hs 0 d r rfl h0).ex
    have go : ∀ r4, I (n + 0 + 1) r4 → ∃ o, loopD g0 u ds r4 = some o ∧ toO Q T (fun _ => False) (fun _ => False) o := fun r4 h4 =>
      wloop I ds (n + 1) r4 h4 (fun i d r2 a b => by
        have := hs (i + 1) d r2 (by simpa using a) (by rw [show n + (i + 1) = n + 1 + i by omega]; exact b)
        rw [show n + (i + 1) + 1 = n + 1 + i + 1 by omega] at this
        exact this) fun r2 a => he r2 (by rw [List.length_cons, show n + (ds.length + 1) = n + 1 + ds.length by omega]; exact a)
    unfold loopD
    simp only [e3, e4, Option.bind_some]
    cases o with
    | nx r4 => exact go r4 q
    | ct r4 => exact go r4 q
    | bk r4 => exact ⟨_, rfl, q⟩
    | rt x r4 => exact ⟨_, rfl, q⟩
theorem ws_for {fi : DenI} {g0 : DenG} (h : wI fi r fun ds r1 uo => ∃ I : Nat → Nms → Prop, I 0 r1 ∧ (∀ i d r2, ds[i]? = some d → I i r2 → wG g0 d r2 fun r3 => wS u r3 (I (i + 1)) (fun x r4 => T x (unlck uo r4)) (fun r4 => N (unlck uo r4)) (I (i + 1))) ∧ (∀ r2, I ds.length r2 → N (unlck uo r2))) :
    wS (dFor fi g0 u) r N T B C := by
  obtain ⟨ds, r1, uo, e, I, h0, hs, he⟩ := h.ex
  obtain ⟨o, e2, q⟩ := wloop (u := u) (T := fun x r4 => T x (unlck uo r4)) (Q := fun r4 => N (unlck uo r4)) I ds 0 r1 h0 (fun i d r2 a b => by rw [Nat.zero_add] at b ⊢; exact hs i d r2 a b) (fun r2 a => he r2 (by rwa [Nat.zero_add] at a))
  refine ⟨o.map (unlck uo), by unfold dFor; simp only [e, e2, Option.bind_some, Option.map_some], ?_⟩
  cases o with
  | nx r4 => exact q
  | ct r4 => exact q.elim
  | bk r4 => exact q.elim
  | rt x r4 => exact q
/-- a comprehension by its invariant -/
theorem wcomp {vs : List Nat} {g0 : DenG} (I : Nat → List PyData → Nms → Prop) : ∀ (ds : List PyData) (n : Nat) (acc : List PyData) (r : Nms), I n acc r →
    (∀ i d acc r2, ds[i]? = some d → I (n + i) acc r2 → wG g0 d r2 fun r3 => wT t r3 fun b r4 => (b = true → wD f r4 fun x r5 => wFz x r5 fun y r6 => I (n + i + 1) (acc ++ [y]) (wipeE vs r6)) ∧ (b = false → I (n + i + 1) acc (wipeE vs r4))) →
    ∃ xs r2, compD vs g0 t f ds r = some (xs, r2) ∧ I (n + ds.length) (acc ++ xs) r2
  | [], n, acc, r, h0, _ => ⟨[], r, rfl, by simpa using h0⟩
  | d :: ds, n, acc, r, h0, hs => by
    obtain ⟨r3, e3, ⟨b, r4, e4, q1, q2⟩⟩ := (hs 0 d acc r rfl h0).ex
    have go : ∀ acc r5, I (n + 0 + 1) acc r5 → ∃ xs r2, compD vs g0 t f ds r5 = some (xs, r2) ∧ I (n + (ds.length + 1)) (acc ++ xs) r2 := fun acc r5 h5 => by
      obtain ⟨xs, r2, a, b⟩ := wcomp I ds (n + 1) acc r5 h5 (fun i d acc r2 a b => by
        have := hs (i + 1) d acc r2 (by simpa using a) (by rw [show n + (i + 1) = n + 1 + i by omega]; exact b)
        rw [show n + (i + 1) + 1 = n + 1 + i + 1 by omega] at this
        exact this)
      exact ⟨xs, r2, a, by rw [show n + (ds.length + 1) = n + 1 + ds.length by omega]; exact b⟩
    unfold compD
    simp only [e3, e4, Option.bind_some]
    cases b with
    | true =>
      obtain ⟨x, r5, e5, ⟨y, r6, e6, q⟩⟩ := (q1 rfl).ex
      obtain ⟨xs, r2, a, b⟩ := go _ _ q
      refine ⟨y :: xs, r2, ?_, by simpa using b⟩
      rw [if_pos rfl, show (dFrz f r4).bind vOf = some (y, r6) by unfold dFrz; rw [e5]; exact e6]
      simp only [Option.bind_some, a, Option.map_some]
    | false =>
      obtain ⟨xs, r2, a, b⟩ := go _ _ (q2 rfl)
      exact ⟨xs, r2, by rw [if_neg Bool.false_ne_true]; exact a, b⟩
theorem wd_lc {vs : List Nat} {fi : DenI} {g0 : DenG} (h : wI fi r fun ds r1 uo => noOb vs r1 = true ∧ ∃ I : Nat → List PyData → Nms → Prop, I 0 [] (wipeE vs r1) ∧
    (∀ i d acc r2, ds[i]? = some d → I i acc r2 → wG g0 d r2 fun r3 => wT t r3 fun b r4 => (b = true → wD f r4 fun x r5 => wFz x r5 fun y r6 => I (i + 1) (acc ++ [y]) (wipeE vs r6)) ∧ (b = false → I (i + 1) acc (wipeE vs r4))) ∧
    (∀ xs r2, I ds.length xs r2 → Q (.tmp (.lst xs)) (unlck uo (restE vs r1 r2)))) : wD (dLc vs fi g0 t f) r Q := by
  obtain ⟨ds, r1, uo, e, no, I, h0, hs, he⟩ := h.ex
  obtain ⟨xs, r2, a, b⟩ := wcomp (vs := vs) I ds 0 [] (wipeE vs r1) h0 (fun i d acc r2 a b => by rw [Nat.zero_add] at b ⊢; exact hs i d acc r2 a b)
  rw [Nat.zero_add, List.nil_append] at b
  exact ⟨_, _, by unfold dLc; simp only [e, Option.bind_some]; rw [if_pos no, a] <;> rfl, he xs r2 b⟩
/-- a comprehension that keeps its state: what is kept and what becomes of it, as functions -/
theorem wd_lcf {vs : List Nat} {fi : DenI} {g0 : DenG} (h : wI fi r fun ds r1 uo => noOb vs r1 = true ∧ ∃ (keep : PyData → Bool) (val : PyData → PyData),
    (∀ d ∈ ds, wG g0 d (wipeE vs r1) fun r3 => wT t r3 fun b r4 => b = keep d ∧ (b = true → wD f r4 fun x r5 => wFz x r5 fun y r6 => y = val d ∧ wipeE vs r6 = wipeE vs r1) ∧ (b = false → wipeE vs r4 = wipeE vs r1)) ∧
    Q (.tmp (.lst ((ds.filter keep).map val))) (unlck uo (restE vs r1 (wipeE vs r1)))) : wD (dLc vs fi g0 t f) r Q := by
  refine wd_lc ?_
  obtain ⟨ds, r1, uo, e, no, keep, val, hs, hq⟩ := h.ex
  refine ⟨ds, r1, uo, e, no, fun i acc r2 => acc = ((ds.take i).filter keep).map val ∧ r2 = wipeE vs r1, ⟨by simp, rfl⟩, fun i d acc r2 hd ⟨e1, e2⟩ => ?_, fun xs r2 ⟨e1, e2⟩ => ?_⟩
  · subst e2 e1
    obtain ⟨r3, e3, ⟨b, r4, e4, eb, q1, q2⟩⟩ := (hs d (List.mem_of_getElem? hd)).ex
    refine ⟨r3, e3, ⟨b, r4, e4, fun hb => ?_, fun hb => ?_⟩⟩
    · obtain ⟨x, r5, e5, ⟨y, r6, e6, ey, er⟩⟩ := (q1 hb).ex
      refine ⟨x, r5, e5, ⟨y, r6, e6, ?_, er⟩⟩
      rw [List.take_add_one, hd, Option.toList_some, List.filter_append, List.map_append, ey]
      rw [eb] at hb
      simp [List.filter_cons, hb]
    · refine ⟨?_, q2 hb⟩
      rw [List.take_add_one, hd, Option.toList_some, List.filter_append]
      rw [eb] at hb
      simp [List.filter_cons, hb]
  · subst e1 e2
    rw [List.take_length]
    exact hq
/-! defs -/
theorem wf_run {n : Nat} {u : DenS} {ds : List PyData} {Q : R → Prop} (e : env0 n (ds.map .fz) = r) (h : wS u r (fun _ => Q (.val .none)) (fun x r1 => wO (KV.ret (.rt x r1)) fun z => Q z.1) (fun _ => False) (fun _ => False)) : wF (runP n u) ds Q := by
  obtain ⟨o, e1, q⟩ := h.ex
  subst e
  cases o with
  | nx r1 => exact ⟨_, by unfold runP; simp only [e1, Option.bind_some]; rfl, q⟩
  | rt x r1 => obtain ⟨z, e2, q⟩ := wO.ex q; exact ⟨_, by unfold runP; simp only [e1, Option.bind_some, e2, Option.map_some], q⟩
  | bk r1 => exact q.elim
  | ct r1 => exact q.elim
theorem wb_run {n : Nat} {u : DenS} {c : Ob} {ds : List PyData} {Q : R → Ob → Prop} (e : env0 n (.own c :: ds.map .fz) = r) (h : wS u r (fun r1 => ∃ c', r1[0]? = some (.own c') ∧ Q (.val .none) c') (fun x r1 => wO (ret (.rt x r1)) fun z => ∃ c', z.2[0]? = some (.own c') ∧ Q z.1 c') (fun _ => False) (fun _ => False)) : wB (runB n u) c ds Q := by
  obtain ⟨o, e1, q⟩ := h.ex
  subst e
  cases o with
  | nx r1 => obtain ⟨c', e2, q⟩ := q; exact ⟨_, c', by unfold runB; simp only [e1, Option.bind_some, ret, e2], q⟩
  | rt x r1 => obtain ⟨z, e2, c', e3, q⟩ := wO.ex q; exact ⟨_, c', by unfold runB; simp only [e1, Option.bind_some, e2, e3], q⟩
  | bk r1 => exact q.elim
  | ct r1 => exact q.elim
theorem wr_val {r : Nms} {d : PyData} {Q : R × Nms → Prop} (h : Q (.val d, r)) : wO (ret (.rt (.val d) r)) Q := ⟨_, rfl, h⟩
theorem wr_tmp {r : Nms} {c : Ob} {Q : R × Nms → Prop} (h : Q (.tmp c, r)) : wO (ret (.rt (.tmp c) r)) Q := ⟨_, rfl, h⟩
theorem wr_own {r : Nms} {c : Ob} {Q : R × Nms → Prop} (e : r[i]? = some (.own c)) (h : Q (.tmp c, r.set i .un)) : wO (ret (.rt (.slot i) r)) Q := ⟨_, by unfold ret; simp only [e], h⟩
theorem wr_fz {r : Nms} {d : PyData} {Q : R × Nms → Prop} (e : r[i]? = some (.fz d)) (h : Q (.val d, r)) : wO (ret (.rt (.slot i) r)) Q := ⟨_, by unfold ret; simp only [e], h⟩
theorem wf_eq {F : List PyData → Option R} {ds : List PyData} {z : R} {Q : R → Prop} (e : F ds = some z) (h : Q z) : wF F ds Q := ⟨z, e, h⟩
theorem wf_get {F : List PyData → Option R} {ds : List PyData} {z : R} (h : wF F ds fun y => y = z) : F ds = some z := by
  obtain ⟨y, e, rfl⟩ := h.ex; exact e
theorem wb_get {G : Ob → List PyData → Option (R × Ob)} {c : Ob} {ds : List PyData} {Q : R → Ob → Prop} (h : wB G c ds Q) : ∃ z c', G c ds = some (z, c') ∧ Q z c' := h.ex
theorem wo_eq {α : Type} {o : Option α} {z : α} {Q : α → Prop} (e : o = some z) (h : Q z) : wO o Q := ⟨z, e, h⟩
/-! operators -/
variable {QR : R → Prop} {a b : Int} {xs ys : List PyData}
theorem wo_add (h : QR (.val (.int (a + b)))) : wO (opAdd (.int a) (.int b)) QR := ⟨_, rfl, h⟩
theorem wo_addL (l : xs.length + ys.length ≤ 16777216) (h : QR (.tmp (.lst (xs ++ ys)))) : wO (opAdd (.list xs) (.list ys)) QR := ⟨_, if_pos (by rw [sizeLine_eq]; exact l), h⟩
theorem wo_addT (l : xs.length + ys.length ≤ 16777216) (h : QR (.val (.tuple (xs ++ ys)))) : wO (opAdd (.tuple xs) (.tuple ys)) QR := ⟨_, if_pos (by rw [sizeLine_eq]; exact l), h⟩
theorem wo_sub (h : QR (.val (.int (a - b)))) : wO (opSub (.int a) (.int b)) QR := ⟨_, rfl, h⟩
theorem wo_mul (l : -18446744073709551616 < b ∧ b < 18446744073709551616) (h : QR (.val (.int (a * b)))) : wO (opMul (.int a) (.int b)) QR := ⟨_, if_pos (.inr l), h⟩
theorem wo_mod (l : 0 < b) (h : QR (.val (.int (a % b)))) : wO (opMod (.int a) (.int b)) QR := ⟨_, by
  unfold opMod KV.opI; simp [show b ≠ 0 by omega]; exact Int.fmod_eq_emod_of_nonneg _ (by omega), h⟩
theorem wo_div (l : 0 < b ∧ b < 1073741824) (h : QR (.val (.int (a / b)))) : wO (opDiv (.int a) (.int b)) QR := ⟨_, by
  unfold opDiv KV.opI; simp [show b ≠ 0 by omega, show b.natAbs < 1073741824 by omega]; exact Int.fdiv_eq_ediv_of_nonneg _ (by omega), h⟩
theorem wo_neg (h : QR (.val (.int (-a)))) : wO (opNeg (.int a)) QR := ⟨_, rfl, h⟩
theorem wo_c {p : Int → Int → Bool} (h : QR (.val (.bool (p a b)))) : wO (opC p (.int a) (.int b)) QR := ⟨_, rfl, h⟩
theorem wo_isN (h : QR (.val (.bool (isNon d)))) : wO (opIsN d .none) QR := ⟨_, rfl, h⟩
theorem wo_notN (h : QR (.val (.bool (!isNon d)))) : wO (opNotN d .none) QR := ⟨_, rfl, h⟩
theorem wo_eqI (h : QR (.val (.bool (decide (a = b))))) : wO (opEq (.int a) (.int b)) QR := ⟨_, by
  unfold opEq; rw [if_pos (by show min 0 0 ≤ 60; decide)]; rfl, h⟩
theorem wo_neI (h : QR (.val (.bool (!decide (a = b))))) : wO (opNe (.int a) (.int b)) QR := ⟨_, by
  unfold opNe; rw [if_pos (by show min 0 0 ≤ 60; decide)]; rfl, h⟩
theorem wo_lenL (h : QR (.val (.int xs.length))) : wO (opLen [.list xs]) QR := ⟨_, rfl, h⟩
theorem wo_lenT (h : QR (.val (.int xs.length))) : wO (opLen [.tuple xs]) QR := ⟨_, rfl, h⟩
theorem wo_intI (h : QR (.val (.int a))) : wO (opInt [.int a]) QR := ⟨_, rfl, h⟩
theorem wo_tupL (h : QR (.val (.tuple xs))) : wO (opTuple [.list xs]) QR := ⟨_, rfl, h⟩
theorem wo_tupT (h : QR (.val (.tuple xs))) : wO (opTuple [.tuple xs]) QR := ⟨_, rfl, h⟩
theorem wo_lstL (h : QR (.tmp (.lst xs))) : wO (opList [.list xs]) QR := ⟨_, rfl, h⟩
theorem wo_lstT (h : QR (.tmp (.lst xs))) : wO (opList [.tuple xs]) QR := ⟨_, rfl, h⟩
theorem wo_ixT (e : atI xs a = some d) (h : QR (.val d)) : wO (opIx (.tuple xs) (.int a)) QR := ⟨_, by unfold opIx seqOf; simp only [Option.bind_some, e, Option.map_some], h⟩
theorem wo_ixL (e : atI xs a = some d) (h : QR (.val d)) : wO (opIx (.list xs) (.int a)) QR := ⟨_, by unfold opIx seqOf; simp only [Option.bind_some, e, Option.map_some], h⟩
theorem boolsOf_map' {α : Type} (p : α → Bool) : ∀ xs : List α, boolsOf (xs.map fun x => .bool (p x)) = some (xs.map p)
  | [] => rfl
  | x :: xs => by show Option.map _ (boolsOf (xs.map fun x => .bool (p x))) = _; rw [boolsOf_map' p xs]; rfl
theorem wo_all {α : Type} {p : α → Bool} {zs : List α} (h : QR (.val (.bool (zs.all p)))) : wO (opAll [.list (zs.map fun x => .bool (p x))]) QR := ⟨_, by
  unfold opAll; simp only [boolsOf_map', Option.map_some, List.all_map, Function.comp_def, id], h⟩
theorem wo_any {α : Type} {p : α → Bool} {zs : List α} (h : QR (.val (.bool (zs.any p)))) : wO (opAny [.list (zs.map fun x => .bool (p x))]) QR := ⟨_, by
  unfold opAny; simp only [boolsOf_map', Option.map_some, List.any_map, Function.comp_def, id], h⟩
end
end KV

end

section
/-! KS1: sorted(set(xs)), xs a list of ints or of tuples of ints. -/
namespace KV
open PySem PySem.Spec PyProof.Rows L2
section
variable {P : Program} {w : World} {A : Around} {E : Value → Shared → Prop} {s : Shared}
/-- a set as it is made -/
abbrev bareSet (w : World) : Obj := { cls := .type "set", dict := none, data := .set #[] 0 (.fresh 0 0 (!w.params.followText "set-order")) }
/-- set(xs) of a list of ints, with what its order is made of -/
theorem set_ints_list {l : Addr} {its : Array Value} (ns : List Int) {Q : Value → Shared → Prop} (calm : A.handled = none) (at_l : s.heap.IsList l its) (vals : IntsAre its.toList ns) (few : ns.length + 1 < scanBound)
    (after : ∀ (h2 : Heap) (tk c : Nat), SetR w h2 s.heap.objs.size (fun j => decide (j ∈ ns)) c → c ≤ ns.length → (∀ b o, s.heap.get? b = some o → h2.get? b = some o) → Q (.ref s.heap.objs.size) { s with heap := h2, toks := tk }) :
    wpAny (model P w) A (call (.type "set") [.ref l]) Q E s := by
  have size_its : its.size = ns.length := (Array.length_toList (xs := its)).symm.trans vals.length
  have f0 := F.called_set.mro
  obtain ⟨_, _, f0⟩ := f0
  have f1 := F.called_set.made
  have f2 := F.called_set.sub
  have f3 := F.called_set.notType
  have f4 := F.called_set.canCreate
  have f5 := F.typeCall_set_1 (.ref l)
  refine wpAny_call (codeAny_of_tree ?_)
  show wpAny _ _ (callAny (.type "set") _) _ _ _
  refine wpAny_pure ⟨Code.quiet_builtin _ (by decide +kernel), codeAny_builtin F.entry_type_call ?_⟩
  rw [Around.under_plain (weight_type_call_type "set" [.ref l] []) rfl]
  repeat (any_goals (first | assumption | wp_step))
  refine codeAny_mono (code_set_led1 (.ref l) (E := E) (Q₁ := fun v t => v = .ref s.heap.objs.size ∧ t = { s with heap := s.heap.push (bareSet w) }) ⟨rfl, rfl⟩) fun got s1 h1 => ?_
  cases got with
  | error e => exact h1
  | ok fl =>
    cases fl with
    | ret v1 =>
      obtain ⟨rfl, rfl⟩ := h1
      have there : (s.heap.push (bareSet w)).get? s.heap.objs.size = some (bareSet w) := Heap.get?_push_size _ rfl
      have tyS : Shared.TypeIs { s with heap := s.heap.push (bareSet w) } (.ref s.heap.objs.size) "set" := ⟨_, there, rfl⟩
      have g1 := F.called_set.init.lookup
      have g2 := F.called_set.init.bind (.ref s.heap.objs.size)
      repeat (any_goals (first | assumption | wp_step))
      refine codeAny_mono (codeAny_call_builtin (R := wants (fun v t => v = .none ∧ ∃ h2 tk c, t = { s with heap := h2, toks := tk } ∧ SetR w h2 s.heap.objs.size (fun j => decide (j ∈ ns)) c ∧ c ≤ ns.length ∧ (∀ b o, s.heap.get? b = some o → h2.get? b = some o)) E)
        F.called_set.init.plain F.entry_set_init (check_set_init_1 tyS ?_)) fun got2 s2 h2 => ?_
      · obtain ⟨⟨cl, dc, da, sl⟩, e0, e1, n0, e2⟩ := at_l
        simp only at e1 e2
        subst e1; subst e2
        have e3 : (s.heap.push (bareSet w)).get? l = some { cls := .type "list", dict := dc, data := .seq its n0, slots := sl } := Heap.get?_push_of_some _ e0
        have u1 := F.sub_list_set
        have u2 := F.sub_list_frozenset
        have u3 : (Value.type "list" == Value.type "dict") = false := by decide
        have at1 : (s.heap.push (bareSet w)).IsList l its := ⟨_, e3, rfl, n0, rfl⟩
        unfold Builtin.«set.__init__» noKeywords Builtin.Frozenset.updateFrom
        generalize hpi : pyIter = pI
        wp_walk
        subst hpi
        refine wpAny_pyIter_list at1 ?_
        refine wpAny_bind (wpAny_runValue ?_)
        have lt0 : l < s.heap.objs.size := Heap.lt_size e0
        have sz1 : (s.heap.push (bareSet w)).objs.size = s.heap.objs.size + 1 := Heap.size_push ..
        have ne1 : l ≠ (s.heap.push (bareSet w)).objs.size := by rw [sz1]; exact Nat.ne_of_lt (Nat.lt_succ_of_lt lt0)
        have out1 : s.heap.objs.size ∉ [(s.heap.push (bareSet w)).objs.size, l] := by
          rw [sz1]; simp only [List.mem_cons, List.not_mem_nil, or_false, not_or]; exact ⟨Nat.ne_of_lt (Nat.lt_succ_self _), Nat.ne_of_gt lt0⟩
        refine set_update_ints ((Walks.list (by simp [calm]) _ l ne1 its).toS) s.heap.objs.size out1 ns size_its few (fun i v hv => ?_) (its.size - 0) 0 _ (by omega) (Nat.zero_le _)
          ⟨⟨_, Heap.get?_push_size _ rfl, rfl, rfl⟩, (at1.push _)⟩ ⟨0, Nat.le_refl 0, setR_new_at (Heap.get?_push_of_some _ there)⟩ ?_
        · have hi : i < ns.length := by rw [← size_its]; exact (Array.getElem?_eq_some_iff.mp hv).1
          obtain ⟨t, et⟩ := vals.get i _ (List.getElem?_eq_getElem hi)
          rw [Array.getElem?_toList, hv] at et
          exact ⟨ns[i], t, List.getElem?_eq_getElem hi, Option.some.inj et⟩
        · intro s3 c3 mv le3 R3
          obtain ⟨h3, gen3, dr3, tk3, os3⟩ := s3
          have q1 : gen3 = s.gens := mv.gens
          have q2 : dr3 = s.drawn := mv.drawn
          have q3 : os3 = s.os := mv.os
          subst q1; subst q2; subst q3
          show wpAny _ _ _ _ _ _
          refine wpAny_pure ?_
          show wpAny _ _ (PySem.ret Value.none) _ _ _
          rw [size_its] at le3
          refine wpAny_pure ⟨rfl, h3, tk3, c3, rfl, R3, le3, fun b o e => ?_⟩
          have ltb := Heap.lt_size e
          exact mv.heap b o (by rw [sz1]; simp only [List.mem_cons, List.not_mem_nil, or_false, not_or]; exact ⟨Nat.ne_of_lt ltb, Nat.ne_of_lt (Nat.lt_succ_of_lt ltb)⟩) (Heap.get?_push_of_some _ (Heap.get?_push_of_some _ e))
      · cases got2 with
        | error e => exact h2
        | ok fl2 =>
          cases fl2 with
          | ret v2 =>
            obtain ⟨rfl, h3, tk3, c3, rfl, R3, le3, keep3⟩ := h2
            repeat (any_goals (first | assumption | wp_step))
            exact after _ _ _ R3 le3 keep3
          | _ => exact h2.elim
    | _ => exact h1.elim
end
section
variable {X : Cx}
def rSetI (K : PySem.W.Frag) (w : World) : List V → Hp → VK → Prop := fun xs H Q => ∃ (l : Addr) (ns : List Int), xs = [V.ref l] ∧ SqL K H l (ns.map V.int) ∧ ns.length < 64 ∧
  ∀ a c, H a = none → c < 64 → Q (.ref a) (upd H a (SetO w a (fun j => decide (j ∈ ns)) c))
theorem cr_setI (hc : X.calm = true) : CallR X (.type "set") (rSetI X.K X.w) := by
  intro pins s σ H xs us Q I r h
  obtain ⟨l, ns, rfl, hl, few, q⟩ := h
  rw [Vals.ref1 r]
  obtain ⟨its, rv, pl, hz⟩ := I.list hl
  have free : H s.heap.objs.size = none := I.hok.fresh (Nat.le_refl _)
  refine set_ints_list (P := X.prog) ns (I.ok.hd hc) pl.isList (by simpa using ints_of_vals rv) (by unfold scanBound; omega) fun h2 tk c R le k => ?_
  exact ⟨.ref s.heap.objs.size, upd H s.heap.objs.size (SetO X.w s.heap.objs.size _ c), I.laid (t' := tk) k (Nat.le_refl _) (setO_new R), rfl, q _ c free (by omega)⟩
end
end KV

end

section
/-! KS2: sorted(set(xs)) by data. -/
namespace KV
open PySem PySem.Spec PyProof.Rows L2
/-- lists of ints by their order -/
def lexB : List Int → List Int → Bool
  | [], [] => false
  | [], _ :: _ => true
  | _ :: _, [] => false
  | a :: r, b :: q => if a < b then true else if b < a then false else lexB r q
theorem lexB_irr : ∀ a : List Int, lexB a a = false
  | [] => rfl
  | a :: r => by unfold lexB; rw [if_neg (Int.lt_irrefl _), if_neg (Int.lt_irrefl _)]; exact lexB_irr r
theorem lexB_trans : ∀ a b c : List Int, lexB a b = true → lexB b c = true → lexB a c = true
  | [], [], _, h, _ => by simp [lexB] at h
  | [], _ :: _, [], _, h => by simp [lexB] at h
  | [], _ :: _, _ :: _, _, _ => rfl
  | _ :: _, [], _, h, _ => by simp [lexB] at h
  | _ :: _, _ :: _, [], _, h => by simp [lexB] at h
  | a :: r, b :: q, c :: p, h1, h2 => by
    unfold lexB at h1 h2 ⊢
    by_cases k1 : a < b
    · by_cases k2 : b < c
      · rw [if_pos (by omega)]
      · rw [if_neg k2] at h2
        by_cases k3 : c < b
        · rw [if_pos k3] at h2; cases h2
        · rw [if_pos (by omega)]
    · rw [if_neg k1] at h1
      by_cases k4 : b < a
      · rw [if_pos k4] at h1; cases h1
      · rw [if_neg k4] at h1
        by_cases k2 : b < c
        · rw [if_pos (by omega)]
        · rw [if_neg k2] at h2
          by_cases k3 : c < b
          · rw [if_pos k3] at h2; cases h2
          · rw [if_neg k3] at h2
            rw [if_neg (by omega), if_neg (by omega)]
            exact lexB_trans r q p h1 h2
theorem lexB_tri : ∀ a b : List Int, lexB a b = true ∨ a = b ∨ lexB b a = true
  | [], [] => .inr (.inl rfl)
  | [], _ :: _ => .inl rfl
  | _ :: _, [] => .inr (.inr rfl)
  | a :: r, b :: q => by
    unfold lexB
    by_cases k1 : a < b
    · rw [if_pos k1]; exact .inl rfl
    · by_cases k2 : b < a
      · rw [if_pos k2]; exact .inr (.inr (if_pos k2))
      · rw [if_neg k1, if_neg k2, if_neg k2, if_neg k1]
        have e : a = b := by omega
        rcases lexB_tri r q with h | h | h
        · exact .inl h
        · exact .inr (.inl (by rw [e, h]))
        · exact .inr (.inr h)
/-- an insertion that drops what is there -/
def insD {α : Type} (lt : α → α → Bool) (x : α) : List α → List α
  | [] => [x]
  | y :: r => if lt x y = true then x :: y :: r else if lt y x = true then y :: insD lt x r else y :: r
def sortD {α : Type} (lt : α → α → Bool) : List α → List α
  | [] => []
  | x :: r => insD lt x (sortD lt r)
structure LtOk {α : Type} (lt : α → α → Bool) : Prop where
  irr : ∀ a, lt a a = false
  trans : ∀ a b c, lt a b = true → lt b c = true → lt a c = true
  tri : ∀ a b, lt a b = true ∨ a = b ∨ lt b a = true
section
variable {α : Type} {lt : α → α → Bool}
theorem insD_mem (o : LtOk lt) (x : α) : ∀ (l : List α) (z : α), z ∈ insD lt x l ↔ z = x ∨ z ∈ l
  | [], z => by simp [insD]
  | y :: r, z => by
    unfold insD
    split
    · simp
    · split
      · rw [List.mem_cons, insD_mem o x r z, List.mem_cons]
        constructor
        · rintro (h | h | h)
          · exact .inr (.inl h)
          · exact .inl h
          · exact .inr (.inr h)
        · rintro (h | h | h)
          · exact .inr (.inl h)
          · exact .inl h
          · exact .inr (.inr h)
      · rename_i h1 h2
        have e : x = y := by
          rcases o.tri x y with h | h | h
          · exact absurd h h1
          · exact h
          · exact absurd h h2
        subst e
        simp
theorem insD_sorted (o : LtOk lt) (x : α) : ∀ l : List α, l.Pairwise (fun a b => lt a b = true) → (insD lt x l).Pairwise (fun a b => lt a b = true)
  | [], _ => by simp [insD]
  | y :: r, h => by
    obtain ⟨h1, h2⟩ := List.pairwise_cons.mp h
    unfold insD
    split
    · rename_i k
      exact List.pairwise_cons.mpr ⟨fun z hz => by
        rcases List.mem_cons.mp hz with e | e
        · rw [e]; exact k
        · exact o.trans _ _ _ k (h1 z e), h⟩
    · split
      · rename_i k
        exact List.pairwise_cons.mpr ⟨fun z hz => by
          rcases (insD_mem o x r z).mp hz with e | e
          · rw [e]; exact k
          · exact h1 z e, insD_sorted o x r h2⟩
      · exact h
theorem sortD_mem (o : LtOk lt) : ∀ (l : List α) (z : α), z ∈ sortD lt l ↔ z ∈ l
  | [], z => by simp [sortD]
  | x :: r, z => by unfold sortD; rw [insD_mem o, sortD_mem o r z, List.mem_cons]
theorem sortD_sorted (o : LtOk lt) : ∀ l : List α, (sortD lt l).Pairwise (fun a b => lt a b = true)
  | [] => List.Pairwise.nil
  | x :: r => insD_sorted o x _ (sortD_sorted o r)
theorem sorted_uniq (o : LtOk lt) : ∀ l m : List α, l.Pairwise (fun a b => lt a b = true) → m.Pairwise (fun a b => lt a b = true) → (∀ z, z ∈ l ↔ z ∈ m) → l = m
  | [], [], _, _, _ => rfl
  | [], y :: m, _, _, h => absurd ((h y).mpr (by simp)) (by simp)
  | x :: l, [], _, _, h => absurd ((h x).mp (by simp)) (by simp)
  | x :: l, y :: m, h1, h2, h => by
    obtain ⟨a1, a2⟩ := List.pairwise_cons.mp h1
    obtain ⟨b1, b2⟩ := List.pairwise_cons.mp h2
    have e : x = y := by
      rcases List.mem_cons.mp ((h x).mp (by simp)) with q | q
      · exact q
      · rcases List.mem_cons.mp ((h y).mpr (by simp)) with p | p
        · exact p.symm
        · have := o.trans _ _ _ (a1 y p) (b1 x q)
          rw [o.irr] at this; cases this
    subst e
    rw [sorted_uniq o l m a2 b2 fun z => ⟨fun hz => ?_, fun hz => ?_⟩]
    · rcases List.mem_cons.mp ((h z).mp (by simp [hz])) with q | q
      · subst q; have := a1 z hz; rw [o.irr] at this; cases this
      · exact q
    · rcases List.mem_cons.mp ((h z).mpr (by simp [hz])) with q | q
      · subst q; have := b1 z hz; rw [o.irr] at this; cases this
      · exact q
end
def ltI (a b : Int) : Bool := decide (a < b)
theorem ltI_ok : LtOk ltI := ⟨fun a => decide_eq_false (by omega), fun a b c h1 h2 => by unfold ltI at *; simp at *; omega, fun a b => by unfold ltI; simp; omega⟩
theorem lexB_ok : LtOk lexB := ⟨lexB_irr, lexB_trans, lexB_tri⟩
theorem code_lexB {B : Int} : ∀ a b : List Int, a.length = b.length → TS.Bd B a → TS.Bd B b → (TS.code B a < TS.code B b ↔ lexB a b = true)
  | [], [], _, _, _ => by simp [lexB]
  | [], _ :: _, h, _, _ => by simp at h
  | _ :: _, [], h, _, _ => by simp at h
  | a :: r, b :: q, h, h1, h2 => by
    have hl : r.length = q.length := by simpa using h
    unfold lexB
    by_cases k1 : a < b
    · rw [if_pos k1]; exact ⟨fun _ => rfl, fun _ => TS.code_lt hl h1.tail h2.tail k1⟩
    · rw [if_neg k1]
      by_cases k2 : b < a
      · rw [if_pos k2]
        have := TS.code_lt hl.symm h2.tail h1.tail k2
        exact ⟨fun z => by omega, fun z => by cases z⟩
      · rw [if_neg k2]
        have e : a = b := by omega
        subst e
        rw [TS.code_same hl]
        exact code_lexB r q hl h1.tail h2.tail
/-! data -/
def intsD : List PyData → Option (List Int)
  | [] => some []
  | .int i :: r => (intsD r).map (i :: ·)
  | _ => none
theorem intsD_some : ∀ {ds : List PyData} {ns : List Int}, intsD ds = some ns → ds = ns.map .int
  | [], ns, h => by cases h; rfl
  | .int i :: r, ns, h => by
    unfold intsD at h
    obtain ⟨ms, h1, h2⟩ := Option.map_eq_some_iff.mp h
    rw [intsD_some h1, ← h2]; rfl
  | .none :: _, _, h => by cases h
  | .bool _ :: _, _, h => by cases h
  | .str _ :: _, _, h => by cases h
  | .list _ :: _, _, h => by cases h
  | .tuple _ :: _, _, h => by cases h
  | .dict _ :: _, _, h => by cases h
theorem intsD_map : ∀ ns : List Int, intsD (ns.map .int) = some ns
  | [] => rfl
  | n :: ns => by show Option.map _ (intsD (ns.map .int)) = _; rw [intsD_map ns]; rfl
def tupD (k : List Int) : PyData := .tuple (k.map .int)
def tupsD : List PyData → Option (List (List Int))
  | [] => some []
  | .tuple ds :: r => (intsD ds).bind fun k => (tupsD r).map (k :: ·)
  | _ => none
theorem tupsD_some : ∀ {ds : List PyData} {ks : List (List Int)}, tupsD ds = some ks → ds = ks.map tupD
  | [], ns, h => by cases h; rfl
  | .tuple ds :: r, ns, h => by
    unfold tupsD at h
    obtain ⟨k, h1, h⟩ := Option.bind_eq_some_iff.mp h
    obtain ⟨ms, h2, h3⟩ := Option.map_eq_some_iff.mp h
    rw [tupsD_some h2, ← h3, intsD_some h1]; rfl
  | .none :: _, _, h => by cases h
  | .bool _ :: _, _, h => by cases h
  | .str _ :: _, _, h => by cases h
  | .list _ :: _, _, h => by cases h
  | .int _ :: _, _, h => by cases h
  | .dict _ :: _, _, h => by cases h
theorem tupsD_map : ∀ ks : List (List Int), tupsD (ks.map tupD) = some ks
  | [] => rfl
  | k :: ks => by
    show (intsD (k.map .int)).bind (fun k => (tupsD (ks.map tupD)).map (k :: ·)) = _
    rw [intsD_map, tupsD_map ks]; rfl
/-- tuples of one length from 1, of numbers from 0 -/
def evenK : List (List Int) → Bool
  | [] => true
  | k :: r => decide (1 ≤ k.length) && (k :: r).all fun j => decide (j.length = k.length) && j.all fun n => decide (0 ≤ n)
theorem evenK_bd {ks : List (List Int)} (h : evenK ks = true) : ∃ (d : Nat) (B : Int), 1 ≤ d ∧ ∀ k ∈ ks, k.length = d ∧ TS.Bd B k := by
  cases ks with
  | nil => exact ⟨1, 1, Nat.le_refl _, fun k hk => (by cases hk)⟩
  | cons k0 r =>
    unfold evenK at h
    simp only [Bool.and_eq_true, decide_eq_true_eq, List.all_eq_true] at h
    obtain ⟨h0, h1⟩ := h
    have bd : ∀ l : List (List Int), ∃ B : Int, ∀ k ∈ l, ∀ n ∈ k, n < B := by
      intro l
      induction l with
      | nil => exact ⟨0, fun k hk => (by cases hk)⟩
      | cons k l ih =>
        obtain ⟨B, hB⟩ := ih
        have b1 : ∀ k : List Int, ∃ B : Int, ∀ n ∈ k, n < B := by
          intro k
          induction k with
          | nil => exact ⟨0, fun n hn => (by cases hn)⟩
          | cons n k ih =>
            obtain ⟨B, hB⟩ := ih
            refine ⟨max B (n + 1), fun m hm => ?_⟩
            rcases List.mem_cons.mp hm with e | e
            · omega
            · have := hB m e; omega
        obtain ⟨C, hC⟩ := b1 k
        refine ⟨max B C, fun j hj n hn => ?_⟩
        rcases List.mem_cons.mp hj with e | e
        · subst e; have := hC n hn; omega
        · have := hB j e n hn; omega
    obtain ⟨B, hB⟩ := bd (k0 :: r)
    exact ⟨k0.length, B, h0, fun k hk => ⟨(h1 k hk).1, fun n hn => ⟨(h1 k hk).2 n hn, hB k hk n hn⟩⟩⟩
def opSSl (ds : List PyData) : Option R := match intsD ds with
  | some ns => some (.tmp (.lst ((sortD ltI ns).map .int)))
  | none => match tupsD ds with
    | some ks => if evenK ks = true then some (.tmp (.lst ((sortD lexB ks).map tupD))) else none
    | none => none
def opSS : PyData → Option R
  | .list ds => if ds.length < 64 then opSSl ds else none
  | _ => none
theorem opSS_int {ns : List Int} (h : ns.length < 64) : opSS (.list (ns.map .int)) = some (.tmp (.lst ((sortD ltI ns).map .int))) := by
  unfold opSS opSSl; simp only [List.length_map, h, if_true, intsD_map]
theorem opSS_tup {k : List Int} {ks : List (List Int)} (h : (k :: ks).length < 64) (he : evenK (k :: ks) = true) : opSS (.list ((k :: ks).map tupD)) = some (.tmp (.lst ((sortD lexB (k :: ks)).map tupD))) := by
  have e : intsD ((k :: ks).map tupD) = none := rfl
  unfold opSS opSSl; simp only [List.length_map, h, if_true, e, tupsD_map, he]
theorem opSS_nil : opSS (.list []) = some (.tmp (.lst [])) := rfl
section
variable {X : Cx} {a : Expr} {f : Den} {pos p p2 q : Pos}
theorem RpAll.tups {K : PySem.W.Frag} {H : Hp} : ∀ {vs : List V} {ks : List (List Int)}, RpAll K H vs (ks.map tupD) → ∃ L : List (Addr × List Int), vs = L.map (fun p => V.ref p.1) ∧ L.map (·.2) = ks ∧ ∀ p ∈ L, SqT K H p.1 (p.2.map V.int)
  | _, [], h => by cases h; exact ⟨[], rfl, rfl, fun p hp => (by cases hp)⟩
  | _, k :: ks, h => by
    cases h with
    | cons h1 h2 =>
      obtain ⟨L, e1, e2, e3⟩ := RpAll.tups h2
      cases h1 with
      | @tup b us ds s r =>
        have e := RpAll.ints_of r
        refine ⟨(b, k) :: L, by rw [e1]; rfl, by rw [List.map_cons, e2], fun p hp => ?_⟩
        rcases List.mem_cons.mp hp with z | z
        · subst z; rw [← e]; exact s
        · exact e3 p z
theorem RpAll.of_tups {K : PySem.W.Frag} {H : Hp} : ∀ {L : List (Addr × List Int)}, (∀ p ∈ L, SqT K H p.1 (p.2.map V.int)) → RpAll K H (L.map fun p => V.ref p.1) ((L.map (·.2)).map tupD)
  | [], _ => .nil
  | p :: L, h => .cons (.tup (h p (List.mem_cons_self ..)) (RpAll.ints _)) (RpAll.of_tups fun q hq => h q (List.mem_cons_of_mem _ hq))
theorem ex_ss (hc : X.calm = true) (hu : X.A.units + 64 < cLine) (hg : Gl X "sorted") (hm : X.mg "sorted" = none) (hg2 : Gl X "set") (hm2 : X.mg "set" = none) (hv : bootBuiltins ("sorted" : Str) = some (.builtin "sorted")) (hv2 : bootBuiltins ("set" : Str) = some (.type "set")) (ha : Ex X a f)
    (he : starEach [a] X.env = [(false, eval a X.env)] := by rfl) (hpl : (backTo q (starEach [] X.env)).any (·.1) = false := by rfl)
    (he2 : starEach [.Call (.Name "set" p2) [a] [] q] X.env = [(false, eval (.Call (.Name "set" p2) [a] [] q) X.env)] := by rfl) (hpl2 : (backTo pos (starEach [] X.env)).any (·.1) = false := by rfl) :
    Ex X (.Call (.Name "sorted" p) [.Call (.Name "set" p2) [a] [] q] [] pos) (dUn f opSS) := by
  refine ⟨fun pins s σ H Q I hw => ?_⟩
  obtain ⟨O, r, z, r', E, hf, k⟩ := hw
  obtain ⟨x, d, q1, q3, q5⟩ := un_inv hf
  cases d with
  | list ds =>
    have q5 : (if ds.length < 64 then opSSl ds else none) = some z := q5
    by_cases hl : ds.length < 64
    · rw [if_pos hl] at q5
      unfold opSSl at q5
      cases hi : intsD ds with
      | some ns =>
        rw [hi] at q5
        cases q5
        have eds := intsD_some hi
        subst eds
        rw [List.length_map] at hl
        refine (pe_callB (cr_sortedSet hc) hg hm hv (pa_cons (pe_callTy (cr_setI hc) hg2 hm2 hv2 (pa_cons ha pa_nil he) (by decide) (by decide) he hpl) pa_nil he2) (by decide) (by decide) he2 hpl2).run pins s σ H Q I ?_
        refine ⟨O, r, x, r', E, q1, fun H1 O1 v st1 E1 kp1 ro1 => ?_⟩
        obtain ⟨l, vs, rfl, hq, ra⟩ := (ro1.deref E1 q3).list
        have ev := RpAll.ints_of ra
        subst ev
        refine ⟨l, ns, rfl, hq, hl, fun b c hb hc64 => ⟨b, _, c, rfl, upd_same, hc64, fun ms p hs hm hlen hp => ?_⟩⟩
        have em : ms = sortD ltI ns := sorted_uniq ltI_ok _ _ (hs.imp fun {a b} h => decide_eq_true h) (sortD_sorted ltI_ok ns) fun z => by
          rw [hm, sortD_mem ltI_ok, decide_eq_true_iff]
        subst em
        have hp1 : H1 p = none := by
          by_cases e : p = b
          · rw [e, upd_same] at hp; cases hp
          · rw [upd_ne e] at hp; exact hp
        have sm : Same H1 (upd (upd H1 b (SetO X.w b (fun j => decide (j ∈ ns)) c)) p (.lst ((sortD ltI ns).map V.int))) := fun c u e => by
          rw [upd_ne (ne_of_none e hp1), upd_ne (ne_of_none e hb)]; exact e
        obtain ⟨O3, st3, E3, ro3⟩ := NewR.done (x := .tmp (.lst ((sortD ltI ns).map .int))) (v := .ref p) ⟨sm, p, rfl, hp1, _, upd_same, RpAll.ints _⟩ E1
        exact k _ O3 _ (st1.trans st3) E3 kp1 ro3
      | none =>
        rw [hi] at q5
        cases ht : tupsD ds with
        | none => rw [ht] at q5; cases q5
        | some ks =>
          rw [ht] at q5
          have q5 : (if evenK ks = true then some (R.tmp (.lst ((sortD lexB ks).map tupD))) else none) = some z := q5
          by_cases hev : evenK ks = true
          · rw [if_pos hev] at q5
            cases q5
            have eds := tupsD_some ht
            subst eds
            rw [List.length_map] at hl
            obtain ⟨dd, B, hd, hB⟩ := evenK_bd hev
            refine (pe_callB (cr_sortedT hc) hg hm hv (pa_cons (pe_callTy (cr_setOfT hc hu) hg2 hm2 hv2 (pa_cons ha pa_nil he) (by decide) (by decide) he hpl) pa_nil he2) (by decide) (by decide) he2 hpl2).run pins s σ H Q I ?_
            refine ⟨O, r, x, r', E, q1, fun H1 O1 v st1 E1 kp1 ro1 => ?_⟩
            obtain ⟨l, vs, rfl, hq, ra⟩ := (ro1.deref E1 q3).list
            obtain ⟨L0, ev, ek, hsq⟩ := RpAll.tups ra
            subst ev ek
            refine ⟨l, L0, rfl, hq, hsq, by rw [List.length_map] at hl; exact hl, fun b L hb hsub hall => ⟨b, L, dd, B, rfl, upd_same, fun p hp => ?_, hd, fun p hp => hB _ (List.mem_map.mpr ⟨p, hsub p hp, rfl⟩), fun L' p pm nd hfew pw hp => ?_⟩⟩
            · have : Same H1 (upd H1 b (SetTO X.prog X.w b L)) := same_upd hb
              exact SqT.fx (Fx.of_same this) (hsq p (hsub p hp))
            · have hp1 : H1 p = none := by
                by_cases e : p = b
                · rw [e, upd_same] at hp; cases hp
                · rw [upd_ne e] at hp; exact hp
              have sub : ∀ p ∈ L', p ∈ L0 := fun p hp => hsub p (pm.mem_iff.mp hp)
              have bd : ∀ p ∈ L', p.2.length = dd ∧ TS.Bd B p.2 := fun p hp => hB _ (List.mem_map.mpr ⟨p, sub p hp, rfl⟩)
              have em : L'.map (·.2) = sortD lexB (L0.map (·.2)) := by
                refine sorted_uniq lexB_ok _ _ ?_ (sortD_sorted lexB_ok _) fun z => ?_
                · rw [List.pairwise_map]
                  rw [List.nodup_iff_pairwise_ne, List.pairwise_map] at nd
                  refine (pw.and nd).imp_of_mem fun {a b} ma mb ⟨h1, h2⟩ => ?_
                  have la := bd a ma
                  have lb := bd b mb
                  rcases lexB_tri a.2 b.2 with h | h | h
                  · exact h
                  · exact absurd h h2
                  · have := (code_lexB _ _ (by rw [la.1, lb.1]) lb.2 la.2).mpr h
                    omega
                · rw [sortD_mem lexB_ok]
                  constructor
                  · intro hz
                    obtain ⟨p, hp, e⟩ := List.mem_map.mp hz
                    exact List.mem_map.mpr ⟨p, sub p hp, e⟩
                  · intro hz
                    obtain ⟨p, hp, e⟩ := List.mem_map.mp hz
                    have := hall p hp
                    rw [e] at this
                    obtain ⟨p', hp', e'⟩ := List.mem_map.mp this
                    exact List.mem_map.mpr ⟨p', pm.mem_iff.mpr hp', e'⟩
              have sm : Same H1 (upd (upd H1 b (SetTO X.prog X.w b L)) p (.lst (L'.map fun q => V.ref q.1))) := fun c u e => by
                rw [upd_ne (ne_of_none e hp1), upd_ne (ne_of_none e hb)]; exact e
              have ra2 := RpAll.of_tups (K := X.K) (H := upd (upd H1 b (SetTO X.prog X.w b L)) p (.lst (L'.map fun q => V.ref q.1))) (L := L') fun p hp => SqT.fx (Fx.of_same sm) (hsq p (sub p hp))
              rw [em] at ra2
              obtain ⟨O3, st3, E3, ro3⟩ := NewR.done (x := .tmp (.lst ((sortD lexB (L0.map (·.2))).map tupD))) (v := .ref p) ⟨sm, p, rfl, hp1, _, upd_same, ra2⟩ E1
              exact k _ O3 _ (st1.trans st3) E3 kp1 ro3
          · rw [if_neg hev] at q5; cases q5
    · rw [if_neg hl] at q5; cases q5
  | none => cases q5
  | bool _ => cases q5
  | int _ => cases q5
  | str _ => cases q5
  | tuple _ => cases q5
  | dict _ => cases q5
end
end KV

end

section
/-! KS3: list(range(n)). -/
namespace KV
open PySem PySem.Spec PyProof.Rows L2
section
variable {X : Cx} {a : Expr} {f : Den} {pos p p2 q : Pos}
def opLR : PyData → Option R
  | .int j => if 0 ≤ j ∧ j ≤ 16777216 then some (.tmp (.lst (rangeD 0 j.toNat))) else none
  | _ => none
theorem rgV_rp {K : PySem.W.Frag} {H : Hp} (j : Int) : RpAll K H (rgV 0 j) (rangeD 0 j.toNat) := by
  unfold rgV rangeD
  rw [Int.sub_zero]
  generalize List.range j.toNat = l
  induction l with
  | nil => exact .nil
  | cons n l ih => exact .cons (.int _) ih
theorem ex_lr (hc : X.calm = true) (hg : Gl X "list") (hm : X.mg "list" = none) (hg2 : Gl X "range") (hm2 : X.mg "range" = none) (ha : Ex X a f)
    (na : starEach [a] X.env = (false, eval a X.env) :: starEach [] X.env := by rfl) (na2 : starEach [.Call (.Name "range" p2) [a] [] q] X.env = (false, eval (.Call (.Name "range" p2) [a] [] q) X.env) :: starEach [] X.env := by rfl) :
    Ex X (.Call (.Name "list" p) [.Call (.Name "range" p2) [a] [] q] [] pos) (dUn f opLR) := by
  refine ⟨fun pins s σ H Q I hw => (pe_listRg hc hg hm (prg_1 hg2 hm2 ha na) na2).run pins s σ H Q I ?_⟩
  obtain ⟨O, r, z, r', E, hf, k⟩ := hw
  obtain ⟨x, d, q1, q3, q5⟩ := un_inv hf
  refine ⟨O, r, x, r', E, q1, fun H1 O1 v st1 E1 kp1 ro1 => ?_⟩
  have bp := ro1.deref E1 q3
  cases d with
  | int j =>
    have e := bp.int
    subst e
    have q5 : (if 0 ≤ j ∧ j ≤ 16777216 then some (R.tmp (.lst (rangeD 0 j.toNat))) else none) = some z := q5
    by_cases c : 0 ≤ j ∧ j ≤ 16777216
    · rw [if_pos c] at q5
      cases q5
      refine ⟨j, rfl, RgOk.of_le (by omega) (by omega) (by omega) (by omega), fun p hp => ?_⟩
      obtain ⟨O3, st3, E3, ro3⟩ := (new_lst hp (rgV_rp j)).done E1
      exact k _ O3 _ (st1.trans st3) E3 kp1 ro3
    · rw [if_neg c] at q5; cases q5
  | none => cases q5
  | bool _ => cases q5
  | str _ => cases q5
  | list _ => cases q5
  | tuple _ => cases q5
  | dict _ => cases q5
end
end KV

end

section
/-! KS4: a list of lists that are told; the first one of them is changed when it was looked at. -/
namespace KV
open PySem PySem.Spec PyProof.Rows L2
section
variable {X : Cx} {e a : Expr} {t : TE} {ts : TS} {st : Stmt} {pos : Pos} {io : Bool}
/-- what e gives is locked at once -/
theorem pe_lock (h : PE X e t) : PE X e (fun σ H Q => t σ H fun v H1 => ∃ p u, v = .ref p ∧ H1 p = some u ∧ Mut (some u) ∧ ∀ od, (∀ o' u', X.H_0 p ≠ some (.frz o' u')) → Q v (upd H1 p (.frz od u))) := by
  refine ⟨fun pins s σ H Q I hw => thn (h.run pins s σ H _ I hw) ?_⟩
  intro v s1 hh
  obtain ⟨v', H1, I1, rv, p, u, rfl, hu, mu, k⟩ := hh
  obtain ⟨od, I2⟩ := I1.lock hu mu
  exact ⟨_, _, I2, rv, k od (I1.nofrz hu mu)⟩
/-- what is locked is free again ahead of a statement -/
theorem ps_free (h : PS X st ts) : PS X st (fun D σ H => ∃ p od u, H p = some (.frz od u) ∧ (∀ o' u', X.H_0 p ≠ some (.frz o' u')) ∧ ts D σ (upd H p u)) := by
  refine ⟨fun pins s σ H D I hw => ?_⟩
  obtain ⟨p, od, u, hp, hn, k⟩ := hw
  exact h.run pins s σ _ D (I.unlock hp hn) k
def getAll {α : Type} (σ : List (Option α)) : List Nat → Option (List α)
  | [] => some []
  | i :: is => match σ[i]? with
    | some (some v) => (getAll σ is).map (v :: ·)
    | _ => none
def getFz (r : Nms) : List Nat → Option (List PyData)
  | [] => some []
  | i :: is => match r[i]? with
    | some (.fz d) => (getFz r is).map (d :: ·)
    | _ => none
theorem getFz_get {K : PySem.W.Frag} {H : Hp} {O : Addr → Prop} {r : Nms} {σ : L2.St} (E : EnvOk K H O r σ) : ∀ {is : List Nat} {ds : List PyData}, getFz r is = some ds → ∃ vs, getAll σ is = some vs ∧ RpAll K H vs ds
  | [], ds, h => by cases h; exact ⟨[], rfl, .nil⟩
  | i :: is, ds, h => by
    unfold getFz at h
    split at h
    · rename_i d q
      obtain ⟨es, h1, h2⟩ := Option.map_eq_some_iff.mp h
      subst h2
      obtain ⟨vs, h3, h4⟩ := getFz_get E h1
      obtain ⟨v, e1, x, e2, rp⟩ := E.ok i _ q
      subst e2
      exact ⟨x :: vs, by unfold getAll; rw [e1]; simp only [h3, Option.map_some], .cons rp h4⟩
    · cases h
theorem getAll_set {σ : L2.St} {i : Nat} {v : Option V} : ∀ {is : List Nat}, i ∉ is → getAll (σ.set i v) is = getAll σ is
  | [], _ => rfl
  | j :: is, h => by
    unfold getAll
    rw [List.getElem?_set_ne (fun z => h (by rw [z]; simp)), getAll_set fun z => h (List.mem_cons_of_mem _ z)]
/-- a call of a pure def upon names -/
structure PCall (X : Cx) (e : Expr) (is : List Nat) (F : List PyData → Option R) : Prop where
  pe : PE X e (fun σ H Q => ∃ vs ds z, getAll σ is = some vs ∧ RpAll X.K H vs ds ∧ F ds = some z ∧ ∀ H' w, NewR X.K H H' w z → Q w H')
structure PVars (X : Cx) (es : List Expr) (is : List Nat) : Prop where
  pa : PA X es (fun σ H Q => ∃ vs, getAll σ is = some vs ∧ Q vs H)
theorem pvars_nil : PVars X [] [] := ⟨⟨fun pos pins s σ H Q I hw => by obtain ⟨vs, h, q⟩ := hw; cases h; exact pa_nil.run pos pins s σ H Q I q⟩⟩
theorem pvars_cons {es : List Expr} {i : Nat} {is : List Nat} (h : PE X e (tVar i)) (r : PVars X es is) (hs : starEach (e :: es) X.env = (false, eval e X.env) :: starEach es X.env := by rfl) : PVars X (e :: es) (i :: is) := by
  refine ⟨⟨fun pos pins s σ H Q I hw => (pa_cons h r.pa hs).run pos pins s σ H Q I ?_⟩⟩
  obtain ⟨vs, h, q⟩ := hw
  unfold getAll at h
  split at h
  · rename_i v e
    obtain ⟨us, h1, h2⟩ := Option.map_eq_some_iff.mp h
    subst h2
    exact ⟨v, e, us, h1, q⟩
  · cases h
theorem pcall {k : Nat} {f : Addr} {fd : FuncData} {ps : List Str} {F : List PyData → Option R} {x : Str} {p : Pos} {es : List Expr} {is : List Nat} (hF : FnP X.prog X.w X.K X.mg X.base k f fd ps F) (hgd : X.A.guards = some []) (hr : Room k X.A) (hm : X.mg x = some (.ref f)) (hk : PySem.W.keepIn X.K (.ref f) = true) (hb : Binds X.K fd ps [])
    (ha : PVars X (e :: es) is) (hl : is.length = ps.length) (hg : Gl X x := by rfl) (hdb : (x == ("__debug__" : Str)) = false := by decide) (he : starEach (e :: es) X.env = (false, eval e X.env) :: starEach es X.env := by rfl) (hpl : (backTo pos (starEach es X.env)).any (·.1) = false := by rfl) :
    PCall X (.Call (.Name x p) (e :: es) [] pos) is F := by
  refine ⟨⟨fun pins s σ H Q I hw => (pe_callG hF hgd hr hg hm hk hb .nil pass0 ha.pa hdb he hpl).run pins s σ H Q I ?_⟩⟩
  obtain ⟨vs, ds, z, h1, h2, h3, k⟩ := hw
  refine ⟨vs, h1, ds, z, by rw [List.append_nil]; exact h2, ?_, h3, k⟩
  rw [← hl, ← h2.length]
  have : ∀ (is : List Nat) (vs : List V), getAll σ is = some vs → vs.length = is.length := by
    intro is
    induction is with
    | nil => intro vs h; cases h; rfl
    | cons i is ih =>
      intro vs h
      unfold getAll at h
      split at h
      · obtain ⟨us, h1, h2⟩ := Option.map_eq_some_iff.mp h
        subst h2
        rw [List.length_cons, List.length_cons, ih us h1]
      · cases h
  exact this is vs h1
/-- .. by keywords -/
structure KVars (X : Cx) (kws : List Keyword) (is : List Nat) : Prop where
  pk : PK X kws (fun σ H Q => ∃ vs, getAll σ is = some vs ∧ Q vs H)
theorem kvars_nil : KVars X [] [] := ⟨⟨fun pos pins s σ H Q I hw => by obtain ⟨vs, h, q⟩ := hw; cases h; exact pk_nil.run pos pins s σ H Q I q⟩⟩
theorem kvars_cons {kws : List Keyword} {nm : Option Str} {kpos : Pos} {i : Nat} {is : List Nat} (h : PE X e (tVar i)) (r : KVars X kws is) : KVars X (⟨nm, e, kpos⟩ :: kws) (i :: is) := by
  refine ⟨⟨fun pos pins s σ H Q I hw => (pk_cons h r.pk).run pos pins s σ H Q I ?_⟩⟩
  obtain ⟨vs, h, q⟩ := hw
  unfold getAll at h
  split at h
  · rename_i v e
    obtain ⟨us, h1, h2⟩ := Option.map_eq_some_iff.mp h
    subst h2
    exact ⟨v, e, us, h1, q⟩
  · cases h
theorem getAll_length {σ : L2.St} : ∀ {is : List Nat} {vs : List V}, getAll σ is = some vs → vs.length = is.length
  | [], vs, h => by cases h; rfl
  | i :: is, vs, h => by
    unfold getAll at h
    split at h
    · obtain ⟨us, h1, h2⟩ := Option.map_eq_some_iff.mp h
      subst h2
      rw [List.length_cons, List.length_cons, getAll_length h1]
    · cases h
theorem pcallK {k n : Nat} {f : Addr} {fd : FuncData} {ps ks : List Str} {F : List PyData → Option R} {x : Str} {p : Pos} {kws : List Keyword} {is js : List Nat} (hF : FnP X.prog X.w X.K X.mg X.base k f fd ps F) (hgd : X.A.guards = some []) (hr : Room k X.A) (hm : X.mg x = some (.ref f)) (hk : PySem.W.keepIn X.K (.ref f) = true)
    (hb : KBinds X.K fd ps ks (pickK js 0 n) (pickK js 0 n)) (ha : KVars X kws is) (hn : is.length = n) (hl : ∀ vs : List PyData, vs.length = n → (pick js vs).length = ps.length) (hg : Gl X x := by rfl) (hall : (backToKw pos (keywordEach kws X.env)).all (·.1.isSome) = true := by rfl) (hks : (backToKw pos (keywordEach kws X.env)).filterMap (·.1) = ks := by rfl)
    (hdb : (x == ("__debug__" : Str)) = false := by decide) (hpl : ((backTo pos (starEach [] X.env)).any (·.1) || (backToKw pos (keywordEach kws X.env)).any (·.1.isNone)) = false := by rfl) :
    PCall X (.Call (.Name x p) [] kws pos) is (fun ds => F (pick js ds)) := by
  refine ⟨⟨fun pins s σ H Q I hw => (pe_callK0 hF hgd hr hg hm hk hb pass0 ha.pk hall hks hdb hpl).run pins s σ H Q I ?_⟩⟩
  obtain ⟨vs, ds, z, h1, h2, h3, kk⟩ := hw
  refine ⟨vs, h1, ?_⟩
  show spP X.K ps.length F (pickK js 0 n [] vs) H Q E0
  unfold pickK
  have lv : vs.length = n := by rw [← hn]; exact getAll_length h1
  rw [if_pos ⟨rfl, lv⟩]
  exact ⟨_, z, h2.pick js, hl _ (by rw [← h2.length]; exact lv), h3, kk⟩
/-! the lists that are told -/
abbrev Tell := List Nat × (List PyData → Option R)
def tmpL : R → Option (List PyData)
  | .tmp (.lst ds) => some ds
  | _ => none
theorem tmpL_some {x : R} {ds : List PyData} (h : tmpL x = some ds) : x = .tmp (.lst ds) := by
  cases x with
  | tmp c => cases c with | lst es => cases h; rfl
  | val _ => cases h
  | slot _ => cases h
def tellD (r : Nms) : List Tell → Option (List (List PyData))
  | [] => some []
  | c :: cs => (getFz r c.1).bind fun as => (c.2 as).bind fun x => (tmpL x).bind fun ds => (tellD r cs).map (ds :: ·)
inductive PCalls (X : Cx) : List Expr → List Tell → Prop
  | nil : PCalls X [] []
  | cons {e : Expr} {es : List Expr} {c : Tell} {cs : List Tell} : PCall X e c.1 c.2 → PCalls X es cs → starEach (e :: es) X.env = (false, eval e X.env) :: starEach es X.env → PCalls X (e :: es) (c :: cs)
def tTells (X : Cx) (cs : List Tell) : TA := fun σ H Q => ∃ (O : Addr → Prop) (r : Nms) (dss : List (List PyData)), EnvOk X.K H O r σ ∧ tellD r cs = some dss ∧
  ∀ H' ws, Same H H' → RpAll X.K H' ws (dss.map .list) → (∀ w0 wr d0 dr, ws = w0 :: wr → dss = d0 :: dr → ∃ p xs od, w0 = .ref p ∧ H p = none ∧ H' p = some (.frz od (.lst xs)) ∧ xs.length = d0.length ∧ ∀ o' u', X.H_0 p ≠ some (.frz o' u')) → Q ws H'
theorem pa_tells : ∀ {es : List Expr} {cs : List Tell}, PCalls X es cs → PA X es (tTells X cs)
  | _, _, .nil => by
    refine ⟨fun pos pins s σ H Q I hw => ?_⟩
    obtain ⟨O, r, dss, E, hd, k⟩ := hw
    cases hd
    exact pa_nil.run pos pins s σ H Q I (k H [] (Same.refl H) .nil fun _ _ _ _ z => by cases z)
  | _, _, @PCalls.cons _ e es c cs h1 h2 hs => by
    refine ⟨fun pos pins s σ H Q I hw => (pa_cons (pe_lock h1.pe) (pa_tells h2) hs).run pos pins s σ H Q I ?_⟩
    obtain ⟨O, r, dss, E, hd, k⟩ := hw
    unfold tellD at hd
    obtain ⟨as, q1, hd⟩ := Option.bind_eq_some_iff.mp hd
    obtain ⟨x, q2, hd⟩ := Option.bind_eq_some_iff.mp hd
    obtain ⟨ds, q3, hd⟩ := Option.bind_eq_some_iff.mp hd
    obtain ⟨dr, q4, hd⟩ := Option.map_eq_some_iff.mp hd
    subst hd
    have := tmpL_some q3
    subst this
    obtain ⟨vs, g1, g2⟩ := getFz_get E q1
    refine ⟨vs, as, _, g1, g2, q2, fun H1 w nr => ?_⟩
    obtain ⟨sm, p, rfl, hp, xs, hx, rx⟩ := nr
    refine ⟨p, .lst xs, rfl, hx, trivial, fun od hn => ?_⟩
    have sm2 : Same H (upd H1 p (.frz od (.lst xs))) := fun b o eb => by rw [upd_ne (ne_of_none eb hp)]; exact sm b o eb
    refine ⟨O, r, dr, E.same sm2, q4, fun H2 ws sm3 ra _ => ?_⟩
    have hp2 : H2 p = some (.frz od (.lst xs)) := sm3 _ _ upd_same
    have fx : Fx H1 H2 := by
      refine ⟨fun b o u eb => sm3 _ _ ?_, fun b ys eb => sm3 _ _ ?_⟩
      · rw [upd_ne (fun z => by rw [z, hx] at eb; cases eb)]; exact eb
      · rw [upd_ne (fun z => by rw [z, hx] at eb; cases eb)]; exact eb
    refine k H2 (.ref p :: ws) (fun b o eb => sm3 _ _ (sm2 b o eb)) (.cons (.lst (.inl ⟨od, hp2⟩) (rx.fx fx)) ra) fun w0 wr d0 dr' e1 e2 => ?_
    cases e1; cases e2
    exact ⟨p, xs, od, rfl, hp, hp2, rx.length, hn⟩
/-! the three statements -/
def dTell (i : Nat) (cs : List Tell) (F : List PyData → Option R) (js : List Nat) : DenS := fun r => (tellD r cs).bind fun dss => (getFz r js).bind fun dvs =>
  if (dss ≠ [] ∧ dss.length ≤ sizeLine ∧ (dss.headD []).length < sizeLine ∧ dvs.length ≤ sizeLine) then (F [.list (dss.map .list), .list dvs]).bind fun z => match z with
    | .val (.bool true) => (setSl i .un r).map .nx
    | .val (.bool false) => (setSl i .un r).map (.rt (.val (.bool false)))
    | _ => none
  else none
theorem bx_tell {i k0 : Nat} {f : Addr} {fd : FuncData} {ps : List Str} {F : List PyData → Option R} {w : DenS} {rest : List Stmt} {x sm : Str} {es vs : List Expr} {ec : Expr} {tc : TE} {cs : List Tell} {js : List Nat} {px lp p1 q1 q2 q3 q4 q5 q6 q7 q8 a1 a2 a3 a4 a6 a7 : Pos} {kk kj}
    (hN : X.N.Nodup) (hi : X.N[i]? = some x) (hx : Loc X.env.scope x) (h0 : io = true → i ≠ 0) (hcs : PCalls X es cs)
    (hF : FnP X.prog X.w X.K X.mg X.base k0 f fd ps F) (hps : ps.length = 2) (hgd : X.A.guards = some []) (hr : Room k0 X.A) (hm : X.mg sm = some (.ref f)) (hk : PySem.W.keepIn X.K (.ref f) = true) (hb : Binds X.K fd ps []) (hg : Gl X sm)
    (hv2 : PE X (.Name x q2) (tVar i)) (hv3 : PE X (.Name x a1) (tVar i)) (hvs : PVars X vs js) (hij : i ∉ js) (hec : PE X ec tc) (htc : ∀ σ H Q, (∀ H' v, Same H H' → Q v H') → tc σ H Q) (hrest : Bx io X rest w)
    (s1 : swapsWith (.List es lp) (some (.Name x px)) p1.line X.env = pure false := by rfl) (s2 : X.fn x = true ∨ X.env.scope.names.lookup x = some .local := by first | exact .inl rfl | exact .inr rfl | assumption)
    (s3 : starEach [.Name x q2, .List vs q3] X.env = (false, eval (.Name x q2) X.env) :: starEach [.List vs q3] X.env := by rfl) (s4 : starEach [.List vs q3] X.env = (false, eval (.List vs q3) X.env) :: starEach [] X.env := by rfl)
    (s5 : (backTo q4 (starEach [.List vs q3] X.env)).any (·.1) = false := by rfl) (hdb : (sm == ("__debug__" : Str)) = false := by decide)
    (b1 : attributeBase (.Subscript (.Name x a1) (.Constant (.int 0) kk a2) a3) ("append" : Str) X.env (eval (.Subscript (.Name x a1) (.Constant (.int 0) kk a2) a3) X.env) = eval (.Subscript (.Name x a1) (.Constant (.int 0) kk a2) a3) X.env := by rfl)
    (b2 : ((backTo a6 (starEach [ec] X.env)).all (fun x => !x.1) && (backToKw a6 (keywordEach [] X.env)).all (fun x => x.1.isSome) && decide ([ec].length + ([] : List Keyword).length + (if ([] : List Keyword).isEmpty then 0 else 1) < 30)) = true := by rfl)
    (b3 : (a4.endLine == a6.line) = true := by rfl) (b4 : starEach [ec] X.env = (false, eval ec X.env) :: starEach [] X.env := by rfl) (b5 : (backTo a6 (starEach [] X.env)).any (·.1) = false := by rfl)
    (s6 : swapsWith (.Call (.Attribute (.Subscript (.Name x a1) (.Constant (.int 0) kk a2) a3) ("append" : Str) a4) [ec] [] a6) none a7.line X.env = pure false := by rfl) :
    Bx io X (.Assign [.Name x px] (.List es lp) p1 :: .If (.UnaryOp .Not (.Call (.Name sm q1) [.Name x q2, .List vs q3] [] q4) q5) [.Return (some (.Constant (.bool false) kj q6)) q7] [] q8 ::
      .Expr (.Call (.Attribute (.Subscript (.Name x a1) (.Constant (.int 0) kk a2) a3) ("append" : Str) a4) [ec] [] a6) a7 :: rest) (dSeq (dTell i cs F js) w) := by
  refine ⟨fun pins s σ H D I hw => (pss_cons (ps_set hN hi hx (pe_lock (pe_lst (pa_tells hcs))) s1 s2) (pss_cons (ps_if (pt_not (pt_val (pe_callG hF hgd hr hg hm hk hb .nil pass0 (pa_cons hv2 (pa_cons (pe_lock (pe_lst hvs.pa)) pa_nil s4) s3) hdb s3 s5))) (pss_one (ps_ret pe_bl)) pss_nil)
    (pss_cons (ps_free (ps_expr (pe_bm PySem.F.plainAttrs_list PySem.F.slot_list_append PySem.F.type_list_append mt_append (pe_ix ix_list hv3 pe_int (fun _ _ => rfl)) (pa_cons hec pa_nil b4) b1 b2 b3 b4 b5) s6)) hrest))).run pins s σ H D I ?_⟩
  obtain ⟨O, r, o, E, hf, k⟩ := hw
  unfold dSeq dTell at hf
  obtain ⟨o1, hf1, hf⟩ := Option.bind_eq_some_iff.mp hf
  obtain ⟨dss, d1, hf1⟩ := Option.bind_eq_some_iff.mp hf1
  obtain ⟨dvs, d2, hf1⟩ := Option.bind_eq_some_iff.mp hf1
  have hz := Classical.byContradiction fun c => by rw [if_neg c] at hf1; exact nomatch hf1
  rw [if_pos hz] at hf1
  obtain ⟨z0, z1, z2, z3⟩ := hz
  obtain ⟨z, d3, hf1⟩ := Option.bind_eq_some_iff.mp hf1
  refine ⟨O, r, dss, E, d1, fun H1 ws sm1 ra hd => ?_⟩
  refine ⟨by rw [ra.length, List.length_map]; exact z1, fun q hq => ⟨q, .lst ws, rfl, upd_same, trivial, fun od hn => ?_⟩⟩
  have eu : upd (upd H1 q (.lst ws)) q (.frz od (.lst ws)) = upd H1 q (.frz od (.lst ws)) := by
    funext b
    by_cases hb : b = q
    · subst hb; rw [upd_same, upd_same]
    · rw [upd_ne hb, upd_ne hb, upd_ne hb]
  rw [eu]
  have hil : i < σ.length := by
    rw [← E.len]
    cases hs : setSl i .un r with
    | some r' => exact (setSl_some hs).2.1
    | none =>
      rw [hs] at hf1
      cases z with
      | val d =>
        cases d with
        | bool b => cases b <;> cases hf1
        | _ => cases hf1
      | _ => cases hf1
  have eσ : (σ.set i (some (V.ref q)))[i]? = some (some (.ref q)) := List.getElem?_set_self hil
  have sm2 : Same H1 (upd H1 q (.frz od (.lst ws))) := same_upd hq
  refine ⟨.ref q, eσ, ?_⟩
  have E2 : EnvOk X.K (upd H1 q (.frz od (.lst ws))) O r σ := (E.same sm1).same sm2
  obtain ⟨us, g1, g2⟩ := getFz_get E2 d2
  refine ⟨us, by rw [getAll_set hij]; exact g1, by rw [g2.length]; exact z3, fun q' hq' => ⟨q', .lst us, rfl, upd_same, trivial, fun od' hn' => ?_⟩⟩
  have eu' : upd (upd (upd H1 q (.frz od (.lst ws))) q' (.lst us)) q' (.frz od' (.lst us)) = upd (upd H1 q (.frz od (.lst ws))) q' (.frz od' (.lst us)) := by
    funext b
    by_cases hb : b = q'
    · subst hb; rw [upd_same, upd_same]
    · rw [upd_ne hb, upd_ne hb, upd_ne hb]
  rw [eu']
  have sm3 : Same (upd H1 q (.frz od (.lst ws))) (upd (upd H1 q (.frz od (.lst ws))) q' (.frz od' (.lst us))) := same_upd hq'
  have sm13 : Same H1 (upd (upd H1 q (.frz od (.lst ws))) q' (.frz od' (.lst us))) := fun b o eb => sm3 _ _ (sm2 b o eb)
  refine ⟨[.list (dss.map .list), .list dvs], z, .cons (.lst (.inl ⟨od, sm3 _ _ upd_same⟩) (ra.fx (Fx.of_same sm13))) (.cons (.lst (.inl ⟨od', upd_same⟩) (g2.fx (Fx.of_same sm3))) .nil), hps.symm ▸ rfl, d3, fun H4 wv nr => ?_⟩
  cases z with
  | slot _ => cases hf1
  | tmp _ => cases hf1
  | val d =>
    cases d with
    | bool b =>
      obtain ⟨sm4, rb⟩ := nr
      cases rb
      have smA : Same H H4 := fun b o eb => sm4 _ _ (sm13 _ _ (sm1 b o eb))
      refine ⟨b, rfl, ?_⟩
      cases b with
      | false =>
        obtain ⟨r2, e2, e3⟩ := Option.map_eq_some_iff.mp hf1
        subst e3
        cases hf
        obtain ⟨e4, _, e5⟩ := setSl_some e2
        subst e4
        exact k H4 O (σ.set i (some (.ref q))) (.bl false) (Stp.of_same smA) ((E.same smA).store trivial fun c z => by cases z) (KeepS.store e5 h0) (.bl false)
      | true =>
        obtain ⟨r2, e2, e3⟩ := Option.map_eq_some_iff.mp hf1
        subst e3
        obtain ⟨e4, _, e5⟩ := setSl_some e2
        subst e4
        have hf : w (r.set i .un) = some o := hf
        obtain ⟨d0, dr, ed⟩ : ∃ d0 dr, dss = d0 :: dr := by
          cases dss with
          | nil => exact absurd rfl z0
          | cons d0 dr => exact ⟨d0, dr, rfl⟩
        subst ed
        cases ra with
        | @cons w0 wr _ _ ra0 rar =>
          obtain ⟨p, xs, odp, rfl, hp0, hp1, hlen, hnp⟩ := hd w0 wr d0 dr rfl rfl
          have hp4 : H4 p = some (.frz odp (.lst xs)) := sm4 _ _ (sm13 _ _ hp1)
          have hq4 : H4 q = some (.frz od (.lst (.ref p :: wr))) := sm4 _ _ (sm3 _ _ upd_same)
          have npq : q ≠ p := fun z => by rw [z, hp1] at hq; cases hq
          refine ⟨p, odp, .lst xs, hp4, hnp, .ref q, eσ, ?_⟩
          refine ⟨q, .ref p :: wr, 0, .ref p, rfl, rfl, .inl (.inr ⟨od, by rw [upd_ne npq]; exact hq4⟩), (by simp [L2.atI, ixN]), .inl ⟨rfl, xs, SqL.of upd_same⟩, htc _ _ _ fun H6 v sm6 => ?_⟩
          have hp6 : H6 p = some (.lst xs) := sm6 _ _ upd_same
          refine ⟨p, xs, v, rfl, rfl, hp6, by rw [hlen]; exact z2, ?_⟩
          have smF : Same H (upd H6 p (.lst (xs ++ [v]))) := fun b o eb => by
            have nb : b ≠ p := ne_of_none eb hp0
            rw [upd_ne nb]
            exact sm6 _ _ (by rw [upd_ne nb]; exact smA b o eb)
          exact ⟨O, r.set i .un, o, (E.same smF).store trivial fun c z => (by cases z), hf, k.pre (Stp.of_same smF) (KeepS.store e5 h0)⟩
    | _ => cases hf1
end
end KV
namespace KV
open PySem PySem.Spec PyProof.Rows L2
section
variable {X : Cx} {ss : List Stmt} {io : Bool} {u : DenS}
/-- a name's thing stands still from here on -/
def dGf (i : Nat) : DenS := fun r => match r[i]? with
  | some (.own c) => some (.nx (r.set i (.fz c.data)))
  | some (.fz _) => some (.nx r)
  | _ => none
theorem bx_ghost {i : Nat} (h : Bx io X ss u) : Bx io X ss (dSeq (dGf i) u) := by
  refine ⟨fun pins s σ H D I hw => ?_⟩
  obtain ⟨O, r, o, E, hf, k⟩ := hw
  unfold dSeq dGf at hf
  cases q : r[i]? with
  | none => rw [q] at hf; cases hf
  | some sl =>
    rw [q] at hf
    cases sl with
    | un => cases hf
    | lck c => cases hf
    | fz d => exact h.run pins s σ H D I ⟨O, r, o, E, hf, k⟩
    | own c =>
      have hf : u (r.set i (.fz c.data)) = some o := hf
      obtain ⟨v, e1, p, e2, ob, op⟩ := E.ok i _ q
      subst e2
      obtain ⟨u0, hu⟩ : ∃ u0, H p = some u0 := by
        cases z : H p with
        | none => have := ob.mut; rw [z] at this; exact this.elim
        | some u0 => exact ⟨u0, rfl⟩
      obtain ⟨od, I2⟩ := I.lock hu (by have := ob.mut; rw [hu] at this; exact this)
      obtain ⟨rp, fx⟩ := lock_rp (od := od) ob hu
      have E2 : EnvOk X.K H O (r.set i .un) σ := E.set (fun _ _ => trivial) rfl
      have E3 : EnvOk X.K (upd H p (.frz od u0)) (fun b => O b ∧ b ≠ p) (r.set i .un) σ := E2.freeze fx fun j t e h1 h2 h3 => by
        have hl : i < r.length := (List.getElem?_eq_some_iff.mp q).1
        by_cases hj : i = j
        · subst hj
          rw [List.getElem?_set_self hl] at h1
          cases h1; cases h2
        · rw [List.getElem?_set_ne hj] at h1
          exact hj (E.sep i j _ _ c e p q h1 rfl h2 e1 h3)
      have E4 : EnvOk X.K (upd H p (.frz od u0)) (fun b => O b ∧ b ≠ p) (r.set i (.fz c.data)) σ := by
        have := E3.set (i := i) (s := .fz c.data) (fun v hv' => by rw [e1] at hv'; cases hv'; exact ⟨_, rfl, rp⟩) rfl
        rw [List.set_set] at this
        exact this
      exact h.run pins s σ _ D I2 ⟨_, _, o, E4, hf, k.pre (Stp.freeze op) (KeepS.of (Keep.set fun c' z => by rw [q] at z; cases z))⟩
end
end KV

end

section
/-! KS5: zip and enumerate. -/
namespace KV
open PySem PySem.Spec PyProof.Rows L2
def zipD (xs ys : List PyData) : List PyData := (xs.zip ys).map fun p => .tuple [p.1, p.2]
theorem zipD_get {xs ys : List PyData} {i : Nat} {d : PyData} (h : (zipD xs ys)[i]? = some d) : ∃ x y, xs[i]? = some x ∧ ys[i]? = some y ∧ d = .tuple [x, y] := by
  unfold zipD at h
  rw [List.getElem?_map] at h
  obtain ⟨⟨x, y⟩, h1, h2⟩ := Option.map_eq_some_iff.mp h
  obtain ⟨h3, h4⟩ := List.getElem?_zip_eq_some.mp h1
  exact ⟨x, y, h3, h4, h2.symm⟩
theorem zipD_none {xs ys : List PyData} {i : Nat} (h : (zipD xs ys)[i]? = none) : xs.length ≤ i ∨ ys.length ≤ i := by
  unfold zipD at h
  rw [List.getElem?_eq_none_iff, List.length_map, List.length_zip] at h
  omega
theorem zipD_length (xs ys : List PyData) : (zipD xs ys).length = min xs.length ys.length := by
  unfold zipD; rw [List.length_map, List.length_zip]
def iZip2 (fs : Denv) : DenI := fun r => (fs r).bind fun (ds, r1) => match ds with
  | [.list xs, .list ys] => if xs.length ≤ sizeLine then some (zipD xs ys, r1, none) else none
  | [.tuple xs, .tuple ys] => if xs.length ≤ sizeLine then some (zipD xs ys, r1, none) else none
  | _ => none
theorem pair_rp {K : PySem.W.Frag} {H : Hp} {T : Addr} {x y : V} {dx dy : PyData} (hT : H T = none) (rx : Rp K H x dx) (ry : Rp K H y dy) : Same H (upd H T (.tup [x, y])) ∧ Rp K (upd H T (.tup [x, y])) (.ref T) (.tuple [dx, dy]) := by
  have sm : Same H (upd H T (.tup [x, y])) := same_upd hT
  exact ⟨sm, .tup (SqT.of upd_same) (.cons (rx.fx (Fx.of_same sm)) (.cons (ry.fx (Fx.of_same sm)) .nil))⟩
theorem jok_zip {K : PySem.W.Frag} {a b : Addr} {vs us : List V} {xs ys : List PyData} {H0 : Hp} {r0 : Nms} {σ0 : L2.St} (h : FzL K H0 a vs) (ra : RpAll K H0 vs xs) (h2 : FzL K H0 b us) (rb : RpAll K H0 us ys) : JOk K (Itz K a b) (zipD xs ys) H0 r0 σ0 := by
  intro H O r σ fx E kp lk i
  have h' := h.fx fx
  have h2' := h2.fx fx
  have ra' := ra.fx fx
  have rb' := rb.fx fx
  refine ⟨fun d hd => ?_, fun hd => ⟨vs, us, h'.sq, h2'.sq, by rw [ra.length, rb.length]; exact zipD_none hd⟩⟩
  obtain ⟨x, y, e1, e2, e3⟩ := zipD_get hd
  obtain ⟨v, hv, rp⟩ := ra'.get' e1
  obtain ⟨u, hu, rq⟩ := rb'.get' e2
  refine ⟨⟨vs, us, v, u, h'.sq, h2'.sq, hv, hu⟩, fun z H' hy => ?_⟩
  obtain ⟨T, v', u', rfl, hT, rfl, k1, k2⟩ := hy
  have q1 := k1 vs h'.sq
  have q2 := k2 us h2'.sq
  rw [hv] at q1; rw [hu] at q2
  cases q1; cases q2
  subst e3
  exact pair_rp hT rp rq
theorem jok_zipT {K : PySem.W.Frag} {a b : Addr} {vs us : List V} {xs ys : List PyData} {H0 : Hp} {r0 : Nms} {σ0 : L2.St} (h : SqT K H0 a vs) (ra : RpAll K H0 vs xs) (h2 : SqT K H0 b us) (rb : RpAll K H0 us ys) : JOk K (RZ.ItzT K a b) (zipD xs ys) H0 r0 σ0 := by
  intro H O r σ fx E kp lk i
  have h' := SqT.fx fx h
  have h2' := SqT.fx fx h2
  have ra' := ra.fx fx
  have rb' := rb.fx fx
  refine ⟨fun d hd => ?_, fun hd => ⟨vs, us, h', h2', by rw [ra.length, rb.length]; exact zipD_none hd⟩⟩
  obtain ⟨x, y, e1, e2, e3⟩ := zipD_get hd
  obtain ⟨v, hv, rp⟩ := ra'.get' e1
  obtain ⟨u, hu, rq⟩ := rb'.get' e2
  refine ⟨⟨vs, us, v, u, h', h2', hv, hu⟩, fun z H' hy => ?_⟩
  obtain ⟨T, v', u', rfl, hT, rfl, k1, k2⟩ := hy
  have q1 := k1 vs h'
  have q2 := k2 us h2'
  rw [hv] at q1; rw [hu] at q2
  cases q1; cases q2
  subst e3
  exact pair_rp hT rp rq
section
variable {X : Cx} {e e2 : Expr} {p pos tpos : Pos} {elts : List Expr} {kk : Nat} {fs : Denv}
theorem ix_zip (hg : Gl X "zip") (hm : X.mg "zip" = none) (ha : Exv X [e, e2] fs)
    (hs : starEach [e, e2] X.env = (false, eval e X.env) :: starEach [e2] X.env := by rfl) (hpl : (backTo pos (starEach [e2] X.env)).any (·.1) = false := by rfl) : Ix X (.Tuple elts kk tpos) (.Call (.Name "zip" p) [e, e2] [] pos) (iZip2 fs) := by
  refine ⟨fun pins s σ H Q I hw => (RZ.pi_zipA hg hm ha hs hpl).run pins s σ H Q I ?_⟩
  obtain ⟨O, r, ds, r', u, E, hf, k⟩ := hw
  unfold iZip2 at hf
  obtain ⟨⟨as, r1⟩, q1, hf⟩ := Option.bind_eq_some_iff.mp hf
  have key : ∀ xs ys, (as = [.list xs, .list ys] ∨ as = [.tuple xs, .tuple ys]) → xs.length ≤ sizeLine → ds = zipD xs ys ∧ r' = r1 ∧ u = none → RZ.iZipA X.K (tXv X.K fs) σ H Q := by
    intro xs ys hc hl he
    obtain ⟨e1, e2, e3⟩ := he
    subst e1 e2 e3
    have hz : (zipD xs ys).length ≤ sizeLine := by rw [zipD_length]; omega
    refine ⟨O, r, as, _, E, q1, fun H1 O1 vs st1 E1 kp1 ro1 => ?_⟩
    rcases hc with rfl | rfl
    · cases ro1 with
      | cons h1 t => cases t with
        | cons h2 t => cases t with
          | nil =>
            cases h1 with
            | @lst a vs _ f1 g1 => cases h2 with
              | @lst b us _ f2 g2 => exact ⟨a, b, vs, us, rfl, .inl ⟨f1.sq, f2.sq, k H1 O1 _ st1 E1 kp1 hz (fun _ z => nomatch z) (jok_zip f1 g1 f2 g2)⟩⟩
    · cases ro1 with
      | cons h1 t => cases t with
        | cons h2 t => cases t with
          | nil =>
            cases h1 with
            | @tup a vs _ f1 g1 => cases h2 with
              | @tup b us _ f2 g2 => exact ⟨a, b, vs, us, rfl, .inr ⟨f1, f2, k H1 O1 _ st1 E1 kp1 hz (fun _ z => nomatch z) (jok_zipT f1 g1 f2 g2)⟩⟩
  dsimp only at hf
  split at hf
  · rename_i xs ys
    by_cases c : xs.length ≤ sizeLine
    · rw [if_pos c] at hf; cases hf; exact key xs ys (.inl rfl) c ⟨rfl, rfl, rfl⟩
    · rw [if_neg c] at hf; cases hf
  · rename_i xs ys
    by_cases c : xs.length ≤ sizeLine
    · rw [if_pos c] at hf; cases hf; exact key xs ys (.inr rfl) c ⟨rfl, rfl, rfl⟩
    · rw [if_neg c] at hf; cases hf
  · cases hf
def enumD (xs : List PyData) : List PyData := (List.range xs.length).zipWith (fun i x => .tuple [.int (i : Nat), x]) xs
theorem enumD_get {xs : List PyData} {i : Nat} {d : PyData} (h : (enumD xs)[i]? = some d) : ∃ x, xs[i]? = some x ∧ d = .tuple [.int (i : Nat), x] := by
  unfold enumD at h
  rw [List.getElem?_zipWith] at h
  cases h1 : (List.range xs.length)[i]? with
  | none => rw [h1] at h; cases h
  | some j =>
    have hj : j = i := by
      obtain ⟨a, b⟩ := List.getElem?_eq_some_iff.mp h1
      rw [List.getElem_range] at b; exact b.symm
    subst hj
    rw [h1] at h
    cases h2 : xs[j]? with
    | none => rw [h2] at h; cases h
    | some x => rw [h2] at h; cases h; exact ⟨x, rfl, rfl⟩
theorem enumD_length (xs : List PyData) : (enumD xs).length = xs.length := by unfold enumD; simp
def iEnumL (fs : Denv) : DenI := fun r => (fs r).bind fun (ds, r1) => match ds with
  | [.list xs] => if xs.length ≤ sizeLine then some (enumD xs, r1, none) else none
  | _ => none
theorem jok_enum {K : PySem.W.Frag} {a : Addr} {vs : List V} {xs : List PyData} {H0 : Hp} {r0 : Nms} {σ0 : L2.St} (h : FzL K H0 a vs) (ra : RpAll K H0 vs xs) : JOk K (Ite K a) (enumD xs) H0 r0 σ0 := by
  intro H O r σ fx E kp lk i
  have h' := h.fx fx
  have ra' := ra.fx fx
  refine ⟨fun d hd => ?_, fun hd => ⟨vs, h'.sq, by rw [ra.length, ← enumD_length]; exact List.getElem?_eq_none_iff.mp hd⟩⟩
  obtain ⟨x, e1, e3⟩ := enumD_get hd
  obtain ⟨v, hv, rp⟩ := ra'.get' e1
  refine ⟨⟨vs, v, h'.sq, hv⟩, fun z H' hy => ?_⟩
  obtain ⟨T, v', rfl, hT, rfl, k1⟩ := hy
  have q1 := k1 vs h'.sq
  rw [hv] at q1
  cases q1
  subst e3
  exact pair_rp hT (.int _) rp
theorem ix_enum (hg : Gl X "enumerate") (hm : X.mg "enumerate" = none) (ha : Exv X [e] fs) (hs : starEach [e] X.env = [(false, eval e X.env)] := by rfl) : Ix X (.Tuple elts kk tpos) (.Call (.Name "enumerate" p) [e] [] pos) (iEnumL fs) := by
  refine ⟨fun pins s σ H Q I hw => (pi_enum hg hm ha hs).run pins s σ H Q I ?_⟩
  obtain ⟨O, r, ds, r', u, E, hf, k⟩ := hw
  unfold iEnumL at hf
  obtain ⟨⟨as, r1⟩, q1, hf⟩ := Option.bind_eq_some_iff.mp hf
  dsimp only at hf
  split at hf
  · rename_i xs
    by_cases c : xs.length ≤ sizeLine
    · rw [if_pos c] at hf; cases hf
      refine ⟨O, r, [.list xs], _, E, q1, fun H1 O1 vs st1 E1 kp1 ro1 => ?_⟩
      cases ro1 with
      | cons h1 t => cases t with
        | nil => cases h1 with
          | @lst a vs _ f1 g1 => exact ⟨a, vs, rfl, f1.sq, k H1 O1 _ st1 E1 kp1 (by rw [enumD_length]; exact c) (fun _ z => nomatch z) (jok_enum f1 g1)⟩
    · rw [if_neg c] at hf; cases hf
  · cases hf
/-! what they walk, in the calculus -/
theorem wi_zipL {r : Nms} {Q : List PyData → Nms → Option Nat → Prop} (h : wV fs r fun ds r1 => ∃ xs ys, ds = [.list xs, .list ys] ∧ xs.length ≤ 16777216 ∧ Q (zipD xs ys) r1 none) : wI (iZip2 fs) r Q := by
  obtain ⟨ds, r1, e, xs, ys, rfl, l, q⟩ := h.ex
  exact ⟨_, _, _, by unfold iZip2; simp only [e, Option.bind_some]; exact if_pos (by rw [sizeLine_eq]; exact l), q⟩
theorem wi_zipT {r : Nms} {Q : List PyData → Nms → Option Nat → Prop} (h : wV fs r fun ds r1 => ∃ xs ys, ds = [.tuple xs, .tuple ys] ∧ xs.length ≤ 16777216 ∧ Q (zipD xs ys) r1 none) : wI (iZip2 fs) r Q := by
  obtain ⟨ds, r1, e, xs, ys, rfl, l, q⟩ := h.ex
  exact ⟨_, _, _, by unfold iZip2; simp only [e, Option.bind_some]; exact if_pos (by rw [sizeLine_eq]; exact l), q⟩
theorem wi_enum {r : Nms} {Q : List PyData → Nms → Option Nat → Prop} (h : wV fs r fun ds r1 => ∃ xs, ds = [.list xs] ∧ xs.length ≤ 16777216 ∧ Q (enumD xs) r1 none) : wI (iEnumL fs) r Q := by
  obtain ⟨ds, r1, e, xs, rfl, l, q⟩ := h.ex
  exact ⟨_, _, _, by unfold iEnumL; simp only [e, Option.bind_some]; exact if_pos (by rw [sizeLine_eq]; exact l), q⟩
/-! the calculus for the further ones -/
theorem wo_lr {QR : R → Prop} {a : Int} (l : 0 ≤ a ∧ a ≤ 16777216) (h : QR (.tmp (.lst (rangeD 0 a.toNat)))) : wO (opLR (.int a)) QR := ⟨_, if_pos l, h⟩
theorem ws_gf_own {i : Nat} {ds : List PyData} {r r1 : Nms} {N B C : Nms → Prop} {T : R → Nms → Prop} (e : r[i]? = some (.own (.lst ds))) (e2 : r.set i (.fz (.list ds)) = r1) (h : N r1) : wS (dGf i) r N T B C := ⟨.nx r1, by unfold dGf; simp only [e]; rw [← e2]; rfl, h⟩
theorem ws_gf_fz {i : Nat} {d : PyData} {r : Nms} {N B C : Nms → Prop} {T : R → Nms → Prop} (e : r[i]? = some (.fz d)) (h : N r) : wS (dGf i) r N T B C := ⟨.nx r, by unfold dGf; simp only [e], h⟩
theorem ws_tell {i : Nat} {cs : List Tell} {F : List PyData → Option R} {js : List Nat} {r r1 : Nms} {N B C : Nms → Prop} {T : R → Nms → Prop} {dss : List (List PyData)} {dvs : List PyData} (e1 : tellD r cs = some dss) (e2 : getFz r js = some dvs) (e3 : dss ≠ [] ∧ dss.length ≤ sizeLine ∧ (dss.headD []).length < sizeLine ∧ dvs.length ≤ sizeLine)
    (e4 : F [.list (dss.map .list), .list dvs] = some (.val (.bool true))) (e5 : setSl i .un r = some r1) (h : N r1) : wS (dTell i cs F js) r N T B C := ⟨.nx r1, by unfold dTell; simp only [e1, e2, Option.bind_some]; rw [if_pos e3, e4, Option.bind_some]; show Option.map _ _ = _; rw [e5]; rfl, h⟩
end
end KV

end

section
/-! KX: the calculus' steps, one after another. -/
namespace KV
open PySem PySem.Spec PyProof.Rows L2
def nlk : Sl → Bool
  | .lck _ => false
  | _ => true
theorem setSl_nlk {i : Nat} {s t : Sl} {r : Nms} (e : r[i]? = some s) (h : nlk s = true) : setSl i t r = some (r.set i t) := by
  unfold setSl
  rw [e]
  cases s with
  | lck c => cases h
  | _ => rfl
section
variable {f g h : Den} {r r1 : Nms} {Q : R → Nms → Prop} {op : Op2} {d e : PyData} {i j k : Nat} {N B C : Nms → Prop} {T : R → Nms → Prop} {u w : DenS} {t s : DenT} {gs hs : Denv} {ns : Dens} {x : R} {sl : Sl}
theorem wput_v {Q : Nms → Prop} (e : r[i]? = some sl) (hn : nlk sl = true) (e2 : r.set i (.fz d) = r1) (h : Q r1) : wPut i (.val d) r Q := by
  subst e2; exact wput_val (setSl_nlk e hn) h
theorem wput_t {c : Ob} {Q : Nms → Prop} (e : r[i]? = some sl) (hn : nlk sl = true) (e2 : r.set i (.own c) = r1) (h : Q r1) : wPut i (.tmp c) r Q := by
  subst e2; exact wput_tmp (setSl_nlk e hn) h
theorem wg_nm (e : r[i]? = some sl) (hn : nlk sl = true) (e2 : r.set i (.fz d) = r1) {Q : Nms → Prop} (h : Q r1) : wG (gN i) d r Q := by
  subst e2; exact wg_name (setSl_nlk e hn) h
structure wParP (i j : Nat) (ds : List PyData) (r : Nms) (Q : Nms → Prop) : Prop where
  ex : ∃ d e, ds = [d, e] ∧ wPut i (.val d) r fun r1 => wPut j (.val e) r1 Q
theorem wparp {Q : Nms → Prop} (h : wPut i (.val d) r fun r1 => wPut j (.val e) r1 Q) : wParP i j [d, e] r Q := ⟨_, _, rfl, h⟩
theorem ws_par' (h : wV gs r fun ds r1 => wParP i j ds r1 N) : wS (dPar i j gs) r N T B C := by
  refine ws_par ?_
  obtain ⟨ds, r1, e0, ⟨d, e, rfl, ⟨s, r2, e1, e2, ⟨s', r3, e3, e4, q⟩⟩⟩⟩ := h.ex
  cases e1; cases e3
  exact ⟨[d, e], r1, e0, d, e, r2, r3, rfl, e2, e4, q⟩
structure wParP3 (i j k : Nat) (ds : List PyData) (r : Nms) (Q : Nms → Prop) : Prop where
  ex : ∃ d e e', ds = [d, e, e'] ∧ wPut i (.val d) r fun r1 => wPut j (.val e) r1 fun r2 => wPut k (.val e') r2 Q
theorem wparp3 {e' : PyData} {Q : Nms → Prop} (h : wPut i (.val d) r fun r1 => wPut j (.val e) r1 fun r2 => wPut k (.val e') r2 Q) : wParP3 i j k [d, e, e'] r Q := ⟨_, _, _, rfl, h⟩
theorem ws_par3' (h : wV gs r fun ds r1 => wParP3 i j k ds r1 N) : wS (dPar3 i j k gs) r N T B C := by
  refine ws_par3 ?_
  obtain ⟨ds, r1, e0, ⟨d, e, e', rfl, ⟨s, r2, e1, e2, ⟨s', r3, e3, e4, ⟨s'', r4, e5, e6, q⟩⟩⟩⟩⟩ := h.ex
  cases e1; cases e3; cases e5
  exact ⟨[d, e, e'], r1, e0, d, e, e', r2, r3, r4, rfl, e2, e4, e6, q⟩
structure wCB (G : Ob → List PyData → Option (R × Ob)) (i : Nat) (ds : List PyData) (r : Nms) (Q : R → Nms → Prop) : Prop where
  ex : ∃ c, r[i]? = some (.own c) ∧ wB G c ds fun z c' => Q z (r.set i (.own c'))
theorem wcb {G : Ob → List PyData → Option (R × Ob)} {c : Ob} {ds : List PyData} (e : r[i]? = some (.own c)) (h : wB G c ds fun z c' => Q z (r.set i (.own c'))) : wCB G i ds r Q := ⟨c, e, h⟩
theorem wd_callB' {G : Ob → List PyData → Option (R × Ob)} {c : Ob} (e0 : r[i]? = some (.own c)) (h : wV gs r fun ds r1 => wCB G i ds r1 Q) : wD (dCallB G i gs) r Q := by
  refine wd_callB e0 ?_
  obtain ⟨ds, r1, e, ⟨c1, e1, q⟩⟩ := h.ex
  exact ⟨ds, r1, e, c1, e1, q⟩
structure wApp (i : Nat) (d : PyData) (r : Nms) (Q : R → Nms → Prop) : Prop where
  ex : ∃ ds, r[i]? = some (.own (.lst ds)) ∧ ds.length < sizeLine ∧ Q (.val .none) (r.set i (.own (.lst (ds ++ [d]))))
theorem wapp {ds : List PyData} (e : r[i]? = some (.own (.lst ds))) (e2 : r.set i (.own (.lst (ds ++ [d]))) = r1) (h : Q (.val .none) r1) (hl : ds.length < sizeLine) : wApp i d r Q := ⟨ds, e, hl, by rw [e2]; exact h⟩
theorem wd_app' {ds0 : List PyData} (e0 : r[i]? = some (.own (.lst ds0))) (h : wD f r fun x r1 => wFz x r1 fun d r2 => wApp i d r2 Q) : wD (dApp i f) r Q := by
  refine wd_app e0 ?_
  obtain ⟨x, r1, e, ⟨d, r2, e1, ⟨ds, e2, l, q⟩⟩⟩ := h.ex
  exact ⟨x, r1, e, ⟨d, r2, e1, ds, e2, l, q⟩⟩
structure wTD (ds : List PyData) (Q : PyData → Prop) : Prop where
  ex : ds.length ≤ sizeLine ∧ Q (.tuple ds)
theorem wd_tup' (h : wV gs r fun ds r1 => Q (.val (.tuple ds)) r1 ∧ ds.length ≤ sizeLine) : wD (dTup gs) r Q := wd_tup (by
  obtain ⟨ds, r1, e, q, l⟩ := h.ex
  exact ⟨ds, r1, e, l, q⟩)
theorem wd_lst' (h : wV gs r fun ds r1 => Q (.tmp (.lst ds)) r1 ∧ ds.length ≤ sizeLine) : wD (dLst gs) r Q := wd_lst (by
  obtain ⟨ds, r1, e, q, l⟩ := h.ex
  exact ⟨ds, r1, e, l, q⟩)
theorem ws_gf_own' {ds : List PyData} (e : r[i]? = some (.own (.lst ds))) (e2 : r.set i (.fz (.list ds)) = r1) (h : N r1) : wS (dGf i) r N T B C := ws_gf_own e e2 h
theorem rest_wipe (r : Nms) : ∀ vs : List Nat, restE vs r (wipeE vs r) = r := fun vs => by
  refine List.ext_getElem? fun j => ?_
  by_cases h : j ∈ vs
  · by_cases hl : j < r.length
    · rw [restE_mem h (by rw [wipeE_length]; exact hl), List.getD_eq_getElem?_getD, List.getElem?_eq_getElem hl]; rfl
    · rw [List.getElem?_eq_none (by rw [restE_length, wipeE_length]; omega), List.getElem?_eq_none (by omega)]
  · rw [restE_ne h, wipeE_ne h]
/-- a comprehension that keeps its state -/
theorem wd_lcf' {vs : List Nat} {fi : DenI} {g0 : DenG} (h : wI fi r fun ds r1 uo => noOb vs r1 = true ∧ ∃ (keep : PyData → Bool) (val : PyData → PyData),
    (∀ d ∈ ds, wG g0 d (wipeE vs r1) fun r3 => wT t r3 fun b r4 => b = keep d ∧ (b = true → wD f r4 fun x r5 => wFz x r5 fun y r6 => y = val d ∧ wipeE vs r6 = wipeE vs r1) ∧ (b = false → wipeE vs r4 = wipeE vs r1)) ∧
    Q (.tmp (.lst ((ds.filter keep).map val))) (unlck uo r1)) : wD (dLc vs fi g0 t f) r Q := by
  refine wd_lcf ?_
  obtain ⟨ds, r1, uo, e, no, keep, val, hs, hq⟩ := h.ex
  exact ⟨ds, r1, uo, e, no, keep, val, hs, by rw [rest_wipe]; exact hq⟩
/-- .. without a test -/
theorem wd_lcm {vs : List Nat} {fi : DenI} {g0 : DenG} (h : wI fi r fun ds r1 uo => noOb vs r1 = true ∧ ∃ (val : PyData → PyData),
    (∀ d ∈ ds, wG g0 d (wipeE vs r1) fun r3 => wD f r3 fun x r5 => wFz x r5 fun y r6 => y = val d ∧ wipeE vs r6 = wipeE vs r1) ∧
    Q (.tmp (.lst (ds.map val))) (unlck uo r1)) : wD (dLc vs fi g0 tYesD f) r Q := by
  refine wd_lcf' ?_
  obtain ⟨ds, r1, uo, e, no, val, hs, hq⟩ := h.ex
  refine ⟨ds, r1, uo, e, no, fun _ => true, val, fun d hd => ?_, by rw [List.filter_eq_self.mpr fun _ _ => rfl]; exact hq⟩
  obtain ⟨r3, e3, q⟩ := (hs d hd).ex
  exact ⟨r3, e3, wt_yes ⟨rfl, fun _ => q, fun h => by cases h⟩⟩
structure wOwn (i : Nat) (r : Nms) (P : Prop) : Prop where
  ex : (∃ ds0, r[i]? = some (.own (.lst ds0))) ∧ P
theorem wown {ds : List PyData} {P : Prop} (e : r[i]? = some (.own (.lst ds))) (h : P) : wOwn i r P := ⟨⟨_, e⟩, h⟩
structure wSI (i : Nat) (d : PyData) (y : R) (r : Nms) (Q : Nms → Prop) : Prop where
  ex : ∃ k ds j, y = .val (.int k) ∧ r[i]? = some (.own (.lst ds)) ∧ ixN ds.length k = some j ∧ Q (r.set i (.own (.lst (ds.set j d))))
theorem wsi {ds : List PyData} {k : Int} {j : Nat} {Q : Nms → Prop} (e : r[i]? = some (.own (.lst ds))) (e2 : ixN ds.length k = some j) (e3 : r.set i (.own (.lst (ds.set j d))) = r1) (h : Q r1) : wSI i d (.val (.int k)) r Q := ⟨_, _, _, rfl, e, e2, by rw [e3]; exact h⟩
theorem ws_setIx' (h : wD f r fun x r1 => wFz x r1 fun d r2 => wOwn i r2 (wD g r2 fun y r3 => wSI i d y r3 N)) : wS (dSetIx i f g) r N T B C := by
  refine ws_setIx ?_
  obtain ⟨x, r1, e, ⟨d, r2, e2, ⟨⟨ds0, e3⟩, ⟨y, r3, e4, ⟨k, ds, j, e5, e6, e7, q⟩⟩⟩⟩⟩ := h.ex
  exact ⟨x, r1, e, ⟨d, r2, e2, ds0, e3, ⟨y, r3, e4, k, ds, j, e5, e6, e7, q⟩⟩⟩
/-- a cut behind a statement -/
theorem ws_cut {M : Nms → Prop} (h : wS u r M T B C) (k : ∀ r1, M r1 → wS w r1 N T B C) : wS (dSeq u w) r N T B C := ws_seq (h.mono k (fun _ _ q => q) (fun _ q => q) (fun _ q => q))
theorem ws_for' {fi : DenI} {g0 : DenG} (h : wI fi r fun ds r1 uo => ∃ I : Nat → Nms → Prop, I 0 r1 ∧ (∀ i d r2, ds[i]? = some d → I i r2 → wG g0 d r2 fun r3 => wS u r3 (I (i + 1)) (fun x r4 => T x (unlck uo r4)) (fun r4 => N (unlck uo r4)) (I (i + 1))) ∧ (∀ r2, I ds.length r2 → N (unlck uo r2))) :
    wS (dFor fi g0 u) r N T B C := ws_for h
structure wRg (ds : List PyData) (r : Nms) (Q : List PyData → Nms → Option Nat → Prop) : Prop where
  ex : ∃ k : Int, ds = [.int k] ∧ k ≤ 16777216 ∧ -1000000000 ≤ k ∧ Q (rangeD 0 k.toNat) r none
theorem wrg {k : Int} {Q : List PyData → Nms → Option Nat → Prop} (h1 : k ≤ 16777216) (h2 : -1000000000 ≤ k) (h : Q (rangeD 0 k.toNat) r none) : wRg [.int k] r Q := ⟨k, rfl, h1, h2, h⟩
theorem wi_r1' {Q : List PyData → Nms → Option Nat → Prop} (h : wN ns r fun xs r1 => wDrs r1 xs fun ds => wRg ds r1 Q) : wI (iR1 ns) r Q := wi_r1 (by
  obtain ⟨xs, r1, e, ⟨ds, e2, ⟨k, e3, l, l2, q⟩⟩⟩ := h.ex
  exact ⟨xs, r1, e, ⟨ds, e2, k, e3, l, l2, q⟩⟩)
structure wRg2 (ds : List PyData) (r : Nms) (Q : List PyData → Nms → Option Nat → Prop) : Prop where
  ex : ∃ k l : Int, ds = [.int k, .int l] ∧ -1000000000 ≤ k ∧ k ≤ 1000000000 ∧ -1000000000 ≤ l ∧ l ≤ 1000000000 ∧ l - k ≤ 16777216 ∧ Q (rangeD k (l - k).toNat) r none
theorem wrg2 {k l : Int} {Q : List PyData → Nms → Option Nat → Prop} (h1 : -1000000000 ≤ k) (h2 : k ≤ 1000000000) (h3 : -1000000000 ≤ l) (h4 : l ≤ 1000000000) (h5 : l - k ≤ 16777216) (h : Q (rangeD k (l - k).toNat) r none) : wRg2 [.int k, .int l] r Q := ⟨k, l, rfl, h1, h2, h3, h4, h5, h⟩
theorem wi_r2' {Q : List PyData → Nms → Option Nat → Prop} (h : wN ns r fun xs r1 => wDrs r1 xs fun ds => wRg2 ds r1 Q) : wI (iR2 ns) r Q := wi_r2 (by
  obtain ⟨xs, r1, e, ⟨ds, e2, ⟨k, l, e3, q⟩⟩⟩ := h.ex
  exact ⟨xs, r1, e, ⟨ds, e2, k, l, e3, q⟩⟩)
theorem range_at {i n : Nat} {d : PyData} (h : (rangeD 0 n)[i]? = some d) : i < n ∧ d = .int (i : Nat) := by
  rw [rangeD_get] at h
  by_cases c : i < n
  · rw [if_pos c] at h; cases h; exact ⟨c, by rw [Int.zero_add]⟩
  · rw [if_neg c] at h; cases h
theorem ws_forI {fi : DenI} {g0 : DenG} (h : wI fi r fun ds r1 uo => uo = none ∧ ∃ I : Nat → Nms → Prop, I 0 r1 ∧ (∀ i d r2, ds[i]? = some d → I i r2 → wG g0 d r2 fun r3 => wS u r3 (I (i + 1)) T N (I (i + 1))) ∧ (∀ r2, I ds.length r2 → N r2)) :
    wS (dFor fi g0 u) r N T B C := ws_for (by
  obtain ⟨ds, r1, uo, e, e0, q⟩ := h.ex
  subst e0
  exact ⟨ds, r1, none, e, q⟩)
theorem wo_isT {A : String} {b : Bool} {Q : Bool → Prop} (e : isT A d = some b) (h : Q b) : wO (isT A d) Q := ⟨b, e, h⟩
theorem wo_isT2 {A A' : String} {b : Bool} {Q : Bool → Prop} (e : isT2 A A' d = some b) (h : Q b) : wO (isT2 A A' d) Q := ⟨b, e, h⟩
structure wSame (r2 r1 : Nms) (P : Prop) : Prop where
  ex : r2 = r1 ∧ P
theorem wsame {P : Prop} (h : P) : wSame r r P := ⟨rfl, h⟩
theorem wt_andP {Q : Bool → Nms → Prop} (h : wT t r fun b r1 => wT s r1 fun b' r2 => wSame r2 r1 (Q (b && b') r1)) : wT (dAnd t s) r Q := wt_and' (by
  obtain ⟨b, r1, e, ⟨b', r2, e2, ⟨e3, q⟩⟩⟩ := h.ex
  exact ⟨b, r1, e, ⟨b', r2, e2, e3, q⟩⟩)
theorem wt_orP {Q : Bool → Nms → Prop} (h : wT t r fun b r1 => wT s r1 fun b' r2 => wSame r2 r1 (Q (b || b') r1)) : wT (dOr t s) r Q := wt_or' (by
  obtain ⟨b, r1, e, ⟨b', r2, e2, ⟨e3, q⟩⟩⟩ := h.ex
  exact ⟨b, r1, e, ⟨b', r2, e2, e3, q⟩⟩)
theorem wd_chP {op2 : Op2} (h0 : wD f r fun x r1 => wSt x r1 fun x r1 => ∃ dx, x = .val dx ∧ wD g r1 fun y r2 => wSt y r2 fun y r2 => ∃ dy, y = .val dy ∧ wO (op dx dy) fun z => ∃ k, z = .val (.bool k) ∧ wD h r2 fun w r3 => wDr r3 w fun dw => wO (op2 dy dw) fun z2 => ∃ k2, z2 = .val (.bool k2) ∧ wSame r3 r2 (Q (.val (.bool (k && k2))) r2)) : wD (dCh f g h op op2) r Q := wd_ch' (by
  refine h0.mono fun x r1 ⟨q⟩ => ⟨?_⟩
  obtain ⟨dx, ex, q⟩ := q
  refine ⟨dx, ex, q.mono fun y r2 ⟨q⟩ => ⟨?_⟩⟩
  obtain ⟨dy, ey, q⟩ := q
  refine ⟨dy, ey, q.mono fun z ⟨k, ez, q⟩ => ⟨k, ez, q.mono fun w r3 ⟨dw, e5, ⟨z2, e6, k2, e7, ⟨e8, q⟩⟩⟩ => ⟨dw, e5, ⟨z2, e6, k2, e7, e8, q⟩⟩⟩⟩)
theorem and_dec {p : Prop} [Decidable p] {A B : Prop} (h : (p → A) ∧ (¬ p → B)) : (decide p = true → A) ∧ (decide p = false → B) := ⟨fun e => h.1 (of_decide_eq_true e), fun e => h.2 (of_decide_eq_false e)⟩
theorem and_ndec {p : Prop} [Decidable p] {A B : Prop} (h : (p → B) ∧ (¬ p → A)) : ((!decide p) = true → A) ∧ ((!decide p) = false → B) := ⟨fun e => h.2 (by simpa using e), fun e => h.1 (by simpa using e)⟩
theorem and_t {A B : Prop} (h : A) : (true = true → A) ∧ (true = false → B) := ⟨fun _ => h, fun e => nomatch e⟩
theorem and_f {A B : Prop} (h : B) : (false = true → A) ∧ (false = false → B) := ⟨fun e => (nomatch e), fun _ => h⟩
end
end KV

end

section
/-! KDat: keys and rows of numbers as data. -/
namespace KV
open PySem PySem.Spec PyProof.Rows L2
def keyD (p : Int × Int) : PyData := .tuple [.int p.1, .int p.2]
def ltK (p q : Int × Int) : Bool := lexB [p.1, p.2] [q.1, q.2]
def KeysOk (b : Nat) (ks : List (Int × Int)) : Prop := ks.length ≤ b ∧ ∀ p ∈ ks, 0 ≤ p.1 ∧ 0 ≤ p.2
theorem insD_length {α : Type} (lt : α → α → Bool) (x : α) : ∀ l : List α, (insD lt x l).length ≤ l.length + 1
  | [] => Nat.le_refl _
  | y :: r => by
    unfold insD
    have := insD_length lt x r
    split
    · simp
    · split
      · simp; omega
      · simp
theorem sortD_length {α : Type} (lt : α → α → Bool) : ∀ l : List α, (sortD lt l).length ≤ l.length
  | [] => Nat.le_refl _
  | x :: r => by
    have := sortD_length lt r
    have := insD_length lt x (sortD lt r)
    unfold sortD
    rw [List.length_cons]; omega
theorem keyD_tup (ks : List (Int × Int)) : ks.map keyD = (ks.map fun p => [p.1, p.2]).map tupD := by
  rw [List.map_map]; rfl
theorem ltK_ok : LtOk ltK := ⟨fun a => lexB_irr _, fun a b c h1 h2 => lexB_trans _ _ _ h1 h2, fun a b => by
  rcases lexB_tri [a.1, a.2] [b.1, b.2] with h | h | h
  · exact .inl h
  · refine .inr (.inl ?_)
    simp at h
    exact Prod.ext h.1 h.2
  · exact .inr (.inr h)⟩
theorem ltK_iff (p q : Int × Int) : ltK p q = true ↔ p.1 < q.1 ∨ (p.1 = q.1 ∧ p.2 < q.2) := by
  unfold ltK lexB lexB lexB
  by_cases h : p.1 < q.1
  · simp [h]
  · by_cases h2 : q.1 < p.1
    · simp [h, h2]; omega
    · have e : p.1 = q.1 := by omega
      by_cases h3 : p.2 < q.2
      · simp [h, h2, h3, e]
      · by_cases h4 : q.2 < p.2
        · simp [h, h2, h3, h4]
        · simp [h, h2, h3, h4]
theorem sortD_map (ks : List (Int × Int)) : sortD lexB (ks.map fun p => [p.1, p.2]) = (sortD ltK ks).map fun p => [p.1, p.2] := by
  have ins : ∀ (x : Int × Int) (l : List (Int × Int)), insD lexB [x.1, x.2] (l.map fun p => [p.1, p.2]) = (insD ltK x l).map fun p => [p.1, p.2] := by
    intro x l
    induction l with
    | nil => rfl
    | cons y l ih =>
      show (if lexB [x.1, x.2] [y.1, y.2] = true then _ else if lexB [y.1, y.2] [x.1, x.2] = true then _ else _) = List.map _ (if ltK x y = true then _ else if ltK y x = true then _ else _)
      by_cases h : ltK x y = true
      · rw [if_pos h, if_pos (show lexB [x.1, x.2] [y.1, y.2] = true from h)]; rfl
      · rw [if_neg h, if_neg (show ¬ lexB [x.1, x.2] [y.1, y.2] = true from h)]
        by_cases h2 : ltK y x = true
        · rw [if_pos h2, if_pos (show lexB [y.1, y.2] [x.1, x.2] = true from h2), ih]; rfl
        · rw [if_neg h2, if_neg (show ¬ lexB [y.1, y.2] [x.1, x.2] = true from h2)]; rfl
  induction ks with
  | nil => rfl
  | cons x l ih => unfold sortD; rw [List.map_cons]; show insD lexB [x.1, x.2] (sortD lexB (l.map fun p => [p.1, p.2])) = _; rw [ih, ins]
theorem ss_keys {ks : List (Int × Int)} (h : KeysOk 63 ks) : opSS (.list (ks.map keyD)) = some (.tmp (.lst ((sortD ltK ks).map keyD))) := by
  cases ks with
  | nil => rfl
  | cons k ks =>
    rw [keyD_tup, keyD_tup, ← sortD_map]
    refine opSS_tup (by have := h.1; simp at this ⊢; omega) ?_
    unfold evenK
    simp only [Bool.and_eq_true, decide_eq_true_eq, List.all_eq_true]
    refine ⟨by simp, fun j hj => ?_⟩
    have hj : j ∈ (k :: ks).map fun p => [p.1, p.2] := hj
    obtain ⟨p, hp, e⟩ := List.mem_map.mp hj
    subst e
    have := h.2 p hp
    refine ⟨rfl, fun n hn => ?_⟩
    simp at hn
    rcases hn with rfl | rfl
    · exact this.1
    · exact this.2
theorem KeysOk.sort {b : Nat} {ks : List (Int × Int)} (h : KeysOk b ks) : KeysOk b (sortD ltK ks) := ⟨Nat.le_trans (sortD_length _ _) h.1, fun p hp => h.2 p ((sortD_mem ltK_ok ks p).mp hp)⟩
theorem KeysOk.mono {b c : Nat} {ks : List (Int × Int)} (h : KeysOk b ks) (hc : b ≤ c) : KeysOk c ks := ⟨Nat.le_trans h.1 hc, h.2⟩
theorem KeysOk.filter {b : Nat} {ks : List (Int × Int)} (h : KeysOk b ks) (p : Int × Int → Bool) : KeysOk b (ks.filter p) := ⟨Nat.le_trans (List.length_filter_le ..) h.1, fun q hq => h.2 q (List.mem_filter.mp hq).1⟩
theorem KeysOk.add {b : Nat} {ks : List (Int × Int)} {p : Int × Int} (h : KeysOk b ks) (hp : 0 ≤ p.1 ∧ 0 ≤ p.2) : KeysOk (b + 1) (ks ++ [p]) := ⟨by rw [List.length_append]; have := h.1; simp; omega, fun q hq => by
  rcases List.mem_append.mp hq with m | m
  · exact h.2 q m
  · simp at m; rw [m]; exact hp⟩
/-- a version: its lists have at most b items -/
def belowD : Option (List (Int × Int)) → PyData
  | none => .none
  | some ts => .tuple (ts.map keyD)
structure Ver where
  keys : List (Int × Int)
  heads : List Int
  trust : Option (List (Int × Int))
  marks : List Int
  gone : List Int
def verD (v : Ver) : PyData := .tuple [.tuple (v.keys.map keyD), .tuple (v.heads.map .int), belowD v.trust, .tuple (v.marks.map .int), .tuple (v.gone.map .int)]
structure VerOk (b : Nat) (v : Ver) : Prop where
  keys : KeysOk b v.keys
  heads : v.heads.length ≤ b
  trust : ∀ ts, v.trust = some ts → KeysOk b ts
  marks : v.marks.length ≤ b
  gone : v.gone.length ≤ b
theorem VerOk.mono {b c : Nat} {v : Ver} (h : VerOk b v) (hc : b ≤ c) : VerOk c v := ⟨h.keys.mono hc, Nat.le_trans h.heads hc, fun ts e => (h.trust ts e).mono hc, Nat.le_trans h.marks hc, Nat.le_trans h.gone hc⟩
/-- a line, a zone -/
def lineD (p : Int × Ver) : PyData := .tuple [.int p.1, verD p.2]
structure Zn where
  line : List (Int × Ver)
  servers : Int
  tries : Int
  lag : Int
  kl : Int
  rl : Int
def zoneD (z : Zn) : PyData := .tuple [.tuple (z.line.map lineD), .int z.servers, .int z.tries, .int z.lag, .int z.kl, .int z.rl]
def VOk (b : Nat) (last : Bool) (v : Ver) : Prop := VerOk b v ∧ (v.trust = none ↔ last = true)
/-- a line whose last time is m -/
structure LnOk (b : Nat) (last : Bool) (m : Int) (ln : List (Int × Ver)) : Prop where
  first : ∃ v r, ln = (0, v) :: r
  up : ln.Pairwise fun p q => p.1 < q.1
  le : ∀ p ∈ ln, 0 ≤ p.1 ∧ p.1 ≤ m
  ends : ∃ l v, ln = l ++ [(m, v)]
  ver : ∀ p ∈ ln, VOk b last p.2
theorem LnOk.mono {b c : Nat} {last : Bool} {m : Int} {ln : List (Int × Ver)} (h : LnOk b last m ln) (hc : b ≤ c) : LnOk c last m ln := ⟨h.first, h.up, h.le, h.ends, fun p hp => ⟨(h.ver p hp).1.mono hc, (h.ver p hp).2⟩⟩
theorem LnOk.one {b : Nat} {last : Bool} {v : Ver} (h : VOk b last v) : LnOk b last 0 [(0, v)] := ⟨⟨v, [], rfl⟩, by simp, by simp, ⟨[], v, rfl⟩, by simpa using h⟩
theorem LnOk.add {b : Nat} {last : Bool} {m m' : Int} {ln : List (Int × Ver)} {v : Ver} (h : LnOk b last m ln) (hm : 0 ≤ m ∧ m < m') (hv : VOk b last v) : LnOk b last m' (ln ++ [(m', v)]) := by
  obtain ⟨⟨v0, r0, e0⟩, up, le, _, ver⟩ := h
  refine ⟨⟨v0, r0 ++ [(m', v)], by rw [e0]; rfl⟩, ?_, fun p hp => ?_, ⟨ln, v, rfl⟩, fun p hp => ?_⟩
  · rw [List.pairwise_append]
    refine ⟨up, by simp, fun p hp q hq => ?_⟩
    simp at hq
    subst hq
    have := le p hp
    show p.1 < m'
    omega
  · rcases List.mem_append.mp hp with q | q
    · have := le p q; omega
    · simp at q; subst q; exact ⟨by show 0 ≤ m'; omega, Int.le_refl _⟩
  · rcases List.mem_append.mp hp with q | q
    · exact ver p q
    · simp at q; subst q; exact hv
structure ZnOk (b : Nat) (last : Bool) (many : Nat) (z : Zn) : Prop where
  len : z.line.length ≤ many
  line : ∃ m, LnOk b last m z.line ∧ m ≤ 7 * many
  servers : 1 ≤ z.servers ∧ z.servers ≤ 3
  tries : 1 ≤ z.tries ∧ z.tries ≤ z.servers
  lag : 0 ≤ z.lag ∧ z.lag ≤ 8
  kl : 1 ≤ z.kl ∧ z.kl ≤ 5
  rl : 1 ≤ z.rl ∧ z.rl ≤ 5
/-! lists of data that are maps -/
theorem filter_map_key (ks : List (Int × Int)) (p : PyData → Bool) : (ks.map keyD).filter p = (ks.filter fun k => p (keyD k)).map keyD := by
  rw [List.filter_map]; rfl
theorem filter_map_int (ns : List Int) (p : PyData → Bool) : (ns.map PyData.int).filter p = (ns.filter fun k => p (.int k)).map PyData.int := by
  rw [List.filter_map]; rfl
def fstD : PyData → PyData
  | .tuple (d :: _) => d
  | _ => .none
theorem map_fstD (ks : List (Int × Int)) : (ks.map keyD).map fstD = (ks.map (·.1)).map .int := by
  rw [List.map_map, List.map_map]; rfl
section
variable {QR : R → Prop} {a b : Int} {xs : List PyData} {ns : List Int}
theorem wo_eqNil (h : QR (.val (.bool xs.isEmpty))) : wO (opEq (.list xs) (.list [])) QR := ⟨_, by
  unfold opEq; rw [if_pos (Nat.le_trans (Nat.min_le_right _ _) (by decide))]
  have : PyData.eqv (.list xs) (.list []) = xs.isEmpty := by cases xs <;> rfl
  rw [this], h⟩
theorem wo_neNil (h : QR (.val (.bool (!xs.isEmpty)))) : wO (opNe (.list xs) (.list [])) QR := ⟨_, by
  unfold opNe; rw [if_pos (Nat.le_trans (Nat.min_le_right _ _) (by decide))]
  have : PyData.eqv (.list xs) (.list []) = xs.isEmpty := by cases xs <;> rfl
  rw [this], h⟩
theorem eqv_int (i k : Int) : PyData.eqv (.int i) (.int k) = decide (i = k) := rfl
theorem any_int (ns : List Int) (k : Int) : ((ns.map PyData.int).any fun y => PyData.eqv y (.int k)) = decide (k ∈ ns) := by
  rw [List.any_map]
  induction ns with
  | nil => rfl
  | cons n ns ih =>
    rw [List.any_cons, ih]
    show (decide (n = k) || _) = _
    by_cases h : n = k
    · subst h; simp
    · have : k ≠ n := fun e => h e.symm
      simp [h, this]
theorem wo_inT (h : QR (.val (.bool (decide (a ∈ ns))))) : wO (opIn (.int a) (.tuple (ns.map .int))) QR := ⟨_, by
  unfold opIn seqOf; rw [Option.bind_some, if_pos (Nat.le_trans (Nat.min_le_right _ _) (show (PyData.int a).depth ≤ 60 from by show 0 ≤ 60; omega)), any_int], h⟩
theorem wo_inL (h : QR (.val (.bool (decide (a ∈ ns))))) : wO (opIn (.int a) (.list (ns.map .int))) QR := ⟨_, by
  unfold opIn seqOf; rw [Option.bind_some, if_pos (Nat.le_trans (Nat.min_le_right _ _) (show (PyData.int a).depth ≤ 60 from by show 0 ≤ 60; omega)), any_int], h⟩
theorem wo_notInT (h : QR (.val (.bool (!decide (a ∈ ns))))) : wO (opNotIn (.int a) (.tuple (ns.map .int))) QR := ⟨_, by
  unfold opNotIn seqOf; rw [Option.bind_some, if_pos (Nat.le_trans (Nat.min_le_right _ _) (show (PyData.int a).depth ≤ 60 from by show 0 ≤ 60; omega)), any_int], h⟩
theorem wo_notInL (h : QR (.val (.bool (!decide (a ∈ ns))))) : wO (opNotIn (.int a) (.list (ns.map .int))) QR := ⟨_, by
  unfold opNotIn seqOf; rw [Option.bind_some, if_pos (Nat.le_trans (Nat.min_le_right _ _) (show (PyData.int a).depth ≤ 60 from by show 0 ≤ 60; omega)), any_int], h⟩
/-- keys by their numbers -/
def numIs (k : Int) : PyData → Bool
  | .tuple (.int a :: _) => decide (a = k)
  | _ => false
def numNot (k : Int) : PyData → Bool
  | .tuple (.int a :: _) => !decide (a = k)
  | _ => false
theorem filter_numIs (ks : List (Int × Int)) (k : Int) : ((ks.map keyD).filter (numIs k)).map id = (ks.filter fun p => decide (p.1 = k)).map keyD := by
  rw [filter_map_key, List.map_id]; rfl
theorem filter_numNot (ks : List (Int × Int)) (k : Int) : ((ks.map keyD).filter (numNot k)).map id = (ks.filter fun p => !decide (p.1 = k)).map keyD := by
  rw [filter_map_key, List.map_id]; rfl
end
end KV

end

section
/-! KDat2: data of bounded depth; lists for tuples; what a zone's line tells. -/
namespace KV
open PySem PySem.Spec PyProof.Rows L2
def okD : Nat → PyData → Bool
  | 0, _ => false
  | n + 1, .list xs => decide (xs.length ≤ 16777216) && xs.all (okD n)
  | n + 1, .tuple xs => decide (xs.length ≤ 16777216) && xs.all (okD n)
  | _ + 1, .dict _ => false
  | _ + 1, _ => true
theorem okD_list {n : Nat} {xs : List PyData} (h : okD (n + 1) (.list xs) = true) : xs.length ≤ 16777216 ∧ ∀ x ∈ xs, okD n x = true := by
  simpa [okD] using h
theorem okD_tuple {n : Nat} {xs : List PyData} (h : okD (n + 1) (.tuple xs) = true) : xs.length ≤ 16777216 ∧ ∀ x ∈ xs, okD n x = true := by
  simpa [okD] using h
theorem okD_mkL {n : Nat} {xs : List PyData} (h : xs.length ≤ 16777216) (k : ∀ x ∈ xs, okD n x = true) : okD (n + 1) (.list xs) = true := by
  simpa [okD] using And.intro h k
theorem okD_mkT {n : Nat} {xs : List PyData} (h : xs.length ≤ 16777216) (k : ∀ x ∈ xs, okD n x = true) : okD (n + 1) (.tuple xs) = true := by
  simpa [okD] using And.intro h k
theorem depthAll_le {n : Nat} : ∀ xs : List PyData, (∀ x ∈ xs, x.depth ≤ n) → PyData.depthAll xs ≤ n
  | [], _ => Nat.zero_le _
  | x :: xs, h => by
    have h1 := h x (by simp)
    have h2 := depthAll_le xs fun y hy => h y (by simp [hy])
    show max (PyData.depth x) (PyData.depthAll xs) ≤ n
    omega
theorem okD_depth : ∀ (n : Nat) (d : PyData), okD n d = true → d.depth ≤ n
  | 0, _, h => by simp [okD] at h
  | n + 1, .list xs, h => Nat.succ_le_succ (depthAll_le xs fun x hx => okD_depth n x ((okD_list h).2 x hx))
  | n + 1, .tuple xs, h => Nat.succ_le_succ (depthAll_le xs fun x hx => okD_depth n x ((okD_tuple h).2 x hx))
  | n + 1, .none, _ => Nat.zero_le _
  | n + 1, .bool _, _ => Nat.zero_le _
  | n + 1, .int _, _ => Nat.zero_le _
  | n + 1, .str _, _ => Nat.zero_le _
  | n + 1, .dict _, h => by simp [okD] at h
theorem eqvAll_refl : ∀ xs : List PyData, (∀ x ∈ xs, PyData.eqv x x = true) → PyData.eqvAll xs xs = true
  | [], _ => rfl
  | x :: xs, h => by
    show (PyData.eqv x x && PyData.eqvAll xs xs) = true
    rw [h x (by simp), eqvAll_refl xs fun y hy => h y (by simp [hy])]; rfl
theorem okD_eqv : ∀ (n : Nat) (d : PyData), okD n d = true → PyData.eqv d d = true
  | 0, _, h => by simp [okD] at h
  | n + 1, .list xs, h => eqvAll_refl xs fun x hx => okD_eqv n x ((okD_list h).2 x hx)
  | n + 1, .tuple xs, h => eqvAll_refl xs fun x hx => okD_eqv n x ((okD_tuple h).2 x hx)
  | n + 1, .none, _ => rfl
  | n + 1, .bool b, _ => by show (b == b) = true; simp
  | n + 1, .int i, _ => by show (i == i) = true; simp
  | n + 1, .str s, _ => by show (s == s) = true; simp
  | n + 1, .dict _, h => by simp [okD] at h
theorem okD_mono : ∀ (n m : Nat) (d : PyData), n ≤ m → okD n d = true → okD m d = true
  | 0, _, _, _, h => by simp [okD] at h
  | n + 1, 0, _, h, _ => by omega
  | n + 1, m + 1, .list xs, hm, h => okD_mkL (okD_list h).1 fun x hx => okD_mono n m x (by omega) ((okD_list h).2 x hx)
  | n + 1, m + 1, .tuple xs, hm, h => okD_mkT (okD_tuple h).1 fun x hx => okD_mono n m x (by omega) ((okD_tuple h).2 x hx)
  | n + 1, m + 1, .none, _, _ => rfl
  | n + 1, m + 1, .bool _, _, _ => rfl
  | n + 1, m + 1, .int _, _, _ => rfl
  | n + 1, m + 1, .str _, _, _ => rfl
  | n + 1, m + 1, .dict _, _, h => by simp [okD] at h
/-- lists for tuples -/
def toLs : Nat → PyData → PyData
  | 0, d => d
  | n + 1, .list xs => .list (xs.map (toLs n))
  | n + 1, .tuple xs => .list (xs.map (toLs n))
  | _ + 1, d => d
def resLs : Nat → PyData → R
  | n + 1, .list xs => .tmp (.lst (xs.map (toLs n)))
  | n + 1, .tuple xs => .tmp (.lst (xs.map (toLs n)))
  | _, d => .val d
theorem resLs_fz {n : Nat} {d : PyData} {r : Nms} {Q : PyData → Nms → Prop} (h : Q (toLs n d) r) : wFz (resLs n d) r Q := by
  cases n with
  | zero => exact wfz_val h
  | succ n =>
    cases d with
    | list xs => exact wfz_tmp h
    | tuple xs => exact wfz_tmp h
    | none => exact wfz_val h
    | bool _ => exact wfz_val h
    | int _ => exact wfz_val h
    | str _ => exact wfz_val h
    | dict _ => exact wfz_val h
theorem toLs_ok : ∀ (n m : Nat) (d : PyData), okD m d = true → okD m (toLs n d) = true
  | 0, _, _, h => h
  | n + 1, 0, _, h => by simp [okD] at h
  | n + 1, m + 1, .list xs, h => okD_mkL (by rw [List.length_map]; exact (okD_list h).1) fun x hx => by
    obtain ⟨y, hy, rfl⟩ := List.mem_map.mp hx
    exact toLs_ok n m y ((okD_list h).2 y hy)
  | n + 1, m + 1, .tuple xs, h => okD_mkL (by rw [List.length_map]; exact (okD_tuple h).1) fun x hx => by
    obtain ⟨y, hy, rfl⟩ := List.mem_map.mp hx
    exact toLs_ok n m y ((okD_tuple h).2 y hy)
  | n + 1, m + 1, .none, h => h
  | n + 1, m + 1, .bool _, h => h
  | n + 1, m + 1, .int _, h => h
  | n + 1, m + 1, .str _, h => h
  | n + 1, m + 1, .dict _, h => h
section
variable {QR : R → Prop} {a b : Bool} {d e : PyData} {n : Nat}
theorem wo_eqB (h : QR (.val (.bool (a == b)))) : wO (opEq (.bool a) (.bool b)) QR := ⟨_, by
  unfold opEq; rw [if_pos (by show min 0 0 ≤ 60; decide)]; rfl, h⟩
theorem wo_neB (h : QR (.val (.bool (!(a == b))))) : wO (opNe (.bool a) (.bool b)) QR := ⟨_, by
  unfold opNe; rw [if_pos (by show min 0 0 ≤ 60; decide)]; rfl, h⟩
theorem wo_eqSame (hd : okD n d = true) (hn : n ≤ 60) (h : QR (.val (.bool true))) : wO (opEq d d) QR := ⟨_, by
  have := okD_depth n d hd
  unfold opEq; rw [if_pos (by omega), okD_eqv n d hd], h⟩
theorem wo_neSame (hd : okD n d = true) (hn : n ≤ 60) (h : QR (.val (.bool false))) : wO (opNe d d) QR := ⟨_, by
  have := okD_depth n d hd
  unfold opNe; rw [if_pos (by omega), okD_eqv n d hd]; rfl, h⟩
end
/-! what a zone's line tells -/
structure ZLike (Z : PyData) (n : Nat) (ts : Nat → Int) (lag : Int) : Prop where
  z0 : ∃ L, opIx Z (.int 0) = some (.val L) ∧ opLen [L] = some (.val (.int n)) ∧ ∀ i : Nat, i < n → ∃ E, opIx L (.int i) = some (.val E) ∧ opIx E (.int 0) = some (.val (.int (ts i)))
  z3 : opIx Z (.int 3) = some (.val (.int lag))
def tellB (n : Nat) (ts : Nat → Int) (lag v t : Int) : Bool := decide (0 ≤ v ∧ v < n ∧ ts v.toNat ≤ t ∧ (v + 1 < n → t < ts (v + 1).toNat + lag))
end KV

end

section
/-! KS6: sorted of ints, also backwards; xs[::-1]; xs.pop(i); sorted(set(t)) of a tuple. -/
namespace KV
open PySem PySem.Spec PyProof.Rows L2
def insI (x : Int) : List Int → List Int
  | [] => [x]
  | y :: r => if x ≤ y then x :: y :: r else y :: insI x r
def srtI : List Int → List Int
  | [] => []
  | x :: r => insI x (srtI r)
theorem insI_perm (x : Int) : ∀ l : List Int, (insI x l).Perm (x :: l)
  | [] => .refl _
  | y :: r => by
    unfold insI
    split
    · exact .refl _
    · exact ((insI_perm x r).cons y).trans (.swap x y r)
theorem srtI_perm : ∀ l : List Int, (srtI l).Perm l
  | [] => .refl _
  | x :: r => (insI_perm x _).trans ((srtI_perm r).cons x)
theorem insI_sorted (x : Int) : ∀ l : List Int, l.Pairwise (· ≤ ·) → (insI x l).Pairwise (· ≤ ·)
  | [], _ => by simp [insI]
  | y :: r, h => by
    obtain ⟨h1, h2⟩ := List.pairwise_cons.mp h
    unfold insI
    split
    · rename_i k
      exact List.pairwise_cons.mpr ⟨fun z hz => by
        rcases List.mem_cons.mp hz with e | e
        · rw [e]; exact k
        · have := h1 z e; omega, h⟩
    · exact List.pairwise_cons.mpr ⟨fun z hz => by
        rcases List.mem_cons.mp ((insI_perm x r).mem_iff.mp hz) with e | e
        · rw [e]; omega
        · exact h1 z e, insI_sorted x r h2⟩
theorem srtI_sorted : ∀ l : List Int, (srtI l).Pairwise (· ≤ ·)
  | [] => List.Pairwise.nil
  | x :: r => insI_sorted x _ (srtI_sorted r)
theorem sorted_perm_eq : ∀ l m : List Int, l.Perm m → l.Pairwise (· ≤ ·) → m.Pairwise (· ≤ ·) → l = m
  | [], m, h, _, _ => by rw [List.nil_perm.mp h]
  | x :: l, [], h, _, _ => absurd h.length_eq (by simp)
  | x :: l, y :: m, h, h1, h2 => by
    obtain ⟨a1, a2⟩ := List.pairwise_cons.mp h1
    obtain ⟨b1, b2⟩ := List.pairwise_cons.mp h2
    have e : x = y := by
      have hx : x ∈ y :: m := h.mem_iff.mp (by simp)
      have hy : y ∈ x :: l := h.mem_iff.mpr (by simp)
      rcases List.mem_cons.mp hx with q | q
      · exact q
      · rcases List.mem_cons.mp hy with p | p
        · exact p.symm
        · have := a1 y p; have := b1 x q; omega
    subst e
    rw [sorted_perm_eq l m (List.perm_cons _ |>.mp h) a2 b2]
theorem srtI_uniq {l m : List Int} (h : m.Perm l) (hs : m.Pairwise (· ≤ ·)) : m = srtI l := sorted_perm_eq _ _ (h.trans (srtI_perm l).symm) hs (srtI_sorted l)
theorem srtI_rev {l m : List Int} (h : m.Perm l) (hs : m.Pairwise (· ≥ ·)) : m = (srtI l).reverse := by
  have := srtI_uniq (l := l) (m := m.reverse) ((List.reverse_perm m).trans h) (by rw [List.pairwise_reverse]; exact hs)
  rw [← this, List.reverse_reverse]
def opSrt : OpN := fun ds => match ds with
  | [.list xs] => (intsD xs).map fun ns => .tmp (.lst ((srtI ns).map .int))
  | _ => none
def opSrtR : PyData → Option R := fun d => match d with
  | .list xs => (intsD xs).map fun ns => .tmp (.lst ((srtI ns).reverse.map .int))
  | _ => none
def opRev : PyData → Option R := fun d => match d with
  | .list xs => some (.tmp (.lst xs.reverse))
  | _ => none
section
variable {X : Cx} {a e : Expr} {f g : Den} {pos p p2 q : Pos}
theorem c_sorted : CallR X (.builtin "sorted") (rDN X.K opSrt) := by
  intro pins s σ H xs us Q I r h
  obtain ⟨ds, z, ba, ho, k⟩ := h
  cases ba with
  | nil => cases ho
  | @cons v vs d ds bp bt =>
    cases bt with
    | cons _ _ => cases d <;> cases ho
    | nil =>
      cases d with
      | list xs =>
        obtain ⟨ns, h1, h2⟩ := Option.map_eq_some_iff.mp ho
        subst h2
        have := intsD_some h1
        subst this
        obtain ⟨l, vs, rfl, hq, ra⟩ := bp.list
        have ev := RpAll.ints_of ra
        subst ev
        refine cr_sortedI pins s σ H _ us Q I r ⟨l, ns, rfl, hq, fun ns' p hp hs hn => ?_⟩
        rw [srtI_uniq hp hs]
        exact k _ _ (new_lst hn (RpAll.ints _))
      | _ => cases ho
theorem ex_sortRev {kpos : Pos} {kk : Nat} {kp : Pos} (hg : Gl X "sorted") (hm : X.mg "sorted" = none) (hv : bootBuiltins ("sorted" : Str) = some (.builtin "sorted")) (ha : Ex X a f)
    (he : backTo pos (starEach [a] X.env) = (false, eval a X.env) :: backTo pos (starEach [] X.env) := by rfl) (hpl : (backTo pos (starEach [a] X.env)).any (·.1) = false := by rfl)
    (hall : (backToKw pos (keywordEach [⟨some "reverse", .Constant (.bool true) kk kp, kpos⟩] X.env)).all (·.1.isSome) = true := by rfl) (hnone : (backToKw pos (keywordEach [⟨some "reverse", .Constant (.bool true) kk kp, kpos⟩] X.env)).any (·.1.isNone) = false := by rfl)
    (hks : (backToKw pos (keywordEach [⟨some "reverse", .Constant (.bool true) kk kp, kpos⟩] X.env)).filterMap (·.1) = [Str.ofString "reverse"] := by rfl)
    (hs : starEach [a] X.env = (false, eval a X.env) :: starEach [] X.env := by rfl) :
    Ex X (.Call (.Name "sorted" p) [a] [⟨some "reverse", .Constant (.bool true) kk kp, kpos⟩] pos) (dUn f opSrtR) := by
  refine ⟨fun pins s σ H Q I hw => (pe_callBK (cr_sortedRev (b := true)) hg hm hv (pa_cons ha pa_nil hs) (pk_cons pe_bl pk_nil) (by decide) (by decide) he hpl hall hnone hks).run pins s σ H Q I ?_⟩
  obtain ⟨O, r, z, r', E, hf, k⟩ := hw
  obtain ⟨x, d, q1, q3, q5⟩ := un_inv hf
  refine ⟨O, r, x, r', E, q1, fun H1 O1 v st1 E1 kp1 ro1 => ?_⟩
  have bp := ro1.deref E1 q3
  cases d with
  | list xs =>
    obtain ⟨ns, h1, h2⟩ := Option.map_eq_some_iff.mp q5
    subst h2
    have := intsD_some h1
    subst this
    obtain ⟨l, vs, rfl, hq, ra⟩ := bp.list
    have ev := RpAll.ints_of ra
    subst ev
    refine ⟨l, ns, rfl, rfl, hq, fun ns' p hp hs hn => ?_⟩
    rw [srtI_rev hp hs]
    obtain ⟨O3, st3, E3, ro3⟩ := (new_lst hn (RpAll.ints _)).done E1
    exact k _ O3 _ (st1.trans st3) E3 kp1 ro3
  | none => cases q5
  | bool _ => cases q5
  | str _ => cases q5
  | int _ => cases q5
  | tuple _ => cases q5
  | dict _ => cases q5
theorem ex_rev {k : Nat} {p1 p2 p3 : Pos} (ha : Ex X e f) : Ex X (.Subscript e (.Slice none none (some (.UnaryOp .USub (.Constant (.int 1) k p1) p2)) p3) pos) (dUn f opRev) := by
  refine ⟨fun pins s σ H Q I hw => (pe_revL ha).run pins s σ H Q I ?_⟩
  obtain ⟨O, r, z, r', E, hf, k⟩ := hw
  obtain ⟨x, d, q1, q3, q5⟩ := un_inv hf
  refine ⟨O, r, x, r', E, q1, fun H1 O1 v st1 E1 kp1 ro1 => ?_⟩
  have bp := ro1.deref E1 q3
  cases d with
  | list xs =>
    cases q5
    obtain ⟨l, vs, rfl, hq, ra⟩ := bp.list
    refine ⟨l, vs, rfl, hq, fun p hn => ?_⟩
    obtain ⟨O3, st3, E3, ro3⟩ := (new_lst hn ra.reverse).done E1
    exact k _ O3 _ (st1.trans st3) E3 kp1 ro3
  | none => cases q5
  | bool _ => cases q5
  | str _ => cases q5
  | int _ => cases q5
  | tuple _ => cases q5
  | dict _ => cases q5
/-- xs.pop(i) -/
def dPop (i : Nat) (g : Den) : Den := fun r => (ownL r i).bind fun _ => (g r).bind fun (y, r1) => (intOf y).bind fun k => (ownL r1 i).bind fun ds => if -(2 ^ 63) ≤ k ∧ k < 2 ^ 63 then (seqIndex? k ds.length).bind fun j => (ds[j]?).map fun d => (.val d, r1.set i (.own (.lst (ds.eraseIdx j)))) else none
theorem ex_pop {i : Nat} {x : Str} {px apos cpos : Pos} (hv : PE X (.Name x px) (tVar i)) (he : Ex X e g) (hbase : attributeBase (.Name x px) ("pop" : Str) X.env (eval (.Name x px) X.env) = eval (.Name x px) X.env := by rfl)
    (hfew : ((backTo cpos (starEach [e] X.env)).all (fun x => !x.1) && (backToKw cpos (keywordEach [] X.env)).all (fun x => x.1.isSome)
      && decide ([e].length + ([] : List Keyword).length + (if ([] : List Keyword).isEmpty then 0 else 1) < 30)) = true := by rfl)
    (hline : (apos.endLine == cpos.line) = true := by rfl) (hs : starEach [e] X.env = (false, eval e X.env) :: starEach [] X.env := by rfl) (hplain : (backTo cpos (starEach [] X.env)).any (·.1) = false := by rfl) :
    Ex X (.Call (.Attribute (.Name x px) ("pop" : Str) apos) [e] [] cpos) (dPop i g) := by
  refine ⟨fun pins s σ H Q I hw => (pe_bm PySem.F.plainAttrs_list PySem.F.slot_list_pop PySem.F.type_list_pop mt_popAt hv (pa_cons he pa_nil hs) hbase hfew hline hs hplain).run pins s σ H Q I ?_⟩
  obtain ⟨O, r, z, r', E, hf, k⟩ := hw
  unfold dPop at hf
  obtain ⟨ds0, q0, hf1⟩ := Option.bind_eq_some_iff.mp hf
  obtain ⟨⟨y, r1⟩, q1, hf2⟩ := Option.bind_eq_some_iff.mp hf1
  obtain ⟨kk, q2, hf3⟩ := Option.bind_eq_some_iff.mp hf2
  obtain ⟨ds, q4, hf4⟩ := Option.bind_eq_some_iff.mp hf3
  have := intOf_some q2
  subst this
  have q0 := ownL_some q0
  have q4 := ownL_some q4
  by_cases hz : -(2 ^ 63) ≤ kk ∧ kk < 2 ^ 63
  · rw [if_pos hz] at hf4
    obtain ⟨j, q5, hf5⟩ := Option.bind_eq_some_iff.mp hf4
    obtain ⟨d, q6, hf6⟩ := Option.map_eq_some_iff.mp hf5
    cases hf6
    obtain ⟨v, e1, p0, e2, ⟨vs0, hp0, _⟩, _⟩ := E.ok i _ q0
    subst e2
    refine ⟨.ref p0, e1, .inl ⟨rfl, vs0, SqL.of hp0⟩, O, r, .val (.int kk), r1, E, q1, fun H1 O1 w st1 E1 kp1 ro1 => ?_⟩
    have ro1 : Rp X.K H1 w (.int kk) := ro1
    cases ro1
    obtain ⟨v1, e3, p1, e4, ⟨vs, hp, ra⟩, op⟩ := E1.ok i _ q4
    rw [e1] at e3; cases e3; cases e4
    obtain ⟨u, hu, ru⟩ := ra.get' q6
    refine ⟨p0, vs, kk, j, u, rfl, rfl, hp, hz.1, hz.2, by rw [ra.length]; exact q5, hu, ?_⟩
    have fx : Fx H1 (upd H1 p0 (.lst (vs.eraseIdx j))) := ⟨fun b o' u e => by rw [upd_ne (fun z => by rw [z, hp] at e; cases e)]; exact e, fun b xs e => by rw [upd_ne (fun z => by rw [z, hp] at e; cases e)]; exact e⟩
    obtain ⟨st2, E2⟩ := own_write (c' := .lst (ds.eraseIdx j)) E1 q4 e1 ⟨vs.eraseIdx j, upd_same, (ra.fx fx).eraseIdx j⟩
    exact k _ O1 u (st1.trans st2) E2 (kp1.trans (Keep.set fun c1 z => by rw [q4] at z; cases z)) (Rp.fx fx ru)
  · rw [if_neg hz] at hf4; cases hf4
end
end KV

end

section
/-! KS7: sorted(set(t)), t a tuple of ints or of tuples of ints. -/
namespace KV
open PySem PySem.Spec PyProof.Rows L2
section
variable {P : Program} {w : World} {A : Around} {E : Value → Shared → Prop} {s : Shared}
/-- set(t) of a tuple of tuples of ints -/
theorem set_tups_tuple {l : Addr} {its : Array Value} (ns : List (Addr × List Int)) {Q : Value → Shared → Prop} (calm : A.handled = none) (at_l : s.heap.IsTuple l its) (vals : its.toList = ns.map fun p => Value.ref p.1) (each : ∀ p ∈ ns, IsT P w s.heap p.2 p.1) (few : ns.length < 64) (deep : A.units + 3 < cLine)
    (after : ∀ (h2 : Heap) (tk : Nat) L es ep t, SetTR P w h2 s.heap.objs.size L es ep t → Got ns ns.length L → (∀ b o, s.heap.get? b = some o → h2.get? b = some o) → Q (.ref s.heap.objs.size) { s with heap := h2, toks := tk }) :
    wpAny (model P w) A (call (.type "set") [.ref l]) Q E s := by
  have size_its : its.size = ns.length := by
    have := congrArg List.length vals
    rw [Array.length_toList, List.length_map] at this
    exact this
  have f0 := F.called_set.mro
  obtain ⟨_, _, f0⟩ := f0
  have f1 := F.called_set.made
  have f2 := F.called_set.sub
  have f3 := F.called_set.notType
  have f4 := F.called_set.canCreate
  have f5 := F.typeCall_set_1 (.ref l)
  refine wpAny_call (codeAny_of_tree ?_)
  show wpAny _ _ (callAny (.type "set") _) _ _ _
  refine wpAny_pure ⟨Code.quiet_builtin _ (by decide +kernel), codeAny_builtin F.entry_type_call ?_⟩
  rw [Around.under_plain (weight_type_call_type "set" [.ref l] []) rfl]
  repeat (any_goals (first | assumption | wp_step))
  refine codeAny_mono (code_set_led1 (.ref l) (E := E) (Q₁ := fun v t => v = .ref s.heap.objs.size ∧ t = { s with heap := s.heap.push (bareSet w) }) ⟨rfl, rfl⟩) fun got s1 h1 => ?_
  cases got with
  | error e => exact h1
  | ok fl =>
    cases fl with
    | ret v1 =>
      obtain ⟨rfl, rfl⟩ := h1
      have there : (s.heap.push (bareSet w)).get? s.heap.objs.size = some (bareSet w) := Heap.get?_push_size _ rfl
      have tyS : Shared.TypeIs { s with heap := s.heap.push (bareSet w) } (.ref s.heap.objs.size) "set" := ⟨_, there, rfl⟩
      have g1 := F.called_set.init.lookup
      have g2 := F.called_set.init.bind (.ref s.heap.objs.size)
      repeat (any_goals (first | assumption | wp_step))
      refine codeAny_mono (codeAny_call_builtin (R := wants (fun v t => v = .none ∧ ∃ h2 tk L es ep t', t = { s with heap := h2, toks := tk } ∧ SetTR P w h2 s.heap.objs.size L es ep t' ∧ Got ns ns.length L ∧ (∀ b o, s.heap.get? b = some o → h2.get? b = some o)) E)
        F.called_set.init.plain F.entry_set_init (check_set_init_1 tyS ?_)) fun got2 s2 h2 => ?_
      · obtain ⟨⟨cl, dc, da, sl⟩, e0, e1, n0, e2⟩ := at_l
        simp only at e1 e2
        subst e1; subst e2
        have e3 : (s.heap.push (bareSet w)).get? l = some { cls := .type "tuple", dict := dc, data := .seq its n0, slots := sl } := Heap.get?_push_of_some _ e0
        have u1 := F.sub_tuple_set
        have u2 := F.sub_tuple_frozenset
        have u3 : (Value.type "tuple" == Value.type "dict") = false := by decide
        have at1 : (s.heap.push (bareSet w)).IsTuple l its := ⟨_, e3, rfl, n0, rfl⟩
        unfold Builtin.«set.__init__» noKeywords Builtin.Frozenset.updateFrom
        generalize hpi : pyIter = pI
        wp_walk
        subst hpi
        refine wpAny_pyIter_tuple at1 ?_
        refine wpAny_bind (wpAny_runValue ?_)
        have lt0 : l < s.heap.objs.size := Heap.lt_size e0
        have sz1 : (s.heap.push (bareSet w)).objs.size = s.heap.objs.size + 1 := Heap.size_push ..
        have ne1 : l ≠ (s.heap.push (bareSet w)).objs.size := by rw [sz1]; exact Nat.ne_of_lt (Nat.lt_succ_of_lt lt0)
        have out1 : s.heap.objs.size ∉ [(s.heap.push (bareSet w)).objs.size, l] := by
          rw [sz1]; simp only [List.mem_cons, List.not_mem_nil, or_false, not_or]; exact ⟨Nat.ne_of_lt (Nat.lt_succ_self _), Nat.ne_of_gt lt0⟩
        have nothing : ∀ b, s.heap.objs.size ≤ b → s.heap.get? b = none := fun b hb => by
          cases q : s.heap.get? b with
          | none => rfl
          | some o => exact absurd (Nat.lt_of_lt_of_le (Heap.lt_size q) hb) (Nat.lt_irrefl _)
        refine set_update_tups ((Walks.tuple (by simp [calm]) _ l ne1 its).toS) s.heap.objs.size out1 ns size_its few (fun i v hv => ?_) s.heap each (nothing _ (Nat.le_refl _)) (fun b hb => nothing b (by rw [List.mem_singleton.mp hb, sz1]; exact Nat.le_succ _)) (by simpa using deep) (its.size - 0) 0 _ (by omega) (Nat.zero_le _)
          ⟨⟨_, Heap.get?_push_size _ rfl, rfl, rfl⟩, (at1.push _)⟩ (fun b o e => Heap.get?_push_of_some _ (Heap.get?_push_of_some _ e)) ⟨[], #[], 0, _, setTR_fresh (Heap.get?_push_of_some _ there), Got.zero ns⟩ ?_
        · have q : its.toList[i]? = some v := by rw [Array.getElem?_toList]; exact hv
          rw [vals, List.getElem?_map] at q
          obtain ⟨p, hp, e⟩ := Option.map_eq_some_iff.mp q
          exact ⟨p, hp, e.symm⟩
        · intro s3 L es ep t' mv R3 g3 kp3
          obtain ⟨h3, gen3, dr3, tk3, os3⟩ := s3
          have q1 : gen3 = s.gens := mv.gens
          have q2 : dr3 = s.drawn := mv.drawn
          have q3 : os3 = s.os := mv.os
          subst q1; subst q2; subst q3
          show wpAny _ _ _ _ _ _
          refine wpAny_pure ?_
          show wpAny _ _ (PySem.ret Value.none) _ _ _
          rw [size_its] at g3
          exact wpAny_pure ⟨rfl, h3, tk3, L, es, ep, t', rfl, R3, g3, kp3⟩
      · cases got2 with
        | error e => exact h2
        | ok fl2 =>
          cases fl2 with
          | ret v2 =>
            obtain ⟨rfl, h3, tk3, L, es, ep, t', rfl, R3, g3, keep3⟩ := h2
            repeat (any_goals (first | assumption | wp_step))
            exact after _ _ _ _ _ _ R3 g3 keep3
          | _ => exact h2.elim
    | _ => exact h1.elim
end
section
variable {X : Cx}
def rSetTI (K : PySem.W.Frag) (w : World) : List V → Hp → VK → Prop := fun xs H Q => ∃ (l : Addr) (ns : List Int), xs = [V.ref l] ∧ SqT K H l (ns.map V.int) ∧ ns.length < 64 ∧
  ∀ a c, H a = none → c < 64 → Q (.ref a) (upd H a (SetO w a (fun j => decide (j ∈ ns)) c))
theorem cr_setTI (hc : X.calm = true) : CallR X (.type "set") (rSetTI X.K X.w) := by
  intro pins s σ H xs us Q I r h
  obtain ⟨l, ns, rfl, hl, few, q⟩ := h
  rw [Vals.ref1 r]
  obtain ⟨its, rv, pl, hz⟩ := I.tuple hl
  have free : H s.heap.objs.size = none := I.hok.fresh (Nat.le_refl _)
  refine call_set_tupI (P := X.prog) ns (I.ok.hd hc) pl (by simpa using ints_of_vals rv) (by unfold scanBound; omega) fun h2 tk c R le k => ?_
  exact ⟨.ref s.heap.objs.size, upd H s.heap.objs.size (SetO X.w s.heap.objs.size _ c), I.laid (t' := tk) k (Nat.le_refl _) (setO_new R), rfl, q _ c free (by omega)⟩
def rSetTT (K : PySem.W.Frag) (P : Program) (w : World) : List V → Hp → VK → Prop := fun xs H Q => ∃ (l : Addr) (ks : List (Addr × List Int)), xs = [V.ref l] ∧ SqT K H l (ks.map fun p => V.ref p.1) ∧ (∀ p ∈ ks, SqT K H p.1 (p.2.map V.int)) ∧ ks.length < 64 ∧
  ∀ a L, H a = none → (∀ p ∈ L, p ∈ ks) → (∀ p ∈ ks, p.2 ∈ L.map (·.2)) → Q (.ref a) (upd H a (SetTO P w a L))
theorem cr_setTT (hc : X.calm = true) (hu : X.A.units + 64 < cLine) : CallR X (.type "set") (rSetTT X.K X.prog X.w) := by
  intro pins s σ H xs us Q I r h
  obtain ⟨l, ks, rfl, hl, hk, few, q⟩ := h
  rw [Vals.ref1 r]
  obtain ⟨its, rv, pl, hz⟩ := I.tuple hl
  have free : H s.heap.objs.size = none := I.hok.fresh (Nat.le_refl _)
  refine set_tups_tuple (P := X.prog) (w := X.w) ks (I.ok.hd hc) pl (by simpa using refs_of_vals rv) (fun p hp => I.isT (hk p hp)) few (by omega) fun h2 tk L es ep t R g k => ?_
  refine ⟨.ref s.heap.objs.size, upd H s.heap.objs.size (SetTO X.prog X.w s.heap.objs.size L), I.laid (t' := tk) k (Nat.le_refl _) (setTO_new R.t0), rfl, q _ L free (fun p hp => List.mem_of_mem_take (g.sub p hp)) fun p hp => ?_⟩
  exact g.all p (by rw [List.take_length]; exact hp)
end
def opST : PyData → Option R
  | .tuple ds => if ds.length < 64 then opSSl ds else none
  | _ => none
theorem opST_eq (ds : List PyData) : opST (.tuple ds) = opSS (.list ds) := rfl
section
variable {X : Cx} {a : Expr} {f : Den} {pos p p2 q : Pos}
theorem ex_st (hc : X.calm = true) (hu : X.A.units + 64 < cLine) (hg : Gl X "sorted") (hm : X.mg "sorted" = none) (hg2 : Gl X "set") (hm2 : X.mg "set" = none) (hv : bootBuiltins ("sorted" : Str) = some (.builtin "sorted")) (hv2 : bootBuiltins ("set" : Str) = some (.type "set")) (ha : Ex X a f)
    (he : starEach [a] X.env = [(false, eval a X.env)] := by rfl) (hpl : (backTo q (starEach [] X.env)).any (·.1) = false := by rfl)
    (he2 : starEach [.Call (.Name "set" p2) [a] [] q] X.env = [(false, eval (.Call (.Name "set" p2) [a] [] q) X.env)] := by rfl) (hpl2 : (backTo pos (starEach [] X.env)).any (·.1) = false := by rfl) :
    Ex X (.Call (.Name "sorted" p) [.Call (.Name "set" p2) [a] [] q] [] pos) (dUn f opST) := by
  refine ⟨fun pins s σ H Q I hw => ?_⟩
  obtain ⟨O, r, z, r', E, hf, k⟩ := hw
  obtain ⟨x, d, q1, q3, q5⟩ := un_inv hf
  cases d with
  | tuple ds =>
    have q5 : (if ds.length < 64 then opSSl ds else none) = some z := q5
    by_cases hl : ds.length < 64
    · rw [if_pos hl] at q5
      unfold opSSl at q5
      cases hi : intsD ds with
      | some ns =>
        rw [hi] at q5
        cases q5
        have eds := intsD_some hi
        subst eds
        rw [List.length_map] at hl
        refine (pe_callB (cr_sortedSet hc) hg hm hv (pa_cons (pe_callTy (cr_setTI hc) hg2 hm2 hv2 (pa_cons ha pa_nil he) (by decide) (by decide) he hpl) pa_nil he2) (by decide) (by decide) he2 hpl2).run pins s σ H Q I ?_
        refine ⟨O, r, x, r', E, q1, fun H1 O1 v st1 E1 kp1 ro1 => ?_⟩
        obtain ⟨l, vs, rfl, hq, ra⟩ := (ro1.deref E1 q3).tuple
        have ev := RpAll.ints_of ra
        subst ev
        refine ⟨l, ns, rfl, hq, hl, fun b c hb hc64 => ⟨b, _, c, rfl, upd_same, hc64, fun ms p hs hm hlen hp => ?_⟩⟩
        have em : ms = sortD ltI ns := sorted_uniq ltI_ok _ _ (hs.imp fun {a b} h => decide_eq_true h) (sortD_sorted ltI_ok ns) fun z => by
          rw [hm, sortD_mem ltI_ok, decide_eq_true_iff]
        subst em
        have hp1 : H1 p = none := by
          by_cases e : p = b
          · rw [e, upd_same] at hp; cases hp
          · rw [upd_ne e] at hp; exact hp
        have sm : Same H1 (upd (upd H1 b (SetO X.w b (fun j => decide (j ∈ ns)) c)) p (.lst ((sortD ltI ns).map V.int))) := fun c u e => by
          rw [upd_ne (ne_of_none e hp1), upd_ne (ne_of_none e hb)]; exact e
        obtain ⟨O3, st3, E3, ro3⟩ := NewR.done (x := .tmp (.lst ((sortD ltI ns).map .int))) (v := .ref p) ⟨sm, p, rfl, hp1, _, upd_same, RpAll.ints _⟩ E1
        exact k _ O3 _ (st1.trans st3) E3 kp1 ro3
      | none =>
        rw [hi] at q5
        cases ht : tupsD ds with
        | none => rw [ht] at q5; cases q5
        | some ks =>
          rw [ht] at q5
          have q5 : (if evenK ks = true then some (R.tmp (.lst ((sortD lexB ks).map tupD))) else none) = some z := q5
          by_cases hev : evenK ks = true
          · rw [if_pos hev] at q5
            cases q5
            have eds := tupsD_some ht
            subst eds
            rw [List.length_map] at hl
            obtain ⟨dd, B, hd, hB⟩ := evenK_bd hev
            refine (pe_callB (cr_sortedT hc) hg hm hv (pa_cons (pe_callTy (cr_setTT hc hu) hg2 hm2 hv2 (pa_cons ha pa_nil he) (by decide) (by decide) he hpl) pa_nil he2) (by decide) (by decide) he2 hpl2).run pins s σ H Q I ?_
            refine ⟨O, r, x, r', E, q1, fun H1 O1 v st1 E1 kp1 ro1 => ?_⟩
            obtain ⟨l, vs, rfl, hq, ra⟩ := (ro1.deref E1 q3).tuple
            obtain ⟨L0, ev, ek, hsq⟩ := RpAll.tups ra
            subst ev ek
            refine ⟨l, L0, rfl, hq, hsq, by rw [List.length_map] at hl; exact hl, fun b L hb hsub hall => ⟨b, L, dd, B, rfl, upd_same, fun p hp => ?_, hd, fun p hp => hB _ (List.mem_map.mpr ⟨p, hsub p hp, rfl⟩), fun L' p pm nd hfew pw hp => ?_⟩⟩
            · have : Same H1 (upd H1 b (SetTO X.prog X.w b L)) := same_upd hb
              exact SqT.fx (Fx.of_same this) (hsq p (hsub p hp))
            · have hp1 : H1 p = none := by
                by_cases e : p = b
                · rw [e, upd_same] at hp; cases hp
                · rw [upd_ne e] at hp; exact hp
              have sub : ∀ p ∈ L', p ∈ L0 := fun p hp => hsub p (pm.mem_iff.mp hp)
              have bd : ∀ p ∈ L', p.2.length = dd ∧ TS.Bd B p.2 := fun p hp => hB _ (List.mem_map.mpr ⟨p, sub p hp, rfl⟩)
              have em : L'.map (·.2) = sortD lexB (L0.map (·.2)) := by
                refine sorted_uniq lexB_ok _ _ ?_ (sortD_sorted lexB_ok _) fun z => ?_
                · rw [List.pairwise_map]
                  rw [List.nodup_iff_pairwise_ne, List.pairwise_map] at nd
                  refine (pw.and nd).imp_of_mem fun {a b} ma mb ⟨h1, h2⟩ => ?_
                  have la := bd a ma
                  have lb := bd b mb
                  rcases lexB_tri a.2 b.2 with h | h | h
                  · exact h
                  · exact absurd h h2
                  · have := (code_lexB _ _ (by rw [la.1, lb.1]) lb.2 la.2).mpr h
                    omega
                · rw [sortD_mem lexB_ok]
                  constructor
                  · intro hz
                    obtain ⟨p, hp, e⟩ := List.mem_map.mp hz
                    exact List.mem_map.mpr ⟨p, sub p hp, e⟩
                  · intro hz
                    obtain ⟨p, hp, e⟩ := List.mem_map.mp hz
                    have := hall p hp
                    rw [e] at this
                    obtain ⟨p', hp', e'⟩ := List.mem_map.mp this
                    exact List.mem_map.mpr ⟨p', pm.mem_iff.mpr hp', e'⟩
              have sm : Same H1 (upd (upd H1 b (SetTO X.prog X.w b L)) p (.lst (L'.map fun q => V.ref q.1))) := fun c u e => by
                rw [upd_ne (ne_of_none e hp1), upd_ne (ne_of_none e hb)]; exact e
              have ra2 := RpAll.of_tups (K := X.K) (H := upd (upd H1 b (SetTO X.prog X.w b L)) p (.lst (L'.map fun q => V.ref q.1))) (L := L') fun p hp => SqT.fx (Fx.of_same sm) (hsq p (sub p hp))
              rw [em] at ra2
              obtain ⟨O3, st3, E3, ro3⟩ := NewR.done (x := .tmp (.lst ((sortD lexB (L0.map (·.2))).map tupD))) (v := .ref p) ⟨sm, p, rfl, hp1, _, upd_same, ra2⟩ E1
              exact k _ O3 _ (st1.trans st3) E3 kp1 ro3
          · rw [if_neg hev] at q5; cases q5
    · rw [if_neg hl] at q5; cases q5
  | none => cases q5
  | bool _ => cases q5
  | int _ => cases q5
  | str _ => cases q5
  | list _ => cases q5
  | dict _ => cases q5
end
end KV

end

section
/-! KS8: a, b = x, y where what is new stays changeable. -/
namespace KV
open PySem PySem.Spec PyProof.Rows L2
theorem EnvOk.less {K : PySem.W.Frag} {H : Hp} {O : Addr → Prop} {r : Nms} {σ : L2.St} {p : Addr} (E : EnvOk K H O r σ) (hn : ∀ (i : Nat) (s : Sl) (e : Ob), r[i]? = some s → s.ob = some e → σ[i]? ≠ some (some (.ref p))) : EnvOk K H (fun b => O b ∧ b ≠ p) r σ := by
  refine ⟨E.len, fun i s q => ?_, E.sep, fun b hb => E.mt b hb.1⟩
  obtain ⟨v, e1, z⟩ := E.ok i s q
  refine ⟨v, e1, ?_⟩
  cases s with
  | un => trivial
  | fz d => exact z
  | own c => obtain ⟨q', e2, ob, op⟩ := z; subst e2; exact ⟨q', rfl, ob, op, fun h => hn i _ c q rfl (by rw [e1, h])⟩
  | lck c => obtain ⟨q', e2, ob, op⟩ := z; subst e2; exact ⟨q', rfl, ob, op, fun h => hn i _ c q rfl (by rw [e1, h])⟩
theorem EnvOk.more {K : PySem.W.Frag} {H : Hp} {O : Addr → Prop} {r : Nms} {σ : L2.St} {p : Addr} (E : EnvOk K H O r σ) (hm : Mut (H p)) : EnvOk K H (fun b => O b ∨ b = p) r σ :=
  ⟨E.len, fun i s q => let ⟨v, e1, z⟩ := E.ok i s q; ⟨v, e1, z.mono fun _ => .inl⟩, E.sep, fun b h => by
    rcases h with h | rfl
    · exact E.mt b h
    · exact hm⟩
def slOf : R → Option Sl
  | .val d => some (.fz d)
  | .tmp c => some (.own c)
  | .slot _ => none
def dParO (i j : Nat) (f g : Den) : DenS := fun r => (f r).bind fun (x, r1) => (g r1).bind fun (y, r2) => (slOf x).bind fun s => (slOf y).bind fun t => ((setSl i s r2).bind (setSl j t)).map .nx
section
variable {X : Cx} {a b : Expr} {f g : Den} {io : Bool}
/-- two stores, one behind the other -/
theorem two_stores {K : PySem.W.Frag} {H : Hp} {O : Addr → Prop} {r r1 r2 : Nms} {σ : L2.St} {i j : Nat} {s t : Sl} {v w : V} (E : EnvOk K H O r σ) (hij : i ≠ j) (q1 : setSl i s r = some r1) (q2 : setSl j t r1 = some r2) (hs : SlOk K H O (some v) s) (ht : SlOk K H O (some w) t)
    (ns : ∀ c, s.ob = some c → ∀ (k : Nat) u e p, r[k]? = some u → u.ob = some e → v = .ref p → σ[k]? ≠ some (some (.ref p))) (nt : ∀ c, t.ob = some c → ∀ (k : Nat) u e p, r[k]? = some u → u.ob = some e → w = .ref p → σ[k]? ≠ some (some (.ref p)))
    (nst : ∀ c e, s.ob = some c → t.ob = some e → v ≠ w) : EnvOk K H O r2 ((σ.set i (some v)).set j (some w)) := by
  obtain ⟨e1, l1, k1⟩ := setSl_some q1
  obtain ⟨e2, l2, k2⟩ := setSl_some q2
  subst e1 e2
  have E1 := E.store (i := i) hs fun c hc k u e p h1 h2 _ h4 => ns c hc k u e p h1 h2 h4
  refine E1.store (i := j) ht fun c hc k u e p h1 h2 h3 h4 => ?_
  by_cases hk : k = i
  · subst hk
    have hl2 : k < σ.length := by rw [← E.len]; exact l1
    rw [List.getElem?_set_self l1] at h1
    rw [List.getElem?_set_self hl2]
    cases h1
    intro z
    have := Option.some.inj (Option.some.inj z)
    exact nst e c h2 hc (by rw [this, h4])
  · rw [List.getElem?_set_ne (Ne.symm hk)] at h1 ⊢
    exact nt c hc k u e p h1 h2 h4
theorem sx_parO {i j : Nat} {x y : Str} {px py pt pos : Pos} {kt k2 pt2} (hc : X.calm = true) (hN : X.N.Nodup) (hi : X.N[i]? = some x) (hj : X.N[j]? = some y) (hij : i ≠ j) (hx : X.env.scope.names.lookup x = some .local) (hy : X.env.scope.names.lookup y = some .local)
    (ha : Ex X a f) (hb : Ex X b g) (hw : swappedStores [.Tuple [.Name x px, .Name y py] kt pt] (.Tuple [a, b] k2 pt2) X.env = pure (some [x, y])) (h0 : io = true → i ≠ 0 ∧ j ≠ 0 := by decide)
    (s1 : starEach [a, b] X.env = (false, eval a X.env) :: starEach [b] X.env := by rfl) (s2 : starEach [b] X.env = (false, eval b X.env) :: starEach [] X.env := by rfl)
    (hs : swapsWithSole [.Tuple [.Name x px, .Name y py] kt pt] (.Tuple [a, b] k2 pt2) pos.line X.env = pure false := by rfl) :
    Sx io X (.Assign [.Tuple [.Name x px, .Name y py] kt pt] (.Tuple [a, b] k2 pt2) pos) (dParO i j f g) := by
  refine ⟨fun pins s σ H D I hh => (ps_par hc hN hi hj hij hx hy (pa_cons ha (pa_cons hb pa_nil s2) s1) hw hs).run pins s σ H D I ?_⟩
  obtain ⟨O, r, o, E, hf, k⟩ := hh
  unfold dParO at hf
  obtain ⟨⟨xx, r1⟩, q1, hf1⟩ := Option.bind_eq_some_iff.mp hf
  obtain ⟨⟨yy, r2⟩, q2, hf2⟩ := Option.bind_eq_some_iff.mp hf1
  obtain ⟨sx, q3, hf3⟩ := Option.bind_eq_some_iff.mp hf2
  obtain ⟨sy, q4, hf4⟩ := Option.bind_eq_some_iff.mp hf3
  obtain ⟨r4, q5, e⟩ := Option.map_eq_some_iff.mp hf4
  subst e
  obtain ⟨r3, q6, q7⟩ := Option.bind_eq_some_iff.mp q5
  have kps : ∀ (σ : L2.St) (v w : V) (ra : Nms), Keep r ra → ra = r2 → KeepS io r σ r4 ((σ.set i (some v)).set j (some w)) := fun σ v w ra kp e => by
    subst e
    obtain ⟨e1, _, k1⟩ := setSl_some q6
    obtain ⟨e2, _, k2⟩ := setSl_some q7
    subst e1 e2
    exact ((KeepS.of kp).trans (KeepS.store k1 fun z => (h0 z).1)).trans (KeepS.store k2 fun z => (h0 z).2)
  cases xx with
  | slot _ => cases q3
  | val d =>
    cases q3
    refine ⟨O, r, .val d, r1, E, q1, fun H1 O1 v st1 E1 kp1 ro1 => ⟨O1, r1, yy, r2, E1, q2, fun H2 O2 w st2 E2 kp2 ro2 => ⟨v, w, rfl, ?_⟩⟩⟩
    have rv : Rp X.K H2 v d := Rp.fx (E1.fxOf st2) ro1
    refine k H2 O2 _ (st1.trans st2) ?_ (kps σ v w r2 (kp1.trans kp2) rfl)
    cases yy with
    | slot _ => cases q4
    | val d2 =>
      cases q4
      exact two_stores E2 hij q6 q7 ⟨v, rfl, rv⟩ ⟨w, rfl, ro2⟩ (fun c z => by cases z) (fun c z => by cases z) (fun c e z => by cases z)
    | tmp c2 =>
      cases q4
      obtain ⟨q, rfl, ob, oq, hn⟩ := ro2
      exact two_stores E2 hij q6 q7 ⟨v, rfl, rv⟩ ⟨q, rfl, ob, oq⟩ (fun c z => by cases z) (fun c z kk u e p h1 h2 h3 => by cases h3; exact hn kk u e h1 h2) (fun c e z => by cases z)
  | tmp c1 =>
    cases q3
    refine ⟨O, r, .tmp c1, r1, E, q1, fun H1 O1 v st1 E1 kp1 ro1 => ?_⟩
    obtain ⟨p, rfl, ob1, op1, hn1⟩ := ro1
    have E1' := E1.less hn1
    refine ⟨_, r1, yy, r2, E1', q2, fun H2 O2 w st2 E2 kp2 ro2 => ⟨.ref p, w, rfl, ?_⟩⟩
    obtain ⟨u0, hu⟩ : ∃ u0, H1 p = some u0 := by
      cases z : H1 p with
      | none => have := ob1.mut; rw [z] at this; exact this.elim
      | some u0 => exact ⟨u0, rfl⟩
    have hp2 : H2 p = some u0 := st2.keep p u0 hu fun z => z.2 rfl
    have nO2 : ¬ O2 p := fun z => by
      rcases st2.own p z with q | q
      · exact q.2 rfl
      · rw [hu] at q; cases q
    have ob2 : ObOk X.K H2 p c1 := ob1.fx (E1'.fxOf st2) (hp2.trans hu.symm)
    have E3 := E2.more (p := p) (by have := ob2.mut; exact this)
    have nslot : ∀ (kk : Nat) (u : Sl) (e : Ob), r2[kk]? = some u → u.ob = some e → σ[kk]? ≠ some (some (.ref p)) := fun kk u e h1 h2 h3 => by
      obtain ⟨v', e1, z⟩ := E2.ok kk u h1
      rw [h3] at e1; cases e1
      cases u with
      | un => cases h2
      | fz _ => cases h2
      | own c => obtain ⟨q, e2, _, oq⟩ := z; cases e2; exact nO2 oq
      | lck c => obtain ⟨q, e2, _, oq⟩ := z; cases e2; exact nO2 oq
    have st : Stp H O H2 (fun b => O2 b ∨ b = p) := by
      have st2' : Stp H1 O1 H2 (fun b => O2 b ∨ b = p) := ⟨fun b o h n => st2.keep b o h fun z => n z.1, fun b z => by
        rcases z with z | rfl
        · rcases st2.own b z with q | q
          · exact .inl q.1
          · exact .inr q
        · exact .inl op1⟩
      exact st1.trans st2'
    refine k H2 _ _ st ?_ (kps σ (.ref p) w r2 (kp1.trans kp2) rfl)
    cases yy with
    | slot _ => cases q4
    | val d2 =>
      cases q4
      exact two_stores E3 hij q6 q7 ⟨p, rfl, ob2, .inr rfl⟩ ⟨w, rfl, ro2⟩ (fun c z kk u e p' h1 h2 h3 => by cases h3; exact nslot kk u e h1 h2) (fun c z => by cases z) (fun c e z1 z => by cases z)
    | tmp c2 =>
      cases q4
      obtain ⟨q, rfl, ob, oq, hn⟩ := ro2
      exact two_stores E3 hij q6 q7 ⟨p, rfl, ob2, .inr rfl⟩ ⟨q, rfl, ob, .inl oq⟩ (fun c z kk u e p' h1 h2 h3 => by cases h3; exact nslot kk u e h1 h2) (fun c z kk u e p' h1 h2 h3 => by cases h3; exact hn kk u e h1 h2) (fun c e z1 z h => by cases h; exact nO2 oq)
end
end KV

end

section
/-! KS9: enumerate of a name's own list, which is looked at meanwhile. -/
namespace KV
open PySem PySem.Spec PyProof.Rows L2
def enO (i : Nat) (r1 : Nms) : Option (List PyData × Nms × Option Nat) := match r1[i]? with
  | some (.own (.lst ds)) => if ds.length ≤ sizeLine then some (enumD ds, r1.set i (.lck (.lst ds)), some i) else none
  | some (.lck (.lst ds)) => if ds.length ≤ sizeLine then some (enumD ds, r1, none) else none
  | some (.fz (.list ds)) => if ds.length ≤ sizeLine then some (enumD ds, r1, none) else none
  | _ => none
def enOs (xs : List R) (r1 : Nms) : Option (List PyData × Nms × Option Nat) := match xs with
  | [.slot i] => enO i r1
  | _ => none
def iEnumO (fs : Dens) : DenI := fun r => (fs r).bind fun (xs, r1) => enOs xs r1
theorem jok_enumLck {K : PySem.W.Frag} {a : Addr} {ds : List PyData} {H0 : Hp} {r0 : Nms} {σ0 : L2.St} {n : Nat} (h : r0[n]? = some (.lck (.lst ds))) (hσ : σ0[n]? = some (some (.ref a))) : JOk K (Ite K a) (enumD ds) H0 r0 σ0 := by
  intro H O r σ fx E kp lk i
  obtain ⟨v, e1, p, e2, ⟨vs, hp, ra⟩, op⟩ := E.ok n _ (kp n _ h)
  rw [lk n _ h, hσ] at e1
  cases e1; cases e2
  refine ⟨fun d hd => ?_, fun hd => ⟨vs, SqL.of hp, by rw [ra.length, ← enumD_length]; exact List.getElem?_eq_none_iff.mp hd⟩⟩
  obtain ⟨x, e1, e3⟩ := enumD_get hd
  obtain ⟨v, hv, rp⟩ := ra.get' e1
  refine ⟨⟨vs, v, SqL.of hp, hv⟩, fun z H' hy => ?_⟩
  obtain ⟨T, v', rfl, hT, rfl, k1⟩ := hy
  have q1 := k1 vs (SqL.of hp)
  rw [hv] at q1
  cases q1
  subst e3
  exact pair_rp hT (.int _) rp
section
variable {X : Cx} {e : Expr} {p pos tpos : Pos} {elts : List Expr} {kk : Nat} {fs : Dens} {r r1 : Nms}
theorem ix_enumO (hg : Gl X "enumerate") (hm : X.mg "enumerate" = none) (ha : Exs X [e] fs) (hs : starEach [e] X.env = [(false, eval e X.env)] := by rfl) : Ix X (.Tuple elts kk tpos) (.Call (.Name "enumerate" p) [e] [] pos) (iEnumO fs) := by
  refine ⟨fun pins s σ H Q I hw => (pi_enum hg hm ha hs).run pins s σ H Q I ?_⟩
  obtain ⟨O, r, ds, r', u, E, hf, k⟩ := hw
  unfold iEnumO at hf
  obtain ⟨⟨xs, r1⟩, q1, hf⟩ := Option.bind_eq_some_iff.mp hf
  dsimp only at hf
  unfold enOs at hf
  split at hf
  · rename_i i
    unfold enO at hf
    refine ⟨O, r, [.slot i], r1, E, q1, fun H1 O1 vs st1 E1 kp1 ro1 => ?_⟩
    cases ro1 with
    | @cons v _ _ _ hl h1 t =>
      cases t
      have hv : σ[i]? = some (some v) := h1
      split at hf
      · rename_i ds' qi
        by_cases c : ds'.length ≤ sizeLine
        · rw [if_pos c] at hf; cases hf
          obtain ⟨v', e1, p, e2, ⟨vs, hp, ra⟩, op⟩ := E1.ok i _ qi
          rw [hv] at e1; cases e1; cases e2
          have hl : i < r1.length := (List.getElem?_eq_some_iff.mp qi).1
          refine ⟨p, vs, rfl, SqL.of hp, k H1 O1 _ st1 (E1.swap qi rfl rfl) (kp1.trans (Keep.set fun c z => by rw [qi] at z; cases z)) (by rw [enumD_length]; exact c) (fun j z c h => ?_) (jok_enumLck (List.getElem?_set_self hl) hv)⟩
          cases z
          have := kp1 i c h
          rw [qi] at this
          cases this
        · rw [if_neg c] at hf; cases hf
      · rename_i ds' qi
        by_cases c : ds'.length ≤ sizeLine
        · rw [if_pos c] at hf; cases hf
          obtain ⟨v', e1, p, e2, ⟨vs, hp, ra⟩, op⟩ := E1.ok i _ qi
          rw [hv] at e1; cases e1; cases e2
          exact ⟨p, vs, rfl, SqL.of hp, k H1 O1 _ st1 E1 kp1 (by rw [enumD_length]; exact c) (fun _ z => nomatch z) (jok_enumLck qi hv)⟩
        · rw [if_neg c] at hf; cases hf
      · rename_i ds' qi
        by_cases c : ds'.length ≤ sizeLine
        · rw [if_pos c] at hf; cases hf
          obtain ⟨v', e1, x, e2, rp⟩ := E1.ok i _ qi
          rw [hv] at e1; cases e1; cases e2
          cases rp with
          | @lst a vs _ f1 g1 => exact ⟨a, vs, rfl, f1.sq, k H1 O1 _ st1 E1 kp1 (by rw [enumD_length]; exact c) (fun _ z => nomatch z) (jok_enum f1 g1)⟩
        · rw [if_neg c] at hf; cases hf
      · cases hf
  · cases hf
structure wEnO (xs : List R) (r : Nms) (Q : List PyData → Nms → Option Nat → Prop) : Prop where
  ex : ∃ ds r' u, enOs xs r = some (ds, r', u) ∧ Q ds r' u
theorem weno_own {i : Nat} {ds : List PyData} {Q : List PyData → Nms → Option Nat → Prop} (e : r[i]? = some (.own (.lst ds))) (l : ds.length ≤ 16777216) (e2 : r.set i (.lck (.lst ds)) = r1) (h : Q (enumD ds) r1 (some i)) : wEnO [.slot i] r Q :=
  ⟨_, _, _, by unfold enOs enO; simp only [e]; rw [if_pos (by rw [sizeLine_eq]; exact l), e2], h⟩
theorem weno_fz {i : Nat} {ds : List PyData} {Q : List PyData → Nms → Option Nat → Prop} (e : r[i]? = some (.fz (.list ds))) (l : ds.length ≤ 16777216) (h : Q (enumD ds) r none) : wEnO [.slot i] r Q :=
  ⟨_, _, _, by unfold enOs enO; simp only [e]; rw [if_pos (by rw [sizeLine_eq]; exact l)], h⟩
theorem wi_enumO {Q : List PyData → Nms → Option Nat → Prop} (h : wN fs r fun xs r1 => wEnO xs r1 Q) : wI (iEnumO fs) r Q := by
  obtain ⟨xs, r1, e, ⟨ds, r2, u, e2, q⟩⟩ := h.ex
  exact ⟨ds, r2, u, by unfold iEnumO; simp only [e, Option.bind_some]; exact e2, q⟩
end
end KV

end

section
/-! KDat3: tuples for lists; the calculus for what KS6 to KS8 bring. -/
namespace KV
open PySem PySem.Spec PyProof.Rows L2
/-- tuples for lists -/
def toTp : Nat → PyData → PyData
  | 0, d => d
  | n + 1, .list xs => .tuple (xs.map (toTp n))
  | n + 1, .tuple xs => .tuple (xs.map (toTp n))
  | _ + 1, d => d
section
variable {f g : Den} {r r1 : Nms} {Q : R → Nms → Prop} {i j : Nat} {N B C : Nms → Prop} {T : R → Nms → Prop} {d : PyData}
structure wPopE (i : Nat) (y : R) (r : Nms) (Q : R → Nms → Prop) : Prop where
  ex : ∃ k ds j d, y = .val (.int k) ∧ r[i]? = some (.own (.lst ds)) ∧ (-1000000 ≤ k ∧ k ≤ 1000000) ∧ seqIndex? k ds.length = some j ∧ ds[j]? = some d ∧ Q (.val d) (r.set i (.own (.lst (ds.eraseIdx j))))
theorem wpop_e {ds : List PyData} {k : Int} {jj : Nat} (e : r[i]? = some (.own (.lst ds))) (hk : -1000000 ≤ k ∧ k ≤ 1000000) (e1 : seqIndex? k ds.length = some jj) (e2 : ds[jj]? = some d) (e3 : r.set i (.own (.lst (ds.eraseIdx jj))) = r1) (h : Q (.val d) r1) : wPopE i (.val (.int k)) r Q :=
  ⟨k, ds, jj, d, rfl, e, hk, e1, e2, by rw [e3]; exact h⟩
theorem wd_pop {ds0 : List PyData} (e0 : r[i]? = some (.own (.lst ds0))) (h : wD g r fun y r1 => wPopE i y r1 Q) : wD (dPop i g) r Q := by
  obtain ⟨y, r1, e, ⟨k, ds, jj, d, rfl, e1, hk, e2, e3, q⟩⟩ := h.ex
  refine ⟨.val d, _, ?_, q⟩
  unfold dPop ownL
  simp only [e0, e, e1, Option.bind_some, intOf, e2, e3, Option.map_some]
  exact if_pos (by omega)
structure wPut2 (i j : Nat) (x y : R) (r : Nms) (Q : Nms → Prop) : Prop where
  ex : wPut i x r fun r1 => wPut j y r1 Q
theorem wput2 {x y : R} {Q : Nms → Prop} (h : wPut i x r fun r1 => wPut j y r1 Q) : wPut2 i j x y r Q := ⟨h⟩
theorem ws_parO (h : wD f r fun x r1 => wD g r1 fun y r2 => wPut2 i j x y r2 N) : wS (dParO i j f g) r N T B C := by
  obtain ⟨x, r1, e, ⟨y, r2, e2, ⟨⟨s, r3, e3, e4, ⟨t, r4, e5, e6, q⟩⟩⟩⟩⟩ := h.ex
  refine ⟨.nx r4, ?_, q⟩
  have h1 : slOf x = some s := by cases x <;> exact e3
  have h2 : slOf y = some t := by cases y <;> exact e5
  unfold dParO
  simp only [e, e2, h1, h2, e4, e6, Option.bind_some, Option.map_some]
theorem wo_srt {ns : List Int} {QR : R → Prop} (h : QR (.tmp (.lst ((srtI ns).map .int)))) : wO (opSrt [.list (ns.map .int)]) QR := ⟨_, by show Option.map _ (intsD (ns.map .int)) = _; rw [intsD_map]; rfl, h⟩
theorem wo_srtR {ns : List Int} {QR : R → Prop} (h : QR (.tmp (.lst ((srtI ns).reverse.map .int)))) : wO (opSrtR (.list (ns.map .int))) QR := ⟨_, by show Option.map _ (intsD (ns.map .int)) = _; rw [intsD_map]; rfl, h⟩
theorem wo_rev {xs : List PyData} {QR : R → Prop} (h : QR (.tmp (.lst xs.reverse))) : wO (opRev (.list xs)) QR := ⟨_, rfl, h⟩
theorem and_nt {A B : Prop} (h : B) : ((!true) = true → A) ∧ ((!true) = false → B) := ⟨fun e => (nomatch e), fun _ => h⟩
theorem and_nf {A B : Prop} (h : A) : ((!false) = true → A) ∧ ((!false) = false → B) := ⟨fun _ => h, fun e => (nomatch e)⟩
end
end KV

end

section
/-! M03: dealing answers to servers: what the greedy way needs is the least. -/
namespace M3
/-- how many are greater -/
def cnt (x : Int) : List Int → Nat
  | [] => 0
  | l :: L => (if x < l then 1 else 0) + cnt x L
theorem cnt_append (x : Int) : ∀ A B : List Int, cnt x (A ++ B) = cnt x A + cnt x B
  | [], B => by simp [cnt]
  | a :: A, B => by show (if x < a then 1 else 0) + cnt x (A ++ B) = _; rw [cnt_append x A B]; show _ = (if x < a then 1 else 0) + cnt x A + cnt x B; omega
theorem cnt_perm {x : Int} {A B : List Int} (h : A.Perm B) : cnt x A = cnt x B := by
  induction h with
  | nil => rfl
  | cons a _ ih => show _ + _ = _ + _; rw [ih]
  | swap a b l => show (if x < b then 1 else 0) + ((if x < a then 1 else 0) + cnt x l) = (if x < a then 1 else 0) + ((if x < b then 1 else 0) + cnt x l); omega
  | trans _ _ h1 h2 => exact h1.trans h2
theorem cnt_anti {x y : Int} (h : x ≤ y) : ∀ A : List Int, cnt y A ≤ cnt x A
  | [] => Nat.le_refl _
  | a :: A => by
    have := cnt_anti h A
    show (if y < a then 1 else 0) + cnt y A ≤ (if x < a then 1 else 0) + cnt x A
    by_cases h1 : y < a
    · rw [if_pos h1, if_pos (by omega)]; omega
    · rw [if_neg h1]; split <;> omega
theorem cnt_zero {x : Int} : ∀ A : List Int, (∀ a ∈ A, a ≤ x) → cnt x A = 0
  | [], _ => rfl
  | a :: A, h => by
    show (if x < a then 1 else 0) + cnt x A = 0
    rw [if_neg (by have := h a (by simp); omega), cnt_zero A fun b hb => h b (by simp [hb])]
theorem cnt_low : ∀ A : List Int, ∃ x, cnt x A = A.length ∧ ∀ y, y ≤ x → cnt y A = A.length
  | [] => ⟨0, rfl, fun _ _ => rfl⟩
  | a :: A => by
    obtain ⟨x, h1, h2⟩ := cnt_low A
    refine ⟨min x (a - 1), ?_, fun y hy => ?_⟩
    · show (if _ then 1 else 0) + cnt _ A = A.length + 1
      rw [if_pos (by omega), h2 _ (by omega)]; omega
    · show (if _ then 1 else 0) + cnt _ A = A.length + 1
      rw [if_pos (by omega), h2 _ (by omega)]; omega
/-- the lasts that stay unused, by versions from the greatest on; both descend -/
def gr : List Int → List Int → List Int
  | [], _ => []
  | l :: L, [] => l :: L
  | l :: L, v :: V => if l ≤ v then gr L V else l :: gr L (v :: V)
abbrev Desc (L : List Int) : Prop := L.Pairwise (· ≥ ·)
theorem gr_key : ∀ (L V : List Int), Desc L → Desc V → ∀ x, cnt x (gr L V) = 0 ∨ ∃ y, x ≤ y ∧ cnt x (gr L V) + cnt y V ≤ cnt y L
  | [], V, _, _, x => .inl (by unfold gr; rfl)
  | l :: L, [], _, _, x => .inr ⟨x, Int.le_refl _, by unfold gr; exact Nat.le_refl _⟩
  | l :: L, v :: V, h1, h2, x => by
    obtain ⟨a1, a2⟩ := List.pairwise_cons.mp h1
    obtain ⟨b1, b2⟩ := List.pairwise_cons.mp h2
    unfold gr
    by_cases c : l ≤ v
    · rw [if_pos c]
      rcases gr_key L V a2 b2 x with h | ⟨y, hy, h⟩
      · exact .inl h
      · by_cases q : y < v ∧ ¬ y < l
        · have z : cnt y L = 0 := cnt_zero L fun a ha => by have := a1 a ha; omega
          left; omega
        · refine .inr ⟨y, hy, ?_⟩
          show _ + ((if y < v then 1 else 0) + cnt y V) ≤ (if y < l then 1 else 0) + cnt y L
          split <;> split <;> omega
    · rw [if_neg c]
      have top : ∀ y : Int, l - 1 ≤ y → cnt y (v :: V) = 0 := fun y hy => cnt_zero _ fun a ha => by
        rcases List.mem_cons.mp ha with e | e
        · omega
        · have := b1 a e; omega
      have alone : cnt x (gr L (v :: V)) = 0 → cnt x (l :: gr L (v :: V)) = 0 ∨ ∃ y, x ≤ y ∧ cnt x (l :: gr L (v :: V)) + cnt y (v :: V) ≤ cnt y (l :: L) := fun h => by
        by_cases q : x < l
        · refine .inr ⟨l - 1, by omega, ?_⟩
          rw [top _ (Int.le_refl _)]
          show (if x < l then 1 else 0) + cnt x (gr L (v :: V)) + 0 ≤ (if l - 1 < l then 1 else 0) + cnt (l - 1) L
          rw [if_pos q, if_pos (by omega), h]; omega
        · left
          show (if x < l then 1 else 0) + cnt x (gr L (v :: V)) = 0
          rw [if_neg q, h]
      rcases gr_key L (v :: V) a2 h2 x with h | ⟨y, hy, h⟩
      · exact alone h
      · by_cases q : y < l
        · refine .inr ⟨y, hy, ?_⟩
          show (if x < l then 1 else 0) + cnt x (gr L (v :: V)) + cnt y (v :: V) ≤ (if y < l then 1 else 0) + cnt y L
          rw [if_pos q, if_pos (by omega)]; omega
        · have z : cnt y L = 0 := cnt_zero L fun a ha => by have := a1 a ha; omega
          exact alone (by omega)
/-! dealings -/
abbrev An := Int × Int
def fits (s a : An) : Prop := s.1 < a.1 ∧ s.2 ≤ a.2
inductive Deal : List An → List An → Nat → Prop
  | done (S : List An) : Deal S [] S.length
  | new {S : List An} {a : An} {as : List An} {n : Nat} : Deal (S ++ [a]) as n → Deal S (a :: as) n
  | old {S1 S2 : List An} {s a : An} {as : List An} {n : Nat} : fits s a → Deal (S1 ++ a :: S2) as n → Deal (S1 ++ s :: S2) (a :: as) n
theorem Deal.perm {S : List An} {as : List An} {n : Nat} (h : Deal S as n) : ∀ {S' : List An}, S.Perm S' → Deal S' as n := by
  induction h with
  | done S => intro S' p; rw [p.length_eq]; exact .done _
  | new _ ih => intro S' p; exact .new (ih (p.append_right _))
  | @old S1 S2 s a as n hf _ ih =>
    intro S' p
    have hm : s ∈ S' := p.mem_iff.mp (by simp)
    obtain ⟨T1, T2, e⟩ := List.append_of_mem hm
    subst e
    have q : (s :: (S1 ++ S2)).Perm (s :: (T1 ++ T2)) := (List.perm_middle.symm.trans p).trans List.perm_middle
    have q2 := List.Perm.cons_inv q
    exact .old hf (ih ((List.perm_middle.trans (q2.cons a)).trans List.perm_middle.symm))
/-- what is greater than x in none is less: the greedy way's lasts L with versions V of the time t -/
structure Lag (t : Int) (L V : List Int) (S : List An) : Prop where
  ex : ∃ O N : List An, S.Perm (O ++ N) ∧ (∀ s ∈ O, s.1 < t) ∧ (∀ s ∈ N, s.1 = t) ∧ (N.map (·.2)).Perm V ∧ ∀ y, cnt y L ≤ cnt y (O.map (·.2)) + cnt y V
theorem Lag.fin {t : Int} {L V : List Int} {S : List An} (h : Lag t L V S) (h1 : Desc L) (h2 : Desc V) (x : Int) : cnt x (gr L V ++ V) ≤ cnt x (S.map (·.2)) := by
  obtain ⟨O, N, p, _, _, hv, hc⟩ := h
  have e : cnt x (S.map (·.2)) = cnt x (O.map (·.2)) + cnt x V := by
    rw [cnt_perm (p.map _), List.map_append, cnt_append, cnt_perm hv]
  rw [e, cnt_append]
  rcases gr_key L V h1 h2 x with z | ⟨y, hy, z⟩
  · omega
  · have := hc y
    have := cnt_anti hy (O.map (·.2))
    omega
theorem len_of_cnt {A B : List Int} (h : ∀ x, cnt x A ≤ cnt x B) : A.length ≤ B.length := by
  obtain ⟨x, _, h1⟩ := cnt_low A
  obtain ⟨y, _, h2⟩ := cnt_low B
  have := h (min x y)
  rw [h1 _ (by omega), h2 _ (by omega)] at this
  exact this
def sortDe (L : List Int) : List Int := (KV.srtI L).reverse
theorem sortDe_perm (L : List Int) : (sortDe L).Perm L := (List.reverse_perm _).trans (KV.srtI_perm L)
theorem sortDe_desc (L : List Int) : Desc (sortDe L) := by unfold sortDe Desc; rw [List.pairwise_reverse]; exact KV.srtI_sorted L
/-- the greedy way, answer by answer -/
def go (L V : List Int) (t : Int) : List An → List Int
  | [] => gr L V ++ V
  | a :: as => if a.1 = t then go L (a.2 :: V) t as else go (sortDe (gr L V ++ V)) [a.2] a.1 as
/-- what comes: later, or at once and of a greater version -/
structure Come (t : Int) (V : List Int) (as : List An) : Prop where
  le : ∀ a ∈ as, t < a.1 ∨ (a.1 = t ∧ ∀ v ∈ V, v ≤ a.2)
  up : as.Pairwise fun a b => a.1 < b.1 ∨ (a.1 = b.1 ∧ a.2 ≤ b.2)
theorem Come.same {t : Int} {V : List Int} {a : An} {as : List An} (h : Come t V (a :: as)) (e : a.1 = t) (hV : Desc V) : Come t (a.2 :: V) as ∧ Desc (a.2 :: V) := by
  obtain ⟨h1, h2⟩ := h
  obtain ⟨u1, u2⟩ := List.pairwise_cons.mp h2
  have ha := h1 a (by simp)
  refine ⟨⟨fun b hb => ?_, u2⟩, List.pairwise_cons.mpr ⟨fun v hv => ?_, hV⟩⟩
  · rcases h1 b (by simp [hb]) with q | ⟨q, r⟩
    · exact .inl q
    · refine .inr ⟨q, fun v hv => ?_⟩
      rcases List.mem_cons.mp hv with z | z
      · rcases u1 b hb with w | w
        · omega
        · omega
      · exact r v z
  · rcases ha with q | ⟨_, r⟩
    · omega
    · exact r v hv
theorem Come.later {t : Int} {V : List Int} {a : An} {as : List An} (h : Come t V (a :: as)) : Come a.1 [a.2] as := by
  obtain ⟨h1, h2⟩ := h
  obtain ⟨u1, u2⟩ := List.pairwise_cons.mp h2
  refine ⟨fun b hb => ?_, u2⟩
  rcases u1 b hb with w | w
  · exact .inl w
  · exact .inr ⟨w.1.symm, fun v hv => by simp at hv; omega⟩
theorem Lag.times {t : Int} {L V : List Int} {S : List An} (h : Lag t L V S) : ∀ s ∈ S, s.1 ≤ t := by
  obtain ⟨O, N, p, h1, h2, _⟩ := h
  intro s hs
  rcases List.mem_append.mp (p.mem_iff.mp hs) with q | q
  · have := h1 s q; omega
  · have := h2 s q; omega
theorem cnt_one (y v : Int) : cnt y [v] = if y < v then 1 else 0 := by show (if y < v then 1 else 0) + 0 = _; omega
theorem cnt_cons (y v : Int) (V : List Int) : cnt y (v :: V) = (if y < v then 1 else 0) + cnt y V := rfl
/-- no dealing needs less than the greedy way -/
theorem lb {S as : List An} {n : Nat} (d : Deal S as n) : ∀ {t : Int} {L V : List Int}, Lag t L V S → Desc L → Desc V → Come t V as → (go L V t as).length ≤ n := by
  induction d with
  | done S =>
    intro t L V hl h1 h2 _
    have := len_of_cnt (hl.fin h1 h2)
    rw [List.length_map] at this
    exact this
  | @new S a as n _ ih =>
    intro t L V hl h1 h2 hc
    unfold go
    by_cases e : a.1 = t
    · rw [if_pos e]
      obtain ⟨c1, c2⟩ := hc.same e h2
      refine ih ?_ h1 c2 c1
      obtain ⟨O, N, p, q1, q2, q3, q4⟩ := hl
      refine ⟨O, N ++ [a], by rw [← List.append_assoc]; exact p.append_right _, q1, fun s hs => ?_, ?_, fun y => ?_⟩
      · rcases List.mem_append.mp hs with z | z
        · exact q2 s z
        · simp at z; rw [z]; exact e
      · rw [List.map_append]
        exact (q3.append_right _).trans (List.perm_append_comm)
      · have := q4 y
        rw [cnt_cons]; omega
    · rw [if_neg e]
      have ht : t < a.1 := by rcases hc.le a (by simp) with z | z <;> omega
      refine ih ⟨S, [a], .refl _, fun s hs => ?_, fun s hs => ?_, .refl _, fun y => ?_⟩ (sortDe_desc _) (by simp) hc.later
      · have := hl.times s hs; omega
      · simp at hs; rw [hs]
      · rw [cnt_perm (sortDe_perm _)]
        have := hl.fin h1 h2 y
        omega
  | @old S1 S2 s a as n hf _ ih =>
    intro t L V hl h1 h2 hc
    unfold go
    by_cases e : a.1 = t
    · rw [if_pos e]
      obtain ⟨c1, c2⟩ := hc.same e h2
      refine ih ?_ h1 c2 c1
      obtain ⟨O, N, p, q1, q2, q3, q4⟩ := hl
      have hsO : s ∈ O := by
        rcases List.mem_append.mp (p.mem_iff.mp (by simp : s ∈ S1 ++ s :: S2)) with z | z
        · exact z
        · have := q2 s z; have := hf.1; omega
      obtain ⟨O1, O2, eO⟩ := List.append_of_mem hsO
      subst eO
      have p2 : (S1 ++ S2).Perm (O1 ++ O2 ++ N) := by
        have : (s :: (S1 ++ S2)).Perm (s :: (O1 ++ O2 ++ N)) := List.perm_middle.symm.trans (p.trans (by
          rw [List.append_assoc, List.append_assoc]
          exact List.perm_middle))
        exact List.Perm.cons_inv this
      refine ⟨O1 ++ O2, N ++ [a], ?_, fun z hz => q1 z (by simp at hz ⊢; rcases hz with k | k <;> simp [k]), fun z hz => ?_, ?_, fun y => ?_⟩
      · refine List.perm_middle.trans ((p2.cons a).trans ?_)
        rw [← List.append_assoc]
        exact List.perm_append_comm (l₁ := [a])
      · rcases List.mem_append.mp hz with k | k
        · exact q2 z k
        · simp at k; rw [k]; exact e
      · rw [List.map_append]
        exact (q3.append_right _).trans (List.perm_append_comm)
      · have := q4 y
        rw [List.map_append, List.map_cons, cnt_append, cnt_cons] at this
        rw [List.map_append, cnt_append, cnt_cons]
        have := hf.2
        split at * <;> split at * <;> omega
    · rw [if_neg e]
      have ht : t < a.1 := by rcases hc.le a (by simp) with z | z <;> omega
      refine ih ⟨S1 ++ S2, [a], ?_, fun z hz => ?_, fun z hz => ?_, .refl _, fun y => ?_⟩ (sortDe_desc _) (by simp) hc.later
      · exact List.perm_middle.trans (List.perm_append_comm (l₁ := [a]))
      · have := hl.times z (by simp at hz ⊢; rcases hz with k | k <;> simp [k]); omega
      · simp at hz; rw [hz]
      · rw [cnt_perm (sortDe_perm _)]
        have h3 := hl.fin h1 h2 y
        rw [List.map_append, List.map_cons, cnt_append, cnt_append, cnt_cons] at h3
        rw [cnt_append, List.map_append, cnt_append, cnt_one]
        have := hf.2
        split at * <;> split at * <;> omega
/-! a dealing that needs no more -/
def un : List An → List Int → List An
  | [], _ => []
  | r :: R, [] => r :: R
  | r :: R, v :: V => if r.2 ≤ v then un R V else r :: un R (v :: V)
theorem un_gr : ∀ (R : List An) (V : List Int), (un R V).map (·.2) = gr (R.map (·.2)) V
  | [], V => by unfold un gr; rfl
  | r :: R, [] => by unfold un gr; rfl
  | r :: R, v :: V => by
    unfold un gr
    show List.map _ (if r.2 ≤ v then _ else _) = if r.2 ≤ v then _ else _
    split
    · exact un_gr R V
    · rw [List.map_cons, un_gr R (v :: V)]
theorem un_sub : ∀ (R : List An) (V : List Int), ∀ s ∈ un R V, s ∈ R
  | [], V, s, h => by unfold un at h; cases h
  | r :: R, [], s, h => by unfold un at h; exact h
  | r :: R, v :: V, s, h => by
    unfold un at h
    split at h
    · exact List.mem_cons_of_mem _ (un_sub R V s h)
    · rcases List.mem_cons.mp h with z | z
      · rw [z]; simp
      · exact List.mem_cons_of_mem _ (un_sub R (v :: V) s z)
theorem news {t : Int} {rest : List An} {n : Nat} : ∀ (V : List Int) (E : List An), Deal (E ++ V.map (fun v => (t, v))) rest n → Deal E (V.map (fun v => (t, v)) ++ rest) n
  | [], E, h => by simpa using h
  | v :: V, E, h => .new (news V (E ++ [(t, v)]) (by simpa using h))
theorem ub1 {t : Int} : ∀ (R : List An) (V : List Int) (E rest : List An) (n : Nat), (∀ s ∈ R, s.1 < t) → Deal (E ++ un R V ++ V.map (fun v => (t, v))) rest n → Deal (E ++ R) (V.reverse.map (fun v => (t, v)) ++ rest) n
  | [], V, E, rest, n, _, h => by
    refine news V.reverse _ (h.perm ?_)
    unfold un
    exact ((List.reverse_perm V).symm.map _).append_left _
  | r :: R, [], E, rest, n, _, h => by unfold un at h; simpa using h
  | r :: R, v :: V, E, rest, n, hR, h => by
    unfold un at h
    split at h
    · rename_i c
      rw [List.reverse_cons, List.map_append, List.append_assoc]
      have := ub1 R V (E ++ [r]) ([v].map (fun v => (t, v)) ++ rest) n (fun s hs => hR s (by simp [hs])) (by
        have hf : fits r (t, v) := ⟨hR r (by simp), c⟩
        have key : Deal (E ++ (t, v) :: (un R V ++ V.map fun v => (t, v))) rest n := h.perm (by
          rw [List.append_assoc]
          refine List.Perm.append_left E ?_
          rw [List.map_cons]
          exact List.perm_middle)
        have := Deal.old (S1 := E) (S2 := un R V ++ V.map fun v => (t, v)) hf key
        simpa [List.append_assoc] using this)
      simpa [List.append_assoc] using this
    · have := ub1 R (v :: V) (E ++ [r]) rest n (fun s hs => hR s (by simp [hs])) (by simpa [List.append_assoc] using h)
      simpa [List.append_assoc] using this
theorem map_perm : ∀ (L : List Int) (S : List An), (S.map (·.2)).Perm L → ∃ R : List An, R.Perm S ∧ R.map (·.2) = L
  | [], S, h => by
    have := h.length_eq
    cases S with
    | nil => exact ⟨[], .refl _, rfl⟩
    | cons s S => simp at this
  | l :: L, S, h => by
    obtain ⟨s, hs, e⟩ := List.mem_map.mp (h.mem_iff.mpr (by simp : l ∈ l :: L))
    obtain ⟨S1, S2, eS⟩ := List.append_of_mem hs
    subst eS
    have h2 : ((S1 ++ S2).map (·.2)).Perm L := by
      rw [List.map_append, List.map_cons, e] at h
      have := (List.perm_middle.symm.trans h).cons_inv
      rw [List.map_append]; exact this
    obtain ⟨R, r1, r2⟩ := map_perm L (S1 ++ S2) h2
    exact ⟨s :: R, (r1.cons s).trans List.perm_middle.symm, by rw [List.map_cons, r2, e]⟩
theorem ub : ∀ (as : List An) (t : Int) (L V : List Int) (S : List An), (∀ s ∈ S, s.1 < t) → (S.map (·.2)).Perm L → Come t V as → Desc V → Deal S (V.reverse.map (fun v => (t, v)) ++ as) (go L V t as).length
  | [], t, L, V, S, hS, hp, _, _ => by
    obtain ⟨R, r1, r2⟩ := map_perm L S hp
    refine Deal.perm ?_ r1
    have := ub1 (t := t) R V [] [] (go L V t []).length (fun s hs => hS s (r1.mem_iff.mp hs)) (by
      have e : (go L V t []).length = ([] ++ un R V ++ V.map fun v => (t, v)).length := by
        unfold go
        rw [List.nil_append, List.length_append, List.length_append, List.length_map, ← r2, ← un_gr, List.length_map]
      rw [e]
      exact .done _)
    simpa using this
  | a :: as, t, L, V, S, hS, hp, hc, hV => by
    unfold go
    by_cases e : a.1 = t
    · rw [if_pos e]
      obtain ⟨c1, c2⟩ := hc.same e hV
      have := ub as t L (a.2 :: V) S hS hp c1 c2
      rw [List.reverse_cons, List.map_append, List.append_assoc] at this
      have ea : a = (t, a.2) := by rw [← e]
      rw [ea]
      exact this
    · rw [if_neg e]
      have ht : t < a.1 := by rcases hc.le a (by simp) with z | z <;> omega
      obtain ⟨R, r1, r2⟩ := map_perm L S hp
      refine Deal.perm ?_ r1
      refine ub1 (t := t) R V [] (a :: as) _ (fun s hs => hS s (r1.mem_iff.mp hs)) ?_
      have := ub as a.1 (sortDe (gr L V ++ V)) [a.2] ([] ++ un R V ++ V.map fun v => (t, v)) (fun s hs => ?_) ?_ hc.later (by simp)
      · simpa using this
      · rw [List.nil_append] at hs
        rcases List.mem_append.mp hs with z | z
        · have := hS s (r1.mem_iff.mp (un_sub R V s z)); omega
        · obtain ⟨v, _, rfl⟩ := List.mem_map.mp z
          exact ht
      · rw [List.nil_append, List.map_append, un_gr, r2, List.map_map]
        refine List.Perm.trans ?_ (sortDe_perm _).symm
        have : ((fun x : An => x.2) ∘ fun v => (t, v)) = id := rfl
        rw [this, List.map_id]
/-- what the greedy way needs -/
def needN : List An → Nat
  | [] => 0
  | a :: as => (go [] [a.2] a.1 as).length
theorem needN_least {as : List An} (h : as.Pairwise fun a b => a.1 < b.1 ∨ (a.1 = b.1 ∧ a.2 ≤ b.2)) : Deal [] as (needN as) ∧ ∀ n, Deal [] as n → needN as ≤ n := by
  cases as with
  | nil => exact ⟨.done _, fun n _ => Nat.zero_le _⟩
  | cons a as =>
    have hc : Come a.1 [] (a :: as) := ⟨fun b hb => by
      rcases List.mem_cons.mp hb with z | z
      · exact .inr ⟨by rw [z], fun v hv => by cases hv⟩
      · rcases (List.pairwise_cons.mp h).1 b z with w | w
        · exact .inl w
        · exact .inr ⟨w.1.symm, fun v hv => by cases hv⟩, h⟩
    obtain ⟨c1, c2⟩ := hc.same rfl (by simp)
    have e : go [] [] a.1 (a :: as) = go [] [a.2] a.1 as := by rw [go, if_pos rfl]
    constructor
    · have := ub (a :: as) a.1 [] [] [] (fun s hs => by cases hs) (.refl _) hc (by simp)
      rw [e] at this
      exact this
    · intro n d
      have := lb d (t := a.1) (L := []) (V := []) ⟨[], [], .refl _, fun s hs => (by cases hs), fun s hs => (by cases hs), .refl _, fun y => Nat.le_refl _⟩ (by simp) (by simp) hc
      rw [e] at this
      exact this
end M3

end

section
/-! M03b: the greedy way as the program goes it. -/
namespace M3
open KV
def erF : List Int → Int → List Int
  | [], _ => []
  | l :: L, v => if l ≤ v then L else l :: erF L v
theorem gr_nil (L : List Int) : gr L [] = L := by cases L <;> rfl
theorem gr_step : ∀ (L : List Int) (v : Int) (V : List Int), Desc (v :: V) → gr L (v :: V) = gr (erF L v) V
  | [], v, V, _ => by unfold erF gr; rfl
  | l :: L, v, V, h => by
    rw [gr, erF]
    by_cases c : l ≤ v
    · rw [if_pos c, if_pos c]
    · rw [if_neg c, if_neg c, gr_step L v V h]
      cases V with
      | nil => rw [gr_nil, gr_nil]
      | cons w V =>
        have hw : w ≤ v := (List.pairwise_cons.mp h).1 w (by simp)
        rw [gr, if_neg (by omega)]
/-- how many of an ascending list are at most v -/
def leN (A : List Int) (v : Int) : Nat := (A.filter fun a => decide (a ≤ v)).length
def popLe (A : List Int) (v : Int) : List Int := if leN A v = 0 then A else A.eraseIdx (leN A v - 1)
theorem leN_snoc (A : List Int) (a v : Int) : leN (A ++ [a]) v = leN A v + if a ≤ v then 1 else 0 := by
  unfold leN
  rw [List.filter_append, List.length_append]
  by_cases h : a ≤ v <;> simp [h]
theorem leN_le (A : List Int) (v : Int) : leN A v ≤ A.length := List.length_filter_le ..
theorem leN_all (A : List Int) (v : Int) (h : ∀ a ∈ A, a ≤ v) : leN A v = A.length := by
  unfold leN
  rw [List.filter_eq_self.mpr fun a ha => decide_eq_true (h a ha)]
/-- induction from the end -/
theorem snoc_ind {P : List Int → Prop} (h0 : P []) (h1 : ∀ A a, P A → P (A ++ [a])) (A : List Int) : P A := by
  have : ∀ n (A : List Int), A.length = n → P A := by
    intro n
    induction n with
    | zero => intro A e; rw [List.length_eq_zero_iff.mp e]; exact h0
    | succ n ih =>
      intro A e
      have hne : A ≠ [] := fun z => by rw [z] at e; simp at e
      rw [← List.dropLast_concat_getLast hne]
      exact h1 _ _ (ih _ (by rw [List.length_dropLast]; omega))
  exact this _ A rfl
theorem asc_snoc {A : List Int} {a : Int} (h : (A ++ [a]).Pairwise (· ≤ ·)) : A.Pairwise (· ≤ ·) ∧ ∀ b ∈ A, b ≤ a := by
  obtain ⟨h1, _, h3⟩ := List.pairwise_append.mp h
  exact ⟨h1, fun b hb => h3 b hb a (by simp)⟩
theorem erF_pop (v : Int) (A : List Int) : A.Pairwise (· ≤ ·) → erF A.reverse v = (popLe A v).reverse := by
  refine snoc_ind (P := fun A => A.Pairwise (· ≤ ·) → erF A.reverse v = (popLe A v).reverse) ?_ ?_ A
  · intro _; rfl
  · intro A a ih h
    obtain ⟨h1, h2⟩ := asc_snoc h
    rw [List.reverse_append]
    show erF (a :: A.reverse) v = _
    rw [erF]
    by_cases c : a ≤ v
    · rw [if_pos c]
      unfold popLe
      rw [leN_snoc, if_pos c, leN_all A v fun b hb => by have := h2 b hb; omega, if_neg (by omega), Nat.add_sub_cancel]
      rw [List.eraseIdx_append_of_length_le (Nat.le_refl _), Nat.sub_self]
      simp
    · rw [if_neg c, ih h1]
      unfold popLe
      rw [leN_snoc, if_neg c, Nat.add_zero]
      by_cases z : leN A v = 0
      · rw [if_pos z, if_pos z, List.reverse_append]; rfl
      · rw [if_neg z, if_neg z, List.eraseIdx_append_of_lt_length (by have := leN_le A v; omega), List.reverse_append]; rfl
theorem erF_sub (v : Int) : ∀ L : List Int, (erF L v).Sublist L
  | [] => .slnil
  | l :: L => by
    rw [erF]
    split
    · exact List.sublist_cons_self ..
    · exact (erF_sub v L).cons₂ l
theorem popLe_asc {A : List Int} {v : Int} (h : A.Pairwise (· ≤ ·)) : (popLe A v).Pairwise (· ≤ ·) := by
  unfold popLe
  split
  · exact h
  · exact h.sublist (List.eraseIdx_sublist ..)
/-- what a moment leaves of an ascending list, by versions from the greatest on -/
def left (A : List Int) : List Int → List Int
  | [] => A
  | v :: V => left (popLe A v) V
theorem left_gr : ∀ (V A : List Int), A.Pairwise (· ≤ ·) → Desc V → (left A V).reverse = gr A.reverse V
  | [], A, _, _ => by rw [left, gr_nil]
  | v :: V, A, h, hV => by
    rw [left, left_gr V _ (popLe_asc h) (List.pairwise_cons.mp hV).2, gr_step _ _ _ hV, erF_pop v A h]
/-- taken up -/
def tak (L V : List Int) : List Int := left (srtI L) (sortDe V) ++ sortDe V
theorem tak_perm (L V : List Int) : (tak L V).Perm (gr (sortDe L) (sortDe V) ++ sortDe V) := by
  unfold tak
  have := left_gr (sortDe V) (srtI L) (srtI_sorted L) (sortDe_desc V)
  show (left (srtI L) (sortDe V) ++ sortDe V).Perm (gr (srtI L).reverse (sortDe V) ++ sortDe V)
  rw [← this]
  exact (List.reverse_perm _).symm.append_right _
theorem sortDe_congr {A B : List Int} (h : A.Perm B) : sortDe A = sortDe B := by
  unfold sortDe
  rw [srtI_uniq (l := A) (m := srtI B) ((srtI_perm B).trans h.symm) (srtI_sorted B)]
theorem sortDe_asc {V : List Int} (h : V.Pairwise (· ≤ ·)) : sortDe V = V.reverse := by
  unfold sortDe
  rw [← srtI_uniq (List.Perm.refl V) h]
abbrev Grp := Int × List Int
def flat (G : List Grp) : List An := G.flatMap fun g => g.2.map fun v => (g.1, v)
theorem go_same (L : List Int) (t : Int) (rest : List An) : ∀ (vs V : List Int), go L V t (vs.map (fun v => (t, v)) ++ rest) = go L (vs.reverse ++ V) t rest
  | [], V => rfl
  | v :: vs, V => by
    rw [List.map_cons, List.cons_append, go, if_pos rfl, go_same L t rest vs (v :: V), List.reverse_cons, List.append_assoc]; rfl
theorem go_groups : ∀ (G : List Grp) (m : Int) (vs lasts : List Int), vs.Pairwise (· ≤ ·) → (∀ g ∈ G, g.2 ≠ [] ∧ g.2.Pairwise (· ≤ ·)) → ((m, vs) :: G).Pairwise (fun g h => g.1 < h.1) →
    (go (sortDe lasts) vs.reverse m (flat G)).length = ((G.map (·.2)).foldl tak (tak lasts vs)).length
  | [], m, vs, lasts, hv, _, _ => by
    show (go (sortDe lasts) vs.reverse m []).length = (tak lasts vs).length
    rw [go, (tak_perm lasts vs).length_eq, sortDe_asc hv]
  | (m', vs') :: G, m, vs, lasts, hv, hG, hp => by
    obtain ⟨hne, hv'⟩ := hG (m', vs') (by simp)
    obtain ⟨p1, p2⟩ := List.pairwise_cons.mp hp
    have hm : m < m' := p1 (m', vs') (by simp)
    cases vs' with
    | nil => exact absurd rfl hne
    | cons w ws =>
      show (go (sortDe lasts) vs.reverse m ((m', w) :: (ws.map (fun v => (m', v)) ++ flat G))).length = _
      rw [go, if_neg (by show ¬ m' = m; omega), go_same]
      have e : ws.reverse ++ [w] = (w :: ws).reverse := by rw [List.reverse_cons]
      have e2 : sortDe (gr (sortDe lasts) vs.reverse ++ vs.reverse) = sortDe (tak lasts vs) := by
        refine sortDe_congr ?_
        have := tak_perm lasts vs
        rw [sortDe_asc hv] at this
        exact this.symm
      show (go (sortDe (gr (sortDe lasts) vs.reverse ++ vs.reverse)) (ws.reverse ++ [w]) m' (flat G)).length = _
      rw [e, e2, go_groups G m' (w :: ws) (tak lasts vs) hv' (fun g hg => hG g (by simp [hg])) p2]
      rfl
/-- the answers by their moments -/
def groups (as : List An) : List Grp := (sortD ltI (as.map (·.1))).map fun m => (m, (as.filter fun a => decide (a.1 = m)).map (·.2))
theorem flat_groups {as : List An} (h : as.Pairwise (fun a b => ltK a b = true)) : flat (groups as) = as := by
  refine sorted_uniq ltK_ok _ _ ?_ h fun z => ?_
  · unfold flat groups
    rw [List.flatMap_map, List.pairwise_flatMap]
    refine ⟨fun m _ => ?_, ?_⟩
    · rw [List.map_map, List.pairwise_map]
      refine (h.sublist (List.filter_sublist)).imp_of_mem fun {a b} ha hb hab => ?_
      have e1 : a.1 = m := by simpa using (List.mem_filter.mp ha).2
      have e2 : b.1 = m := by simpa using (List.mem_filter.mp hb).2
      show ltK (m, a.2) (m, b.2) = true
      rw [← e1]
      rw [ltK_iff] at hab ⊢
      rcases hab with q | q
      · omega
      · exact .inr ⟨rfl, q.2⟩
    · refine (sortD_sorted ltI_ok _).imp fun {m m'} hm x hx y hy => ?_
      obtain ⟨v, _, rfl⟩ := List.mem_map.mp hx
      obtain ⟨v', _, rfl⟩ := List.mem_map.mp hy
      rw [ltK_iff]
      exact .inl (of_decide_eq_true hm)
  · unfold flat groups
    rw [List.flatMap_map, List.mem_flatMap]
    constructor
    · rintro ⟨m, _, hz⟩
      obtain ⟨v, hv, rfl⟩ := List.mem_map.mp hz
      obtain ⟨a, ha, rfl⟩ := List.mem_map.mp hv
      obtain ⟨h1, h2⟩ := List.mem_filter.mp ha
      have : a.1 = m := by simpa using h2
      rw [← this]; exact h1
    · intro hz
      refine ⟨z.1, (sortD_mem ltI_ok _ _).mpr (List.mem_map.mpr ⟨z, hz, rfl⟩), List.mem_map.mpr ⟨z.2, List.mem_map.mpr ⟨z, List.mem_filter.mpr ⟨hz, by simp⟩, rfl⟩, rfl⟩⟩
theorem needN_groups {as : List An} (h : as.Pairwise (fun a b => ltK a b = true)) : needN as = (((groups as).map (·.2)).foldl tak []).length := by
  have hf := flat_groups h
  have hG : ∀ g ∈ groups as, g.2 ≠ [] ∧ g.2.Pairwise (· ≤ ·) := by
    intro g hg
    obtain ⟨m, hm, rfl⟩ := List.mem_map.mp hg
    constructor
    · obtain ⟨a, ha, e⟩ := List.mem_map.mp ((sortD_mem ltI_ok _ _).mp hm)
      intro z
      have : a.2 ∈ (as.filter fun a => decide (a.1 = m)).map (·.2) := List.mem_map.mpr ⟨a, List.mem_filter.mpr ⟨ha, by simpa using e⟩, rfl⟩
      rw [show ((as.filter fun a => decide (a.1 = m)).map (·.2)) = [] from z] at this
      cases this
    · rw [List.pairwise_map]
      refine (h.sublist (List.filter_sublist)).imp_of_mem fun {a b} ha hb hab => ?_
      have e1 : a.1 = m := by simpa using (List.mem_filter.mp ha).2
      have e2 : b.1 = m := by simpa using (List.mem_filter.mp hb).2
      rw [ltK_iff] at hab
      rcases hab with q | q
      · omega
      · omega
  have hp : (groups as).Pairwise (fun g h => g.1 < h.1) := by
    unfold groups
    rw [List.pairwise_map]
    exact (sortD_sorted ltI_ok _).imp fun {a b} h => of_decide_eq_true h
  generalize hg : groups as = G at hf hG hp ⊢
  cases G with
  | nil => rw [← hf]; rfl
  | cons g G =>
    obtain ⟨m, vs⟩ := g
    obtain ⟨hne, hv⟩ := hG (m, vs) (by simp)
    cases vs with
    | nil => exact absurd rfl hne
    | cons w ws =>
      have := go_groups G m (w :: ws) [] hv (fun g hg => hG g (by simp [hg])) hp
      rw [show sortDe [] = ([] : List Int) from rfl] at this
      show needN as = ((G.map (·.2)).foldl tak (tak [] (w :: ws))).length
      rw [← this, ← hf]
      show (go [] [w] m (ws.map (fun v => (m, v)) ++ flat G)).length = _
      rw [go_same, List.reverse_cons]
end M3

end

section
/-! KS10: is, is not of two truths. -/
namespace KV
open PySem PySem.Spec PyProof.Rows L2
def opIsB : Op2 := fun x y => match x, y with
  | .bool a, .bool b => some (.val (.bool (a == b)))
  | _, _ => none
def opNotB : Op2 := fun x y => match x, y with
  | .bool a, .bool b => some (.val (.bool (!(a == b))))
  | _, _ => none
section
variable {X : Cx}
theorem o_isB : OpR X (compareOp .Is) (rD2 X.K opIsB) := by
  intro pins s σ H x y v u Q I rx ry hw
  obtain ⟨dx, dy, z, bx, b, ho, k⟩ := hw
  unfold opIsB at ho
  split at ho
  · cases ho
    have e1 := bx.bool
    have e2 := b.bool
    subst e1 e2
    cases rx; cases ry
    refine wpAny_is_plain rfl (fin_bl I (k H _ (new_bl _)) ?_)
    rename_i p q
    cases p <;> cases q <;> rfl
  · cases ho
theorem o_notB : OpR X (compareOp .IsNot) (rD2 X.K opNotB) := by
  intro pins s σ H x y v u Q I rx ry hw
  obtain ⟨dx, dy, z, bx, b, ho, k⟩ := hw
  unfold opNotB at ho
  split at ho
  · cases ho
    have e1 := bx.bool
    have e2 := b.bool
    subst e1 e2
    cases rx; cases ry
    refine wpAny_isNot_plain rfl (fin_bl I (k H _ (new_bl _)) ?_)
    rename_i p q
    cases p <;> cases q <;> rfl
  · cases ho
theorem wo_isB {a b : Bool} {QR : R → Prop} (h : QR (.val (.bool (a == b)))) : wO (opIsB (.bool a) (.bool b)) QR := ⟨_, rfl, h⟩
theorem wo_notB {a b : Bool} {QR : R → Prop} (h : QR (.val (.bool (!(a == b))))) : wO (opNotB (.bool a) (.bool b)) QR := ⟨_, rfl, h⟩
end
end KV

end

section
/-! KS11: a, b = x, y by way of a pair (a name that a comprehension reads), where what is new stays changeable. -/
namespace KV
open PySem PySem.Spec PyProof.Rows L2
section
variable {X : Cx} {a b : Expr} {f g : Den} {io : Bool}
theorem sx_parC {i j : Nat} {x y : Str} {px py pt pos : Pos} {kt k2 pt2} (hc : X.calm = true) (hij : i ≠ j) (gx : PG X (.Name x px) (gName i)) (gy : PG X (.Name y py) (gName j))
    (ha : Ex X a f) (hb : Ex X b g) (hw : swappedStores [.Tuple [.Name x px, .Name y py] kt pt] (.Tuple [a, b] k2 pt2) X.env = pure none := by rfl) (h0 : io = true → i ≠ 0 ∧ j ≠ 0 := by decide)
    (s1 : starEach [a, b] X.env = (false, eval a X.env) :: starEach [b] X.env := by rfl) (s2 : starEach [b] X.env = (false, eval b X.env) :: starEach [] X.env := by rfl)
    (hs : swapsWithSole [.Tuple [.Name x px, .Name y py] kt pt] (.Tuple [a, b] k2 pt2) pos.line X.env = pure false := by rfl)
    (h1 : (assignEach [.Tuple [.Name x px, .Name y py] kt pt] X.env).map (·.2) = [assign (.Tuple [.Name x px, .Name y py] kt pt) X.env] := by rfl) :
    Sx io X (.Assign [.Tuple [.Name x px, .Name y py] kt pt] (.Tuple [a, b] k2 pt2) pos) (dParO i j f g) := by
  refine ⟨fun pins s σ H D I hh => (ps_asg (pe_tup (pa_cons ha (pa_cons hb pa_nil s2) s1)) (pg_tup hc (pgs_cons gx (pgs_cons gy pgs_nil))) hs hw h1).run pins s σ H D I ?_⟩
  obtain ⟨O, r, o, E, hf, k⟩ := hh
  unfold dParO at hf
  obtain ⟨⟨xx, r1⟩, q1, hf1⟩ := Option.bind_eq_some_iff.mp hf
  obtain ⟨⟨yy, r2⟩, q2, hf2⟩ := Option.bind_eq_some_iff.mp hf1
  obtain ⟨sx, q3, hf3⟩ := Option.bind_eq_some_iff.mp hf2
  obtain ⟨sy, q4, hf4⟩ := Option.bind_eq_some_iff.mp hf3
  obtain ⟨r4, q5, e⟩ := Option.map_eq_some_iff.mp hf4
  subst e
  obtain ⟨r3, q6, q7⟩ := Option.bind_eq_some_iff.mp q5
  have kps : ∀ (σ : L2.St) (v w : V) (ra : Nms), Keep r ra → ra = r2 → KeepS io r σ r4 ((σ.set i (some v)).set j (some w)) := fun σ v w ra kp e => by
    subst e
    obtain ⟨e1, _, k1⟩ := setSl_some q6
    obtain ⟨e2, _, k2⟩ := setSl_some q7
    subst e1 e2
    exact ((KeepS.of kp).trans (KeepS.store k1 fun z => (h0 z).1)).trans (KeepS.store k2 fun z => (h0 z).2)
  have fin : ∀ (H2 : Hp) (O2 : Addr → Prop) (v w : V), Stp H O H2 O2 → EnvOk X.K H2 O2 r4 ((σ.set i (some v)).set j (some w)) → KeepS io r σ r4 ((σ.set i (some v)).set j (some w)) → ([v, w].length ≤ sizeLine ∧ ∀ p, H2 p = none → gTup X.K 2 (gCons (gName i) (gCons (gName j) gNil)) (.ref p) σ (upd H2 p (.tup [v, w])) D.nx) := by
    intro H2 O2 v w st E2 kp
    refine ⟨by rw [sizeLine_eq]; exact Nat.le_of_ble_eq_true rfl, fun p hp => ⟨p, [v, w], rfl, SqT.of upd_same, rfl, v, [w], rfl, w, [], rfl, rfl, ?_⟩⟩
    exact k _ O2 _ (st.trans (Stp.of_same (same_upd hp))) (E2.same (same_upd hp)) kp
  cases xx with
  | slot _ => cases q3
  | val d =>
    cases q3
    refine ⟨O, r, .val d, r1, E, q1, fun H1 O1 v st1 E1 kp1 ro1 => ⟨O1, r1, yy, r2, E1, q2, fun H2 O2 w st2 E2 kp2 ro2 => ?_⟩⟩
    have rv : Rp X.K H2 v d := Rp.fx (E1.fxOf st2) ro1
    refine fin H2 O2 v w (st1.trans st2) ?_ (kps σ v w r2 (kp1.trans kp2) rfl)
    cases yy with
    | slot _ => cases q4
    | val d2 =>
      cases q4
      exact two_stores E2 hij q6 q7 ⟨v, rfl, rv⟩ ⟨w, rfl, ro2⟩ (fun c z => by cases z) (fun c z => by cases z) (fun c e z => by cases z)
    | tmp c2 =>
      cases q4
      obtain ⟨q, rfl, ob, oq, hn⟩ := ro2
      exact two_stores E2 hij q6 q7 ⟨v, rfl, rv⟩ ⟨q, rfl, ob, oq⟩ (fun c z => by cases z) (fun c z kk u e p h1 h2 h3 => by cases h3; exact hn kk u e h1 h2) (fun c e z => by cases z)
  | tmp c1 =>
    cases q3
    refine ⟨O, r, .tmp c1, r1, E, q1, fun H1 O1 v st1 E1 kp1 ro1 => ?_⟩
    obtain ⟨p, rfl, ob1, op1, hn1⟩ := ro1
    have E1' := E1.less hn1
    refine ⟨_, r1, yy, r2, E1', q2, fun H2 O2 w st2 E2 kp2 ro2 => ?_⟩
    obtain ⟨u0, hu⟩ : ∃ u0, H1 p = some u0 := by
      cases z : H1 p with
      | none => have := ob1.mut; rw [z] at this; exact this.elim
      | some u0 => exact ⟨u0, rfl⟩
    have hp2 : H2 p = some u0 := st2.keep p u0 hu fun z => z.2 rfl
    have nO2 : ¬ O2 p := fun z => by
      rcases st2.own p z with q | q
      · exact q.2 rfl
      · rw [hu] at q; cases q
    have ob2 : ObOk X.K H2 p c1 := ob1.fx (E1'.fxOf st2) (hp2.trans hu.symm)
    have E3 := E2.more (p := p) (by have := ob2.mut; exact this)
    have nslot : ∀ (kk : Nat) (u : Sl) (e : Ob), r2[kk]? = some u → u.ob = some e → σ[kk]? ≠ some (some (.ref p)) := fun kk u e h1 h2 h3 => by
      obtain ⟨v', e1, z⟩ := E2.ok kk u h1
      rw [h3] at e1; cases e1
      cases u with
      | un => cases h2
      | fz _ => cases h2
      | own c => obtain ⟨q, e2, _, oq⟩ := z; cases e2; exact nO2 oq
      | lck c => obtain ⟨q, e2, _, oq⟩ := z; cases e2; exact nO2 oq
    have st : Stp H O H2 (fun b => O2 b ∨ b = p) := by
      have st2' : Stp H1 O1 H2 (fun b => O2 b ∨ b = p) := ⟨fun b o h n => st2.keep b o h fun z => n z.1, fun b z => by
        rcases z with z | rfl
        · rcases st2.own b z with q | q
          · exact .inl q.1
          · exact .inr q
        · exact .inl op1⟩
      exact st1.trans st2'
    refine fin H2 _ (.ref p) w st ?_ (kps σ (.ref p) w r2 (kp1.trans kp2) rfl)
    cases yy with
    | slot _ => cases q4
    | val d2 =>
      cases q4
      exact two_stores E3 hij q6 q7 ⟨p, rfl, ob2, .inr rfl⟩ ⟨w, rfl, ro2⟩ (fun c z kk u e p' h1 h2 h3 => by cases h3; exact nslot kk u e h1 h2) (fun c z => by cases z) (fun c e z1 z => by cases z)
    | tmp c2 =>
      cases q4
      obtain ⟨q, rfl, ob, oq, hn⟩ := ro2
      exact two_stores E3 hij q6 q7 ⟨p, rfl, ob2, .inr rfl⟩ ⟨q, rfl, ob, .inl oq⟩ (fun c z kk u e p' h1 h2 h3 => by cases h3; exact nslot kk u e h1 h2) (fun c z kk u e p' h1 h2 h3 => by cases h3; exact hn kk u e h1 h2) (fun c e z1 z h => by cases h; exact nO2 oq)
end
end KV

end

section
/-! KS12: tuples of ints of either sign, sorted by their place among the others. -/
namespace KV
open PySem PySem.Spec PyProof.Rows L2
/-- how many of ks stand before k -/
def place (ks : List (List Int)) (k : List Int) : Int := ((ks.filter fun j => lexB j k).length : Nat)
theorem place_lt {ks : List (List Int)} {a b : List Int} (ha : a ∈ ks) (h : lexB a b = true) : place ks a < place ks b := by
  unfold place
  have key : ∀ l : List (List Int), (l.filter fun j => lexB j a).length ≤ (l.filter fun j => lexB j b).length ∧ (a ∈ l → (l.filter fun j => lexB j a).length < (l.filter fun j => lexB j b).length) := by
    intro l
    induction l with
    | nil => exact ⟨Nat.le_refl _, fun h => by cases h⟩
    | cons j l ih =>
      obtain ⟨i1, i2⟩ := ih
      by_cases c : lexB j a = true
      · have c2 : lexB j b = true := lexB_trans _ _ _ c h
        rw [List.filter_cons_of_pos (p := fun j => lexB j a) c, List.filter_cons_of_pos (p := fun j => lexB j b) c2]
        simp only [List.length_cons]
        refine ⟨by omega, fun hm => ?_⟩
        rcases List.mem_cons.mp hm with e | e
        · rw [← e, lexB_irr] at c; cases c
        · have := i2 e; omega
      · rw [List.filter_cons_of_neg (p := fun j => lexB j a) c]
        by_cases c2 : lexB j b = true
        · rw [List.filter_cons_of_pos (p := fun j => lexB j b) c2]
          simp only [List.length_cons]
          exact ⟨by omega, fun _ => by omega⟩
        · rw [List.filter_cons_of_neg (p := fun j => lexB j b) c2]
          refine ⟨i1, fun hm => ?_⟩
          rcases List.mem_cons.mp hm with e | e
          · rw [← e] at c2; exact absurd h c2
          · exact i2 e
  have := (key ks).2 ha
  omega
theorem place_iff {ks : List (List Int)} {a b : List Int} (ha : a ∈ ks) (hb : b ∈ ks) : place ks a < place ks b ↔ lexB a b = true := by
  refine ⟨fun h => ?_, place_lt ha⟩
  rcases lexB_tri a b with c | c | c
  · exact c
  · subst c; exact absurd h (Int.lt_irrefl _)
  · have := place_lt hb c; omega
section
variable {prog : Program} {w : World} {A : Around} {E : Value → Shared → Prop} {s : Shared} {Q : Bool → Shared → Prop}
theorem lexB_walk {b : Bool} {xs ys : List Value} {ns ms : List Int} (i : Nat) (hx : IntsAre xs ns) (hy : IntsAre ys ms) (hl : ns.length = ms.length) (h : Q (lexB ns ms) s) : PySem.W.KatLex prog w A b false Q (xs.zip ys) i s := by
  induction hx generalizing ys ms i with
  | nil =>
    cases hy with
    | nil => exact PySem.W.kat_nil h
    | cons q u hy => simp at hl
  | @cons p t xs ns hx ih =>
    cases hy with
    | nil => simp at hl
    | @cons q u ys ms hy =>
      have hl' : ns.length = ms.length := by simpa using hl
      show PySem.W.KatLex prog w A b false Q ((Value.int p t, Value.int q u) :: xs.zip ys) i s
      refine PySem.W.kat_cons (wpAny_eqBool_int ?_)
      unfold lexB at h
      by_cases e : p = q
      · subst e
        rw [beq_self_eq_true]
        rw [if_neg (Int.lt_irrefl _), if_neg (Int.lt_irrefl _)] at h
        refine PySem.W.kat_yes ?_
        first
          | exact ih (i + 1) hy hl' h
          | exact ih _ _ (i + 1) hy hl' h
      · rw [show (p == q) = false from beq_eq_false_iff_ne.mpr e]
        refine PySem.W.kat_no (TS.oneLt_ints _ ?_)
        by_cases c : p < q
        · rw [if_pos c] at h
          rw [decide_eq_true c]
          exact h
        · rw [if_neg c, if_pos (by omega)] at h
          rw [decide_eq_false c]
          exact h
/-- tuples of d ints each -/
def TupsL (h : Heap) (d : Nat) (vs : List Value) : Prop := ∀ v ∈ vs, ∃ ns, TS.TupInts h v ns ∧ ns.length = d
theorem TupsL.keeps {h h' : Heap} {d : Nat} {vs : List Value} (x : TupsL h d vs) (k : ∀ b o, h.get? b = some o → o.cls = .type "tuple" → h'.get? b = some o) : TupsL h' d vs := fun v hv =>
  let ⟨ns, t, r⟩ := x v hv; ⟨ns, t.keeps k, r⟩
theorem heads_of {h : Heap} {d : Nat} (hd : 1 ≤ d) : ∀ vs : List Value, TupsL h d vs → ∃ fs, PySem.W.KatTups h vs fs ∧ fs.length = vs.length ∧ ∀ f ∈ fs, ∃ n t, f = Value.int n t
  | [], _ => ⟨[], PySem.W.KatTups.nil, rfl, fun f hf => by simp at hf⟩
  | v :: vs, x => by
    obtain ⟨fs, k, hl, hi⟩ := heads_of hd vs fun u hu => x u (List.mem_cons_of_mem _ hu)
    obtain ⟨ns, ⟨a, xs, rfl, ⟨o, ho, hc, n, hdt⟩, i⟩, hn⟩ := x v (List.mem_cons_self ..)
    have l := i.length
    cases q : xs.toList with
    | nil => rw [q, List.length_nil] at l; omega
    | cons y ys =>
      obtain ⟨m, t, hy⟩ := i.all y (by rw [q]; exact List.mem_cons_self ..)
      refine ⟨y :: fs, PySem.W.KatTups.cons ho hc hdt ?_ k, by simp [hl], fun f hf => ?_⟩
      · have z := congrArg (fun l : List Value => l[0]?) q
        simpa using z
      · rcases List.mem_cons.mp hf with rfl | hf
        · exact ⟨m, t, hy⟩
        · exact hi f hf
theorem kindL {d : Nat} {vs : List Value} (hd : 1 ≤ d) (h2 : 2 ≤ vs.length) (x : TupsL s.heap d vs) (r : Value → Int) (hr : ∀ v ∈ vs, ∀ u ∈ vs, ∀ ns ms, TS.TupInts s.heap v ns → TS.TupInts s.heap u ms → decide (r v < r u) = lexB ns ms) (Q : SortKind → Shared → Prop)
    (h : ∀ κ, TS.Cmp prog w A s κ (pairsOf vs) r → Q κ s) : wpAny (model prog w) A (keyKind' vs.toArray) Q E s := by
  obtain ⟨fs, k, hl, hi⟩ := heads_of hd vs x
  refine PySem.W.kat_kind (T := Value.type "int") k (by omega) (fun f hf => ?_) rfl (h _ ?_)
  · obtain ⟨n, t, rfl⟩ := hi f hf
    exact PySem.W.Looks.of_pure rfl
  · intro p q hp hq Q' E' hQ
    rw [pairsOf_toList] at hp hq
    have mp := (mem_zip_self hp).2
    have mq := (mem_zip_self hq).2
    obtain ⟨ns, tp, lp⟩ := x _ mp
    obtain ⟨ms, tq, lq⟩ := x _ mq
    rw [hr _ mp _ mq _ _ tp tq] at hQ
    obtain ⟨a, xs, e1, ⟨o, ho, hc, n, hdt⟩, i⟩ := tp
    obtain ⟨a', ys, e2, ⟨o', ho', hc', n', hdt'⟩, i'⟩ := tq
    rw [e1, e2]
    refine PySem.W.kat_lt ho hdt ho' hdt' ?_
    have l1 := i.length
    have l2 := i'.length
    rw [Array.length_toList] at l1 l2
    rw [show decide (xs.size < ys.size) = false from decide_eq_false (by omega)]
    exact lexB_walk 0 i i' (by omega) hQ
theorem sortL {a : Addr} {vs : List Value} {n d : Nat} {P : PySem.Fin → Shared → Prop} (ho : s.heap.get? a = some (seqObj "list" vs.toArray n)) (h64 : vs.length < 64) (hd : 1 ≤ d) (x : TupsL s.heap d vs)
    (r : Value → Int) (hr : ∀ v ∈ vs, ∀ u ∈ vs, ∀ ns ms, TS.TupInts s.heap v ns → TS.TupInts s.heap u ms → decide (r v < r u) = lexB ns ms)
    (h : ∀ out : Array Value, out.toList.Perm vs → out.toList.Pairwise (fun u v => r u ≤ r v) → P (.done (.ret .none)) { s with heap := sortedHeap s.heap a vs out }) :
    wpAny (model prog w) A (Builtin.«list.sort» ⟨[.ref a], []⟩) P E s := by
  have keep : ∀ b o, s.heap.get? b = some o → o.cls = .type "tuple" → (TS.midHeap s.heap a vs).get? b = some o := fun b o e hc => by
    refine TS.midHeap_old ?_ e
    rintro rfl
    rw [ho] at e
    have e' : seqObj "list" vs.toArray n = o := Option.some.inj e
    rw [← e'] at hc
    have c' : Value.type "list" = Value.type "tuple" := hc
    injection c' with c''
    exact absurd c'' (by decide)
  refine SK.plain_sort (r := r) ho h64 (fun h2 Q hQ => ?_) fun ps out h1 h2 h3 => ?_
  · refine kindL (s := { s with heap := TS.midHeap s.heap a vs }) hd h2 (x.keeps keep) r (fun v hv u hu ns ms t t2 => ?_) Q hQ
    obtain ⟨ns0, t0, _⟩ := x v hv
    obtain ⟨ms0, t1, _⟩ := x u hu
    have e : ns = ns0 := t.ints.symm.trans (t0.keeps keep).ints
    have e2 : ms = ms0 := t2.ints.symm.trans (t1.keeps keep).ints
    rw [e, e2]
    exact hr v hv u hu ns0 ms0 t0 t1
  · obtain ⟨p, o⟩ := TS.out_rank h1 h2 h3
    exact h out p o
end
section
variable {P : Program} {w : World} {A : Around} {E : Value → Shared → Prop} {s : Shared}
theorem sorted_setL {a : Addr} {L : List (Addr × List Int)} {es : Array (Int × Value)} {ep : Nat} {t : SetTable} {Q : Value → Shared → Prop} (R : SetTR P w s.heap a L es ep t) (hh : A.handled = none)
    {d : Nat} (hd1 : 1 ≤ d) (hB : ∀ p ∈ L, p.2.length = d)
    (hQ : ∀ s' p (out : Array Value) (c : Nat) (L' : List (Addr × List Int)), (∀ b o, s.heap.get? b = some o → s'.heap.get? b = some o) → s'.gens = s.gens → s'.os = s.os → s.heap.objs.size ≤ p →
      s'.heap.get? p = some (seqObj "list" out c) → out.toList = L'.map (fun q => Value.ref q.1) → L'.Perm L → L'.Pairwise (fun q r => place (L.map (·.2)) q.2 ≤ place (L.map (·.2)) r.2) → Q (.ref p) s') :
    wpAny (model P w) A (call (.builtin "sorted") [.ref a]) Q E s := by
  obtain ⟨o, ho, hex, hd⟩ := R.ob
  have hsz := R.size
  have hfew := R.few
  refine Calls.call_function_entry kind_sorted plain_sorted entry_sorted (args_sorted1 _) ?_
  unfold Builtin.«sorted»
  refine wpAny_bind (m := checkCount "sorted" 1 1 _) (wpAny_pure ?_)
  refine wpAny_bind (collect_set (A := A.in1) hh ⟨o, ho, hex.1, hd⟩ R.fits (by unfold scanBound; omega) R.tab.ris R.led fun s1 vs k1 hz g1 o1 pm => ?_)
  have hes : es.toList.map (·.2) = L.map fun q => Value.ref q.1 := by
    rw [R.rows]
    unfold rowsOf
    rw [List.map_map] <;> rfl
  rw [hes] at pm
  have ord : ∀ vs : List Value, (∀ v ∈ vs, ∃ q ∈ L, v = Value.ref q.1) → ∃ L1 : List (Addr × List Int), vs = L1.map (fun q => Value.ref q.1) ∧ ∀ q ∈ L1, q ∈ L := by
    intro vs
    induction vs with
    | nil => intro _; exact ⟨[], rfl, fun q hq => (by cases hq)⟩
    | cons v vs ih =>
      intro hv
      obtain ⟨q, hq, e⟩ := hv v List.mem_cons_self
      obtain ⟨L1, e1, hs⟩ := ih fun u hu => hv u (List.mem_cons_of_mem _ hu)
      refine ⟨q :: L1, by rw [List.map_cons, e, e1], fun r hr => ?_⟩
      rcases List.mem_cons.mp hr with z | z
      · rw [z]; exact hq
      · exact hs r z
  have one : ∀ q ∈ L, ∀ r ∈ L, q.1 = r.1 → q = r := fun q hq r hr e => by
    have a1 := R.tup q hq
    have a2 := R.tup r hr
    rw [e] at a1
    have e2 : q.2 = r.2 := a1.inj a2
    exact Prod.ext e e2
  have perm_of : ∀ L1 : List (Addr × List Int), (∀ q ∈ L1, q ∈ L) → (L1.map (fun q => Value.ref q.1)).Perm (L.map fun q => Value.ref q.1) → L1.Perm L := by
    intro L1 hs pm1
    have nL : L.Nodup := nodup_of_map R.nd
    have nref : (L.map fun q => Value.ref q.1).Nodup := by
      refine List.pairwise_map.mpr (List.Pairwise.imp_of_mem (fun {q r} hq hr hne e => ?_) nL)
      injection e with e
      exact hne (one q hq r hr e)
    have n1 : L1.Nodup := nodup_of_map (pm1.nodup_iff.mpr nref)
    refine (List.perm_ext_iff_of_nodup n1 nL).mpr fun q => ⟨hs q, fun hq => ?_⟩
    have hm : Value.ref q.1 ∈ L1.map (fun q => Value.ref q.1) := pm1.mem_iff.mpr (List.mem_map.mpr ⟨q, hq, rfl⟩)
    obtain ⟨r, hr, e⟩ := List.mem_map.mp hm
    injection e with e
    rw [← one r (hs r hr) q hq e]
    exact hr
  have hvl : vs.length < 64 := by rw [pm.length_eq, List.length_map]; exact hfew
  refine wpAny_bind (wpAny_newList ?_ (by rw [sizeLine_eq]; omega))
  have hoL : (s1.heap.push (seqObj "list" vs.toArray 0)).get? s1.heap.objs.size = some (seqObj "list" vs.toArray 0) := Heap.get?_push_size _ rfl
  have tk : ∀ q ∈ L, TS.TupInts (s1.heap.push (seqObj "list" vs.toArray 0)) (.ref q.1) q.2 := fun q hq => tupInts_of (P := P) (w := w) (isT_keep (R.tup q hq) fun b u e => Heap.get?_push_of_some _ (k1 b u e))
  have x : TupsL (s1.heap.push (seqObj "list" vs.toArray 0)) d vs := fun v hv => by
    obtain ⟨q, hq, e⟩ := List.mem_map.mp (pm.mem_iff.mp hv)
    rw [← e]
    exact ⟨q.2, tk q hq, hB q hq⟩
  have hr : ∀ v ∈ vs, ∀ u ∈ vs, ∀ ns ms, TS.TupInts (s1.heap.push (seqObj "list" vs.toArray 0)) v ns → TS.TupInts (s1.heap.push (seqObj "list" vs.toArray 0)) u ms →
      decide (place (L.map (·.2)) (TS.intsOf (s1.heap.push (seqObj "list" vs.toArray 0)) v) < place (L.map (·.2)) (TS.intsOf (s1.heap.push (seqObj "list" vs.toArray 0)) u)) = lexB ns ms := by
    intro v hv u hu ns ms t1 t2
    obtain ⟨q, hq, e⟩ := List.mem_map.mp (pm.mem_iff.mp hv)
    obtain ⟨q', hq', e'⟩ := List.mem_map.mp (pm.mem_iff.mp hu)
    subst e e'
    have f1 : ns = q.2 := t1.ints.symm.trans (tk q hq).ints
    have f2 : ms = q'.2 := t2.ints.symm.trans (tk q' hq').ints
    rw [t1.ints, t2.ints, f1, f2]
    have := place_iff (List.mem_map_of_mem (f := (·.2)) hq) (List.mem_map_of_mem (f := (·.2)) hq')
    cases c : lexB q.2 q'.2 with
    | true => exact decide_eq_true (this.mpr c)
    | false => exact decide_eq_false fun z => by rw [this.mp z] at c; cases c
  refine wpAny_bind (wpAny_holding (wpAny_call_entry (s := { s1 with heap := s1.heap.push (seqObj "list" vs.toArray 0) }) slot_list_sort ⟨_, hoL, rfl⟩ entry_list_sort (sortL (s := { s1 with heap := s1.heap.push (seqObj "list" vs.toArray 0) }) hoL hvl hd1 x (fun v => place (L.map (·.2)) (TS.intsOf (s1.heap.push (seqObj "list" vs.toArray 0)) v)) hr fun out a1 a2 => ⟨_, rfl, ?_⟩) (args_list_sort _)))
  obtain ⟨c, hc⟩ := sortedHeap_at (vs := vs) (out := out) hoL
  obtain ⟨L', e', hs'⟩ := ord out.toList fun v hv => by
    obtain ⟨q, hq, e⟩ := List.mem_map.mp (pm.mem_iff.mp (a1.mem_iff.mp hv))
    exact ⟨q, hq, e.symm⟩
  have pL : L'.Perm L := perm_of L' hs' (by rw [← e']; exact a1.trans pm)
  have pw : L'.Pairwise (fun q r => place (L.map (·.2)) q.2 ≤ place (L.map (·.2)) r.2) := by
    rw [e'] at a2
    refine List.Pairwise.imp_of_mem (fun {q r} hq hr hle => ?_) (List.pairwise_map.mp a2)
    have f1 : TS.intsOf (s1.heap.push (seqObj "list" vs.toArray 0)) (.ref q.1) = q.2 := (tk q (hs' q hq)).ints
    have f2 : TS.intsOf (s1.heap.push (seqObj "list" vs.toArray 0)) (.ref r.1) = r.2 := (tk r (hs' r hr)).ints
    rw [← f1, ← f2]
    exact hle
  refine wpAny_pure ⟨_, rfl, hQ _ s1.heap.objs.size out c L' (fun b u e => ?_) g1 o1 hz hc e' pL pw⟩
  have q := k1 b u e
  have hlt := Heap.lt_size q
  show (sortedHeap (s1.heap.push (seqObj "list" vs.toArray 0)) s1.heap.objs.size vs out).get? b = some u
  rw [sortedHeap_old (Nat.ne_of_lt hlt) (by rw [size_push']; exact Nat.lt_succ_of_lt hlt)]
  exact Heap.get?_push_of_some _ q
end
/-- tuples of one length from 1 -/
def evenX : List (List Int) → Bool
  | [] => false
  | k :: r => decide (1 ≤ k.length) && (k :: r).all fun j => decide (j.length = k.length)
def opSX : PyData → Option R
  | .list ds => if ds.length < 64 then (match tupsD ds with | some ks => if evenX ks = true then some (.tmp (.lst ((sortD lexB ks).map tupD))) else none | none => none) else none
  | _ => none
theorem opSX_tup {k : List Int} {ks : List (List Int)} (h : (k :: ks).length < 64) (he : evenX (k :: ks) = true) : opSX (.list ((k :: ks).map tupD)) = some (.tmp (.lst ((sortD lexB (k :: ks)).map tupD))) := by
  unfold opSX; simp only [List.length_map, h, if_true, tupsD_map, he]
def rSortedL (K : PySem.W.Frag) (P : Program) (w : World) : List V → Hp → VK → Prop := fun vs H Q => ∃ (a : Addr) (L : List (Addr × List Int)) (d : Nat), vs = [V.ref a] ∧ H a = some (SetTO P w a L) ∧ (∀ p ∈ L, SqT K H p.1 (p.2.map V.int)) ∧ 1 ≤ d ∧ (∀ p ∈ L, p.2.length = d) ∧
  ∀ (L' : List (Addr × List Int)) (p : Addr), L'.Perm L → (L'.map (·.2)).Nodup → L'.length < 64 → L'.Pairwise (fun q r => place (L.map (·.2)) q.2 ≤ place (L.map (·.2)) r.2) → H p = none → Q (.ref p) (upd H p (.lst (L'.map fun q => V.ref q.1)))
section
variable {X : Cx} {a : Expr} {f : Den} {pos p p2 q : Pos}
theorem cr_sortedL (hc : X.calm = true) : CallR X (.builtin "sorted") (rSortedL X.K X.prog X.w) := by
  intro pins s σ H vs us Q I r h
  obtain ⟨a, L, d, rfl, ha, hk, hd, hB, q⟩ := h
  have R0 : SetT0 X.prog X.w s.heap a L := (I.hok a _ ha).1
  obtain ⟨es, ep, t, R⟩ := R0.full fun p hp => I.isT (hk p hp)
  rw [Vals.ref1 r]
  refine sorted_setL R (I.ok.hd hc) hd hB fun s' p out c L' k g o hp hg hout pm pw => ?_
  have hfew : L'.length < 64 := by rw [pm.length_eq]; exact R.few
  have hlen : (L'.map fun q => V.ref q.1).length ≤ sizeLine := by rw [List.length_map, sizeLine_eq]; omega
  have hn : H p = none := I.hok.fresh hp
  have hv : Vals (L'.map fun q => V.ref q.1) out.toList := by rw [hout]; exact vals_of_refs L'
  have J : Inv X pins σ (upd H p (.lst (L'.map fun q => V.ref q.1))) { s with heap := s'.heap, gens := s'.gens, drawn := s'.drawn, toks := s'.toks } :=
    I.call (ch := []) (Un.laid k hp hn) (I.hok.laid k hp ⟨hlen, out.toList, c, hv, hg⟩) (by rw [g]; exact I.bare) (fun _ z => nomatch z)
  have e : s' = { s with heap := s'.heap, gens := s'.gens, drawn := s'.drawn, toks := s'.toks } := by
    cases s'
    cases s
    cases o
    rfl
  rw [e]
  exact ⟨.ref p, _, J, rfl, q L' p pm ((pm.map (·.2)).nodup_iff.mpr R.nd) hfew pw hn⟩
theorem ex_sx (hc : X.calm = true) (hu : X.A.units + 64 < cLine) (hg : Gl X "sorted") (hm : X.mg "sorted" = none) (hg2 : Gl X "set") (hm2 : X.mg "set" = none) (hv : bootBuiltins ("sorted" : Str) = some (.builtin "sorted")) (hv2 : bootBuiltins ("set" : Str) = some (.type "set")) (ha : Ex X a f)
    (he : starEach [a] X.env = [(false, eval a X.env)] := by rfl) (hpl : (backTo q (starEach [] X.env)).any (·.1) = false := by rfl)
    (he2 : starEach [.Call (.Name "set" p2) [a] [] q] X.env = [(false, eval (.Call (.Name "set" p2) [a] [] q) X.env)] := by rfl) (hpl2 : (backTo pos (starEach [] X.env)).any (·.1) = false := by rfl) :
    Ex X (.Call (.Name "sorted" p) [.Call (.Name "set" p2) [a] [] q] [] pos) (dUn f opSX) := by
  refine ⟨fun pins s σ H Q I hw => ?_⟩
  obtain ⟨O, r, z, r', E, hf, k⟩ := hw
  obtain ⟨x, d, q1, q3, q5⟩ := un_inv hf
  cases d with
  | list ds =>
    have q5 : (if ds.length < 64 then (match tupsD ds with | some ks => if evenX ks = true then some (R.tmp (.lst ((sortD lexB ks).map tupD))) else none | none => none) else none) = some z := q5
    by_cases hl : ds.length < 64
    · rw [if_pos hl] at q5
      cases ht : tupsD ds with
      | none => rw [ht] at q5; cases q5
      | some ks =>
        rw [ht] at q5
        have q5 : (if evenX ks = true then some (R.tmp (.lst ((sortD lexB ks).map tupD))) else none) = some z := q5
        by_cases hev : evenX ks = true
        · rw [if_pos hev] at q5
          cases q5
          have eds := tupsD_some ht
          subst eds
          rw [List.length_map] at hl
          obtain ⟨dd, hd, hB⟩ : ∃ dd : Nat, 1 ≤ dd ∧ ∀ k ∈ ks, k.length = dd := by
            cases ks with
            | nil => cases hev
            | cons k0 kr =>
              unfold evenX at hev
              simp only [Bool.and_eq_true, decide_eq_true_eq, List.all_eq_true] at hev
              exact ⟨k0.length, hev.1, hev.2⟩
          refine (pe_callB (cr_sortedL hc) hg hm hv (pa_cons (pe_callTy (cr_setOfT hc hu) hg2 hm2 hv2 (pa_cons ha pa_nil he) (by decide) (by decide) he hpl) pa_nil he2) (by decide) (by decide) he2 hpl2).run pins s σ H Q I ?_
          refine ⟨O, r, x, r', E, q1, fun H1 O1 v st1 E1 kp1 ro1 => ?_⟩
          obtain ⟨l, vs, rfl, hq, ra⟩ := (ro1.deref E1 q3).list
          obtain ⟨L0, ev, ek, hsq⟩ := RpAll.tups ra
          subst ev ek
          refine ⟨l, L0, rfl, hq, hsq, by rw [List.length_map] at hl; exact hl, fun b L hb hsub hall => ⟨b, L, dd, rfl, upd_same, fun p hp => ?_, hd, fun p hp => hB _ (List.mem_map.mpr ⟨p, hsub p hp, rfl⟩), fun L' p pm nd hfew pw hp => ?_⟩⟩
          · have : Same H1 (upd H1 b (SetTO X.prog X.w b L)) := same_upd hb
            exact SqT.fx (Fx.of_same this) (hsq p (hsub p hp))
          · have hp1 : H1 p = none := by
              by_cases e : p = b
              · rw [e, upd_same] at hp; cases hp
              · rw [upd_ne e] at hp; exact hp
            have sub : ∀ p ∈ L', p ∈ L0 := fun p hp => hsub p (pm.mem_iff.mp hp)
            have bd : ∀ p ∈ L', p.2 ∈ L.map (·.2) := fun p hp => List.mem_map_of_mem (f := (·.2)) (pm.mem_iff.mp hp)
            have em : L'.map (·.2) = sortD lexB (L0.map (·.2)) := by
              refine sorted_uniq lexB_ok _ _ ?_ (sortD_sorted lexB_ok _) fun z => ?_
              · rw [List.pairwise_map]
                rw [List.nodup_iff_pairwise_ne, List.pairwise_map] at nd
                refine (pw.and nd).imp_of_mem fun {a b} ma mb ⟨h1, h2⟩ => ?_
                have la := bd a ma
                have lb := bd b mb
                rcases lexB_tri a.2 b.2 with h | h | h
                · exact h
                · exact absurd h h2
                · have := (place_iff lb la).mpr h
                  omega
              · rw [sortD_mem lexB_ok]
                constructor
                · intro hz
                  obtain ⟨p, hp, e⟩ := List.mem_map.mp hz
                  exact List.mem_map.mpr ⟨p, sub p hp, e⟩
                · intro hz
                  obtain ⟨p, hp, e⟩ := List.mem_map.mp hz
                  have := hall p hp
                  rw [e] at this
                  obtain ⟨p', hp', e'⟩ := List.mem_map.mp this
                  exact List.mem_map.mpr ⟨p', pm.mem_iff.mpr hp', e'⟩
            have sm : Same H1 (upd (upd H1 b (SetTO X.prog X.w b L)) p (.lst (L'.map fun q => V.ref q.1))) := fun c u e => by
              rw [upd_ne (ne_of_none e hp1), upd_ne (ne_of_none e hb)]; exact e
            have ra2 := RpAll.of_tups (K := X.K) (H := upd (upd H1 b (SetTO X.prog X.w b L)) p (.lst (L'.map fun q => V.ref q.1))) (L := L') fun p hp => SqT.fx (Fx.of_same sm) (hsq p (sub p hp))
            rw [em] at ra2
            obtain ⟨O3, st3, E3, ro3⟩ := NewR.done (x := .tmp (.lst ((sortD lexB (L0.map (·.2))).map tupD))) (v := .ref p) ⟨sm, p, rfl, hp1, _, upd_same, ra2⟩ E1
            exact k _ O3 _ (st1.trans st3) E3 kp1 ro3
        · rw [if_neg hev] at q5; cases q5
    · rw [if_neg hl] at q5; cases q5
  | _ => cases q5
end
end KV

end

section
/-! KS13: max, min of a list of ints. -/
namespace KV
open PySem PySem.Spec PyProof.Rows L2
def maxL : List Int → Int
  | [] => 0
  | [x] => x
  | x :: y :: r => max x (maxL (y :: r))
def minL : List Int → Int
  | [] => 0
  | [x] => x
  | x :: y :: r => min x (minL (y :: r))
theorem maxL_mem : ∀ ns : List Int, ns ≠ [] → maxL ns ∈ ns
  | [], h => absurd rfl h
  | [x], _ => by simp [maxL]
  | x :: y :: r, _ => by
    have ih := maxL_mem (y :: r) (by simp)
    show max x (maxL (y :: r)) ∈ _
    rcases Int.le_total x (maxL (y :: r)) with c | c
    · rw [Int.max_eq_right c]; exact List.mem_cons_of_mem _ ih
    · rw [Int.max_eq_left c]; simp
theorem maxL_ge : ∀ (ns : List Int) (a : Int), a ∈ ns → a ≤ maxL ns
  | [], a, h => by cases h
  | [x], a, h => by simp at h; subst h; exact Int.le_refl _
  | x :: y :: r, a, h => by
    show a ≤ max x (maxL (y :: r))
    rcases List.mem_cons.mp h with e | e
    · subst e; omega
    · have := maxL_ge (y :: r) a e; omega
theorem minL_mem : ∀ ns : List Int, ns ≠ [] → minL ns ∈ ns
  | [], h => absurd rfl h
  | [x], _ => by simp [minL]
  | x :: y :: r, _ => by
    have ih := minL_mem (y :: r) (by simp)
    show min x (minL (y :: r)) ∈ _
    rcases Int.le_total x (minL (y :: r)) with c | c
    · rw [Int.min_eq_left c]; simp
    · rw [Int.min_eq_right c]; exact List.mem_cons_of_mem _ ih
theorem minL_le : ∀ (ns : List Int) (a : Int), a ∈ ns → minL ns ≤ a
  | [], a, h => by cases h
  | [x], a, h => by simp at h; subst h; exact Int.le_refl _
  | x :: y :: r, a, h => by
    show min x (minL (y :: r)) ≤ a
    rcases List.mem_cons.mp h with e | e
    · subst e; omega
    · have := minL_le (y :: r) a e; omega
theorem maxL_uniq {ns : List Int} {m : Int} (h1 : m ∈ ns) (h2 : ∀ y, y ∈ ns → y ≤ m) : m = maxL ns := by
  have a := maxL_ge ns m h1
  have b := h2 _ (maxL_mem ns (by rintro rfl; cases h1))
  omega
theorem minL_uniq {ns : List Int} {m : Int} (h1 : m ∈ ns) (h2 : ∀ y, y ∈ ns → m ≤ y) : m = minL ns := by
  have a := minL_le ns m h1
  have b := h2 _ (minL_mem ns (by rintro rfl; cases h1))
  omega
def opMaxL : OpN := fun ds => match ds with
  | [.list (x :: xs)] => (intsD (x :: xs)).map fun ns => .val (.int (maxL ns))
  | _ => none
def opMinL : OpN := fun ds => match ds with
  | [.list (x :: xs)] => (intsD (x :: xs)).map fun ns => .val (.int (minL ns))
  | _ => none
section
variable {X : Cx}
theorem c_maxL (hc : X.calm = true) : CallR X (.builtin "max") (rDN X.K opMaxL) := by
  intro pins s σ H vs us Q I rv hw
  obtain ⟨ds, z, bs, ho, k⟩ := hw
  unfold opMaxL at ho
  split at ho
  · rename_i x xs
    obtain ⟨ns, q, e⟩ := Option.map_eq_some_iff.mp ho
    subst e
    obtain ⟨v, rfl, b⟩ := bs.one
    obtain ⟨a, ws, rfl, h1, r1⟩ := b.list
    have hl : 0 < ns.length := by
      have := congrArg List.length (intsD_some q)
      rw [List.length_map] at this
      simp at this
      omega
    rw [intsD_some q] at r1
    have := r1.ints_of
    subst this
    exact cr_max hc pins s σ H _ us Q I rv ⟨a, ns, rfl, h1, hl, fun m h2 h3 => by rw [maxL_uniq h2 h3]; exact k H _ (new_int _)⟩
  · cases ho
theorem c_minL (hc : X.calm = true) : CallR X (.builtin "min") (rDN X.K opMinL) := by
  intro pins s σ H vs us Q I rv hw
  obtain ⟨ds, z, bs, ho, k⟩ := hw
  unfold opMinL at ho
  split at ho
  · rename_i x xs
    obtain ⟨ns, q, e⟩ := Option.map_eq_some_iff.mp ho
    subst e
    obtain ⟨v, rfl, b⟩ := bs.one
    obtain ⟨a, ws, rfl, h1, r1⟩ := b.list
    have hl : 0 < ns.length := by
      have := congrArg List.length (intsD_some q)
      rw [List.length_map] at this
      simp at this
      omega
    rw [intsD_some q] at r1
    have := r1.ints_of
    subst this
    exact cr_min hc pins s σ H _ us Q I rv ⟨a, ns, rfl, h1, hl, fun m h2 h3 => by rw [minL_uniq h2 h3]; exact k H _ (new_int _)⟩
  · cases ho
end
theorem wo_maxL {ns : List Int} {QR : R → Prop} (hn : ns ≠ []) (h : QR (.val (.int (maxL ns)))) : wO (opMaxL [.list (ns.map .int)]) QR := by
  cases ns with
  | nil => exact absurd rfl hn
  | cons n ns => exact ⟨_, by show Option.map _ (intsD ((n :: ns).map .int)) = _; rw [intsD_map]; rfl, h⟩
end KV

end

section
/-! M04: rows that fall: patience. -/
namespace M4
abbrev An := Int × Int
/-- strictly falling -/
abbrev Dec (T : List Int) : Prop := T.Pairwise fun a b => b < a
/-- the first that is not greater gives way to v -/
def ins : List Int → Int → List Int
  | [], v => [v]
  | t :: T, v => if v < t then t :: ins T v else v :: T
def rk : List Int → Int → Nat
  | [], _ => 0
  | t :: T, v => if v < t then rk T v + 1 else 0
theorem ins_mem : ∀ (T : List Int) (v u : Int), u ∈ ins T v → u = v ∨ u ∈ T
  | [], v, u, h => by simp [ins] at h; exact .inl h
  | t :: T, v, u, h => by
    unfold ins at h
    split at h
    · rcases List.mem_cons.mp h with q | q
      · exact .inr (by rw [q]; simp)
      · rcases ins_mem T v u q with z | z
        · exact .inl z
        · exact .inr (List.mem_cons_of_mem _ z)
    · rcases List.mem_cons.mp h with q | q
      · exact .inl q
      · exact .inr (List.mem_cons_of_mem _ q)
theorem ins_dec : ∀ (T : List Int) (v : Int), Dec T → Dec (ins T v)
  | [], v, _ => by simp [ins]
  | t :: T, v, h => by
    obtain ⟨h1, h2⟩ := List.pairwise_cons.mp h
    unfold ins
    split
    · rename_i c
      refine List.pairwise_cons.mpr ⟨fun u hu => ?_, ins_dec T v h2⟩
      rcases ins_mem T v u hu with z | z
      · rw [z]; exact c
      · exact h1 u z
    · rename_i c
      refine List.pairwise_cons.mpr ⟨fun u hu => ?_, h2⟩
      have := h1 u hu
      omega
theorem rk_le : ∀ (T : List Int) (v : Int), rk T v ≤ T.length
  | [], _ => Nat.le_refl _
  | t :: T, v => by unfold rk; split; exact Nat.succ_le_succ (rk_le T v); exact Nat.zero_le _
theorem rk_lt : ∀ (T : List Int) (v : Int) (i : Nat) (u : Int), Dec T → T[i]? = some u → (v < u ↔ i < rk T v)
  | [], _, i, u, _, h => by simp at h
  | t :: T, v, 0, u, h, hu => by
    simp at hu
    subst hu
    unfold rk
    split
    · rename_i c; exact ⟨fun _ => Nat.succ_pos _, fun _ => c⟩
    · rename_i c; exact ⟨fun z => absurd z c, fun z => absurd z (Nat.lt_irrefl _)⟩
  | t :: T, v, i + 1, u, h, hu => by
    obtain ⟨h1, h2⟩ := List.pairwise_cons.mp h
    rw [List.getElem?_cons_succ] at hu
    have ih := rk_lt T v i u h2 hu
    have hut := h1 u (List.mem_of_getElem? hu)
    unfold rk
    split
    · rw [ih]; omega
    · exact ⟨fun z => by omega, fun z => absurd z (Nat.not_lt_zero _)⟩
theorem ins_at : ∀ (T : List Int) (v : Int), (ins T v)[rk T v]? = some v
  | [], v => rfl
  | t :: T, v => by
    unfold ins rk
    split
    · rw [List.getElem?_cons_succ]; exact ins_at T v
    · rfl
theorem ins_ne : ∀ (T : List Int) (v : Int) (i : Nat), i ≠ rk T v → (ins T v)[i]? = T[i]?
  | [], v, i, h => by
    have : i ≠ 0 := h
    obtain ⟨j, rfl⟩ : ∃ j, i = j + 1 := ⟨i - 1, by omega⟩
    rfl
  | t :: T, v, 0, h => by
    unfold rk at h
    unfold ins
    split
    · rfl
    · rename_i c; rw [if_neg c] at h; exact absurd rfl h
  | t :: T, v, i + 1, h => by
    unfold rk at h
    unfold ins
    split
    · rename_i c
      rw [if_pos c] at h
      rw [List.getElem?_cons_succ, List.getElem?_cons_succ]
      exact ins_ne T v i (by omega)
    · rfl
theorem ins_len : ∀ (T : List Int) (v : Int), (ins T v).length = if rk T v = T.length then T.length + 1 else T.length
  | [], v => rfl
  | t :: T, v => by
    unfold ins rk
    split
    · rw [List.length_cons, List.length_cons, ins_len T v]
      split <;> split <;> omega
    · rw [if_neg (by simp)]; rfl
/-! rows that fall -/
def Fall (f : List An) : Prop := f.Pairwise fun p q => p.1 ≤ q.1 ∧ q.2 < p.2
/-- an answer that comes later -/
def aft (p q : An) : Prop := p.1 < q.1 ∨ (p.1 = q.1 ∧ q.2 < p.2)
def best (P : List (An × Nat)) (v : Int) : Nat := P.foldr (fun p m => if v < p.1.2 then max p.2 m else m) 0
theorem best_ge : ∀ (P : List (An × Nat)) (v : Int) (p : An × Nat), p ∈ P → v < p.1.2 → p.2 ≤ best P v
  | q :: P, v, p, h, hv => by
    show p.2 ≤ if v < q.1.2 then max q.2 (best P v) else best P v
    rcases List.mem_cons.mp h with e | e
    · subst e; rw [if_pos hv]; exact Nat.le_max_left _ _
    · have := best_ge P v p e hv
      split
      · exact Nat.le_trans this (Nat.le_max_right _ _)
      · exact this
theorem best_le : ∀ (P : List (An × Nat)) (v : Int) (n : Nat), (∀ p ∈ P, v < p.1.2 → p.2 ≤ n) → best P v ≤ n
  | [], _, _, _ => Nat.zero_le _
  | q :: P, v, n, h => by
    show (if v < q.1.2 then max q.2 (best P v) else best P v) ≤ n
    have ih := best_le P v n fun p hp => h p (List.mem_cons_of_mem _ hp)
    split
    · rename_i c; exact Nat.max_le.mpr ⟨h q (by simp) c, ih⟩
    · exact ih
structure Inv (P : List (An × Nat)) (T : List Int) : Prop where
  dec : Dec T
  top : ∀ p ∈ P, 1 ≤ p.2 ∧ ∃ u, T[p.2 - 1]? = some u ∧ p.1.2 ≤ u
  has : ∀ i u, T[i]? = some u → ∃ p ∈ P, p.2 = i + 1 ∧ p.1.2 = u
  row : ∀ p ∈ P, ∃ f : List An, Fall (f ++ [p.1]) ∧ (∀ x ∈ f, ∃ q ∈ P, q.1 = x) ∧ f.length + 1 = p.2
  most : ∀ p ∈ P, ∀ f : List An, Fall (f ++ [p.1]) → (∀ x ∈ f, ∃ q ∈ P, q.1 = x) → f.length + 1 ≤ p.2
theorem Inv.best {P : List (An × Nat)} {T : List Int} (h : Inv P T) (v : Int) : best P v = rk T v := by
  refine Nat.le_antisymm (best_le P v _ fun p hp hv => ?_) ?_
  · obtain ⟨h1, u, hu, hle⟩ := h.top p hp
    have := (rk_lt T v _ u h.dec hu).mp (by omega)
    omega
  · by_cases c : rk T v = 0
    · omega
    · have hl := rk_le T v
      have hu : T[rk T v - 1]? = some T[rk T v - 1] := List.getElem?_eq_getElem (by omega)
      have := (rk_lt T v _ _ h.dec hu).mpr (by omega)
      obtain ⟨p, hp, e1, e2⟩ := h.has _ _ hu
      have hb := best_ge P v p hp (by rw [e2]; exact this)
      omega
end M4

end

section
/-! M04b: what patience finds is the longest row that falls. -/
namespace M4
theorem snoc_cases {α : Type} (l : List α) : l = [] ∨ ∃ g x, l = g ++ [x] := by
  cases l with
  | nil => exact .inl rfl
  | cons y l => exact .inr ⟨(y :: l).dropLast, (y :: l).getLast (by simp), (List.dropLast_concat_getLast (by simp)).symm⟩
theorem snoc_all {α : Type} {P : List α → Prop} (h0 : P []) (h1 : ∀ A a, P A → P (A ++ [a])) : ∀ (n : Nat) (A : List α), A.length = n → P A
  | 0, A, h => by cases A with | nil => exact h0 | cons _ _ => cases h
  | n + 1, A, h => by
    rcases snoc_cases A with e | ⟨g, x, e⟩
    · subst e; cases h
    · subst e; exact h1 g x (snoc_all h0 h1 n g (by rw [List.length_append, List.length_singleton] at h; omega))
theorem Inv.nil : Inv [] [] := ⟨by simp, by simp, by simp, by simp, by simp⟩
theorem Inv.step {P : List (An × Nat)} {T : List Int} (h : Inv P T) {a : An} (ha : ∀ p ∈ P, aft p.1 a) : Inv (P ++ [(a, M4.best P a.2 + 1)]) (ins T a.2) := by
  have hb := h.best a.2
  have mem : ∀ x : An, (∃ q ∈ P ++ [(a, M4.best P a.2 + 1)], q.1 = x) → (∃ q ∈ P, q.1 = x) ∨ x = a := by
    rintro x ⟨q, hq, rfl⟩
    rcases List.mem_append.mp hq with z | z
    · exact .inl ⟨q, z, rfl⟩
    · rw [List.mem_singleton] at z
      subst z
      exact .inr rfl
  refine ⟨ins_dec T a.2 h.dec, ?_, ?_, ?_, ?_⟩
  · intro p hp
    rcases List.mem_append.mp hp with z | z
    · obtain ⟨h1, u, hu, hle⟩ := h.top p z
      refine ⟨h1, ?_⟩
      by_cases c : p.2 - 1 = rk T a.2
      · refine ⟨a.2, by rw [c]; exact ins_at T a.2, ?_⟩
        have := rk_lt T a.2 _ u h.dec hu
        omega
      · exact ⟨u, by rw [ins_ne T a.2 _ c]; exact hu, hle⟩
    · rw [List.mem_singleton] at z
      subst z
      refine ⟨by simp, a.2, ?_, Int.le_refl _⟩
      show (ins T a.2)[M4.best P a.2 + 1 - 1]? = _
      rw [Nat.add_sub_cancel, hb]
      exact ins_at T a.2
  · intro i u hu
    by_cases c : i = rk T a.2
    · subst c
      rw [ins_at T a.2] at hu
      cases hu
      exact ⟨(a, M4.best P a.2 + 1), by simp, by rw [hb], rfl⟩
    · rw [ins_ne T a.2 _ c] at hu
      obtain ⟨p, hp, e1, e2⟩ := h.has i u hu
      exact ⟨p, List.mem_append_left _ hp, e1, e2⟩
  · intro p hp
    rcases List.mem_append.mp hp with z | z
    · obtain ⟨f, hf, hm, hl⟩ := h.row p z
      exact ⟨f, hf, fun x hx => let ⟨q, hq, e⟩ := hm x hx; ⟨q, List.mem_append_left _ hq, e⟩, hl⟩
    · rw [List.mem_singleton] at z
      subst z
      by_cases c : rk T a.2 = 0
      · refine ⟨[], by simp [Fall], by simp, ?_⟩
        show 0 + 1 = M4.best P a.2 + 1
        rw [hb, c]
      · have hl := rk_le T a.2
        have hu : T[rk T a.2 - 1]? = some T[rk T a.2 - 1] := List.getElem?_eq_getElem (by omega)
        have hgt := (rk_lt T a.2 _ _ h.dec hu).mpr (by omega)
        obtain ⟨q, hq, e1, e2⟩ := h.has _ _ hu
        obtain ⟨f, hf, hm, hfl⟩ := h.row q hq
        have hqa : q.1.1 ≤ a.1 ∧ a.2 < q.1.2 := by
          rw [e2]
          refine ⟨?_, hgt⟩
          rcases ha q hq with z | z
          · omega
          · omega
        refine ⟨f ++ [q.1], ?_, ?_, ?_⟩
        · refine List.pairwise_append.mpr ⟨hf, by simp, fun x hx y hy => ?_⟩
          rw [List.mem_singleton] at hy
          subst hy
          rcases List.mem_append.mp hx with z | z
          · have := (List.pairwise_append.mp hf).2.2 x z q.1 (by simp)
            exact ⟨Int.le_trans this.1 hqa.1, Int.lt_trans hqa.2 this.2⟩
          · rw [List.mem_singleton] at z
            subst z
            exact hqa
        · intro x hx
          rcases List.mem_append.mp hx with z | z
          · obtain ⟨q', hq', e⟩ := hm x z
            exact ⟨q', List.mem_append_left _ hq', e⟩
          · rw [List.mem_singleton] at z
            exact ⟨q, List.mem_append_left _ hq, z.symm⟩
        · show (f ++ [q.1]).length + 1 = M4.best P a.2 + 1
          rw [List.length_append, hb, List.length_singleton]
          omega
  · intro p hp f hf hm
    have hnot : ∀ x ∈ f, ∃ q ∈ P, q.1 = x := by
      intro x hx
      rcases mem x (hm x hx) with z | z
      · exact z
      · subst z
        have h2 := (List.pairwise_append.mp hf).2.2 x hx p.1 (by simp)
        rcases List.mem_append.mp hp with w | w
        · rcases ha p w with y | y <;> omega
        · rw [List.mem_singleton] at w
          subst w
          exact absurd h2.2 (Int.lt_irrefl _)
    rcases List.mem_append.mp hp with z | z
    · exact h.most p z f hf hnot
    · rw [List.mem_singleton] at z
      subst z
      show f.length + 1 ≤ M4.best P a.2 + 1
      rcases snoc_cases f with e | ⟨g, x, e⟩
      · subst e; simp
      · subst e
        obtain ⟨q, hq, e⟩ := hnot x (by simp)
        subst e
        have hf2 := (List.pairwise_append.mp hf)
        have h1 := h.most q hq g hf2.1 fun y hy => hnot y (by simp [hy])
        have h2 := hf2.2.2 q.1 (by simp) a (by simp)
        have h3 := best_ge P a.2 q hq h2.2
        rw [List.length_append, List.length_singleton]
        omega
/-- all rows, one answer behind the other -/
def dpOf (s : List An) : List (An × Nat) := s.foldl (fun P a => P ++ [(a, M4.best P a.2 + 1)]) []
def tops (s : List An) : List Int := s.foldl (fun T a => ins T a.2) []
theorem dp_snoc (s : List An) (a : An) : dpOf (s ++ [a]) = dpOf s ++ [(a, M4.best (dpOf s) a.2 + 1)] := by unfold dpOf; rw [List.foldl_append]; rfl
theorem tops_snoc (s : List An) (a : An) : tops (s ++ [a]) = ins (tops s) a.2 := by unfold tops; rw [List.foldl_append]; rfl
theorem inv_run (s : List An) : s.Pairwise aft → Inv (dpOf s) (tops s) ∧ (dpOf s).map (·.1) = s := by
  refine snoc_all (P := fun s => s.Pairwise aft → Inv (dpOf s) (tops s) ∧ (dpOf s).map (·.1) = s) ?_ ?_ _ s rfl
  · intro _; exact ⟨Inv.nil, rfl⟩
  · intro s a ih h
    obtain ⟨h1, _, h2⟩ := List.pairwise_append.mp h
    obtain ⟨i1, i2⟩ := ih h1
    rw [dp_snoc, tops_snoc]
    refine ⟨i1.step fun p hp => h2 p.1 ?_ a (by simp), by rw [List.map_append, i2]; rfl⟩
    rw [← i2]
    exact List.mem_map_of_mem hp
/-- the longest row that falls -/
def LF (as : List An) (n : Nat) : Prop := (∃ f, Fall f ∧ (∀ x ∈ f, x ∈ as) ∧ f.length = n) ∧ ∀ f, Fall f → (∀ x ∈ f, x ∈ as) → f.length ≤ n
theorem LF.uniq {as : List An} {m n : Nat} (h1 : LF as m) (h2 : LF as n) : m = n := by
  obtain ⟨⟨f, f1, f2, f3⟩, h1⟩ := h1
  obtain ⟨⟨g, g1, g2, g3⟩, h2⟩ := h2
  have := h1 g g1 g2
  have := h2 f f1 f2
  omega
theorem LF.same {as bs : List An} {n : Nat} (h : LF as n) (e : ∀ x, x ∈ as ↔ x ∈ bs) : LF bs n := by
  obtain ⟨⟨f, f1, f2, f3⟩, h1⟩ := h
  exact ⟨⟨f, f1, fun x hx => (e x).mp (f2 x hx), f3⟩, fun g g1 g2 => h1 g g1 fun x hx => (e x).mpr (g2 x hx)⟩
theorem LF.sub {as bs : List An} {m n : Nat} (h1 : LF as m) (h2 : LF bs n) (e : ∀ x ∈ as, x ∈ bs) : m ≤ n := by
  obtain ⟨⟨f, f1, f2, f3⟩, _⟩ := h1
  have := h2.2 f f1 fun x hx => e x (f2 x hx)
  omega
theorem fall_filter {f : List An} (h : Fall f) (a : An) : f.length ≤ (f.filter fun x => decide (x ≠ a)).length + 1 := by
  induction f with
  | nil => simp
  | cons x f ih =>
    obtain ⟨h1, h2⟩ := List.pairwise_cons.mp h
    have := ih h2
    by_cases c : x = a
    · have e : (f.filter fun x => decide (x ≠ a)) = f := List.filter_eq_self.mpr fun y hy => by
        have := h1 y hy
        refine decide_eq_true fun z => ?_
        rw [z, c] at this
        exact absurd this.2 (Int.lt_irrefl _)
      rw [List.filter_cons_of_neg (by simp [c]), e]
      simp
    · rw [List.filter_cons_of_pos (by simp [c])]
      simp only [List.length_cons]
      omega
/-- one answer more needs at most one server more -/
theorem LF.one {as bs : List An} {m n : Nat} {a : An} (h1 : LF as m) (h2 : LF bs n) (e : ∀ x ∈ as, x ∈ bs ∨ x = a) : m ≤ n + 1 := by
  obtain ⟨⟨f, f1, f2, f3⟩, _⟩ := h1
  have := h2.2 (f.filter fun x => decide (x ≠ a)) (f1.filter _) fun x hx => by
    obtain ⟨h3, h4⟩ := List.mem_filter.mp hx
    rcases e x (f2 x h3) with z | z
    · exact z
    · exact absurd z (of_decide_eq_true h4)
  have := fall_filter f1 a
  omega
theorem Inv.lf {P : List (An × Nat)} {T : List Int} (h : Inv P T) : LF (P.map (·.1)) T.length := by
  constructor
  · by_cases c : T.length = 0
    · exact ⟨[], by simp [Fall], by simp, by simp [c]⟩
    · obtain ⟨p, hp, e1, e2⟩ := h.has (T.length - 1) _ (List.getElem?_eq_getElem (by omega))
      obtain ⟨f, hf, hm, hl⟩ := h.row p hp
      refine ⟨f ++ [p.1], hf, fun x hx => ?_, by rw [List.length_append, List.length_singleton]; omega⟩
      rcases List.mem_append.mp hx with z | z
      · obtain ⟨q, hq, e⟩ := hm x z
        rw [← e]
        exact List.mem_map_of_mem hq
      · rw [List.mem_singleton] at z
        subst z
        exact List.mem_map_of_mem hp
  · intro f hf hm
    rcases snoc_cases f with e | ⟨g, x, e⟩
    · subst e; simp
    · subst e
      obtain ⟨p, hp, e⟩ := List.mem_map.mp (hm x (by simp))
      subst e
      have h1 := h.most p hp g hf fun y hy => by
        obtain ⟨q, hq, e⟩ := List.mem_map.mp (hm y (by simp [hy]))
        exact ⟨q, hq, e⟩
      obtain ⟨h2, u, hu, _⟩ := h.top p hp
      have := (List.getElem?_eq_some_iff.mp hu).1
      rw [List.length_append, List.length_singleton]
      omega
end M4

end

section
/-! M04c: what the dealing needs is the longest row that falls. -/
namespace M4
theorem ins_er : ∀ (T : List Int) (v : Int), (ins T v).Perm (v :: M3.erF T v)
  | [], v => List.Perm.refl _
  | t :: T, v => by
    unfold ins M3.erF
    by_cases c : v < t
    · rw [if_pos c, if_neg (by omega)]
      exact ((ins_er T v).cons t).trans (List.Perm.swap v t _)
    · rw [if_neg c, if_pos (by omega)]
theorem er_perm (v : Int) : ∀ (T D F : List Int), Dec T → D.Pairwise (fun a b => b ≤ a) → T.Perm (D ++ F) → (∀ f ∈ F, v < f) → (M3.erF T v).Perm (M3.erF D v ++ F)
  | [], D, F, _, _, hp, _ => by
    have := hp.nil_eq
    obtain ⟨rfl, rfl⟩ := List.append_eq_nil_iff.mp this.symm
    exact List.Perm.refl _
  | t :: T, D, F, hT, hD, hp, hF => by
    obtain ⟨t1, t2⟩ := List.pairwise_cons.mp hT
    have tmax : ∀ x ∈ D ++ F, x ≤ t := fun x hx => by
      rcases List.mem_cons.mp (hp.mem_iff.mpr hx) with z | z
      · omega
      · have := t1 x z; omega
    have hd : t ∈ D → ∃ D', D = t :: D' := fun h => by
      cases D with
      | nil => cases h
      | cons d D' =>
        have h1 := tmax d (by simp)
        have h2 : t ≤ d := by
          rcases List.mem_cons.mp h with z | z
          · omega
          · exact (List.pairwise_cons.mp hD).1 t z
        have : d = t := by omega
        subst this
        exact ⟨D', rfl⟩
    have ht : t ∈ D ++ F := hp.mem_iff.mp (by simp)
    have er : ∀ D : List Int, M3.erF (t :: D) v = if t ≤ v then D else t :: M3.erF D v := fun _ => rfl
    rw [er T]
    by_cases c : t ≤ v
    · rw [if_pos c]
      have hF0 : F = [] := by
        cases F with
        | nil => rfl
        | cons f F =>
          have h1 := hF f (by simp)
          have h2 := tmax f (by simp)
          omega
      subst hF0
      rw [List.append_nil] at hp ht
      obtain ⟨D', rfl⟩ := hd ht
      rw [er, if_pos c, List.append_nil]
      exact List.Perm.cons_inv hp
    · rw [if_neg c]
      rcases List.mem_append.mp ht with h | h
      · obtain ⟨D', rfl⟩ := hd h
        rw [er, if_neg c]
        exact (er_perm v T D' F t2 (List.pairwise_cons.mp hD).2 (List.Perm.cons_inv hp) hF).cons t
      · obtain ⟨F1, F2, rfl⟩ := List.append_of_mem h
        have q : T.Perm (D ++ (F1 ++ F2)) := by
          have : (D ++ (F1 ++ t :: F2)).Perm (t :: (D ++ (F1 ++ F2))) := by
            rw [← List.append_assoc, ← List.append_assoc]
            exact List.perm_middle
          exact List.Perm.cons_inv (hp.trans this)
        have ih := er_perm v T D (F1 ++ F2) t2 hD q fun f hf => hF f (by
          rcases List.mem_append.mp hf with z | z
          · simp [z]
          · simp [z])
        refine (ih.cons t).trans ?_
        rw [← List.append_assoc, ← List.append_assoc]
        exact List.perm_middle.symm
theorem left_perm : ∀ (V A F T : List Int), Dec T → A.Pairwise (· ≤ ·) → T.Perm (A ++ F) → Dec V → (∀ f ∈ F, ∀ v ∈ V, v < f) → (V.foldl ins T).Perm (M3.left A V ++ (F ++ V)) ∧ Dec (V.foldl ins T)
  | [], A, F, T, hT, _, hp, _, _ => ⟨by rw [M3.left, List.append_nil]; exact hp, hT⟩
  | v :: V, A, F, T, hT, hA, hp, hV, hF => by
    obtain ⟨v1, v2⟩ := List.pairwise_cons.mp hV
    have h1 : (ins T v).Perm (M3.popLe A v ++ (F ++ [v])) := by
      refine (ins_er T v).trans ?_
      have h2 := er_perm v T A.reverse F hT (by rw [List.pairwise_reverse]; exact hA) (hp.trans ((List.reverse_perm A).symm.append_right F)) fun f hf => hF f hf v (by simp)
      rw [M3.erF_pop v A hA] at h2
      have h3 := h2.trans ((List.reverse_perm (M3.popLe A v)).append_right F)
      refine (h3.cons v).trans ?_
      rw [← List.append_assoc]
      exact (List.perm_append_singleton v _).symm
    have := left_perm V (M3.popLe A v) (F ++ [v]) (ins T v) (ins_dec T v hT) (M3.popLe_asc hA) h1 v2 fun f hf w hw => by
      rcases List.mem_append.mp hf with z | z
      · exact hF f z w (by simp [hw])
      · rw [List.mem_singleton] at z
        subst z
        exact v1 w hw
    rw [M3.left]
    refine ⟨?_, this.2⟩
    have e : F ++ [v] ++ V = F ++ v :: V := by simp
    rw [e] at this
    exact this.1
abbrev Grp := Int × List Int
def seqG (G : List Grp) : List An := G.flatMap fun g => g.2.reverse.map fun v => (g.1, v)
theorem tak_tops : ∀ (G : List Grp) (L T : List Int), Dec T → T.Perm L → (∀ g ∈ G, g.2.Pairwise (· < ·)) → ((seqG G).foldl (fun T a => ins T a.2) T).Perm ((G.map (·.2)).foldl M3.tak L)
  | [], L, T, _, hp, _ => hp
  | (m, vs) :: G, L, T, hT, hp, hG => by
    have hv := hG (m, vs) (by simp)
    have hv2 : vs.Pairwise (· ≤ ·) := hv.imp fun {a b} h => by omega
    have key := left_perm vs.reverse (KV.srtI L) [] T hT (KV.srtI_sorted L) (by rw [List.append_nil]; exact hp.trans (KV.srtI_perm L).symm) (by unfold Dec; rw [List.pairwise_reverse]; exact hv) (by simp)
    show ((vs.reverse.map (fun v => (m, v)) ++ seqG G).foldl (fun T a => ins T a.2) T).Perm ((G.map (·.2)).foldl M3.tak (M3.tak L vs))
    rw [List.foldl_append, List.foldl_map]
    refine tak_tops G (M3.tak L vs) _ key.2 ?_ fun g hg => hG g (by simp [hg])
    have := key.1
    rw [List.nil_append] at this
    unfold M3.tak
    rw [M3.sortDe_asc hv2]
    exact this
end M4

end

section
/-! M04d: the greedy number and the reckoned one are the longest row that falls. -/
namespace M4
open KV
theorem needN_lf {as : List An} (h : as.Pairwise (fun a b => ltK a b = true)) : LF as (M3.needN as) := by
  have hv : ∀ m : Int, ((as.filter fun a => decide (a.1 = m)).map (·.2)).Pairwise (· < ·) := by
    intro m
    rw [List.pairwise_map]
    refine (h.sublist (List.filter_sublist)).imp_of_mem fun {a b} ha hb hab => ?_
    have e1 : a.1 = m := by simpa using (List.mem_filter.mp ha).2
    have e2 : b.1 = m := by simpa using (List.mem_filter.mp hb).2
    rw [ltK_iff] at hab
    rcases hab with q | q
    · omega
    · omega
  have hG : ∀ g ∈ M3.groups as, g.2.Pairwise (· < ·) := by
    intro g hg
    obtain ⟨m, hm, rfl⟩ := List.mem_map.mp hg
    exact hv m
  have hseq : (seqG (M3.groups as)).Pairwise aft := by
    unfold seqG M3.groups
    rw [List.flatMap_map, List.pairwise_flatMap]
    refine ⟨fun m _ => ?_, ?_⟩
    · rw [List.pairwise_map, List.pairwise_reverse]
      exact (hv m).imp fun {a b} hab => .inr ⟨rfl, hab⟩
    · refine (sortD_sorted ltI_ok _).imp fun {m m'} hm x hx y hy => ?_
      obtain ⟨v, _, rfl⟩ := List.mem_map.mp hx
      obtain ⟨v', _, rfl⟩ := List.mem_map.mp hy
      exact .inl (of_decide_eq_true hm)
  have hmem : ∀ z, z ∈ seqG (M3.groups as) ↔ z ∈ as := by
    intro z
    unfold seqG M3.groups
    rw [List.flatMap_map, List.mem_flatMap]
    constructor
    · rintro ⟨m, _, hz⟩
      obtain ⟨v, hv, rfl⟩ := List.mem_map.mp hz
      obtain ⟨a, ha, rfl⟩ := List.mem_map.mp (List.mem_reverse.mp hv)
      obtain ⟨h1, h2⟩ := List.mem_filter.mp ha
      have : a.1 = m := by simpa using h2
      rw [← this]; exact h1
    · intro hz
      refine ⟨z.1, (sortD_mem ltI_ok _ _).mpr (List.mem_map.mpr ⟨z, hz, rfl⟩), List.mem_map.mpr ⟨z.2, List.mem_reverse.mpr (List.mem_map.mpr ⟨z, List.mem_filter.mpr ⟨hz, by simp⟩, rfl⟩), rfl⟩⟩
  obtain ⟨i1, i2⟩ := inv_run _ hseq
  have hl := i1.lf
  rw [i2] at hl
  have hp := (tak_tops (M3.groups as) [] [] (by simp) (List.Perm.refl _) hG).length_eq
  rw [M3.needN_groups h, ← hp]
  exact hl.same hmem
/-- the greatest of the reckoned numbers -/
def top (P : List (An × Nat)) : Nat := P.foldr (fun p m => max p.2 m) 0
theorem top_ge : ∀ (P : List (An × Nat)) (p : An × Nat), p ∈ P → p.2 ≤ top P
  | q :: P, p, h => by
    show p.2 ≤ max q.2 (top P)
    rcases List.mem_cons.mp h with e | e
    · subst e; exact Nat.le_max_left _ _
    · exact Nat.le_trans (top_ge P p e) (Nat.le_max_right _ _)
theorem top_le : ∀ (P : List (An × Nat)) (n : Nat), (∀ p ∈ P, p.2 ≤ n) → top P ≤ n
  | [], _, _ => Nat.zero_le _
  | q :: P, n, h => Nat.max_le.mpr ⟨h q (by simp), top_le P n fun p hp => h p (List.mem_cons_of_mem _ hp)⟩
theorem Inv.topT {P : List (An × Nat)} {T : List Int} (h : Inv P T) : M4.top P = T.length := by
  refine Nat.le_antisymm (top_le P _ fun p hp => ?_) ?_
  · obtain ⟨h1, u, hu, _⟩ := h.top p hp
    have := (List.getElem?_eq_some_iff.mp hu).1
    omega
  · by_cases c : T.length = 0
    · omega
    · obtain ⟨p, hp, e1, _⟩ := h.has (T.length - 1) _ (List.getElem?_eq_getElem (by omega))
      have := top_ge P p hp
      omega
theorem top_lf {s : List An} (h : s.Pairwise aft) : LF s (top (dpOf s)) := by
  obtain ⟨i1, i2⟩ := inv_run s h
  have hl := i1.lf
  rw [i2] at hl
  rw [i1.topT]
  exact hl
/-- answers of so many servers that go on need no more -/
theorem LF.ways {as : List An} {n : Nat} (h : LF as n) {k : Nat} (w : An → Nat) (hw : ∀ a ∈ as, w a < k) (hc : ∀ a ∈ as, ∀ b ∈ as, w a = w b → a.1 ≤ b.1 → b.2 < a.2 → False) : n ≤ k := by
  obtain ⟨⟨f, f1, f2, f3⟩, _⟩ := h
  have key : ∀ (l : List Nat) (k : Nat), l.Pairwise (· ≠ ·) → (∀ x ∈ l, x < k) → l.length ≤ k := by
    intro l k
    induction k generalizing l with
    | zero =>
      intro _ hx
      cases l with
      | nil => simp
      | cons x l => exact absurd (hx x (by simp)) (Nat.not_lt_zero _)
    | succ k ih =>
      intro hp hx
      have h1 : (l.filter fun x => decide (x ≠ k)).length ≤ k := ih _ (hp.filter _) fun x hm => by
        obtain ⟨a, b⟩ := List.mem_filter.mp hm
        have := hx x a
        have : x ≠ k := of_decide_eq_true b
        omega
      have h2 : l.length ≤ (l.filter fun x => decide (x ≠ k)).length + 1 := by
        clear ih hx h1
        induction l with
        | nil => simp
        | cons x l ih =>
          obtain ⟨p1, p2⟩ := List.pairwise_cons.mp hp
          by_cases c : x = k
          · have e : (l.filter fun x => decide (x ≠ k)) = l := List.filter_eq_self.mpr fun y hy => decide_eq_true fun z => p1 y hy (by rw [c, z])
            rw [List.filter_cons_of_neg (by simp [c]), e]
            simp
          · rw [List.filter_cons_of_pos (by simp [c])]
            have := ih p2
            simp only [List.length_cons]
            omega
      omega
  have := key (f.map w) k (by
    rw [List.pairwise_map]
    refine f1.imp_of_mem fun {a b} ha hb hab e => ?_
    exact hc a (f2 a ha) b (f2 b hb) e hab.1 hab.2) fun x hx => by
      obtain ⟨a, ha, rfl⟩ := List.mem_map.mp hx
      exact hw a (f2 a ha)
  rw [List.length_map] at this
  omega
end M4

end

section
/-! the walk, printed by gen.py over the KV layer -/
namespace KL
open PySem PySem.Spec PyProof.Rows L2 KV
def top (i : Nat) : Stmt := PySem.Challenge.pw_keyturns_k04_whole_rows_that_fall.main.body.getD i (.Pass ⟨0, 0, 0, 0⟩)

theorem pts1 {X : Cx} {c : Expr} {t : DenT} (h : Tx X c t) : PTs X [c] (tT X.K t) := pts_one h
theorem fnP_none {P : Program} {w : World} {K : PySem.W.Frag} {mg : Str → Option Value} {base : Heap} {k : Nat} {f : Addr} {fd : FuncData} {ps : List Str} : FnP P w K mg base k f fd ps (fun _ => none) :=
  ⟨fun _ _ _ _ h => (by obtain ⟨_, _, _, _, z, _⟩ := h; cases z), fun _ _ _ _ _ _ _ _ _ _ _ _ _ _ h => (by obtain ⟨_, _, _, _, z, _⟩ := h; cases z)⟩
def blkB (N : List Str) (sn : List (Str × NameKind)) (names : List (Str × NameKind)) (own : List (Str × Nat)) : Bool :=
  names.all (fun y => decide (names.lookup y.1 = some y.2)) && own.all (fun p => decide (N[p.2]? = some p.1)) && names.all (fun y => !decide (y.2 = .free) || decide (sn.lookup y.1 = some .cell) || decide (sn.lookup y.1 = some .free))
  && names.all (fun y => !(decide (y.2 = .local) || decide (y.2 = .cell)) || decide (y.1 ∈ own.map (·.1)) || !decide (y.1 ∈ N))
theorem blk_of {N : List Str} {sc scope : Scope} {own : List (Str × Nat)} (h0 : scope.kind = .function) (h : blkB N sc.names scope.names own = true) : BlkOk N sc scope own := by
  unfold blkB at h
  simp only [Bool.and_eq_true, List.all_eq_true, Bool.or_eq_true, Bool.not_eq_true', decide_eq_true_eq, decide_eq_false_iff_not, Bool.or_eq_false_iff] at h
  obtain ⟨⟨⟨h1, h2⟩, h3⟩, h4⟩ := h
  refine ⟨h0, h1, h2, fun y hy e => ?_, fun y hy e => ?_⟩
  · rcases h3 y hy with (z | z) | z
    · exact absurd e z
    · exact .inl z
    · exact .inr z
  · rcases h4 y hy with (z | z) | z
    · rcases e with e | e
      · exact absurd e z.1
      · exact absurd e z.2
    · exact .inl z
    · exact .inr z
structure Ok (P : Program) (w : World) (K : PySem.W.Frag) (mg : Str → Option Value) (base : Heap) (k : Nat) (x : Str) (ps : List Str) (st : Stmt) (f : Addr) (fd : FuncData) (F : List PyData → Option KV.R) : Prop where
  m : mg x = some (.ref f)
  kp : PySem.W.keepIn K (.ref f) = true
  b : Binds K fd ps []
  D : FunD K x x (defArgs st) (defBody st) (defScope st) [] [] f fd
  run : FnP P w K mg base k f fd ps F
structure OkB (P : Program) (w : World) (K : PySem.W.Frag) (mg : Str → Option Value) (base : Heap) (k : Nat) (x : Str) (ps : List Str) (st : Stmt) (f : Addr) (fd : FuncData) (G : Ob → List PyData → Option (KV.R × Ob)) : Prop where
  m : mg x = some (.ref f)
  kp : PySem.W.keepIn K (.ref f) = true
  b : Binds K fd ps []
  D : FunD K x x (defArgs st) (defBody st) (defScope st) [] [] f fd
  run : FnB P w K mg base k f fd ps G

abbrev s_frozen : Stmt := top 1
theorem sc_frozen : FnScope ["thing", "part"] ["thing"] (defScope s_frozen) := ⟨rfl, rfl, rfl, by decide +kernel, rfl, by decide +kernel, by decide +kernel⟩
def g_frozen (F : List PyData → Option KV.R) : DenS := dSeq (dIf (dB (dIsi2 (dVar 0) "list" "tuple")) (dRet (dCB (dCons (dLc [1] (iSeq (dVar 0)) (gN 1) (tYesD) (dCall F (vCons (dVar 1) (vNil)))) (dNil)) opTuple)) (dNext)) (dRet (dVar 0))
def Fz_frozen : Nat → List PyData → Option KV.R
  | 0 => fun _ => none
  | n + 1 => runP 2 (g_frozen (Fz_frozen n))
abbrev F_frozen : List PyData → Option KV.R := Fz_frozen 12
abbrev s_begin_of : Stmt := top 3
theorem sc_begin_of : FnScope ["zone", "version"] ["zone", "version"] (defScope s_begin_of) := ⟨rfl, rfl, rfl, by decide +kernel, rfl, by decide +kernel, by decide +kernel⟩
def g_begin_of : DenS := dRet (dBin (dBin (dBin (dVar 0) (dC (.int 0)) opIx) (dVar 1) opIx) (dC (.int 0)) opIx)
def F_begin_of : List PyData → Option KV.R := runP 2 g_begin_of
abbrev s_end_of : Stmt := top 4
theorem sc_end_of : FnScope ["zone", "version", "line", "lag"] ["zone", "version"] (defScope s_end_of) := ⟨rfl, rfl, rfl, by decide +kernel, rfl, by decide +kernel, by decide +kernel⟩
def g_end_of : DenS := dSeq (dPar 2 3 (vCons (dBin (dVar 0) (dC (.int 0)) opIx) (vCons (dBin (dVar 0) (dC (.int 3)) opIx) (vNil)))) (dRet (dIfE (dB (dBin (dBin (dVar 1) (dC (.int 1)) opAdd) (dCB (dCons (dVar 2) (dNil)) opLen) opLt)) (dBin (dBin (dBin (dVar 2) (dBin (dVar 1) (dC (.int 1)) opAdd) opIx) (dC (.int 0)) opIx) (dVar 3) opAdd) (dC .none)))
def F_end_of : List PyData → Option KV.R := runP 4 g_end_of
abbrev s_may_tell : Stmt := top 5
theorem sc_may_tell : FnScope ["zone", "version", "time", "end"] ["zone", "version", "time"] (defScope s_may_tell) := ⟨rfl, rfl, rfl, by decide +kernel, rfl, by decide +kernel, by decide +kernel⟩
def g_may_tell : DenS := dSeq (dIf (dOr (dNot (dB (dCh (dC (.int 0)) (dVar 1) (dCB (dCons (dBin (dVar 0) (dC (.int 0)) opIx) (dNil)) opLen) opLe opLt))) (dB (dBin (dVar 2) (dCall F_begin_of (vCons (dVar 0) (vCons (dVar 1) (vNil)))) opLt))) (dRet (dC (.bool false))) (dNext)) (dSeq (dSet 3 (dCall F_end_of (vCons (dVar 0) (vCons (dVar 1) (vNil))))) (dRet (dV (dOr (dB (dBin (dVar 3) (dC .none) opIsN)) (dB (dBin (dVar 2) (dVar 3) opLt))))))
def F_may_tell : List PyData → Option KV.R := runP 4 g_may_tell
abbrev s_taken_up : Stmt := top 6
theorem sc_taken_up : FnScope ["lasts", "versions", "left", "found", "version", "fit", "at", "last"] ["lasts", "versions"] (defScope s_taken_up) := ⟨rfl, rfl, rfl, by decide +kernel, rfl, by decide +kernel, by decide +kernel⟩
def g_taken_up : DenS := dSeq (dParO 2 3 (dCB (dCons (dVar 0) (dNil)) opSrt) (dLst (vNil))) (dSeq (dFor (iSeq (dUn (dVar 1) opSrtR)) (gN 4) (dSeq (dSet 5 (dLc [6, 7] (iEnumO (dCons (dVar 2) (dNil))) (gT (gsCons (gN 6) (gsCons (gN 7) (gsNil)))) (dB (dBin (dVar 7) (dVar 4) opLe)) (dVar 6))) (dSeq (dIf (dB (dBin (dCB (dCons (dVar 5) (dNil)) opLen) (dC (.int 0)) opGt)) (dDrop (dPop 2 (dBin (dVar 5) (dUn (dC (.int 1)) opNeg) opIx))) (dNext)) (dDrop (dApp 3 (dVar 4)))))) (dRet (dBin (dVar 2) (dVar 3) opAdd)))
def F_taken_up : List PyData → Option KV.R := runP 8 g_taken_up
abbrev s_needs_servers : Stmt := top 7
theorem sc_needs_servers : FnScope ["zone", "row", "answers", "lasts", "moment", "time", "version"] ["zone", "row"] (defScope s_needs_servers) := ⟨rfl, rfl, rfl, by decide +kernel, rfl, by decide +kernel, by decide +kernel⟩
def g_needs_servers : DenS := dSeq (dSet 2 (dUn (dCall F_frozen (vCons (dVar 1) (vNil))) opST)) (dSeq (dIf (dNot (dB (dCB (dCons (dLc [5, 6] (iSeq (dVar 2)) (gT (gsCons (gN 5) (gsCons (gN 6) (gsNil)))) (tYesD) (dCall F_may_tell (vCons (dVar 0) (vCons (dVar 6) (vCons (dVar 5) (vNil)))))) (dNil)) opAll))) (dRet (dC .none)) (dNext)) (dSeq (dSet 3 (dLst (vNil))) (dSeq (dFor (iSeq (dUn (dLc [5, 6] (iSeq (dVar 2)) (gT (gsCons (gN 5) (gsCons (gN 6) (gsNil)))) (tYesD) (dVar 5)) opSS)) (gN 4) (dSet 3 (dCall F_taken_up (vCons (dVar 3) (vCons (dLc [5, 6] (iSeq (dVar 2)) (gT (gsCons (gN 5) (gsCons (gN 6) (gsNil)))) (dB (dBin (dVar 5) (dVar 4) opEq)) (dVar 6)) (vNil)))))) (dRet (dCB (dCons (dVar 3) (dNil)) opLen)))))
def F_needs_servers : List PyData → Option KV.R := runP 7 g_needs_servers
abbrev s_can_tell : Stmt := top 8
theorem sc_can_tell : FnScope ["zone", "row", "many"] ["zone", "row"] (defScope s_can_tell) := ⟨rfl, rfl, rfl, by decide +kernel, rfl, by decide +kernel, by decide +kernel⟩
def g_can_tell : DenS := dSeq (dSet 2 (dCall F_needs_servers (vCons (dVar 0) (vCons (dVar 1) (vNil))))) (dRet (dV (dAnd (dB (dBin (dVar 2) (dC .none) opNotN)) (dB (dBin (dVar 2) (dBin (dVar 0) (dC (.int 1)) opIx) opLe)))))
def F_can_tell : List PyData → Option KV.R := runP 3 g_can_tell
abbrev s__law_box : Stmt := top 10
theorem sc__law_box : FnScope ["_law_script", "_law_k", "_law_cell"] ["_law_script", "_law_k"] (defScope s__law_box) := ⟨rfl, rfl, rfl, by decide +kernel, rfl, by decide +kernel, by decide +kernel⟩
def g__law_box : DenS := dSeq (dSet 2 (dIfE (dB (dBin (dVar 1) (dCB (dCons (dVar 0) (dNil)) opLen) opLt)) (dBin (dVar 0) (dVar 1) opIx) (dC (.int 0)))) (dRet (dLst (vCons (dBin (dCB (dCons (dVar 2) (dNil)) opAbs) (dCB (dCons (dBin (dCB (dCons (dVar 2) (dNil)) opAbs) (dBin (dC (.int 10)) (dC (.int 18)) opPow) opGe) (dNil)) opInt) opMul) (vCons (dBin (dBin (dBin (dCB (dCons (dVar 2) (dNil)) opInt) (dC (.int 2305843009213693951)) opMod) (dBin (dC (.int 39373)) (dVar 1) opMul) opAdd) (dC (.int 43)) opAdd) (vCons (dC (.int 0)) (vNil))))))
def F__law_box : List PyData → Option KV.R := runP 3 g__law_box
abbrev s__law_take : Stmt := top 11
theorem sc__law_take : FnScope ["_law_box_here", "_law_below", "_law_found", "_law_once", "_law_rest", "_law_twice"] ["_law_box_here", "_law_below"] (defScope s__law_take) := ⟨rfl, rfl, rfl, by decide +kernel, rfl, by decide +kernel, by decide +kernel⟩
def g__law_take : DenS := dSeq (dIf (dB (dBin (dBin (dVar 0) (dC (.int 0)) opIx) (dC (.int 0)) opGt)) (dSeq (dSet 2 (dBin (dCB (dCons (dBin (dVar 0) (dC (.int 0)) opIx) (dNil)) opInt) (dVar 1) opMod)) (dSeq (dSetIx 0 (dBin (dBin (dVar 0) (dC (.int 0)) opIx) (dVar 1) opDiv) (dC (.int 0))) (dRet (dVar 2)))) (dNext)) (dSeq (dSetIx 0 (dBin (dBin (dVar 0) (dC (.int 2)) opIx) (dC (.int 1)) opAdd) (dC (.int 2))) (dSeq (dSet 3 (dBin (dCB (dCons (dBin (dBin (dBin (dVar 0) (dC (.int 1)) opIx) (dBin (dC (.int 48271)) (dBin (dVar 0) (dC (.int 2)) opIx) opMul) opAdd) (dBin (dC (.int 39373)) (dBin (dVar 0) (dC (.int 2)) opIx) opAdd) opMul) (dNil)) opInt) (dC (.int 2147483647)) opMod)) (dSeq (dSet 4 (dBin (dBin (dCB (dCons (dVar 3) (dNil)) opInt) (dC (.int 40009)) opMod) (dC (.int 7)) opAdd)) (dSeq (dSet 5 (dBin (dCB (dCons (dBin (dBin (dBin (dVar 3) (dBin (dVar 0) (dC (.int 2)) opIx) opAdd) (dBin (dBin (dVar 0) (dC (.int 1)) opIx) (dC (.int 1000003)) opDiv) opAdd) (dVar 4) opMul) (dNil)) opInt) (dC (.int 2147483629)) opMod)) (dRet (dBin (dCB (dCons (dBin (dBin (dCB (dCons (dBin (dBin (dVar 5) (dC (.int 48271)) opMul) (dVar 3) opAdd) (dNil)) opInt) (dC (.int 2147483587)) opMod) (dC (.int 64)) opDiv) (dNil)) opInt) (dVar 1) opMod))))))
def G__law_take : Ob → List PyData → Option (KV.R × Ob) := runB 6 g__law_take
abbrev s__law_pick : Stmt := top 12
theorem sc__law_pick : FnScope ["_law_box_here", "_law_some"] ["_law_box_here", "_law_some"] (defScope s__law_pick) := ⟨rfl, rfl, rfl, by decide +kernel, rfl, by decide +kernel, by decide +kernel⟩
def g__law_pick : DenS := dRet (dBin (dVar 1) (dCallB G__law_take 0 (vCons (dCB (dCons (dVar 1) (dNil)) opLen) (vNil))) opIx)
def G__law_pick : Ob → List PyData → Option (KV.R × Ob) := runB 2 g__law_pick
abbrev s__law_same : Stmt := top 13
theorem sc__law_same : FnScope ["_law_found", "_law_due", "_law_mine", "_law_its"] ["_law_found", "_law_due"] (defScope s__law_same) := ⟨rfl, rfl, rfl, by decide +kernel, rfl, by decide +kernel, by decide +kernel⟩
def g__law_same (F : List PyData → Option KV.R) : DenS := dSeq (dIf (dB (dIsi2 (dVar 1) "list" "tuple")) (dSeq (dIf (dOr (dB (dBin (dIsi (dVar 0) "list") (dIsi (dVar 1) "list") opNe)) (dB (dBin (dIsi (dVar 0) "tuple") (dIsi (dVar 1) "tuple") opNe))) (dRet (dC (.bool false))) (dNext)) (dRet (dV (dAnd (dB (dBin (dCB (dCons (dVar 0) (dNil)) opLen) (dCB (dCons (dVar 1) (dNil)) opLen) opEq)) (dB (dCB (dCons (dLc [2, 3] (iZip2 (vCons (dVar 0) (vCons (dVar 1) (vNil)))) (gT (gsCons (gN 2) (gsCons (gN 3) (gsNil)))) (tYesD) (dCall F (vCons (dVar 2) (vCons (dVar 3) (vNil))))) (dNil)) opAll)))))) (dNext)) (dSeq (dIf (dOr (dB (dBin (dVar 1) (dC .none) opIsN)) (dB (dIsi2 (dVar 1) "bool" "str"))) (dRet (dV (dAnd (dB (dBin (dVar 0) (dVar 1) opEq)) (dAnd (dB (dBin (dIsi (dVar 0) "bool") (dIsi (dVar 1) "bool") opEq)) (dB (dBin (dBin (dVar 0) (dC .none) opIsN) (dBin (dVar 1) (dC .none) opIsN) opEq)))))) (dNext)) (dRet (dV (dAnd (dB (dIsi (dVar 0) "int")) (dAnd (dB (dV (dNot (dB (dIsi (dVar 0) "bool"))))) (dB (dBin (dVar 0) (dVar 1) opEq)))))))
def Fz__law_same : Nat → List PyData → Option KV.R
  | 0 => fun _ => none
  | n + 1 => runP 4 (g__law_same (Fz__law_same n))
abbrev F__law_same : List PyData → Option KV.R := Fz__law_same 12
abbrev s__law_told : Stmt := top 14
theorem sc__law_told : FnScope ["_law_zone_so", "_law_number", "_law_at", "_law_line"] ["_law_zone_so", "_law_number", "_law_at"] (defScope s__law_told) := ⟨rfl, rfl, rfl, by decide +kernel, rfl, by decide +kernel, by decide +kernel⟩
def g__law_told : DenS := dSeq (dSet 3 (dBin (dVar 0) (dC (.int 0)) opIx)) (dSeq (dIf (dB (dBin (dVar 2) (dBin (dBin (dVar 3) (dVar 1) opIx) (dC (.int 0)) opIx) opLt)) (dRet (dC (.bool false))) (dNext)) (dRet (dV (dOr (dB (dBin (dBin (dVar 1) (dC (.int 1)) opAdd) (dCB (dCons (dVar 3) (dNil)) opLen) opEq)) (dB (dBin (dVar 2) (dBin (dBin (dBin (dVar 3) (dBin (dVar 1) (dC (.int 1)) opAdd) opIx) (dC (.int 0)) opIx) (dBin (dVar 0) (dC (.int 3)) opIx) opAdd) opLt))))))
def F__law_told : List PyData → Option KV.R := runP 4 g__law_told
abbrev s__law_told_at : Stmt := top 15
theorem sc__law_told_at : FnScope ["_law_zone_so", "_law_at", "_law_number"] ["_law_zone_so", "_law_at"] (defScope s__law_told_at) := ⟨rfl, rfl, rfl, by decide +kernel, rfl, by decide +kernel, by decide +kernel⟩
def g__law_told_at : DenS := dRet (dLc [2] (iR1 (dCons (dCB (dCons (dBin (dVar 0) (dC (.int 0)) opIx) (dNil)) opLen) (dNil))) (gN 2) (dB (dCall F__law_told (vCons (dVar 0) (vCons (dVar 2) (vCons (dVar 1) (vNil)))))) (dVar 2))
def F__law_told_at : List PyData → Option KV.R := runP 3 g__law_told_at
abbrev s__law_least : Stmt := top 16
theorem sc__law_least : FnScope ["_law_row_here", "_law_some", "_law_longest", "_law_k", "_law_at", "_law_low", "_law_before", "_law_number", "_law_j"] ["_law_row_here"] (defScope s__law_least) := ⟨rfl, rfl, rfl, by decide +kernel, rfl, by decide +kernel, by decide +kernel⟩
def g__law_least : DenS := dSeq (dSet 1 (dUn (dLc [4, 7] (iSeq (dVar 0)) (gT (gsCons (gN 4) (gsCons (gN 7) (gsNil)))) (tYesD) (dTup (vCons (dVar 4) (vCons (dBin (dC (.int 0)) (dVar 7) opSub) (vNil))))) opSX)) (dSeq (dSet 2 (dLst (vNil))) (dSeq (dFor (iEnumL (vCons (dVar 1) (vNil))) (gT (gsCons (gN 3) (gsCons (gT (gsCons (gN 4) (gsCons (gN 5) (gsNil)))) (gsNil)))) (dSeq (dSet 6 (dLc [8] (iR1 (dCons (dVar 3) (dNil))) (gN 8) (dB (dBin (dBin (dBin (dVar 1) (dVar 8) opIx) (dC (.int 1)) opIx) (dVar 5) opLt)) (dBin (dVar 2) (dVar 8) opIx))) (dDrop (dApp 2 (dBin (dC (.int 1)) (dCB (dCons (dBin (dVar 6) (dLst (vCons (dC (.int 0)) (vNil))) opAdd) (dNil)) opMaxL) opAdd))))) (dRet (dCB (dCons (dBin (dVar 2) (dLst (vCons (dC (.int 0)) (vNil))) opAdd) (dNil)) opMaxL))))
def F__law_least : List PyData → Option KV.R := runP 9 g__law_least
abbrev s__law_row : Stmt := top 17
theorem sc__law_row : FnScope ["_law_some"] ["_law_some"] (defScope s__law_row) := ⟨rfl, rfl, rfl, by decide +kernel, rfl, by decide +kernel, by decide +kernel⟩
def g__law_row : DenS := dRet (dCB (dCons (dUn (dVar 0) opSS) (dNil)) opTuple)
def F__law_row : List PyData → Option KV.R := runP 1 g__law_row
abbrev s__law_begin_of : Stmt := top 18
theorem sc__law_begin_of : FnScope ["_law_box_here", "_law_trust_so", "_law_is_last", "_law_keys_so", "_law_heads", "_law_marks", "_law_below", "_law_key"] ["_law_box_here", "_law_trust_so", "_law_is_last"] (defScope s__law_begin_of) := ⟨rfl, rfl, rfl, by decide +kernel, rfl, by decide +kernel, by decide +kernel⟩
def g__law_begin_of : DenS := dSeq (dSet 3 (dCB (dCons (dVar 1) (dNil)) opList)) (dSeq (dIf (dB (dBin (dCallB G__law_take 0 (vCons (dC (.int 2)) (vNil))) (dC (.int 0)) opEq)) (dDrop (dApp 3 (dTup (vCons (dC (.int 9)) (vCons (dCallB G__law_take 0 (vCons (dC (.int 2)) (vNil))) (vNil)))))) (dNext)) (dSeq (dSet 4 (dLc [7] (iSeq (dVar 1)) (gN 7) (tYesD) (dBin (dVar 7) (dC (.int 0)) opIx))) (dSeq (dSet 5 (dBin (dLc [7] (iSeq (dVar 3)) (gN 7) (dB (dBin (dCallB G__law_take 0 (vCons (dC (.int 3)) (vNil))) (dC (.int 0)) opGt)) (dBin (dVar 7) (dC (.int 0)) opIx)) (dVar 4) opAdd)) (dSeq (dSet 6 (dCallB G__law_pick 0 (vCons (dLst (vCons (dTup (vCons (dTup (vCons (dC (.int 1)) (vCons (dC (.int 0)) (vNil)))) (vNil))) (vCons (dTup (vCons (dTup (vCons (dC (.int 1)) (vCons (dC (.int 0)) (vNil)))) (vNil))) (vCons (dTup (vCons (dTup (vCons (dC (.int 1)) (vCons (dC (.int 0)) (vNil)))) (vCons (dTup (vCons (dC (.int 2)) (vCons (dC (.int 1)) (vNil)))) (vNil)))) (vNil))))) (vNil)))) (dSeq (dSet 6 (dIfE (dB (dVar 2)) (dC .none) (dVar 6))) (dRet (dTup (vCons (dCall F__law_row (vCons (dVar 3) (vNil))) (vCons (dCall F__law_row (vCons (dVar 4) (vNil))) (vCons (dVar 6) (vCons (dCall F__law_row (vCons (dVar 5) (vNil))) (vCons (dTup (vNil)) (vNil)))))))))))))
def G__law_begin_of : Ob → List PyData → Option (KV.R × Ob) := runB 8 g__law_begin_of
abbrev s__law_without : Stmt := top 19
theorem sc__law_without : FnScope ["_law_some", "_law_number", "_law_own"] ["_law_some", "_law_number"] (defScope s__law_without) := ⟨rfl, rfl, rfl, by decide +kernel, rfl, by decide +kernel, by decide +kernel⟩
def g__law_without : DenS := dRet (dCB (dCons (dLc [2] (iSeq (dVar 0)) (gN 2) (dB (dBin (dVar 2) (dVar 1) opNe)) (dVar 2)) (dNil)) opTuple)
def F__law_without : List PyData → Option KV.R := runP 3 g__law_without
abbrev s__law_changed : Stmt := top 20
theorem sc__law_changed : FnScope ["_law_box_here", "_law_told_so", "_law_keys_so", "_law_heads", "_law_below", "_law_marks", "_law_gone", "_law_number", "_law_way", "_law_own", "_law_left", "_law_put", "_law_key"] ["_law_box_here", "_law_told_so"] (defScope s__law_changed) := ⟨rfl, rfl, rfl, by decide +kernel, rfl, by decide +kernel, by decide +kernel⟩
def g__law_changed : DenS := dSeq (dAsg (dVar 1) (gT (gsCons (gN 2) (gsCons (gN 3) (gsCons (gN 4) (gsCons (gN 5) (gsCons (gN 6) (gsNil)))))))) (dSeq (dAsg (dTup (vCons (dBin (dC (.int 1)) (dCallB G__law_take 0 (vCons (dC (.int 5)) (vNil))) opAdd) (vCons (dCallB G__law_take 0 (vCons (dC (.int 12)) (vNil))) (vNil)))) (gT (gsCons (gN 7) (gsCons (gN 8) (gsNil))))) (dSeq (dSet 9 (dLc [12] (iSeq (dVar 2)) (gN 12) (dB (dBin (dBin (dVar 12) (dC (.int 0)) opIx) (dVar 7) opEq)) (dVar 12))) (dSeq (dIf (dAnd (dB (dBin (dVar 8) (dC (.int 3)) opLt)) (dB (dBin (dVar 9) (dLst (vNil)) opEq))) (dRet (dTup (vCons (dCall F__law_row (vCons (dBin (dCB (dCons (dVar 2) (dNil)) opList) (dLst (vCons (dTup (vCons (dVar 7) (vCons (dCallB G__law_take 0 (vCons (dC (.int 2)) (vNil))) (vNil)))) (vNil))) opAdd) (vNil))) (vCons (dVar 3) (vCons (dVar 4) (vCons (dVar 5) (vCons (dVar 6) (vNil)))))))) (dNext)) (dSeq (dIf (dAnd (dB (dBin (dVar 8) (dC (.int 3)) opEq)) (dB (dBin (dCB (dCons (dVar 2) (dNil)) opLen) (dC (.int 1)) opGt))) (dSeq (dSet 10 (dCB (dCons (dLc [12] (iSeq (dVar 2)) (gN 12) (dB (dBin (dBin (dVar 12) (dC (.int 0)) opIx) (dVar 7) opNe)) (dVar 12)) (dNil)) opTuple)) (dRet (dTup (vCons (dVar 10) (vCons (dVar 3) (vCons (dVar 4) (vCons (dVar 5) (vCons (dCall F__law_without (vCons (dVar 6) (vCons (dVar 7) (vNil)))) (vNil))))))))) (dNext)) (dSeq (dIf (dB (dBin (dVar 8) (dC (.int 6)) opLt)) (dSeq (dSet 11 (dIfE (dB (dBin (dVar 7) (dVar 3) opIn)) (dCall F__law_without (vCons (dVar 3) (vCons (dVar 7) (vNil)))) (dCall F__law_row (vCons (dBin (dCB (dCons (dVar 3) (dNil)) opList) (dLst (vCons (dVar 7) (vNil))) opAdd) (vNil))))) (dRet (dTup (vCons (dVar 2) (vCons (dVar 11) (vCons (dVar 4) (vCons (dVar 5) (vCons (dVar 6) (vNil))))))))) (dNext)) (dSeq (dIf (dB (dBin (dVar 8) (dC (.int 9)) opLt)) (dSeq (dSet 11 (dIfE (dB (dBin (dVar 7) (dVar 5) opIn)) (dCall F__law_without (vCons (dVar 5) (vCons (dVar 7) (vNil)))) (dCall F__law_row (vCons (dBin (dCB (dCons (dVar 5) (dNil)) opList) (dLst (vCons (dVar 7) (vNil))) opAdd) (vNil))))) (dRet (dTup (vCons (dVar 2) (vCons (dVar 3) (vCons (dVar 4) (vCons (dVar 11) (vCons (dVar 6) (vNil))))))))) (dNext)) (dSeq (dIf (dAnd (dB (dBin (dVar 8) (dC (.int 9)) opEq)) (dB (dBin (dVar 9) (dLst (vNil)) opNe))) (dSeq (dSet 11 (dIfE (dB (dBin (dVar 7) (dVar 6) opIn)) (dCall F__law_without (vCons (dVar 6) (vCons (dVar 7) (vNil)))) (dCall F__law_row (vCons (dBin (dCB (dCons (dVar 6) (dNil)) opList) (dLst (vCons (dVar 7) (vNil))) opAdd) (vNil))))) (dRet (dTup (vCons (dVar 2) (vCons (dVar 3) (vCons (dVar 4) (vCons (dVar 5) (vCons (dVar 11) (vNil))))))))) (dNext)) (dSeq (dIf (dOr (dB (dBin (dVar 4) (dC .none) opIsN)) (dB (dBin (dVar 8) (dC (.int 9)) opEq))) (dRet (dTup (vCons (dVar 2) (vCons (dVar 3) (vCons (dVar 4) (vCons (dVar 5) (vCons (dVar 6) (vNil)))))))) (dNext)) (dSeq (dSet 10 (dCB (dCons (dLc [12] (iSeq (dVar 4)) (gN 12) (dB (dBin (dBin (dVar 12) (dC (.int 0)) opIx) (dVar 7) opNe)) (dVar 12)) (dNil)) opTuple)) (dSeq (dIf (dB (dBin (dCB (dCons (dVar 10) (dNil)) opLen) (dCB (dCons (dVar 4) (dNil)) opLen) opEq)) (dSet 10 (dCall F__law_row (vCons (dBin (dCB (dCons (dVar 4) (dNil)) opList) (dLst (vCons (dTup (vCons (dVar 7) (vCons (dCallB G__law_take 0 (vCons (dC (.int 2)) (vNil))) (vNil)))) (vNil))) opAdd) (vNil)))) (dNext)) (dRet (dTup (vCons (dVar 2) (vCons (dVar 3) (vCons (dVar 10) (vCons (dVar 5) (vCons (dVar 6) (vNil))))))))))))))))))
def G__law_changed : Ob → List PyData → Option (KV.R × Ob) := runB 13 g__law_changed
abbrev s__law_zone : Stmt := top 21
theorem sc__law_zone : FnScope ["_law_box_here", "_law_trust_so", "_law_is_last", "_law_many", "_law_told_so", "_law_at", "_law_line", "_law_turn", "_law_again", "_law_servers_so", "_law_lives"] ["_law_box_here", "_law_trust_so", "_law_is_last", "_law_many"] (defScope s__law_zone) := ⟨rfl, rfl, rfl, by decide +kernel, rfl, by decide +kernel, by decide +kernel⟩
def g__law_zone : DenS := dSeq (dPar 4 5 (vCons (dCallB G__law_begin_of 0 (vCons (dVar 1) (vCons (dVar 2) (vNil)))) (vCons (dC (.int 0)) (vNil)))) (dSeq (dSet 6 (dLst (vCons (dTup (vCons (dC (.int 0)) (vCons (dVar 4) (vNil)))) (vNil)))) (dSeq (dFor (iR1 (dCons (dCallB G__law_take 0 (vCons (dVar 3) (vNil))) (dNil))) (gN 7) (dSeq (dSet 5 (dBin (dBin (dVar 5) (dC (.int 1)) opAdd) (dCallB G__law_take 0 (vCons (dC (.int 7)) (vNil))) opAdd)) (dSeq (dFor (iR1 (dCons (dBin (dC (.int 1)) (dCallB G__law_take 0 (vCons (dC (.int 2)) (vNil))) opAdd) (dNil))) (gN 8) (dSet 4 (dCallB G__law_changed 0 (vCons (dVar 4) (vNil))))) (dDrop (dApp 6 (dTup (vCons (dVar 5) (vCons (dVar 4) (vNil))))))))) (dSeq (dSet 9 (dBin (dC (.int 1)) (dCallB G__law_take 0 (vCons (dC (.int 3)) (vNil))) opAdd)) (dSeq (dSet 10 (dTup (vCons (dBin (dC (.int 1)) (dCallB G__law_take 0 (vCons (dC (.int 5)) (vNil))) opAdd) (vCons (dBin (dC (.int 1)) (dCallB G__law_take 0 (vCons (dC (.int 5)) (vNil))) opAdd) (vNil))))) (dRet (dBin (dTup (vCons (dCB (dCons (dVar 6) (dNil)) opTuple) (vCons (dVar 9) (vCons (dBin (dC (.int 1)) (dCallB G__law_take 0 (vCons (dVar 9) (vNil))) opAdd) (vCons (dCallB G__law_take 0 (vCons (dC (.int 4)) (vNil))) (vNil)))))) (dVar 10) opAdd))))))
def G__law_zone : Ob → List PyData → Option (KV.R × Ob) := runB 11 g__law_zone
abbrev s__law_walked : Stmt := top 22
theorem sc__law_walked : FnScope ["_law_box_here", "_law_site", "_law_most", "_law_found", "_law_now", "_law_at", "_law_fit", "_law_number"] ["_law_box_here", "_law_site", "_law_most"] (defScope s__law_walked) := ⟨rfl, rfl, rfl, by decide +kernel, rfl, by decide +kernel, by decide +kernel⟩
def g__law_walked : DenS := dSeq (dParO 3 4 (dLst (vNil)) (dC (.int 0))) (dSeq (dFor (iR1 (dCons (dVar 2) (dNil))) (gN 5) (dSeq (dSet 6 (dLc [7] (iSeq (dCall F__law_told_at (vCons (dVar 1) (vCons (dVar 5) (vNil))))) (gN 7) (dB (dBin (dVar 7) (dVar 4) opGe)) (dVar 7))) (dSeq (dSet 4 (dCallB G__law_pick 0 (vCons (dVar 6) (vNil)))) (dDrop (dApp 3 (dVar 4)))))) (dRet (dVar 3)))
def G__law_walked : Ob → List PyData → Option (KV.R × Ob) := runB 8 g__law_walked
abbrev s__law_right : Stmt := top 23
theorem sc__law_right : FnScope ["_law_box_here", "_law_lap", "_law_site", "_law_count", "_law_most", "_law_ways", "_law_row_here", "_law_turn", "_law_at", "_law_way", "_law_many", "_law_k", "_law_less", "_law_more", "_law_told_here", "_law_heard"] ["_law_box_here"] (defScope s__law_right) := ⟨rfl, rfl, rfl, by decide +kernel, rfl, by decide +kernel, by decide +kernel⟩
def g__law_right : DenS := dSeq (dFor (iR1 (dCons (dC (.int 2)) (dNil))) (gN 1) (dSeq (dSet 2 (dCallB G__law_zone 0 (vCons (dTup (vCons (dTup (vCons (dC (.int 1)) (vCons (dC (.int 0)) (vNil)))) (vNil))) (vCons (dC (.bool true)) (vCons (dC (.int 6)) (vNil)))))) (dSeq (dAsg (dTup (vCons (dBin (dBin (dSlice (dVar 2) none (some (dC (.int 3)))) (dTup (vCons (dBin (dC (.int 4)) (dCallB G__law_take 0 (vCons (dC (.int 5)) (vNil))) opAdd) (vNil))) opAdd) (dSlice (dVar 2) (some (dC (.int 4))) none) opAdd) (vCons (dBin (dC (.int 1)) (dCallB G__law_take 0 (vCons (dC (.int 3)) (vNil))) opAdd) (vNil)))) (gT (gsCons (gN 2) (gsCons (gN 3) (gsNil))))) (dSeq (dSet 4 (dBin (dBin (dBin (dBin (dBin (dVar 2) (dC (.int 0)) opIx) (dUn (dC (.int 1)) opNeg) opIx) (dC (.int 0)) opIx) (dBin (dVar 2) (dC (.int 3)) opIx) opAdd) (dC (.int 2)) opAdd)) (dSeq (dSet 5 (dLc [7] (iR1 (dCons (dVar 3) (dNil))) (gN 7) (tYesD) (dCallB G__law_walked 0 (vCons (dVar 2) (vCons (dVar 4) (vNil)))))) (dSeq (dSet 6 (dLst (vNil))) (dSeq (dFor (iR1 (dCons (dC (.int 14)) (dNil))) (gN 7) (dSeq (dPar 8 9 (vCons (dCallB G__law_take 0 (vCons (dVar 4) (vNil))) (vCons (dCallB G__law_pick 0 (vCons (dVar 5) (vNil))) (vNil)))) (dDrop (dApp 6 (dTup (vCons (dVar 8) (vCons (dBin (dVar 9) (dVar 8) opIx) (vNil)))))))) (dSeq (dSet 10 (dCall F_needs_servers (vCons (dVar 2) (vCons (dVar 6) (vNil))))) (dSeq (dIf (dOr (dNot (dB (dCall F__law_same (vCons (dVar 10) (vCons (dCall F__law_least (vCons (dVar 6) (vNil))) (vNil)))))) (dB (dBin (dVar 10) (dVar 3) opGt))) (dRet (dC (.bool false))) (dNext)) (dSeq (dFor (iR1 (dCons (dCB (dCons (dVar 6) (dNil)) opLen) (dNil))) (gN 11) (dSeq (dSet 12 (dCall F_needs_servers (vCons (dVar 2) (vCons (dBin (dSlice (dVar 6) none (some (dVar 11))) (dSlice (dVar 6) (some (dBin (dVar 11) (dC (.int 1)) opAdd)) none) opAdd) (vNil))))) (dIf (dOr (dNot (dB (dCall F__law_same (vCons (dVar 12) (vCons (dCall F__law_least (vCons (dBin (dSlice (dVar 6) none (some (dVar 11))) (dSlice (dVar 6) (some (dBin (dVar 11) (dC (.int 1)) opAdd)) none) opAdd) (vNil))) (vNil)))))) (dNot (dB (dCh (dBin (dVar 10) (dC (.int 1)) opSub) (dVar 12) (dVar 10) opLe opLe)))) (dRet (dC (.bool false))) (dNext)))) (dSeq (dSet 8 (dCallB G__law_take 0 (vCons (dVar 4) (vNil)))) (dSeq (dSet 13 (dBin (dVar 6) (dLst (vCons (dTup (vCons (dVar 8) (vCons (dCallB G__law_pick 0 (vCons (dCall F__law_told_at (vCons (dVar 2) (vCons (dVar 8) (vNil)))) (vNil))) (vNil)))) (vNil))) opAdd)) (dSeq (dSet 14 (dCall F_needs_servers (vCons (dVar 2) (vCons (dVar 13) (vNil))))) (dSeq (dIf (dOr (dNot (dB (dCall F__law_same (vCons (dVar 14) (vCons (dCall F__law_least (vCons (dVar 13) (vNil))) (vNil)))))) (dNot (dB (dCh (dVar 10) (dVar 14) (dBin (dVar 10) (dC (.int 1)) opAdd) opLe opLe)))) (dRet (dC (.bool false))) (dNext)) (dSeq (dSet 15 (dLst (vCons (dCall F_can_tell (vCons (dBin (dTup (vCons (dBin (dVar 2) (dC (.int 0)) opIx) (vCons (dVar 14) (vCons (dC (.int 1)) (vNil))))) (dSlice (dVar 2) (some (dC (.int 3))) none) opAdd) (vCons (dVar 13) (vNil)))) (vCons (dCall F_can_tell (vCons (dBin (dTup (vCons (dBin (dVar 2) (dC (.int 0)) opIx) (vCons (dVar 10) (vCons (dC (.int 1)) (vNil))))) (dSlice (dVar 2) (some (dC (.int 3))) none) opAdd) (vCons (dVar 6) (vNil)))) (vNil))))) (dSeq (dIf (dNot (dB (dCall F__law_same (vCons (dVar 15) (vCons (dLst (vCons (dC (.bool true)) (vCons (dC (.bool true)) (vNil)))) (vNil)))))) (dRet (dC (.bool false))) (dNext)) (dIf (dAnd (dB (dBin (dVar 10) (dC (.int 1)) opGt)) (dB (dBin (dCall F_can_tell (vCons (dBin (dTup (vCons (dBin (dVar 2) (dC (.int 0)) opIx) (vCons (dBin (dVar 10) (dC (.int 1)) opSub) (vCons (dC (.int 1)) (vNil))))) (dSlice (dVar 2) (some (dC (.int 3))) none) opAdd) (vCons (dVar 6) (vNil)))) (dC (.bool false)) opNotB))) (dRet (dC (.bool false))) (dNext)))))))))))))))))) (dRet (dC (.bool true)))
def G__law_right : Ob → List PyData → Option (KV.R × Ob) := runB 16 g__law_right
abbrev s_law : Stmt := top 24
theorem sc_law : FnScope ["_law_script", "_law_k"] ["_law_script"] (defScope s_law) := ⟨rfl, rfl, rfl, by decide +kernel, rfl, by decide +kernel, by decide +kernel⟩
def g_law : DenS := dRet (dCB (dCons (dLc [1] (iR1 (dCons (dBin (dC (.int 1)) (dCB (dCons (dC (.int 3)) (dCons (dCB (dCons (dVar 0) (dNil)) opLen) (dNil))) opMin2) opAdd) (dNil))) (gN 1) (tYesD) (dCallT G__law_right (dCall F__law_box (vCons (dVar 0) (vCons (dVar 1) (vNil)))))) (dNil)) opAll)
def F_law : List PyData → Option KV.R := runP 2 g_law
structure Facts (K : PySem.W.Frag) (mg : Str → Option Value) : Prop where
  f_abs : mg "abs" = none
  f_all : mg "all" = none
  f_bool : mg "bool" = none
  f_enumerate : mg "enumerate" = none
  f_int : mg "int" = none
  f_isinstance : mg "isinstance" = none
  f_len : mg "len" = none
  f_list : mg "list" = none
  f_max : mg "max" = none
  f_min : mg "min" = none
  f_range : mg "range" = none
  f_set : mg "set" = none
  f_sorted : mg "sorted" = none
  f_str : mg "str" = none
  f_tuple : mg "tuple" = none
  f_zip : mg "zip" = none
  d_frozen : ∃ f fd, mg "frozen" = some (.ref f) ∧ FunD K "frozen" "frozen" (defArgs s_frozen) (defBody s_frozen) (defScope s_frozen) [] [] f fd
  d_begin_of : ∃ f fd, mg "begin_of" = some (.ref f) ∧ FunD K "begin_of" "begin_of" (defArgs s_begin_of) (defBody s_begin_of) (defScope s_begin_of) [] [] f fd
  d_end_of : ∃ f fd, mg "end_of" = some (.ref f) ∧ FunD K "end_of" "end_of" (defArgs s_end_of) (defBody s_end_of) (defScope s_end_of) [] [] f fd
  d_may_tell : ∃ f fd, mg "may_tell" = some (.ref f) ∧ FunD K "may_tell" "may_tell" (defArgs s_may_tell) (defBody s_may_tell) (defScope s_may_tell) [] [] f fd
  d_taken_up : ∃ f fd, mg "taken_up" = some (.ref f) ∧ FunD K "taken_up" "taken_up" (defArgs s_taken_up) (defBody s_taken_up) (defScope s_taken_up) [] [] f fd
  d_needs_servers : ∃ f fd, mg "needs_servers" = some (.ref f) ∧ FunD K "needs_servers" "needs_servers" (defArgs s_needs_servers) (defBody s_needs_servers) (defScope s_needs_servers) [] [] f fd
  d_can_tell : ∃ f fd, mg "can_tell" = some (.ref f) ∧ FunD K "can_tell" "can_tell" (defArgs s_can_tell) (defBody s_can_tell) (defScope s_can_tell) [] [] f fd
  d__law_box : ∃ f fd, mg "_law_box" = some (.ref f) ∧ FunD K "_law_box" "_law_box" (defArgs s__law_box) (defBody s__law_box) (defScope s__law_box) [] [] f fd
  d__law_take : ∃ f fd, mg "_law_take" = some (.ref f) ∧ FunD K "_law_take" "_law_take" (defArgs s__law_take) (defBody s__law_take) (defScope s__law_take) [] [] f fd
  d__law_pick : ∃ f fd, mg "_law_pick" = some (.ref f) ∧ FunD K "_law_pick" "_law_pick" (defArgs s__law_pick) (defBody s__law_pick) (defScope s__law_pick) [] [] f fd
  d__law_same : ∃ f fd, mg "_law_same" = some (.ref f) ∧ FunD K "_law_same" "_law_same" (defArgs s__law_same) (defBody s__law_same) (defScope s__law_same) [] [] f fd
  d__law_told : ∃ f fd, mg "_law_told" = some (.ref f) ∧ FunD K "_law_told" "_law_told" (defArgs s__law_told) (defBody s__law_told) (defScope s__law_told) [] [] f fd
  d__law_told_at : ∃ f fd, mg "_law_told_at" = some (.ref f) ∧ FunD K "_law_told_at" "_law_told_at" (defArgs s__law_told_at) (defBody s__law_told_at) (defScope s__law_told_at) [] [] f fd
  d__law_least : ∃ f fd, mg "_law_least" = some (.ref f) ∧ FunD K "_law_least" "_law_least" (defArgs s__law_least) (defBody s__law_least) (defScope s__law_least) [] [] f fd
  d__law_row : ∃ f fd, mg "_law_row" = some (.ref f) ∧ FunD K "_law_row" "_law_row" (defArgs s__law_row) (defBody s__law_row) (defScope s__law_row) [] [] f fd
  d__law_begin_of : ∃ f fd, mg "_law_begin_of" = some (.ref f) ∧ FunD K "_law_begin_of" "_law_begin_of" (defArgs s__law_begin_of) (defBody s__law_begin_of) (defScope s__law_begin_of) [] [] f fd
  d__law_without : ∃ f fd, mg "_law_without" = some (.ref f) ∧ FunD K "_law_without" "_law_without" (defArgs s__law_without) (defBody s__law_without) (defScope s__law_without) [] [] f fd
  d__law_changed : ∃ f fd, mg "_law_changed" = some (.ref f) ∧ FunD K "_law_changed" "_law_changed" (defArgs s__law_changed) (defBody s__law_changed) (defScope s__law_changed) [] [] f fd
  d__law_zone : ∃ f fd, mg "_law_zone" = some (.ref f) ∧ FunD K "_law_zone" "_law_zone" (defArgs s__law_zone) (defBody s__law_zone) (defScope s__law_zone) [] [] f fd
  d__law_walked : ∃ f fd, mg "_law_walked" = some (.ref f) ∧ FunD K "_law_walked" "_law_walked" (defArgs s__law_walked) (defBody s__law_walked) (defScope s__law_walked) [] [] f fd
  d__law_right : ∃ f fd, mg "_law_right" = some (.ref f) ∧ FunD K "_law_right" "_law_right" (defArgs s__law_right) (defBody s__law_right) (defScope s__law_right) [] [] f fd
  d_law : ∃ f fd, mg "law" = some (.ref f) ∧ FunD K "law" "law" (defArgs s_law) (defBody s_law) (defScope s_law) [] [] f fd
theorem bb_abs : bootBuiltins ("abs" : Str) = some (.builtin "abs") := by decide +kernel
theorem bb_all : bootBuiltins ("all" : Str) = some (.builtin "all") := by decide +kernel
theorem bt_bool : bootBuiltins ("bool" : Str) = some (.type "bool") := by decide +kernel
theorem bt_int : bootBuiltins ("int" : Str) = some (.type "int") := by decide +kernel
theorem bb_len : bootBuiltins ("len" : Str) = some (.builtin "len") := by decide +kernel
theorem bt_list : bootBuiltins ("list" : Str) = some (.type "list") := by decide +kernel
theorem bb_max : bootBuiltins ("max" : Str) = some (.builtin "max") := by decide +kernel
theorem bb_min : bootBuiltins ("min" : Str) = some (.builtin "min") := by decide +kernel
theorem bt_set : bootBuiltins ("set" : Str) = some (.type "set") := by decide +kernel
theorem bb_sorted : bootBuiltins ("sorted" : Str) = some (.builtin "sorted") := by decide +kernel
theorem bt_str : bootBuiltins ("str" : Str) = some (.type "str") := by decide +kernel
theorem bt_tuple : bootBuiltins ("tuple" : Str) = some (.type "tuple") := by decide +kernel
theorem ok_frozen {P : Program} {w : World} {K : PySem.W.Frag} {mg : Str → Option Value} {base : Heap} (Z : Facts K mg) : ∃ f fd, Ok P w K mg base 12 "frozen" ["thing"] s_frozen f fd F_frozen := by
  obtain ⟨f, fd, hm, FD⟩ := Z.d_frozen
  have hk := FD.kp
  have hb : Binds K fd ["thing"] [] := FD.bindsN (fun _ _ _ _ _ _ us hl => match us, hl with | [_], _ => rfl)
  refine ⟨f, fd, hm, hk, hb, FD, ?_⟩
  have all : ∀ n : Nat, FnP P w K mg base (n + 0) f fd ["thing"] (Fz_frozen n) := fun n => by
    induction n with
    | zero => exact fnP_none
    | succ n hF =>
      refine FnG.mono (fnP_of (k := n + 0) (He5.fun_of FD) sc_frozen fun cdv A outer s H hgd hr => ⟨_, ?_, fun _ _ h => h⟩) (by omega)
      have hu := hr.units
      exact bx_cons (sx_if (tx_val (ex_isi2 (ex_var (pv 0)) rfl Z.f_isinstance rfl Z.f_list bt_list rfl Z.f_tuple bt_tuple)) (bx_one (sx_ret (ex_callTy c_tuple rfl Z.f_tuple bt_tuple (exs_cons (ex_lc rfl sc_frozen.nd (KV.ix_seq (ex_var (pv 0))) (own := [(("part" : Str), 1)]) (blk_of rfl rfl) (by decide) (fun _ _ _ _ _ => gx_name (pg_name sc_frozen.nd rfl (.inl rfl))) (fun _ _ _ _ _ => pts0) (fun _ _ _ _ _ => ex_call hF hgd hr hm hk hb (exv_cons (ex_var (pv 1)) (exv_nil)) (vCons_len vNil_len))) (exs_nil))))) (bx_nil)) (bx_one (sx_ret (ex_var (pv 0))))
  exact all 12
theorem ok_begin_of {P : Program} {w : World} {K : PySem.W.Frag} {mg : Str → Option Value} {base : Heap} (Z : Facts K mg) : ∃ f fd, Ok P w K mg base 1 "begin_of" ["zone", "version"] s_begin_of f fd F_begin_of := by
  obtain ⟨f, fd, hm, FD⟩ := Z.d_begin_of
  refine ⟨f, fd, hm, FD.kp, FD.bindsN (fun _ _ _ _ _ _ us hl => match us, hl with | [_, _], _ => rfl), FD, fnP_of (k := 0) (He5.fun_of FD) sc_begin_of fun cdv A outer s H hgd hr0 => ⟨_, ?_, fun _ _ h => h⟩⟩
  have hr := hr0
  have hu := hr.units
  exact bx_one (sx_ret (ex_ix (ex_ix (ex_ix (ex_var (pv 0)) (ex_int) (fun _ _ => rfl)) (ex_var (pv 1)) (fun _ _ => rfl)) (ex_int) (fun _ _ => rfl)))
theorem ok_end_of {P : Program} {w : World} {K : PySem.W.Frag} {mg : Str → Option Value} {base : Heap} (Z : Facts K mg) : ∃ f fd, Ok P w K mg base 1 "end_of" ["zone", "version"] s_end_of f fd F_end_of := by
  obtain ⟨f, fd, hm, FD⟩ := Z.d_end_of
  refine ⟨f, fd, hm, FD.kp, FD.bindsN (fun _ _ _ _ _ _ us hl => match us, hl with | [_, _], _ => rfl), FD, fnP_of (k := 0) (He5.fun_of FD) sc_end_of fun cdv A outer s H hgd hr0 => ⟨_, ?_, fun _ _ h => h⟩⟩
  have hr := hr0
  have hu := hr.units
  exact bx_cons (sx_par rfl sc_end_of.nd rfl rfl (by decide) rfl rfl (exv_cons (ex_ix (ex_var (pv 0)) (ex_int) (fun _ _ => rfl)) (exv_cons (ex_ix (ex_var (pv 0)) (ex_int) (fun _ _ => rfl)) (exv_nil))) rfl) (bx_one (sx_ret (ex_if (tx_cmp o_lt (ex_bin o_add (ex_var (pv 1)) (ex_int)) (ex_callB c_len rfl Z.f_len bb_len (exs_cons (ex_var (pv 2)) (exs_nil))) (by rfl)) (ex_bin o_add (ex_ix (ex_ix (ex_var (pv 2)) (ex_bin o_add (ex_var (pv 1)) (ex_int)) (fun _ _ => rfl)) (ex_int) (fun _ _ => rfl)) (ex_var (pv 3))) (ex_non))))
theorem ok_may_tell {P : Program} {w : World} {K : PySem.W.Frag} {mg : Str → Option Value} {base : Heap} (Z : Facts K mg) : ∃ f fd, Ok P w K mg base 2 "may_tell" ["zone", "version", "time"] s_may_tell f fd F_may_tell := by
  obtain ⟨f, fd, hm, FD⟩ := Z.d_may_tell
  obtain ⟨f_begin_of, d_begin_of, F_begin_of⟩ := ok_begin_of (P := P) (w := w) (base := base) Z
  obtain ⟨f_end_of, d_end_of, F_end_of⟩ := ok_end_of (P := P) (w := w) (base := base) Z
  refine ⟨f, fd, hm, FD.kp, FD.bindsN (fun _ _ _ _ _ _ us hl => match us, hl with | [_, _, _], _ => rfl), FD, fnP_of (k := 1) (He5.fun_of FD) sc_may_tell fun cdv A outer s H hgd hr0 => ⟨_, ?_, fun _ _ h => h⟩⟩
  have hr := hr0
  have hu := hr.units
  exact bx_cons (sx_if (tx_of_wx (wx_or (tx_not (tx_chain o_le o_lt (ex_int) (ex_var (pv 1)) (ex_callB c_len rfl Z.f_len bb_len (exs_cons (ex_ix (ex_var (pv 0)) (ex_int) (fun _ _ => rfl)) (exs_nil))))) (wx_or1 (tx_cmp o_lt (ex_var (pv 2)) (ex_call (FnG.mono F_begin_of.run (by decide)) hgd hr F_begin_of.m F_begin_of.kp F_begin_of.b (exv_cons (ex_var (pv 0)) (exv_cons (ex_var (pv 1)) (exv_nil))) (vCons_len (vCons_len vNil_len))) (by rfl))))) (bx_one (sx_ret (ex_bl))) (bx_nil)) (bx_cons (sx_set sc_may_tell.nd rfl (.inl rfl) (ex_call (FnG.mono F_end_of.run (by decide)) hgd hr F_end_of.m F_end_of.kp F_end_of.b (exv_cons (ex_var (pv 0)) (exv_cons (ex_var (pv 1)) (exv_nil))) (vCons_len (vCons_len vNil_len)))) (bx_one (sx_ret (ex_or (ex_cmp o_isN (ex_var (pv 3)) (ex_non) (by rfl)) (ex_and1 (ex_cmp o_lt (ex_var (pv 2)) (ex_var (pv 3)) (by rfl)))))))
theorem ok_taken_up {P : Program} {w : World} {K : PySem.W.Frag} {mg : Str → Option Value} {base : Heap} (Z : Facts K mg) : ∃ f fd, Ok P w K mg base 1 "taken_up" ["lasts", "versions"] s_taken_up f fd F_taken_up := by
  obtain ⟨f, fd, hm, FD⟩ := Z.d_taken_up
  refine ⟨f, fd, hm, FD.kp, FD.bindsN (fun _ _ _ _ _ _ us hl => match us, hl with | [_, _], _ => rfl), FD, fnP_of (k := 0) (He5.fun_of FD) sc_taken_up fun cdv A outer s H hgd hr0 => ⟨_, ?_, fun _ _ h => h⟩⟩
  have hr := hr0
  have hu := hr.units
  exact bx_cons (sx_parO rfl sc_taken_up.nd rfl rfl (by decide) rfl rfl (ex_callB c_sorted rfl Z.f_sorted bb_sorted (exs_cons (ex_var (pv 0)) (exs_nil))) (ex_lst (exv_nil)) rfl) (bx_cons (sx_for PassesOwn.never rfl (KV.ix_seq (ex_sortRev rfl Z.f_sorted bb_sorted (ex_var (pv 1)))) (gx_name (pg_name sc_taken_up.nd rfl (.inr rfl))) (bx_cons (sx_setLc rfl sc_taken_up.nd rfl rfl rfl (ix_enumO rfl Z.f_enumerate (exs_cons (ex_var (pv 2)) (exs_nil))) (own := [(("at" : Str), 6), (("last" : Str), 7)]) (blk_of rfl rfl) (by decide) (fun _ _ _ _ _ => gx_tup 2 rfl (gxs_cons (gx_name (pg_name sc_taken_up.nd rfl (.inl rfl))) (gxs_cons (gx_name (pg_name sc_taken_up.nd rfl (.inl rfl))) (gxs_nil))) (gsCons_len (gsCons_len gsNil_len))) (fun _ _ _ _ _ => pts1 (tx_cmp o_le (ex_var (pv 7)) (ex_var (pv 4)) (by rfl))) (fun _ _ _ _ _ => ex_var (pv 6))) (bx_cons (sx_if (tx_cmp o_gt (ex_callB c_len rfl Z.f_len bb_len (exs_cons (ex_var (pv 5)) (exs_nil))) (ex_int) (by rfl)) (bx_one (sx_expr (ex_pop (pv 2) (ex_ix (ex_var (pv 5)) (ex_un o_neg (ex_int)) (fun _ _ => rfl))))) (bx_nil)) (bx_one (sx_expr (ex_app (pv 3) (ex_var (pv 4)))))))) (bx_one (sx_ret (ex_bin o_add (ex_var (pv 2)) (ex_var (pv 3))))))
theorem ok_needs_servers {P : Program} {w : World} {K : PySem.W.Frag} {mg : Str → Option Value} {base : Heap} (Z : Facts K mg) : ∃ f fd, Ok P w K mg base 13 "needs_servers" ["zone", "row"] s_needs_servers f fd F_needs_servers := by
  obtain ⟨f, fd, hm, FD⟩ := Z.d_needs_servers
  obtain ⟨f_frozen, d_frozen, F_frozen⟩ := ok_frozen (P := P) (w := w) (base := base) Z
  obtain ⟨f_may_tell, d_may_tell, F_may_tell⟩ := ok_may_tell (P := P) (w := w) (base := base) Z
  obtain ⟨f_taken_up, d_taken_up, F_taken_up⟩ := ok_taken_up (P := P) (w := w) (base := base) Z
  refine ⟨f, fd, hm, FD.kp, FD.bindsN (fun _ _ _ _ _ _ us hl => match us, hl with | [_, _], _ => rfl), FD, fnP_of (k := 12) (He5.fun_of FD) sc_needs_servers fun cdv A outer s H hgd hr0 => ⟨_, ?_, fun _ _ h => h⟩⟩
  have hr := hr0
  have hu := hr.units
  exact bx_cons (sx_set sc_needs_servers.nd rfl (.inl rfl) (ex_st rfl hu rfl Z.f_sorted rfl Z.f_set bb_sorted bt_set (ex_call (FnG.mono F_frozen.run (by decide)) hgd hr F_frozen.m F_frozen.kp F_frozen.b (exv_cons (ex_var (pv 1)) (exv_nil)) (vCons_len vNil_len)))) (bx_cons (sx_if (tx_not (tx_val (ex_callB (c_all rfl) rfl Z.f_all bb_all (exs_cons (ex_lc rfl sc_needs_servers.nd (KV.ix_seq (ex_var (pv 2))) (own := [(("time" : Str), 5), (("version" : Str), 6)]) (blk_of rfl rfl) (by decide) (fun _ _ _ _ _ => gx_tup 2 rfl (gxs_cons (gx_name (pg_name sc_needs_servers.nd rfl (.inl rfl))) (gxs_cons (gx_name (pg_name sc_needs_servers.nd rfl (.inl rfl))) (gxs_nil))) (gsCons_len (gsCons_len gsNil_len))) (fun _ _ _ _ _ => pts0) (fun _ _ _ _ _ => ex_call (FnG.mono F_may_tell.run (by decide)) hgd hr F_may_tell.m F_may_tell.kp F_may_tell.b (exv_cons (ex_var (pv 0)) (exv_cons (ex_var (pv 6)) (exv_cons (ex_var (pv 5)) (exv_nil)))) (vCons_len (vCons_len (vCons_len vNil_len))))) (exs_nil))))) (bx_one (sx_ret (ex_non))) (bx_nil)) (bx_cons (sx_set sc_needs_servers.nd rfl (.inl rfl) (ex_lst (exv_nil))) (bx_cons (sx_for PassesOwn.never rfl (KV.ix_seq (ex_ss rfl hu rfl Z.f_sorted rfl Z.f_set bb_sorted bt_set (ex_lc rfl sc_needs_servers.nd (KV.ix_seq (ex_var (pv 2))) (own := [(("time" : Str), 5), (("version" : Str), 6)]) (blk_of rfl rfl) (by decide) (fun _ _ _ _ _ => gx_tup 2 rfl (gxs_cons (gx_name (pg_name sc_needs_servers.nd rfl (.inl rfl))) (gxs_cons (gx_name (pg_name sc_needs_servers.nd rfl (.inl rfl))) (gxs_nil))) (gsCons_len (gsCons_len gsNil_len))) (fun _ _ _ _ _ => pts0) (fun _ _ _ _ _ => ex_var (pv 5))))) (gx_name (pg_name sc_needs_servers.nd rfl (.inr rfl))) (bx_one (sx_set sc_needs_servers.nd rfl (.inl rfl) (ex_call (FnG.mono F_taken_up.run (by decide)) hgd hr F_taken_up.m F_taken_up.kp F_taken_up.b (exv_cons (ex_var (pv 3)) (exv_cons (ex_lc rfl sc_needs_servers.nd (KV.ix_seq (ex_var (pv 2))) (own := [(("time" : Str), 5), (("version" : Str), 6)]) (blk_of rfl rfl) (by decide) (fun _ _ _ _ _ => gx_tup 2 rfl (gxs_cons (gx_name (pg_name sc_needs_servers.nd rfl (.inl rfl))) (gxs_cons (gx_name (pg_name sc_needs_servers.nd rfl (.inl rfl))) (gxs_nil))) (gsCons_len (gsCons_len gsNil_len))) (fun _ _ _ _ _ => pts1 (tx_cmp (o_eq hu) (ex_var (pv 5)) (ex_var (pv 4)) (by rfl))) (fun _ _ _ _ _ => ex_var (pv 6))) (exv_nil))) (vCons_len (vCons_len vNil_len)))))) (bx_one (sx_ret (ex_callB c_len rfl Z.f_len bb_len (exs_cons (ex_var (pv 3)) (exs_nil))))))))
theorem ok_can_tell {P : Program} {w : World} {K : PySem.W.Frag} {mg : Str → Option Value} {base : Heap} (Z : Facts K mg) : ∃ f fd, Ok P w K mg base 14 "can_tell" ["zone", "row"] s_can_tell f fd F_can_tell := by
  obtain ⟨f, fd, hm, FD⟩ := Z.d_can_tell
  obtain ⟨f_needs_servers, d_needs_servers, F_needs_servers⟩ := ok_needs_servers (P := P) (w := w) (base := base) Z
  refine ⟨f, fd, hm, FD.kp, FD.bindsN (fun _ _ _ _ _ _ us hl => match us, hl with | [_, _], _ => rfl), FD, fnP_of (k := 13) (He5.fun_of FD) sc_can_tell fun cdv A outer s H hgd hr0 => ⟨_, ?_, fun _ _ h => h⟩⟩
  have hr := hr0
  have hu := hr.units
  exact bx_cons (sx_set sc_can_tell.nd rfl (.inl rfl) (ex_call (FnG.mono F_needs_servers.run (by decide)) hgd hr F_needs_servers.m F_needs_servers.kp F_needs_servers.b (exv_cons (ex_var (pv 0)) (exv_cons (ex_var (pv 1)) (exv_nil))) (vCons_len (vCons_len vNil_len)))) (bx_one (sx_ret (ex_and (ex_cmp o_notN (ex_var (pv 2)) (ex_non) (by rfl)) (ex_and1 (ex_cmp o_le (ex_var (pv 2)) (ex_ix (ex_var (pv 0)) (ex_int) (fun _ _ => rfl)) (by rfl))))))
theorem ok__law_box {P : Program} {w : World} {K : PySem.W.Frag} {mg : Str → Option Value} {base : Heap} (Z : Facts K mg) : ∃ f fd, Ok P w K mg base 1 "_law_box" ["_law_script", "_law_k"] s__law_box f fd F__law_box := by
  obtain ⟨f, fd, hm, FD⟩ := Z.d__law_box
  refine ⟨f, fd, hm, FD.kp, FD.bindsN (fun _ _ _ _ _ _ us hl => match us, hl with | [_, _], _ => rfl), FD, fnP_of (k := 0) (He5.fun_of FD) sc__law_box fun cdv A outer s H hgd hr0 => ⟨_, ?_, fun _ _ h => h⟩⟩
  have hr := hr0
  have hu := hr.units
  exact bx_cons (sx_set sc__law_box.nd rfl (.inl rfl) (ex_if (tx_cmp o_lt (ex_var (pv 1)) (ex_callB c_len rfl Z.f_len bb_len (exs_cons (ex_var (pv 0)) (exs_nil))) (by rfl)) (ex_ix (ex_var (pv 0)) (ex_var (pv 1)) (fun _ _ => rfl)) (ex_int))) (bx_one (sx_ret (ex_lst (exv_cons (ex_bin o_mul (ex_callB c_abs rfl Z.f_abs bb_abs (exs_cons (ex_var (pv 2)) (exs_nil))) (ex_callTy c_int rfl Z.f_int bt_int (exs_cons (ex_cmp o_ge (ex_callB c_abs rfl Z.f_abs bb_abs (exs_cons (ex_var (pv 2)) (exs_nil))) (ex_bin o_pow (ex_int) (ex_int)) (by rfl)) (exs_nil)))) (exv_cons (ex_bin o_add (ex_bin o_add (ex_bin o_mod (ex_callTy c_int rfl Z.f_int bt_int (exs_cons (ex_var (pv 2)) (exs_nil))) (ex_int)) (ex_bin o_mul (ex_int) (ex_var (pv 1)))) (ex_int)) (exv_cons (ex_int) (exv_nil)))))))
theorem ok__law_take {P : Program} {w : World} {K : PySem.W.Frag} {mg : Str → Option Value} {base : Heap} (Z : Facts K mg) : ∃ f fd, OkB P w K mg base 1 "_law_take" ["_law_box_here", "_law_below"] s__law_take f fd G__law_take := by
  obtain ⟨f, fd, hm, FD⟩ := Z.d__law_take
  refine ⟨f, fd, hm, FD.kp, FD.bindsN (fun _ _ _ _ _ _ us hl => match us, hl with | [_, _], _ => rfl), FD, fnB_of (k := 0) (He5.fun_of FD) sc__law_take fun cdv A outer s H hgd hr0 => ⟨_, ?_, fun _ _ _ h => h⟩⟩
  have hr := hr0
  have hu := hr.units
  exact bx_cons (sx_if (tx_cmp o_gt (ex_ix (ex_var (pv 0)) (ex_int) (fun _ _ => rfl)) (ex_int) (by rfl)) (bx_cons (sx_set sc__law_take.nd rfl (.inl rfl) (ex_bin o_mod (ex_callTy c_int rfl Z.f_int bt_int (exs_cons (ex_ix (ex_var (pv 0)) (ex_int) (fun _ _ => rfl)) (exs_nil))) (ex_var (pv 1)))) (bx_cons (sx_setIx (pv 0) (ex_bin o_div (ex_ix (ex_var (pv 0)) (ex_int) (fun _ _ => rfl)) (ex_var (pv 1))) (ex_int)) (bx_one (sx_ret (ex_var (pv 2)))))) (bx_nil)) (bx_cons (sx_setIx (pv 0) (ex_bin o_add (ex_ix (ex_var (pv 0)) (ex_int) (fun _ _ => rfl)) (ex_int)) (ex_int)) (bx_cons (sx_set sc__law_take.nd rfl (.inl rfl) (ex_bin o_mod (ex_callTy c_int rfl Z.f_int bt_int (exs_cons (ex_bin o_mul (ex_bin o_add (ex_ix (ex_var (pv 0)) (ex_int) (fun _ _ => rfl)) (ex_bin o_mul (ex_int) (ex_ix (ex_var (pv 0)) (ex_int) (fun _ _ => rfl)))) (ex_bin o_add (ex_int) (ex_ix (ex_var (pv 0)) (ex_int) (fun _ _ => rfl)))) (exs_nil))) (ex_int))) (bx_cons (sx_set sc__law_take.nd rfl (.inl rfl) (ex_bin o_add (ex_bin o_mod (ex_callTy c_int rfl Z.f_int bt_int (exs_cons (ex_var (pv 3)) (exs_nil))) (ex_int)) (ex_int))) (bx_cons (sx_set sc__law_take.nd rfl (.inl rfl) (ex_bin o_mod (ex_callTy c_int rfl Z.f_int bt_int (exs_cons (ex_bin o_mul (ex_bin o_add (ex_bin o_add (ex_var (pv 3)) (ex_ix (ex_var (pv 0)) (ex_int) (fun _ _ => rfl))) (ex_bin o_div (ex_ix (ex_var (pv 0)) (ex_int) (fun _ _ => rfl)) (ex_int))) (ex_var (pv 4))) (exs_nil))) (ex_int))) (bx_one (sx_ret (ex_bin o_mod (ex_callTy c_int rfl Z.f_int bt_int (exs_cons (ex_bin o_div (ex_bin o_mod (ex_callTy c_int rfl Z.f_int bt_int (exs_cons (ex_bin o_add (ex_bin o_mul (ex_var (pv 5)) (ex_int)) (ex_var (pv 3))) (exs_nil))) (ex_int)) (ex_int)) (exs_nil))) (ex_var (pv 1)))))))))
theorem ok__law_pick {P : Program} {w : World} {K : PySem.W.Frag} {mg : Str → Option Value} {base : Heap} (Z : Facts K mg) : ∃ f fd, OkB P w K mg base 2 "_law_pick" ["_law_box_here", "_law_some"] s__law_pick f fd G__law_pick := by
  obtain ⟨f, fd, hm, FD⟩ := Z.d__law_pick
  obtain ⟨f__law_take, d__law_take, F__law_take⟩ := ok__law_take (P := P) (w := w) (base := base) Z
  refine ⟨f, fd, hm, FD.kp, FD.bindsN (fun _ _ _ _ _ _ us hl => match us, hl with | [_, _], _ => rfl), FD, fnB_of (k := 1) (He5.fun_of FD) sc__law_pick fun cdv A outer s H hgd hr0 => ⟨_, ?_, fun _ _ _ h => h⟩⟩
  have hr := hr0
  have hu := hr.units
  exact bx_one (sx_ret (ex_ix (ex_var (pv 1)) (ex_callBx (FnG.mono F__law_take.run (by decide)) hgd hr F__law_take.m F__law_take.kp F__law_take.b (pv 0) (exv_cons (ex_callB c_len rfl Z.f_len bb_len (exs_cons (ex_var (pv 1)) (exs_nil))) (exv_nil)) (fun r ds r' h => by have := (vCons_len vNil_len) r ds r' h; show ds.length + 1 = 2; omega)) (fun _ _ => rfl)))
theorem ok__law_same {P : Program} {w : World} {K : PySem.W.Frag} {mg : Str → Option Value} {base : Heap} (Z : Facts K mg) : ∃ f fd, Ok P w K mg base 12 "_law_same" ["_law_found", "_law_due"] s__law_same f fd F__law_same := by
  obtain ⟨f, fd, hm, FD⟩ := Z.d__law_same
  have hk := FD.kp
  have hb : Binds K fd ["_law_found", "_law_due"] [] := FD.bindsN (fun _ _ _ _ _ _ us hl => match us, hl with | [_, _], _ => rfl)
  refine ⟨f, fd, hm, hk, hb, FD, ?_⟩
  have all : ∀ n : Nat, FnP P w K mg base (n + 0) f fd ["_law_found", "_law_due"] (Fz__law_same n) := fun n => by
    induction n with
    | zero => exact fnP_none
    | succ n hF =>
      refine FnG.mono (fnP_of (k := n + 0) (He5.fun_of FD) sc__law_same fun cdv A outer s H hgd hr => ⟨_, ?_, fun _ _ h => h⟩) (by omega)
      have hu := hr.units
      exact bx_cons (sx_if (tx_val (ex_isi2 (ex_var (pv 1)) rfl Z.f_isinstance rfl Z.f_list bt_list rfl Z.f_tuple bt_tuple)) (bx_cons (sx_if (tx_of_wx (wx_or (tx_cmp (o_ne hu) (ex_isi (ex_var (pv 0)) rfl Z.f_isinstance rfl Z.f_list bt_list) (ex_isi (ex_var (pv 1)) rfl Z.f_isinstance rfl Z.f_list bt_list) (by rfl)) (wx_or1 (tx_cmp (o_ne hu) (ex_isi (ex_var (pv 0)) rfl Z.f_isinstance rfl Z.f_tuple bt_tuple) (ex_isi (ex_var (pv 1)) rfl Z.f_isinstance rfl Z.f_tuple bt_tuple) (by rfl))))) (bx_one (sx_ret (ex_bl))) (bx_nil)) (bx_one (sx_ret (ex_and (ex_cmp (o_eq hu) (ex_callB c_len rfl Z.f_len bb_len (exs_cons (ex_var (pv 0)) (exs_nil))) (ex_callB c_len rfl Z.f_len bb_len (exs_cons (ex_var (pv 1)) (exs_nil))) (by rfl)) (ex_and1 (ex_callB (c_all rfl) rfl Z.f_all bb_all (exs_cons (ex_lc rfl sc__law_same.nd (ix_zip rfl Z.f_zip (exv_cons (ex_var (pv 0)) (exv_cons (ex_var (pv 1)) (exv_nil)))) (own := [(("_law_mine" : Str), 2), (("_law_its" : Str), 3)]) (blk_of rfl rfl) (by decide) (fun _ _ _ _ _ => gx_tup 2 rfl (gxs_cons (gx_name (pg_name sc__law_same.nd rfl (.inl rfl))) (gxs_cons (gx_name (pg_name sc__law_same.nd rfl (.inl rfl))) (gxs_nil))) (gsCons_len (gsCons_len gsNil_len))) (fun _ _ _ _ _ => pts0) (fun _ _ _ _ _ => ex_call hF hgd hr hm hk hb (exv_cons (ex_var (pv 2)) (exv_cons (ex_var (pv 3)) (exv_nil))) (vCons_len (vCons_len vNil_len)))) (exs_nil)))))))) (bx_nil)) (bx_cons (sx_if (tx_of_wx (wx_or (tx_cmp o_isN (ex_var (pv 1)) (ex_non) (by rfl)) (wx_or1 (tx_val (ex_isi2 (ex_var (pv 1)) rfl Z.f_isinstance rfl Z.f_bool bt_bool rfl Z.f_str bt_str))))) (bx_one (sx_ret (ex_and (ex_cmp (o_eq hu) (ex_var (pv 0)) (ex_var (pv 1)) (by rfl)) (ex_and (ex_cmp (o_eq hu) (ex_isi (ex_var (pv 0)) rfl Z.f_isinstance rfl Z.f_bool bt_bool) (ex_isi (ex_var (pv 1)) rfl Z.f_isinstance rfl Z.f_bool bt_bool) (by rfl)) (ex_and1 (ex_cmp (o_eq hu) (ex_cmp o_isN (ex_var (pv 0)) (ex_non) (by rfl)) (ex_cmp o_isN (ex_var (pv 1)) (ex_non) (by rfl)) (by rfl))))))) (bx_nil)) (bx_one (sx_ret (ex_and (ex_isi (ex_var (pv 0)) rfl Z.f_isinstance rfl Z.f_int bt_int) (ex_and (ex_not (ex_isi (ex_var (pv 0)) rfl Z.f_isinstance rfl Z.f_bool bt_bool)) (ex_and1 (ex_cmp (o_eq hu) (ex_var (pv 0)) (ex_var (pv 1)) (by rfl))))))))
  exact all 12
theorem ok__law_told {P : Program} {w : World} {K : PySem.W.Frag} {mg : Str → Option Value} {base : Heap} (Z : Facts K mg) : ∃ f fd, Ok P w K mg base 1 "_law_told" ["_law_zone_so", "_law_number", "_law_at"] s__law_told f fd F__law_told := by
  obtain ⟨f, fd, hm, FD⟩ := Z.d__law_told
  refine ⟨f, fd, hm, FD.kp, FD.bindsN (fun _ _ _ _ _ _ us hl => match us, hl with | [_, _, _], _ => rfl), FD, fnP_of (k := 0) (He5.fun_of FD) sc__law_told fun cdv A outer s H hgd hr0 => ⟨_, ?_, fun _ _ h => h⟩⟩
  have hr := hr0
  have hu := hr.units
  exact bx_cons (sx_set sc__law_told.nd rfl (.inl rfl) (ex_ix (ex_var (pv 0)) (ex_int) (fun _ _ => rfl))) (bx_cons (sx_if (tx_cmp o_lt (ex_var (pv 2)) (ex_ix (ex_ix (ex_var (pv 3)) (ex_var (pv 1)) (fun _ _ => rfl)) (ex_int) (fun _ _ => rfl)) (by rfl)) (bx_one (sx_ret (ex_bl))) (bx_nil)) (bx_one (sx_ret (ex_or (ex_cmp (o_eq hu) (ex_bin o_add (ex_var (pv 1)) (ex_int)) (ex_callB c_len rfl Z.f_len bb_len (exs_cons (ex_var (pv 3)) (exs_nil))) (by rfl)) (ex_and1 (ex_cmp o_lt (ex_var (pv 2)) (ex_bin o_add (ex_ix (ex_ix (ex_var (pv 3)) (ex_bin o_add (ex_var (pv 1)) (ex_int)) (fun _ _ => rfl)) (ex_int) (fun _ _ => rfl)) (ex_ix (ex_var (pv 0)) (ex_int) (fun _ _ => rfl))) (by rfl)))))))
theorem ok__law_told_at {P : Program} {w : World} {K : PySem.W.Frag} {mg : Str → Option Value} {base : Heap} (Z : Facts K mg) : ∃ f fd, Ok P w K mg base 2 "_law_told_at" ["_law_zone_so", "_law_at"] s__law_told_at f fd F__law_told_at := by
  obtain ⟨f, fd, hm, FD⟩ := Z.d__law_told_at
  obtain ⟨f__law_told, d__law_told, F__law_told⟩ := ok__law_told (P := P) (w := w) (base := base) Z
  refine ⟨f, fd, hm, FD.kp, FD.bindsN (fun _ _ _ _ _ _ us hl => match us, hl with | [_, _], _ => rfl), FD, fnP_of (k := 1) (He5.fun_of FD) sc__law_told_at fun cdv A outer s H hgd hr0 => ⟨_, ?_, fun _ _ h => h⟩⟩
  have hr := hr0
  have hu := hr.units
  exact bx_one (sx_ret (ex_lc rfl sc__law_told_at.nd (ix_range1 rfl Z.f_range (exs_cons (ex_callB c_len rfl Z.f_len bb_len (exs_cons (ex_ix (ex_var (pv 0)) (ex_int) (fun _ _ => rfl)) (exs_nil))) (exs_nil))) (own := [(("_law_number" : Str), 2)]) (blk_of rfl rfl) (by decide) (fun _ _ _ _ _ => gx_name (pg_name sc__law_told_at.nd rfl (.inl rfl))) (fun _ _ _ _ _ => pts1 (tx_val (ex_call (FnG.mono F__law_told.run (by decide)) hgd hr F__law_told.m F__law_told.kp F__law_told.b (exv_cons (ex_var (pv 0)) (exv_cons (ex_var (pv 2)) (exv_cons (ex_var (pv 1)) (exv_nil)))) (vCons_len (vCons_len (vCons_len vNil_len)))))) (fun _ _ _ _ _ => ex_var (pv 2))))
theorem ok__law_least {P : Program} {w : World} {K : PySem.W.Frag} {mg : Str → Option Value} {base : Heap} (Z : Facts K mg) : ∃ f fd, Ok P w K mg base 1 "_law_least" ["_law_row_here"] s__law_least f fd F__law_least := by
  obtain ⟨f, fd, hm, FD⟩ := Z.d__law_least
  refine ⟨f, fd, hm, FD.kp, FD.bindsN (fun _ _ _ _ _ _ us hl => match us, hl with | [_], _ => rfl), FD, fnP_of (k := 0) (He5.fun_of FD) sc__law_least fun cdv A outer s H hgd hr0 => ⟨_, ?_, fun _ _ h => h⟩⟩
  have hr := hr0
  have hu := hr.units
  exact bx_cons (sx_set sc__law_least.nd rfl (.inr rfl) (ex_sx rfl hu rfl Z.f_sorted rfl Z.f_set bb_sorted bt_set (ex_lc rfl sc__law_least.nd (KV.ix_seq (ex_var (pv 0))) (own := [(("_law_at" : Str), 4), (("_law_number" : Str), 7)]) (blk_of rfl rfl) (by decide) (fun _ _ _ _ _ => gx_tup 2 rfl (gxs_cons (gx_name (pg_name sc__law_least.nd rfl (.inl rfl))) (gxs_cons (gx_name (pg_name sc__law_least.nd rfl (.inl rfl))) (gxs_nil))) (gsCons_len (gsCons_len gsNil_len))) (fun _ _ _ _ _ => pts0) (fun _ _ _ _ _ => ex_tup (exv_cons (ex_var (pv 4)) (exv_cons (ex_bin o_sub (ex_int) (ex_var (pv 7))) (exv_nil))))))) (bx_cons (sx_set sc__law_least.nd rfl (.inr rfl) (ex_lst (exv_nil))) (bx_cons (sx_for PassesOwn.never rfl (ix_enum rfl Z.f_enumerate (exv_cons (ex_var (pv 1)) (exv_nil))) (gx_tup 2 rfl (gxs_cons (gx_name (pg_name sc__law_least.nd rfl (.inl rfl))) (gxs_cons (gx_tup 2 rfl (gxs_cons (gx_name (pg_name sc__law_least.nd rfl (.inl rfl))) (gxs_cons (gx_name (pg_name sc__law_least.nd rfl (.inr rfl))) (gxs_nil))) (gsCons_len (gsCons_len gsNil_len))) (gxs_nil))) (gsCons_len (gsCons_len gsNil_len))) (bx_cons (sx_setLc rfl sc__law_least.nd rfl rfl rfl (ix_range1 rfl Z.f_range (exs_cons (ex_var (pv 3)) (exs_nil))) (own := [(("_law_j" : Str), 8)]) (blk_of rfl rfl) (by decide) (fun _ _ _ _ _ => gx_name (pg_name sc__law_least.nd rfl (.inl rfl))) (fun _ _ _ _ _ => pts1 (tx_cmp o_lt (ex_ix (ex_ix (ex_var (pv 1)) (ex_var (pv 8)) (fun _ _ => rfl)) (ex_int) (fun _ _ => rfl)) (ex_var (pv 5)) (by rfl))) (fun _ _ _ _ _ => ex_ix (ex_var (pv 2)) (ex_var (pv 8)) (fun _ _ => rfl))) (bx_one (sx_expr (ex_app (pv 2) (ex_bin o_add (ex_int) (ex_callB (c_maxL rfl) rfl Z.f_max bb_max (exs_cons (ex_bin o_add (ex_var (pv 6)) (ex_lst (exv_cons (ex_int) (exv_nil)))) (exs_nil))))))))) (bx_one (sx_ret (ex_callB (c_maxL rfl) rfl Z.f_max bb_max (exs_cons (ex_bin o_add (ex_var (pv 2)) (ex_lst (exv_cons (ex_int) (exv_nil)))) (exs_nil)))))))
theorem ok__law_row {P : Program} {w : World} {K : PySem.W.Frag} {mg : Str → Option Value} {base : Heap} (Z : Facts K mg) : ∃ f fd, Ok P w K mg base 1 "_law_row" ["_law_some"] s__law_row f fd F__law_row := by
  obtain ⟨f, fd, hm, FD⟩ := Z.d__law_row
  refine ⟨f, fd, hm, FD.kp, FD.bindsN (fun _ _ _ _ _ _ us hl => match us, hl with | [_], _ => rfl), FD, fnP_of (k := 0) (He5.fun_of FD) sc__law_row fun cdv A outer s H hgd hr0 => ⟨_, ?_, fun _ _ h => h⟩⟩
  have hr := hr0
  have hu := hr.units
  exact bx_one (sx_ret (ex_callTy c_tuple rfl Z.f_tuple bt_tuple (exs_cons (ex_ss rfl hu rfl Z.f_sorted rfl Z.f_set bb_sorted bt_set (ex_var (pv 0))) (exs_nil))))
theorem ok__law_begin_of {P : Program} {w : World} {K : PySem.W.Frag} {mg : Str → Option Value} {base : Heap} (Z : Facts K mg) : ∃ f fd, OkB P w K mg base 3 "_law_begin_of" ["_law_box_here", "_law_trust_so", "_law_is_last"] s__law_begin_of f fd G__law_begin_of := by
  obtain ⟨f, fd, hm, FD⟩ := Z.d__law_begin_of
  obtain ⟨f__law_pick, d__law_pick, F__law_pick⟩ := ok__law_pick (P := P) (w := w) (base := base) Z
  obtain ⟨f__law_row, d__law_row, F__law_row⟩ := ok__law_row (P := P) (w := w) (base := base) Z
  obtain ⟨f__law_take, d__law_take, F__law_take⟩ := ok__law_take (P := P) (w := w) (base := base) Z
  refine ⟨f, fd, hm, FD.kp, FD.bindsN (fun _ _ _ _ _ _ us hl => match us, hl with | [_, _, _], _ => rfl), FD, fnB_of (k := 2) (He5.fun_of FD) sc__law_begin_of fun cdv A outer s H hgd hr0 => ⟨_, ?_, fun _ _ _ h => h⟩⟩
  have hr := hr0
  have hu := hr.units
  exact bx_cons (sx_set sc__law_begin_of.nd rfl (.inl rfl) (ex_callTy c_list rfl Z.f_list bt_list (exs_cons (ex_var (pv 1)) (exs_nil)))) (bx_cons (sx_if (tx_cmp (o_eq hu) (ex_callBx (FnG.mono F__law_take.run (by decide)) hgd hr F__law_take.m F__law_take.kp F__law_take.b (pv 0) (exv_cons (ex_int) (exv_nil)) (fun r ds r' h => by have := (vCons_len vNil_len) r ds r' h; show ds.length + 1 = 2; omega)) (ex_int) (by rfl)) (bx_one (sx_expr (ex_app (pv 3) (ex_tup (exv_cons (ex_int) (exv_cons (ex_callBx (FnG.mono F__law_take.run (by decide)) hgd hr F__law_take.m F__law_take.kp F__law_take.b (pv 0) (exv_cons (ex_int) (exv_nil)) (fun r ds r' h => by have := (vCons_len vNil_len) r ds r' h; show ds.length + 1 = 2; omega)) (exv_nil))))))) (bx_nil)) (bx_cons (sx_setLc rfl sc__law_begin_of.nd rfl rfl rfl (KV.ix_seq (ex_var (pv 1))) (own := [(("_law_key" : Str), 7)]) (blk_of rfl rfl) (by decide) (fun _ _ _ _ _ => gx_name (pg_name sc__law_begin_of.nd rfl (.inl rfl))) (fun _ _ _ _ _ => pts0) (fun _ _ _ _ _ => ex_ix (ex_var (pv 7)) (ex_int) (fun _ _ => rfl))) (bx_cons (sx_set sc__law_begin_of.nd rfl (.inl rfl) (ex_bin o_add (ex_lc rfl sc__law_begin_of.nd (KV.ix_seq (ex_var (pv 3))) (own := [(("_law_key" : Str), 7)]) (blk_of rfl rfl) (by decide) (fun _ _ _ _ _ => gx_name (pg_name sc__law_begin_of.nd rfl (.inl rfl))) (fun _ _ _ _ _ => pts1 (tx_cmp o_gt (ex_callBx (FnG.mono F__law_take.run (by decide)) hgd hr F__law_take.m F__law_take.kp F__law_take.b (pv 0) (exv_cons (ex_int) (exv_nil)) (fun r ds r' h => by have := (vCons_len vNil_len) r ds r' h; show ds.length + 1 = 2; omega)) (ex_int) (by rfl))) (fun _ _ _ _ _ => ex_ix (ex_var (pv 7)) (ex_int) (fun _ _ => rfl))) (ex_var (pv 4)))) (bx_cons (sx_set sc__law_begin_of.nd rfl (.inl rfl) (ex_callBx (FnG.mono F__law_pick.run (by decide)) hgd hr F__law_pick.m F__law_pick.kp F__law_pick.b (pv 0) (exv_cons (ex_lst (exv_cons (ex_tup (exv_cons (ex_tup (exv_cons (ex_int) (exv_cons (ex_int) (exv_nil)))) (exv_nil))) (exv_cons (ex_tup (exv_cons (ex_tup (exv_cons (ex_int) (exv_cons (ex_int) (exv_nil)))) (exv_nil))) (exv_cons (ex_tup (exv_cons (ex_tup (exv_cons (ex_int) (exv_cons (ex_int) (exv_nil)))) (exv_cons (ex_tup (exv_cons (ex_int) (exv_cons (ex_int) (exv_nil)))) (exv_nil)))) (exv_nil))))) (exv_nil)) (fun r ds r' h => by have := (vCons_len vNil_len) r ds r' h; show ds.length + 1 = 2; omega))) (bx_cons (sx_set sc__law_begin_of.nd rfl (.inl rfl) (ex_if (tx_val (ex_var (pv 2))) (ex_non) (ex_var (pv 6)))) (bx_one (sx_ret (ex_tup (exv_cons (ex_call (FnG.mono F__law_row.run (by decide)) hgd hr F__law_row.m F__law_row.kp F__law_row.b (exv_cons (ex_var (pv 3)) (exv_nil)) (vCons_len vNil_len)) (exv_cons (ex_call (FnG.mono F__law_row.run (by decide)) hgd hr F__law_row.m F__law_row.kp F__law_row.b (exv_cons (ex_var (pv 4)) (exv_nil)) (vCons_len vNil_len)) (exv_cons (ex_var (pv 6)) (exv_cons (ex_call (FnG.mono F__law_row.run (by decide)) hgd hr F__law_row.m F__law_row.kp F__law_row.b (exv_cons (ex_var (pv 5)) (exv_nil)) (vCons_len vNil_len)) (exv_cons (ex_tup (exv_nil)) (exv_nil))))))))))))))
theorem ok__law_without {P : Program} {w : World} {K : PySem.W.Frag} {mg : Str → Option Value} {base : Heap} (Z : Facts K mg) : ∃ f fd, Ok P w K mg base 1 "_law_without" ["_law_some", "_law_number"] s__law_without f fd F__law_without := by
  obtain ⟨f, fd, hm, FD⟩ := Z.d__law_without
  refine ⟨f, fd, hm, FD.kp, FD.bindsN (fun _ _ _ _ _ _ us hl => match us, hl with | [_, _], _ => rfl), FD, fnP_of (k := 0) (He5.fun_of FD) sc__law_without fun cdv A outer s H hgd hr0 => ⟨_, ?_, fun _ _ h => h⟩⟩
  have hr := hr0
  have hu := hr.units
  exact bx_one (sx_ret (ex_callTy c_tuple rfl Z.f_tuple bt_tuple (exs_cons (ex_lc rfl sc__law_without.nd (KV.ix_seq (ex_var (pv 0))) (own := [(("_law_own" : Str), 2)]) (blk_of rfl rfl) (by decide) (fun _ _ _ _ _ => gx_name (pg_name sc__law_without.nd rfl (.inl rfl))) (fun _ _ _ _ _ => pts1 (tx_cmp (o_ne hu) (ex_var (pv 2)) (ex_var (pv 1)) (by rfl))) (fun _ _ _ _ _ => ex_var (pv 2))) (exs_nil))))
theorem ok__law_changed {P : Program} {w : World} {K : PySem.W.Frag} {mg : Str → Option Value} {base : Heap} (Z : Facts K mg) : ∃ f fd, OkB P w K mg base 2 "_law_changed" ["_law_box_here", "_law_told_so"] s__law_changed f fd G__law_changed := by
  obtain ⟨f, fd, hm, FD⟩ := Z.d__law_changed
  obtain ⟨f__law_row, d__law_row, F__law_row⟩ := ok__law_row (P := P) (w := w) (base := base) Z
  obtain ⟨f__law_take, d__law_take, F__law_take⟩ := ok__law_take (P := P) (w := w) (base := base) Z
  obtain ⟨f__law_without, d__law_without, F__law_without⟩ := ok__law_without (P := P) (w := w) (base := base) Z
  refine ⟨f, fd, hm, FD.kp, FD.bindsN (fun _ _ _ _ _ _ us hl => match us, hl with | [_, _], _ => rfl), FD, fnB_of (k := 1) (He5.fun_of FD) sc__law_changed fun cdv A outer s H hgd hr0 => ⟨_, ?_, fun _ _ _ h => h⟩⟩
  have hr := hr0
  have hu := hr.units
  exact bx_cons (sx_asg (ex_var (pv 1)) (gx_tup 5 rfl (gxs_cons (gx_name (pg_name sc__law_changed.nd rfl (.inl rfl))) (gxs_cons (gx_name (pg_name sc__law_changed.nd rfl (.inl rfl))) (gxs_cons (gx_name (pg_name sc__law_changed.nd rfl (.inl rfl))) (gxs_cons (gx_name (pg_name sc__law_changed.nd rfl (.inl rfl))) (gxs_cons (gx_name (pg_name sc__law_changed.nd rfl (.inl rfl))) (gxs_nil)))))) (gsCons_len (gsCons_len (gsCons_len (gsCons_len (gsCons_len gsNil_len))))))) (bx_cons (sx_asg (ex_tup (exv_cons (ex_bin o_add (ex_int) (ex_callBx (FnG.mono F__law_take.run (by decide)) hgd hr F__law_take.m F__law_take.kp F__law_take.b (pv 0) (exv_cons (ex_int) (exv_nil)) (fun r ds r' h => by have := (vCons_len vNil_len) r ds r' h; show ds.length + 1 = 2; omega))) (exv_cons (ex_callBx (FnG.mono F__law_take.run (by decide)) hgd hr F__law_take.m F__law_take.kp F__law_take.b (pv 0) (exv_cons (ex_int) (exv_nil)) (fun r ds r' h => by have := (vCons_len vNil_len) r ds r' h; show ds.length + 1 = 2; omega)) (exv_nil)))) (gx_tup 2 rfl (gxs_cons (gx_name (pg_name sc__law_changed.nd rfl (.inr rfl))) (gxs_cons (gx_name (pg_name sc__law_changed.nd rfl (.inl rfl))) (gxs_nil))) (gsCons_len (gsCons_len gsNil_len)))) (bx_cons (sx_setLc rfl sc__law_changed.nd rfl rfl rfl (KV.ix_seq (ex_var (pv 2))) (own := [(("_law_key" : Str), 12)]) (blk_of rfl rfl) (by decide) (fun _ _ _ _ _ => gx_name (pg_name sc__law_changed.nd rfl (.inl rfl))) (fun _ _ _ _ _ => pts1 (tx_cmp (o_eq hu) (ex_ix (ex_var (pv 12)) (ex_int) (fun _ _ => rfl)) (ex_var (pv 7)) (by rfl))) (fun _ _ _ _ _ => ex_var (pv 12))) (bx_cons (sx_if (tx_of_wx (wx_and (tx_cmp o_lt (ex_var (pv 8)) (ex_int) (by rfl)) (wx_and1 (tx_cmp (o_eq hu) (ex_var (pv 9)) (ex_lst (exv_nil)) (by rfl))))) (bx_one (sx_ret (ex_tup (exv_cons (ex_call (FnG.mono F__law_row.run (by decide)) hgd hr F__law_row.m F__law_row.kp F__law_row.b (exv_cons (ex_bin o_add (ex_callTy c_list rfl Z.f_list bt_list (exs_cons (ex_var (pv 2)) (exs_nil))) (ex_lst (exv_cons (ex_tup (exv_cons (ex_var (pv 7)) (exv_cons (ex_callBx (FnG.mono F__law_take.run (by decide)) hgd hr F__law_take.m F__law_take.kp F__law_take.b (pv 0) (exv_cons (ex_int) (exv_nil)) (fun r ds r' h => by have := (vCons_len vNil_len) r ds r' h; show ds.length + 1 = 2; omega)) (exv_nil)))) (exv_nil)))) (exv_nil)) (vCons_len vNil_len)) (exv_cons (ex_var (pv 3)) (exv_cons (ex_var (pv 4)) (exv_cons (ex_var (pv 5)) (exv_cons (ex_var (pv 6)) (exv_nil))))))))) (bx_nil)) (bx_cons (sx_if (tx_of_wx (wx_and (tx_cmp (o_eq hu) (ex_var (pv 8)) (ex_int) (by rfl)) (wx_and1 (tx_cmp o_gt (ex_callB c_len rfl Z.f_len bb_len (exs_cons (ex_var (pv 2)) (exs_nil))) (ex_int) (by rfl))))) (bx_cons (sx_set sc__law_changed.nd rfl (.inl rfl) (ex_callTy c_tuple rfl Z.f_tuple bt_tuple (exs_cons (ex_lc rfl sc__law_changed.nd (KV.ix_seq (ex_var (pv 2))) (own := [(("_law_key" : Str), 12)]) (blk_of rfl rfl) (by decide) (fun _ _ _ _ _ => gx_name (pg_name sc__law_changed.nd rfl (.inl rfl))) (fun _ _ _ _ _ => pts1 (tx_cmp (o_ne hu) (ex_ix (ex_var (pv 12)) (ex_int) (fun _ _ => rfl)) (ex_var (pv 7)) (by rfl))) (fun _ _ _ _ _ => ex_var (pv 12))) (exs_nil)))) (bx_one (sx_ret (ex_tup (exv_cons (ex_var (pv 10)) (exv_cons (ex_var (pv 3)) (exv_cons (ex_var (pv 4)) (exv_cons (ex_var (pv 5)) (exv_cons (ex_call (FnG.mono F__law_without.run (by decide)) hgd hr F__law_without.m F__law_without.kp F__law_without.b (exv_cons (ex_var (pv 6)) (exv_cons (ex_var (pv 7)) (exv_nil))) (vCons_len (vCons_len vNil_len))) (exv_nil)))))))))) (bx_nil)) (bx_cons (sx_if (tx_cmp o_lt (ex_var (pv 8)) (ex_int) (by rfl)) (bx_cons (sx_set sc__law_changed.nd rfl (.inl rfl) (ex_if (tx_cmp (o_in hu) (ex_var (pv 7)) (ex_var (pv 3)) (by rfl)) (ex_call (FnG.mono F__law_without.run (by decide)) hgd hr F__law_without.m F__law_without.kp F__law_without.b (exv_cons (ex_var (pv 3)) (exv_cons (ex_var (pv 7)) (exv_nil))) (vCons_len (vCons_len vNil_len))) (ex_call (FnG.mono F__law_row.run (by decide)) hgd hr F__law_row.m F__law_row.kp F__law_row.b (exv_cons (ex_bin o_add (ex_callTy c_list rfl Z.f_list bt_list (exs_cons (ex_var (pv 3)) (exs_nil))) (ex_lst (exv_cons (ex_var (pv 7)) (exv_nil)))) (exv_nil)) (vCons_len vNil_len)))) (bx_one (sx_ret (ex_tup (exv_cons (ex_var (pv 2)) (exv_cons (ex_var (pv 11)) (exv_cons (ex_var (pv 4)) (exv_cons (ex_var (pv 5)) (exv_cons (ex_var (pv 6)) (exv_nil)))))))))) (bx_nil)) (bx_cons (sx_if (tx_cmp o_lt (ex_var (pv 8)) (ex_int) (by rfl)) (bx_cons (sx_set sc__law_changed.nd rfl (.inl rfl) (ex_if (tx_cmp (o_in hu) (ex_var (pv 7)) (ex_var (pv 5)) (by rfl)) (ex_call (FnG.mono F__law_without.run (by decide)) hgd hr F__law_without.m F__law_without.kp F__law_without.b (exv_cons (ex_var (pv 5)) (exv_cons (ex_var (pv 7)) (exv_nil))) (vCons_len (vCons_len vNil_len))) (ex_call (FnG.mono F__law_row.run (by decide)) hgd hr F__law_row.m F__law_row.kp F__law_row.b (exv_cons (ex_bin o_add (ex_callTy c_list rfl Z.f_list bt_list (exs_cons (ex_var (pv 5)) (exs_nil))) (ex_lst (exv_cons (ex_var (pv 7)) (exv_nil)))) (exv_nil)) (vCons_len vNil_len)))) (bx_one (sx_ret (ex_tup (exv_cons (ex_var (pv 2)) (exv_cons (ex_var (pv 3)) (exv_cons (ex_var (pv 4)) (exv_cons (ex_var (pv 11)) (exv_cons (ex_var (pv 6)) (exv_nil)))))))))) (bx_nil)) (bx_cons (sx_if (tx_of_wx (wx_and (tx_cmp (o_eq hu) (ex_var (pv 8)) (ex_int) (by rfl)) (wx_and1 (tx_cmp (o_ne hu) (ex_var (pv 9)) (ex_lst (exv_nil)) (by rfl))))) (bx_cons (sx_set sc__law_changed.nd rfl (.inl rfl) (ex_if (tx_cmp (o_in hu) (ex_var (pv 7)) (ex_var (pv 6)) (by rfl)) (ex_call (FnG.mono F__law_without.run (by decide)) hgd hr F__law_without.m F__law_without.kp F__law_without.b (exv_cons (ex_var (pv 6)) (exv_cons (ex_var (pv 7)) (exv_nil))) (vCons_len (vCons_len vNil_len))) (ex_call (FnG.mono F__law_row.run (by decide)) hgd hr F__law_row.m F__law_row.kp F__law_row.b (exv_cons (ex_bin o_add (ex_callTy c_list rfl Z.f_list bt_list (exs_cons (ex_var (pv 6)) (exs_nil))) (ex_lst (exv_cons (ex_var (pv 7)) (exv_nil)))) (exv_nil)) (vCons_len vNil_len)))) (bx_one (sx_ret (ex_tup (exv_cons (ex_var (pv 2)) (exv_cons (ex_var (pv 3)) (exv_cons (ex_var (pv 4)) (exv_cons (ex_var (pv 5)) (exv_cons (ex_var (pv 11)) (exv_nil)))))))))) (bx_nil)) (bx_cons (sx_if (tx_of_wx (wx_or (tx_cmp o_isN (ex_var (pv 4)) (ex_non) (by rfl)) (wx_or1 (tx_cmp (o_eq hu) (ex_var (pv 8)) (ex_int) (by rfl))))) (bx_one (sx_ret (ex_tup (exv_cons (ex_var (pv 2)) (exv_cons (ex_var (pv 3)) (exv_cons (ex_var (pv 4)) (exv_cons (ex_var (pv 5)) (exv_cons (ex_var (pv 6)) (exv_nil))))))))) (bx_nil)) (bx_cons (sx_set sc__law_changed.nd rfl (.inl rfl) (ex_callTy c_tuple rfl Z.f_tuple bt_tuple (exs_cons (ex_lc rfl sc__law_changed.nd (KV.ix_seq (ex_var (pv 4))) (own := [(("_law_key" : Str), 12)]) (blk_of rfl rfl) (by decide) (fun _ _ _ _ _ => gx_name (pg_name sc__law_changed.nd rfl (.inl rfl))) (fun _ _ _ _ _ => pts1 (tx_cmp (o_ne hu) (ex_ix (ex_var (pv 12)) (ex_int) (fun _ _ => rfl)) (ex_var (pv 7)) (by rfl))) (fun _ _ _ _ _ => ex_var (pv 12))) (exs_nil)))) (bx_cons (sx_if (tx_cmp (o_eq hu) (ex_callB c_len rfl Z.f_len bb_len (exs_cons (ex_var (pv 10)) (exs_nil))) (ex_callB c_len rfl Z.f_len bb_len (exs_cons (ex_var (pv 4)) (exs_nil))) (by rfl)) (bx_one (sx_set sc__law_changed.nd rfl (.inl rfl) (ex_call (FnG.mono F__law_row.run (by decide)) hgd hr F__law_row.m F__law_row.kp F__law_row.b (exv_cons (ex_bin o_add (ex_callTy c_list rfl Z.f_list bt_list (exs_cons (ex_var (pv 4)) (exs_nil))) (ex_lst (exv_cons (ex_tup (exv_cons (ex_var (pv 7)) (exv_cons (ex_callBx (FnG.mono F__law_take.run (by decide)) hgd hr F__law_take.m F__law_take.kp F__law_take.b (pv 0) (exv_cons (ex_int) (exv_nil)) (fun r ds r' h => by have := (vCons_len vNil_len) r ds r' h; show ds.length + 1 = 2; omega)) (exv_nil)))) (exv_nil)))) (exv_nil)) (vCons_len vNil_len)))) (bx_nil)) (bx_one (sx_ret (ex_tup (exv_cons (ex_var (pv 2)) (exv_cons (ex_var (pv 3)) (exv_cons (ex_var (pv 10)) (exv_cons (ex_var (pv 5)) (exv_cons (ex_var (pv 6)) (exv_nil)))))))))))))))))))
theorem ok__law_zone {P : Program} {w : World} {K : PySem.W.Frag} {mg : Str → Option Value} {base : Heap} (Z : Facts K mg) : ∃ f fd, OkB P w K mg base 4 "_law_zone" ["_law_box_here", "_law_trust_so", "_law_is_last", "_law_many"] s__law_zone f fd G__law_zone := by
  obtain ⟨f, fd, hm, FD⟩ := Z.d__law_zone
  obtain ⟨f__law_begin_of, d__law_begin_of, F__law_begin_of⟩ := ok__law_begin_of (P := P) (w := w) (base := base) Z
  obtain ⟨f__law_changed, d__law_changed, F__law_changed⟩ := ok__law_changed (P := P) (w := w) (base := base) Z
  obtain ⟨f__law_take, d__law_take, F__law_take⟩ := ok__law_take (P := P) (w := w) (base := base) Z
  refine ⟨f, fd, hm, FD.kp, FD.bindsN (fun _ _ _ _ _ _ us hl => match us, hl with | [_, _, _, _], _ => rfl), FD, fnB_of (k := 3) (He5.fun_of FD) sc__law_zone fun cdv A outer s H hgd hr0 => ⟨_, ?_, fun _ _ _ h => h⟩⟩
  have hr := hr0
  have hu := hr.units
  exact bx_cons (sx_par rfl sc__law_zone.nd rfl rfl (by decide) rfl rfl (exv_cons (ex_callBx (FnG.mono F__law_begin_of.run (by decide)) hgd hr F__law_begin_of.m F__law_begin_of.kp F__law_begin_of.b (pv 0) (exv_cons (ex_var (pv 1)) (exv_cons (ex_var (pv 2)) (exv_nil))) (fun r ds r' h => by have := (vCons_len (vCons_len vNil_len)) r ds r' h; show ds.length + 1 = 3; omega)) (exv_cons (ex_int) (exv_nil))) rfl) (bx_cons (sx_set sc__law_zone.nd rfl (.inl rfl) (ex_lst (exv_cons (ex_tup (exv_cons (ex_int) (exv_cons (ex_var (pv 4)) (exv_nil)))) (exv_nil)))) (bx_cons (sx_for PassesOwn.never rfl (ix_range1 rfl Z.f_range (exs_cons (ex_callBx (FnG.mono F__law_take.run (by decide)) hgd hr F__law_take.m F__law_take.kp F__law_take.b (pv 0) (exv_cons (ex_var (pv 3)) (exv_nil)) (fun r ds r' h => by have := (vCons_len vNil_len) r ds r' h; show ds.length + 1 = 2; omega)) (exs_nil))) (gx_name (pg_name sc__law_zone.nd rfl (.inl rfl))) (bx_cons (sx_set sc__law_zone.nd rfl (.inl rfl) (ex_bin o_add (ex_bin o_add (ex_var (pv 5)) (ex_int)) (ex_callBx (FnG.mono F__law_take.run (by decide)) hgd hr F__law_take.m F__law_take.kp F__law_take.b (pv 0) (exv_cons (ex_int) (exv_nil)) (fun r ds r' h => by have := (vCons_len vNil_len) r ds r' h; show ds.length + 1 = 2; omega)))) (bx_cons (sx_for PassesOwn.never rfl (ix_range1 rfl Z.f_range (exs_cons (ex_bin o_add (ex_int) (ex_callBx (FnG.mono F__law_take.run (by decide)) hgd hr F__law_take.m F__law_take.kp F__law_take.b (pv 0) (exv_cons (ex_int) (exv_nil)) (fun r ds r' h => by have := (vCons_len vNil_len) r ds r' h; show ds.length + 1 = 2; omega))) (exs_nil))) (gx_name (pg_name sc__law_zone.nd rfl (.inl rfl))) (bx_one (sx_set sc__law_zone.nd rfl (.inl rfl) (ex_callBx (FnG.mono F__law_changed.run (by decide)) hgd hr F__law_changed.m F__law_changed.kp F__law_changed.b (pv 0) (exv_cons (ex_var (pv 4)) (exv_nil)) (fun r ds r' h => by have := (vCons_len vNil_len) r ds r' h; show ds.length + 1 = 2; omega))))) (bx_one (sx_expr (ex_app (pv 6) (ex_tup (exv_cons (ex_var (pv 5)) (exv_cons (ex_var (pv 4)) (exv_nil)))))))))) (bx_cons (sx_set sc__law_zone.nd rfl (.inl rfl) (ex_bin o_add (ex_int) (ex_callBx (FnG.mono F__law_take.run (by decide)) hgd hr F__law_take.m F__law_take.kp F__law_take.b (pv 0) (exv_cons (ex_int) (exv_nil)) (fun r ds r' h => by have := (vCons_len vNil_len) r ds r' h; show ds.length + 1 = 2; omega)))) (bx_cons (sx_set sc__law_zone.nd rfl (.inl rfl) (ex_tup (exv_cons (ex_bin o_add (ex_int) (ex_callBx (FnG.mono F__law_take.run (by decide)) hgd hr F__law_take.m F__law_take.kp F__law_take.b (pv 0) (exv_cons (ex_int) (exv_nil)) (fun r ds r' h => by have := (vCons_len vNil_len) r ds r' h; show ds.length + 1 = 2; omega))) (exv_cons (ex_bin o_add (ex_int) (ex_callBx (FnG.mono F__law_take.run (by decide)) hgd hr F__law_take.m F__law_take.kp F__law_take.b (pv 0) (exv_cons (ex_int) (exv_nil)) (fun r ds r' h => by have := (vCons_len vNil_len) r ds r' h; show ds.length + 1 = 2; omega))) (exv_nil))))) (bx_one (sx_ret (ex_bin o_add (ex_tup (exv_cons (ex_callTy c_tuple rfl Z.f_tuple bt_tuple (exs_cons (ex_var (pv 6)) (exs_nil))) (exv_cons (ex_var (pv 9)) (exv_cons (ex_bin o_add (ex_int) (ex_callBx (FnG.mono F__law_take.run (by decide)) hgd hr F__law_take.m F__law_take.kp F__law_take.b (pv 0) (exv_cons (ex_var (pv 9)) (exv_nil)) (fun r ds r' h => by have := (vCons_len vNil_len) r ds r' h; show ds.length + 1 = 2; omega))) (exv_cons (ex_callBx (FnG.mono F__law_take.run (by decide)) hgd hr F__law_take.m F__law_take.kp F__law_take.b (pv 0) (exv_cons (ex_int) (exv_nil)) (fun r ds r' h => by have := (vCons_len vNil_len) r ds r' h; show ds.length + 1 = 2; omega)) (exv_nil)))))) (ex_var (pv 10)))))))))
theorem ok__law_walked {P : Program} {w : World} {K : PySem.W.Frag} {mg : Str → Option Value} {base : Heap} (Z : Facts K mg) : ∃ f fd, OkB P w K mg base 3 "_law_walked" ["_law_box_here", "_law_site", "_law_most"] s__law_walked f fd G__law_walked := by
  obtain ⟨f, fd, hm, FD⟩ := Z.d__law_walked
  obtain ⟨f__law_pick, d__law_pick, F__law_pick⟩ := ok__law_pick (P := P) (w := w) (base := base) Z
  obtain ⟨f__law_told_at, d__law_told_at, F__law_told_at⟩ := ok__law_told_at (P := P) (w := w) (base := base) Z
  refine ⟨f, fd, hm, FD.kp, FD.bindsN (fun _ _ _ _ _ _ us hl => match us, hl with | [_, _, _], _ => rfl), FD, fnB_of (k := 2) (He5.fun_of FD) sc__law_walked fun cdv A outer s H hgd hr0 => ⟨_, ?_, fun _ _ _ h => h⟩⟩
  have hr := hr0
  have hu := hr.units
  exact bx_cons (sx_parC rfl (by decide) (pg_name sc__law_walked.nd rfl (.inl rfl)) (pg_name sc__law_walked.nd rfl (.inr rfl)) (ex_lst (exv_nil)) (ex_int)) (bx_cons (sx_for PassesOwn.never rfl (ix_range1 rfl Z.f_range (exs_cons (ex_var (pv 2)) (exs_nil))) (gx_name (pg_name sc__law_walked.nd rfl (.inl rfl))) (bx_cons (sx_setLc rfl sc__law_walked.nd rfl rfl rfl (KV.ix_seq (ex_call (FnG.mono F__law_told_at.run (by decide)) hgd hr F__law_told_at.m F__law_told_at.kp F__law_told_at.b (exv_cons (ex_var (pv 1)) (exv_cons (ex_var (pv 5)) (exv_nil))) (vCons_len (vCons_len vNil_len)))) (own := [(("_law_number" : Str), 7)]) (blk_of rfl rfl) (by decide) (fun _ _ _ _ _ => gx_name (pg_name sc__law_walked.nd rfl (.inl rfl))) (fun _ _ _ _ _ => pts1 (tx_cmp o_ge (ex_var (pv 7)) (ex_var (pv 4)) (by rfl))) (fun _ _ _ _ _ => ex_var (pv 7))) (bx_cons (sx_set sc__law_walked.nd rfl (.inr rfl) (ex_callBx (FnG.mono F__law_pick.run (by decide)) hgd hr F__law_pick.m F__law_pick.kp F__law_pick.b (pv 0) (exv_cons (ex_var (pv 6)) (exv_nil)) (fun r ds r' h => by have := (vCons_len vNil_len) r ds r' h; show ds.length + 1 = 2; omega))) (bx_one (sx_expr (ex_app (pv 3) (ex_var (pv 4)))))))) (bx_one (sx_ret (ex_var (pv 3)))))
theorem ok__law_right {P : Program} {w : World} {K : PySem.W.Frag} {mg : Str → Option Value} {base : Heap} (Z : Facts K mg) : ∃ f fd, OkB P w K mg base 15 "_law_right" ["_law_box_here"] s__law_right f fd G__law_right := by
  obtain ⟨f, fd, hm, FD⟩ := Z.d__law_right
  obtain ⟨f__law_least, d__law_least, F__law_least⟩ := ok__law_least (P := P) (w := w) (base := base) Z
  obtain ⟨f__law_pick, d__law_pick, F__law_pick⟩ := ok__law_pick (P := P) (w := w) (base := base) Z
  obtain ⟨f__law_same, d__law_same, F__law_same⟩ := ok__law_same (P := P) (w := w) (base := base) Z
  obtain ⟨f__law_take, d__law_take, F__law_take⟩ := ok__law_take (P := P) (w := w) (base := base) Z
  obtain ⟨f__law_told_at, d__law_told_at, F__law_told_at⟩ := ok__law_told_at (P := P) (w := w) (base := base) Z
  obtain ⟨f__law_walked, d__law_walked, F__law_walked⟩ := ok__law_walked (P := P) (w := w) (base := base) Z
  obtain ⟨f__law_zone, d__law_zone, F__law_zone⟩ := ok__law_zone (P := P) (w := w) (base := base) Z
  obtain ⟨f_can_tell, d_can_tell, F_can_tell⟩ := ok_can_tell (P := P) (w := w) (base := base) Z
  obtain ⟨f_needs_servers, d_needs_servers, F_needs_servers⟩ := ok_needs_servers (P := P) (w := w) (base := base) Z
  refine ⟨f, fd, hm, FD.kp, FD.bindsN (fun _ _ _ _ _ _ us hl => match us, hl with | [_], _ => rfl), FD, fnB_of (k := 14) (He5.fun_of FD) sc__law_right fun cdv A outer s H hgd hr0 => ⟨_, ?_, fun _ _ _ h => h⟩⟩
  have hr := hr0
  have hu := hr.units
  exact bx_cons (sx_for PassesOwn.never rfl (ix_range1 rfl Z.f_range (exs_cons (ex_int) (exs_nil))) (gx_name (pg_name sc__law_right.nd rfl (.inl rfl))) (bx_cons (sx_set sc__law_right.nd rfl (.inr rfl) (ex_callBx (FnG.mono F__law_zone.run (by decide)) hgd hr F__law_zone.m F__law_zone.kp F__law_zone.b (pv 0) (exv_cons (ex_tup (exv_cons (ex_tup (exv_cons (ex_int) (exv_cons (ex_int) (exv_nil)))) (exv_nil))) (exv_cons (ex_bl) (exv_cons (ex_int) (exv_nil)))) (fun r ds r' h => by have := (vCons_len (vCons_len (vCons_len vNil_len))) r ds r' h; show ds.length + 1 = 4; omega))) (bx_cons (sx_asg (ex_tup (exv_cons (ex_bin o_add (ex_bin o_add (ex_slice (ex_var (pv 2)) po0 (po1 (ex_int))) (ex_tup (exv_cons (ex_bin o_add (ex_int) (ex_callBx (FnG.mono F__law_take.run (by decide)) hgd hr F__law_take.m F__law_take.kp F__law_take.b (pv 0) (exv_cons (ex_int) (exv_nil)) (fun r ds r' h => by have := (vCons_len vNil_len) r ds r' h; show ds.length + 1 = 2; omega))) (exv_nil)))) (ex_slice (ex_var (pv 2)) (po1 (ex_int)) po0)) (exv_cons (ex_bin o_add (ex_int) (ex_callBx (FnG.mono F__law_take.run (by decide)) hgd hr F__law_take.m F__law_take.kp F__law_take.b (pv 0) (exv_cons (ex_int) (exv_nil)) (fun r ds r' h => by have := (vCons_len vNil_len) r ds r' h; show ds.length + 1 = 2; omega))) (exv_nil)))) (gx_tup 2 rfl (gxs_cons (gx_name (pg_name sc__law_right.nd rfl (.inr rfl))) (gxs_cons (gx_name (pg_name sc__law_right.nd rfl (.inl rfl))) (gxs_nil))) (gsCons_len (gsCons_len gsNil_len)))) (bx_cons (sx_set sc__law_right.nd rfl (.inr rfl) (ex_bin o_add (ex_bin o_add (ex_ix (ex_ix (ex_ix (ex_var (pv 2)) (ex_int) (fun _ _ => rfl)) (ex_un o_neg (ex_int)) (fun _ _ => rfl)) (ex_int) (fun _ _ => rfl)) (ex_ix (ex_var (pv 2)) (ex_int) (fun _ _ => rfl))) (ex_int))) (bx_cons (sx_setLc rfl sc__law_right.nd rfl rfl rfl (ix_range1 rfl Z.f_range (exs_cons (ex_var (pv 3)) (exs_nil))) (own := [(("_law_turn" : Str), 7)]) (blk_of rfl rfl) (by decide) (fun _ _ _ _ _ => gx_name (pg_name sc__law_right.nd rfl (.inl rfl))) (fun _ _ _ _ _ => pts0) (fun _ _ _ _ _ => ex_callBx (FnG.mono F__law_walked.run (by decide)) hgd hr F__law_walked.m F__law_walked.kp F__law_walked.b (pv 0) (exv_cons (ex_var (pv 2)) (exv_cons (ex_var (pv 4)) (exv_nil))) (fun r ds r' h => by have := (vCons_len (vCons_len vNil_len)) r ds r' h; show ds.length + 1 = 3; omega))) (bx_cons (sx_set sc__law_right.nd rfl (.inl rfl) (ex_lst (exv_nil))) (bx_cons (sx_for PassesOwn.never rfl (ix_range1 rfl Z.f_range (exs_cons (ex_int) (exs_nil))) (gx_name (pg_name sc__law_right.nd rfl (.inl rfl))) (bx_cons (sx_par rfl sc__law_right.nd rfl rfl (by decide) rfl rfl (exv_cons (ex_callBx (FnG.mono F__law_take.run (by decide)) hgd hr F__law_take.m F__law_take.kp F__law_take.b (pv 0) (exv_cons (ex_var (pv 4)) (exv_nil)) (fun r ds r' h => by have := (vCons_len vNil_len) r ds r' h; show ds.length + 1 = 2; omega)) (exv_cons (ex_callBx (FnG.mono F__law_pick.run (by decide)) hgd hr F__law_pick.m F__law_pick.kp F__law_pick.b (pv 0) (exv_cons (ex_var (pv 5)) (exv_nil)) (fun r ds r' h => by have := (vCons_len vNil_len) r ds r' h; show ds.length + 1 = 2; omega)) (exv_nil))) rfl) (bx_one (sx_expr (ex_app (pv 6) (ex_tup (exv_cons (ex_var (pv 8)) (exv_cons (ex_ix (ex_var (pv 9)) (ex_var (pv 8)) (fun _ _ => rfl)) (exv_nil))))))))) (bx_cons (sx_set sc__law_right.nd rfl (.inl rfl) (ex_call (FnG.mono F_needs_servers.run (by decide)) hgd hr F_needs_servers.m F_needs_servers.kp F_needs_servers.b (exv_cons (ex_var (pv 2)) (exv_cons (ex_var (pv 6)) (exv_nil))) (vCons_len (vCons_len vNil_len)))) (bx_cons (sx_if (tx_of_wx (wx_or (tx_not (tx_val (ex_call (FnG.mono F__law_same.run (by decide)) hgd hr F__law_same.m F__law_same.kp F__law_same.b (exv_cons (ex_var (pv 10)) (exv_cons (ex_call (FnG.mono F__law_least.run (by decide)) hgd hr F__law_least.m F__law_least.kp F__law_least.b (exv_cons (ex_var (pv 6)) (exv_nil)) (vCons_len vNil_len)) (exv_nil))) (vCons_len (vCons_len vNil_len))))) (wx_or1 (tx_cmp o_gt (ex_var (pv 10)) (ex_var (pv 3)) (by rfl))))) (bx_one (sx_ret (ex_bl))) (bx_nil)) (bx_cons (sx_for PassesOwn.never rfl (ix_range1 rfl Z.f_range (exs_cons (ex_callB c_len rfl Z.f_len bb_len (exs_cons (ex_var (pv 6)) (exs_nil))) (exs_nil))) (gx_name (pg_name sc__law_right.nd rfl (.inl rfl))) (bx_cons (sx_set sc__law_right.nd rfl (.inl rfl) (ex_call (FnG.mono F_needs_servers.run (by decide)) hgd hr F_needs_servers.m F_needs_servers.kp F_needs_servers.b (exv_cons (ex_var (pv 2)) (exv_cons (ex_bin o_add (ex_slice (ex_var (pv 6)) po0 (po1 (ex_var (pv 11)))) (ex_slice (ex_var (pv 6)) (po1 (ex_bin o_add (ex_var (pv 11)) (ex_int))) po0)) (exv_nil))) (vCons_len (vCons_len vNil_len)))) (bx_one (sx_if (tx_of_wx (wx_or (tx_not (tx_val (ex_call (FnG.mono F__law_same.run (by decide)) hgd hr F__law_same.m F__law_same.kp F__law_same.b (exv_cons (ex_var (pv 12)) (exv_cons (ex_call (FnG.mono F__law_least.run (by decide)) hgd hr F__law_least.m F__law_least.kp F__law_least.b (exv_cons (ex_bin o_add (ex_slice (ex_var (pv 6)) po0 (po1 (ex_var (pv 11)))) (ex_slice (ex_var (pv 6)) (po1 (ex_bin o_add (ex_var (pv 11)) (ex_int))) po0)) (exv_nil)) (vCons_len vNil_len)) (exv_nil))) (vCons_len (vCons_len vNil_len))))) (wx_or1 (tx_not (tx_chain o_le o_le (ex_bin o_sub (ex_var (pv 10)) (ex_int)) (ex_var (pv 12)) (ex_var (pv 10))))))) (bx_one (sx_ret (ex_bl))) (bx_nil))))) (bx_cons (sx_set sc__law_right.nd rfl (.inl rfl) (ex_callBx (FnG.mono F__law_take.run (by decide)) hgd hr F__law_take.m F__law_take.kp F__law_take.b (pv 0) (exv_cons (ex_var (pv 4)) (exv_nil)) (fun r ds r' h => by have := (vCons_len vNil_len) r ds r' h; show ds.length + 1 = 2; omega))) (bx_cons (sx_set sc__law_right.nd rfl (.inl rfl) (ex_bin o_add (ex_var (pv 6)) (ex_lst (exv_cons (ex_tup (exv_cons (ex_var (pv 8)) (exv_cons (ex_callBx (FnG.mono F__law_pick.run (by decide)) hgd hr F__law_pick.m F__law_pick.kp F__law_pick.b (pv 0) (exv_cons (ex_call (FnG.mono F__law_told_at.run (by decide)) hgd hr F__law_told_at.m F__law_told_at.kp F__law_told_at.b (exv_cons (ex_var (pv 2)) (exv_cons (ex_var (pv 8)) (exv_nil))) (vCons_len (vCons_len vNil_len))) (exv_nil)) (fun r ds r' h => by have := (vCons_len vNil_len) r ds r' h; show ds.length + 1 = 2; omega)) (exv_nil)))) (exv_nil))))) (bx_cons (sx_set sc__law_right.nd rfl (.inl rfl) (ex_call (FnG.mono F_needs_servers.run (by decide)) hgd hr F_needs_servers.m F_needs_servers.kp F_needs_servers.b (exv_cons (ex_var (pv 2)) (exv_cons (ex_var (pv 13)) (exv_nil))) (vCons_len (vCons_len vNil_len)))) (bx_cons (sx_if (tx_of_wx (wx_or (tx_not (tx_val (ex_call (FnG.mono F__law_same.run (by decide)) hgd hr F__law_same.m F__law_same.kp F__law_same.b (exv_cons (ex_var (pv 14)) (exv_cons (ex_call (FnG.mono F__law_least.run (by decide)) hgd hr F__law_least.m F__law_least.kp F__law_least.b (exv_cons (ex_var (pv 13)) (exv_nil)) (vCons_len vNil_len)) (exv_nil))) (vCons_len (vCons_len vNil_len))))) (wx_or1 (tx_not (tx_chain o_le o_le (ex_var (pv 10)) (ex_var (pv 14)) (ex_bin o_add (ex_var (pv 10)) (ex_int))))))) (bx_one (sx_ret (ex_bl))) (bx_nil)) (bx_cons (sx_set sc__law_right.nd rfl (.inl rfl) (ex_lst (exv_cons (ex_call (FnG.mono F_can_tell.run (by decide)) hgd hr F_can_tell.m F_can_tell.kp F_can_tell.b (exv_cons (ex_bin o_add (ex_tup (exv_cons (ex_ix (ex_var (pv 2)) (ex_int) (fun _ _ => rfl)) (exv_cons (ex_var (pv 14)) (exv_cons (ex_int) (exv_nil))))) (ex_slice (ex_var (pv 2)) (po1 (ex_int)) po0)) (exv_cons (ex_var (pv 13)) (exv_nil))) (vCons_len (vCons_len vNil_len))) (exv_cons (ex_call (FnG.mono F_can_tell.run (by decide)) hgd hr F_can_tell.m F_can_tell.kp F_can_tell.b (exv_cons (ex_bin o_add (ex_tup (exv_cons (ex_ix (ex_var (pv 2)) (ex_int) (fun _ _ => rfl)) (exv_cons (ex_var (pv 10)) (exv_cons (ex_int) (exv_nil))))) (ex_slice (ex_var (pv 2)) (po1 (ex_int)) po0)) (exv_cons (ex_var (pv 6)) (exv_nil))) (vCons_len (vCons_len vNil_len))) (exv_nil))))) (bx_cons (sx_if (tx_not (tx_val (ex_call (FnG.mono F__law_same.run (by decide)) hgd hr F__law_same.m F__law_same.kp F__law_same.b (exv_cons (ex_var (pv 15)) (exv_cons (ex_lst (exv_cons (ex_bl) (exv_cons (ex_bl) (exv_nil)))) (exv_nil))) (vCons_len (vCons_len vNil_len))))) (bx_one (sx_ret (ex_bl))) (bx_nil)) (bx_one (sx_if (tx_of_wx (wx_and (tx_cmp o_gt (ex_var (pv 10)) (ex_int) (by rfl)) (wx_and1 (tx_cmp o_notB (ex_call (FnG.mono F_can_tell.run (by decide)) hgd hr F_can_tell.m F_can_tell.kp F_can_tell.b (exv_cons (ex_bin o_add (ex_tup (exv_cons (ex_ix (ex_var (pv 2)) (ex_int) (fun _ _ => rfl)) (exv_cons (ex_bin o_sub (ex_var (pv 10)) (ex_int)) (exv_cons (ex_int) (exv_nil))))) (ex_slice (ex_var (pv 2)) (po1 (ex_int)) po0)) (exv_cons (ex_var (pv 6)) (exv_nil))) (vCons_len (vCons_len vNil_len))) (ex_bl) (by rfl))))) (bx_one (sx_ret (ex_bl))) (bx_nil))))))))))))))))))) (bx_one (sx_ret (ex_bl)))
theorem ok_law {P : Program} {w : World} {K : PySem.W.Frag} {mg : Str → Option Value} {base : Heap} (Z : Facts K mg) : ∃ f fd, Ok P w K mg base 16 "law" ["_law_script"] s_law f fd F_law := by
  obtain ⟨f, fd, hm, FD⟩ := Z.d_law
  obtain ⟨f__law_box, d__law_box, F__law_box⟩ := ok__law_box (P := P) (w := w) (base := base) Z
  obtain ⟨f__law_right, d__law_right, F__law_right⟩ := ok__law_right (P := P) (w := w) (base := base) Z
  refine ⟨f, fd, hm, FD.kp, FD.bindsN (fun _ _ _ _ _ _ us hl => match us, hl with | [_], _ => rfl), FD, fnP_of (k := 15) (He5.fun_of FD) sc_law fun cdv A outer s H hgd hr0 => ⟨_, ?_, fun _ _ h => h⟩⟩
  have hr := hr0
  have hu := hr.units
  exact bx_one (sx_ret (ex_callB (c_all rfl) rfl Z.f_all bb_all (exs_cons (ex_lc rfl sc_law.nd (ix_range1 rfl Z.f_range (exs_cons (ex_bin o_add (ex_int) (ex_callB (c_min2 rfl) rfl Z.f_min bb_min (exs_cons (ex_int) (exs_cons (ex_callB c_len rfl Z.f_len bb_len (exs_cons (ex_var (pv 0)) (exs_nil))) (exs_nil))))) (exs_nil))) (own := [(("_law_k" : Str), 1)]) (blk_of rfl rfl) (by decide) (fun _ _ _ _ _ => gx_name (pg_name sc_law.nd rfl (.inl rfl))) (fun _ _ _ _ _ => pts0) (fun _ _ _ _ _ => ex_callT (FnG.mono F__law_right.run (by decide)) hgd hr F__law_right.m F__law_right.kp F__law_right.b (ex_call (FnG.mono F__law_box.run (by decide)) hgd hr F__law_box.m F__law_box.kp F__law_box.b (exv_cons (ex_var (pv 0)) (exv_cons (ex_var (pv 1)) (exv_nil))) (vCons_len (vCons_len vNil_len))) rfl)) (exs_nil))))
theorem fd_eq {K : PySem.W.Frag} {x qual : Str} {params : Arguments} {body : List Stmt} {scope : Scope} {f : Addr} {fd fd2 : FuncData} (a : FunD K x qual params body scope [] [] f fd) (b : FunD K x qual params body scope [] [] f fd2) : fd = fd2 := by
  obtain ⟨_, _, _, _, _, _, _, _, _, _, e1, l1, _⟩ := a.ex
  obtain ⟨_, _, _, _, _, _, _, _, _, _, e2, l2, _⟩ := b.ex
  rw [l1] at l2
  injection l2 with l2
  injection l2 with _ _ l2
  injection l2
end KL

end

section
/-! bodies of loops, by name -/
namespace KL
open PySem PySem.Spec PyProof.Rows L2 KV
def b_taken_up_0 : DenS := dSeq (dSet 5 (dLc [6, 7] (iEnumO (dCons (dVar 2) (dNil))) (gT (gsCons (gN 6) (gsCons (gN 7) (gsNil)))) (dB (dBin (dVar 7) (dVar 4) opLe)) (dVar 6))) (dSeq (dIf (dB (dBin (dCB (dCons (dVar 5) (dNil)) opLen) (dC (.int 0)) opGt)) (dDrop (dPop 2 (dBin (dVar 5) (dUn (dC (.int 1)) opNeg) opIx))) (dNext)) (dDrop (dApp 3 (dVar 4))))
def b_needs_servers_0 : DenS := dSet 3 (dCall F_taken_up (vCons (dVar 3) (vCons (dLc [5, 6] (iSeq (dVar 2)) (gT (gsCons (gN 5) (gsCons (gN 6) (gsNil)))) (dB (dBin (dVar 5) (dVar 4) opEq)) (dVar 6)) (vNil))))
def b__law_least_0 : DenS := dSeq (dSet 6 (dLc [8] (iR1 (dCons (dVar 3) (dNil))) (gN 8) (dB (dBin (dBin (dBin (dVar 1) (dVar 8) opIx) (dC (.int 1)) opIx) (dVar 5) opLt)) (dBin (dVar 2) (dVar 8) opIx))) (dDrop (dApp 2 (dBin (dC (.int 1)) (dCB (dCons (dBin (dVar 6) (dLst (vCons (dC (.int 0)) (vNil))) opAdd) (dNil)) opMaxL) opAdd)))
def b__law_zone_0 : DenS := dSeq (dSet 5 (dBin (dBin (dVar 5) (dC (.int 1)) opAdd) (dCallB G__law_take 0 (vCons (dC (.int 7)) (vNil))) opAdd)) (dSeq (dFor (iR1 (dCons (dBin (dC (.int 1)) (dCallB G__law_take 0 (vCons (dC (.int 2)) (vNil))) opAdd) (dNil))) (gN 8) (dSet 4 (dCallB G__law_changed 0 (vCons (dVar 4) (vNil))))) (dDrop (dApp 6 (dTup (vCons (dVar 5) (vCons (dVar 4) (vNil)))))))
def b__law_zone_1 : DenS := dSet 4 (dCallB G__law_changed 0 (vCons (dVar 4) (vNil)))
def b__law_walked_0 : DenS := dSeq (dSet 6 (dLc [7] (iSeq (dCall F__law_told_at (vCons (dVar 1) (vCons (dVar 5) (vNil))))) (gN 7) (dB (dBin (dVar 7) (dVar 4) opGe)) (dVar 7))) (dSeq (dSet 4 (dCallB G__law_pick 0 (vCons (dVar 6) (vNil)))) (dDrop (dApp 3 (dVar 4))))
def b__law_right_0 : DenS := dSeq (dSet 2 (dCallB G__law_zone 0 (vCons (dTup (vCons (dTup (vCons (dC (.int 1)) (vCons (dC (.int 0)) (vNil)))) (vNil))) (vCons (dC (.bool true)) (vCons (dC (.int 6)) (vNil)))))) (dSeq (dAsg (dTup (vCons (dBin (dBin (dSlice (dVar 2) none (some (dC (.int 3)))) (dTup (vCons (dBin (dC (.int 4)) (dCallB G__law_take 0 (vCons (dC (.int 5)) (vNil))) opAdd) (vNil))) opAdd) (dSlice (dVar 2) (some (dC (.int 4))) none) opAdd) (vCons (dBin (dC (.int 1)) (dCallB G__law_take 0 (vCons (dC (.int 3)) (vNil))) opAdd) (vNil)))) (gT (gsCons (gN 2) (gsCons (gN 3) (gsNil))))) (dSeq (dSet 4 (dBin (dBin (dBin (dBin (dBin (dVar 2) (dC (.int 0)) opIx) (dUn (dC (.int 1)) opNeg) opIx) (dC (.int 0)) opIx) (dBin (dVar 2) (dC (.int 3)) opIx) opAdd) (dC (.int 2)) opAdd)) (dSeq (dSet 5 (dLc [7] (iR1 (dCons (dVar 3) (dNil))) (gN 7) (tYesD) (dCallB G__law_walked 0 (vCons (dVar 2) (vCons (dVar 4) (vNil)))))) (dSeq (dSet 6 (dLst (vNil))) (dSeq (dFor (iR1 (dCons (dC (.int 14)) (dNil))) (gN 7) (dSeq (dPar 8 9 (vCons (dCallB G__law_take 0 (vCons (dVar 4) (vNil))) (vCons (dCallB G__law_pick 0 (vCons (dVar 5) (vNil))) (vNil)))) (dDrop (dApp 6 (dTup (vCons (dVar 8) (vCons (dBin (dVar 9) (dVar 8) opIx) (vNil)))))))) (dSeq (dSet 10 (dCall F_needs_servers (vCons (dVar 2) (vCons (dVar 6) (vNil))))) (dSeq (dIf (dOr (dNot (dB (dCall F__law_same (vCons (dVar 10) (vCons (dCall F__law_least (vCons (dVar 6) (vNil))) (vNil)))))) (dB (dBin (dVar 10) (dVar 3) opGt))) (dRet (dC (.bool false))) (dNext)) (dSeq (dFor (iR1 (dCons (dCB (dCons (dVar 6) (dNil)) opLen) (dNil))) (gN 11) (dSeq (dSet 12 (dCall F_needs_servers (vCons (dVar 2) (vCons (dBin (dSlice (dVar 6) none (some (dVar 11))) (dSlice (dVar 6) (some (dBin (dVar 11) (dC (.int 1)) opAdd)) none) opAdd) (vNil))))) (dIf (dOr (dNot (dB (dCall F__law_same (vCons (dVar 12) (vCons (dCall F__law_least (vCons (dBin (dSlice (dVar 6) none (some (dVar 11))) (dSlice (dVar 6) (some (dBin (dVar 11) (dC (.int 1)) opAdd)) none) opAdd) (vNil))) (vNil)))))) (dNot (dB (dCh (dBin (dVar 10) (dC (.int 1)) opSub) (dVar 12) (dVar 10) opLe opLe)))) (dRet (dC (.bool false))) (dNext)))) (dSeq (dSet 8 (dCallB G__law_take 0 (vCons (dVar 4) (vNil)))) (dSeq (dSet 13 (dBin (dVar 6) (dLst (vCons (dTup (vCons (dVar 8) (vCons (dCallB G__law_pick 0 (vCons (dCall F__law_told_at (vCons (dVar 2) (vCons (dVar 8) (vNil)))) (vNil))) (vNil)))) (vNil))) opAdd)) (dSeq (dSet 14 (dCall F_needs_servers (vCons (dVar 2) (vCons (dVar 13) (vNil))))) (dSeq (dIf (dOr (dNot (dB (dCall F__law_same (vCons (dVar 14) (vCons (dCall F__law_least (vCons (dVar 13) (vNil))) (vNil)))))) (dNot (dB (dCh (dVar 10) (dVar 14) (dBin (dVar 10) (dC (.int 1)) opAdd) opLe opLe)))) (dRet (dC (.bool false))) (dNext)) (dSeq (dSet 15 (dLst (vCons (dCall F_can_tell (vCons (dBin (dTup (vCons (dBin (dVar 2) (dC (.int 0)) opIx) (vCons (dVar 14) (vCons (dC (.int 1)) (vNil))))) (dSlice (dVar 2) (some (dC (.int 3))) none) opAdd) (vCons (dVar 13) (vNil)))) (vCons (dCall F_can_tell (vCons (dBin (dTup (vCons (dBin (dVar 2) (dC (.int 0)) opIx) (vCons (dVar 10) (vCons (dC (.int 1)) (vNil))))) (dSlice (dVar 2) (some (dC (.int 3))) none) opAdd) (vCons (dVar 6) (vNil)))) (vNil))))) (dSeq (dIf (dNot (dB (dCall F__law_same (vCons (dVar 15) (vCons (dLst (vCons (dC (.bool true)) (vCons (dC (.bool true)) (vNil)))) (vNil)))))) (dRet (dC (.bool false))) (dNext)) (dIf (dAnd (dB (dBin (dVar 10) (dC (.int 1)) opGt)) (dB (dBin (dCall F_can_tell (vCons (dBin (dTup (vCons (dBin (dVar 2) (dC (.int 0)) opIx) (vCons (dBin (dVar 10) (dC (.int 1)) opSub) (vCons (dC (.int 1)) (vNil))))) (dSlice (dVar 2) (some (dC (.int 3))) none) opAdd) (vCons (dVar 6) (vNil)))) (dC (.bool false)) opNotB))) (dRet (dC (.bool false))) (dNext))))))))))))))))
def b__law_right_1 : DenS := dSeq (dPar 8 9 (vCons (dCallB G__law_take 0 (vCons (dVar 4) (vNil))) (vCons (dCallB G__law_pick 0 (vCons (dVar 5) (vNil))) (vNil)))) (dDrop (dApp 6 (dTup (vCons (dVar 8) (vCons (dBin (dVar 9) (dVar 8) opIx) (vNil))))))
def b__law_right_2 : DenS := dSeq (dSet 12 (dCall F_needs_servers (vCons (dVar 2) (vCons (dBin (dSlice (dVar 6) none (some (dVar 11))) (dSlice (dVar 6) (some (dBin (dVar 11) (dC (.int 1)) opAdd)) none) opAdd) (vNil))))) (dIf (dOr (dNot (dB (dCall F__law_same (vCons (dVar 12) (vCons (dCall F__law_least (vCons (dBin (dSlice (dVar 6) none (some (dVar 11))) (dSlice (dVar 6) (some (dBin (dVar 11) (dC (.int 1)) opAdd)) none) opAdd) (vNil))) (vNil)))))) (dNot (dB (dCh (dBin (dVar 10) (dC (.int 1)) opSub) (dVar 12) (dVar 10) opLe opLe)))) (dRet (dC (.bool false))) (dNext))
end KL

end

section
local macro_rules | `(tactic| array_get_dec) => `(tactic| first
  | with_reducible refine KV.ws_seq ?_
  | with_reducible refine KV.ws_set ?_
  | with_reducible refine KV.ws_ret ?_
  | with_reducible refine KV.ws_asg ?_
  | with_reducible refine KV.ws_par' ?_
  | with_reducible refine KV.ws_parO ?_
  | with_reducible refine KV.wput2 ?_
  | with_reducible refine KV.ws_par3' ?_
  | with_reducible refine KV.ws_drop ?_
  | with_reducible refine KV.ws_setIx' ?_
  | ((with_reducible apply KV.wown); exact rfl)
  | ((with_reducible apply KV.wsi); exact rfl; exact rfl; (simp only [List.set_cons_zero, List.set_cons_succ]; try exact rfl))
  | with_reducible refine KV.ws_next ?_
  | with_reducible refine KV.ws_break ?_
  | with_reducible refine KV.wparp ?_
  | with_reducible refine KV.wparp3 ?_
  | with_reducible refine KV.wd_c ?_
  | with_reducible refine KV.wd_bin ?_
  | with_reducible refine KV.wd_un ?_
  | with_reducible refine KV.wd_cb ?_
  | with_reducible refine KV.wd_tup' ?_
  | with_reducible refine KV.wd_lst' ?_
  | with_reducible refine KV.wd_call ?_
  | with_reducible refine KV.wd_callK ?_
  | with_reducible refine KV.wd_callT ?_
  | with_reducible refine KV.wd_v ?_
  | with_reducible refine KV.wd_slice ?_
  | with_reducible refine KV.wd_isi ?_
  | with_reducible refine KV.wd_isi2 ?_
  | with_reducible refine KV.wst_val ?_
  | with_reducible refine KV.wst_tmp ?_
  | with_reducible refine KV.wst_slot ?_
  | with_reducible refine KV.wdr_val ?_
  | with_reducible refine KV.wdr_tmp ?_
  | with_reducible refine KV.wfz_val ?_
  | with_reducible refine KV.wfz_tmp ?_
  | with_reducible refine KV.wn_nil ?_
  | with_reducible refine KV.wn_cons ?_
  | with_reducible refine KV.wdrs_nil ?_
  | with_reducible refine KV.wdrs_cons ?_
  | with_reducible refine KV.wv_nil ?_
  | with_reducible refine KV.wv_cons ?_
  | with_reducible refine KV.wp_none ?_
  | with_reducible refine KV.wp_some ?_
  | with_reducible refine KV.wt_b ?_
  | with_reducible refine KV.wt_not ?_
  | with_reducible refine KV.wt_yes ?_
  | with_reducible refine KV.wgs_nil ?_
  | with_reducible refine KV.wgs_cons ?_
  | with_reducible refine KV.wg_tup ?_
  | with_reducible refine KV.wi_seq ?_
  | with_reducible refine KV.wsq_list ?_
  | with_reducible refine KV.wsq_tup ?_
  | ((with_reducible apply KV.wsq_own); exact rfl; (simp only [List.set_cons_zero, List.set_cons_succ]; try exact rfl))
  | ((with_reducible apply KV.wsq_lck); exact rfl)
  | with_reducible refine KV.wr_val ?_
  | with_reducible refine KV.wr_tmp ?_
  | with_reducible refine KV.wo_add ?_
  | with_reducible refine KV.wo_sub ?_
  | with_reducible refine KV.wo_neg ?_
  | with_reducible refine KV.wo_c ?_
  | with_reducible refine KV.wo_isN ?_
  | with_reducible refine KV.wo_notN ?_
  | with_reducible refine KV.wo_eqI ?_
  | with_reducible refine KV.wo_neI ?_
  | with_reducible refine KV.wo_eqNil ?_
  | with_reducible refine KV.wo_eqB ?_
  | with_reducible refine KV.wo_neB ?_
  | with_reducible refine KV.wo_neNil ?_
  | with_reducible refine KV.wo_inT ?_
  | with_reducible refine KV.wo_inL ?_
  | with_reducible refine KV.wo_notInT ?_
  | with_reducible refine KV.wo_notInL ?_
  | with_reducible refine KV.wo_srt ?_
  | with_reducible refine KV.wo_srtR ?_
  | with_reducible refine KV.wo_rev ?_
  | with_reducible refine KV.wo_lenL ?_
  | with_reducible refine KV.wo_lenT ?_
  | with_reducible refine KV.wo_intI ?_
  | with_reducible refine KV.wo_tupL ?_
  | with_reducible refine KV.wo_tupT ?_
  | with_reducible refine KV.wo_lstL ?_
  | with_reducible refine KV.wo_lstT ?_
  | ((with_reducible apply KV.wd_fz); exact rfl)
  | ((with_reducible apply KV.wd_own); exact rfl)
  | ((with_reducible apply KV.wd_lck); exact rfl)
  | ((with_reducible apply KV.wdr_fz); exact rfl)
  | ((with_reducible apply KV.wdr_own); exact rfl)
  | ((with_reducible apply KV.wdr_lck); exact rfl)
  | ((with_reducible apply KV.wfz_fz); exact rfl)
  | ((with_reducible apply KV.wfz_own); exact rfl; (simp only [List.set_cons_zero, List.set_cons_succ]; try exact rfl))
  | ((with_reducible apply KV.wput_v); exact rfl; (first | exact rfl | assumption); (simp only [List.set_cons_zero, List.set_cons_succ]; try exact rfl))
  | ((with_reducible apply KV.wput_t); exact rfl; (first | exact rfl | assumption); (simp only [List.set_cons_zero, List.set_cons_succ]; try exact rfl))
  | ((with_reducible apply KV.wg_nm); exact rfl; (first | exact rfl | assumption); (simp only [List.set_cons_zero, List.set_cons_succ]; try exact rfl))
  | ((with_reducible apply KV.wd_callB'); exact rfl)
  | ((with_reducible apply KV.wcb); exact rfl)
  | ((with_reducible apply KV.wd_app'); exact rfl)
  | ((with_reducible apply KV.wd_pop); exact rfl)
  | ((with_reducible apply KV.wapp); exact rfl; (simp only [List.set_cons_zero, List.set_cons_succ]; try exact rfl))
  | ((with_reducible apply KV.ws_gf_fz); exact rfl)
  | ((with_reducible apply KV.ws_gf_own'); exact rfl; (simp only [List.set_cons_zero, List.set_cons_succ]; try exact rfl))
  | ((with_reducible apply KV.wr_own); exact rfl)
  | ((with_reducible apply KV.wr_fz); exact rfl)
  | with_reducible refine KV.ws_if ?_
  | with_reducible refine KV.wd_if ?_
  | with_reducible refine KV.wt_and ?_
  | with_reducible refine KV.wt_or ?_
  | with_reducible refine KV.wd_chP ?_
  | with_reducible refine KV.wsame ?_
  | with_reducible refine KV.wi_r1' ?_
  | with_reducible refine KV.wi_r2' ?_
  | ((with_reducible apply KV.wrg); omega; omega)
  | ((with_reducible apply KV.wrg2); omega; omega; omega; omega; omega)
  | with_reducible refine KV.and_t ?_
  | with_reducible refine KV.and_f ?_
  | with_reducible refine KV.and_nt ?_
  | with_reducible refine KV.and_nf ?_
  | with_reducible refine KV.and_dec ?_
  | with_reducible refine KV.and_ndec ?_
  | with_reducible refine And.intro (fun hb => ?_) (fun hb => ?_)
  | ((with_reducible apply KV.wo_ixT); exact rfl)
  | ((with_reducible apply KV.wo_ixL); exact rfl)
  | ((with_reducible refine KV.wo_isT (b := true) ?_ ?_); exact rfl)
  | ((with_reducible refine KV.wo_isT (b := false) ?_ ?_); exact rfl)
  | ((with_reducible refine KV.wo_isT2 (b := true) ?_ ?_); exact rfl)
  | ((with_reducible refine KV.wo_isT2 (b := false) ?_ ?_); exact rfl)
  | ((with_reducible apply KV.wo_mul); omega)
  | ((with_reducible apply KV.wo_mod); omega)
  | ((with_reducible apply KV.wo_div); omega)
  | ((with_reducible apply KV.wo_addL); (simp only [List.length_append, List.length_cons, List.length_nil, List.length_map]; omega))
  | ((with_reducible apply KV.wo_addT); (simp only [List.length_append, List.length_cons, List.length_nil, List.length_map]; omega))
  | ((with_reducible refine And.intro ?_ (Nat.le_of_ble_eq_true rfl)))
  | with_reducible refine Exists.intro _ (And.intro rfl ?_)
  | fail "no step")
namespace KL
open PySem PySem.Spec PyProof.Rows L2 KV
/-- the law's box of draws after at most n of them -/
def BxI (n : Nat) (c : Ob) : Prop := ∃ x y i : Int, c = .lst [.int x, .int y, .int i] ∧ 0 ≤ x ∧ 0 ≤ y ∧ y < 4611686018427387904 ∧ 0 ≤ i ∧ i ≤ n
theorem BxI.mono {n m : Nat} {c : Ob} (h : BxI n c) (hm : n ≤ m) : BxI m c := by
  obtain ⟨x, y, i, e, a, b, d, f, g⟩ := h
  exact ⟨x, y, i, e, a, b, d, f, by omega⟩
theorem take_w {n : Nat} {c : Ob} (h : BxI n c) (hn : n ≤ 100000000) {m : Int} (hm : 0 < m ∧ m < 1000000000) : wB G__law_take c [.int m] fun z c' => ∃ d, z = .val (.int d) ∧ 0 ≤ d ∧ d < m ∧ BxI (n + 1) c' := by
  obtain ⟨x, y, i, rfl, hx, hy0, hy1, hi, hin⟩ := h
  have key : ∀ t : Int, 0 ≤ t % m ∧ t % m < m := fun t => ⟨Int.emod_nonneg _ (by omega), Int.emod_lt_of_pos _ hm.1⟩
  unfold G__law_take
  refine wb_run (r := [.own (.lst [.int x, .int y, .int i]), .fz (.int m), .un, .un, .un, .un]) rfl ?_
  unfold g__law_take
  repeat' array_get_dec
  · exact ⟨(key _).1, (key _).2, _, y, i, rfl, Int.ediv_nonneg hx (by omega), hy0, hy1, hi, by omega⟩
  · exact ⟨(key _).1, (key _).2, x, y, i + 1, rfl, hx, hy0, hy1, by omega, by omega⟩
theorem atI_in {xs : List PyData} {d : Int} (h0 : 0 ≤ d) (h1 : d < xs.length) : ∃ x, L2.atI xs d = some x ∧ x ∈ xs ∧ xs[d.toNat]? = some x := by
  have hl : d.toNat < xs.length := by omega
  refine ⟨xs[d.toNat], ?_, List.getElem_mem _, List.getElem?_eq_getElem hl⟩
  unfold L2.atI ixN
  rw [if_pos h0, if_pos h1, Option.bind_some, List.getElem?_eq_getElem hl]
theorem take_r {n : Nat} {c : Ob} (h : BxI n c) (hn : n ≤ 100000000) {m : Int} (hm : 0 < m ∧ m < 1000000000) {Q : KV.R → Ob → Prop} (k : ∀ d c', 0 ≤ d → d < m → BxI (n + 1) c' → Q (.val (.int d)) c') : wB G__law_take c [.int m] Q :=
  (take_w h hn hm).mono fun z c' ⟨d, e, h0, h1, hb⟩ => by subst e; exact k d c' h0 h1 hb
end KL
local macro_rules | `(tactic| array_get_dec) => `(tactic| ((with_reducible refine KL.take_r (by assumption) (by omega) (by omega) (fun d c h0 h1 hb => ?_)); (simp only [List.set_cons_zero, List.set_cons_succ])))
namespace KL
open PySem PySem.Spec PyProof.Rows L2 KV
theorem pick_w {n : Nat} {c : Ob} (h : BxI n c) (hn : n ≤ 100000000) {xs : List PyData} (hx : 0 < xs.length ∧ xs.length < 1000) : wB G__law_pick c [.list xs] fun z c' => ∃ x, x ∈ xs ∧ z = .val x ∧ BxI (n + 1) c' := by
  unfold G__law_pick
  refine wb_run (r := [.own c, .fz (.list xs)]) rfl ?_
  unfold g__law_pick
  repeat' array_get_dec
  obtain ⟨x, e, m, _⟩ := atI_in (by assumption) (by assumption)
  refine wo_ixL e ?_
  repeat' array_get_dec
  exact ⟨x, m, rfl, by assumption⟩
end KL
namespace KL
open PySem PySem.Spec PyProof.Rows L2 KV
theorem row_keys {ks : List (Int × Int)} (h : KeysOk 63 ks) : F__law_row [.list (ks.map keyD)] = some (.val (.tuple ((sortD ltK ks).map keyD))) := by
  refine wf_get ?_
  unfold F__law_row
  refine wf_run (r := [.fz (.list (ks.map keyD))]) rfl ?_
  unfold g__law_row
  repeat' array_get_dec
  refine wo_eq (ss_keys h) ?_
  repeat' array_get_dec
  rfl
theorem row_ints {ns : List Int} (h : ns.length ≤ 63) : F__law_row [.list (ns.map .int)] = some (.val (.tuple ((sortD ltI ns).map .int))) := by
  refine wf_get ?_
  unfold F__law_row
  refine wf_run (r := [.fz (.list (ns.map .int))]) rfl ?_
  unfold g__law_row
  repeat' array_get_dec
  refine wo_eq (opSS_int (by omega)) ?_
  repeat' array_get_dec
  rfl
theorem without_ints {ns : List Int} {k : Int} : F__law_without [.tuple (ns.map .int), .int k] = some (.val (.tuple ((ns.filter fun i => !decide (i = k)).map .int))) := by
  refine wf_get ?_
  unfold F__law_without
  refine wf_run (r := [.fz (.tuple (ns.map .int)), .fz (.int k), .un]) rfl ?_
  unfold g__law_without
  repeat' array_get_dec
  refine wd_lcf' ?_
  repeat' array_get_dec
  refine ⟨rfl, fun d => (match d with | .int i => !decide (i = k) | _ => false), id, fun d hd => ?_, ?_⟩
  · obtain ⟨i, _, rfl⟩ := List.mem_map.mp hd
    show wG _ _ [.fz (.tuple (ns.map .int)), .fz (.int k), .un] _
    repeat' array_get_dec
    refine ⟨rfl, fun _ => ?_, fun _ => rfl⟩
    repeat' array_get_dec
    exact ⟨rfl, rfl⟩
  · show wSt _ _ _
    rw [filter_map_int, List.map_id]
    repeat' array_get_dec
    rfl
theorem fst_keys {ks : List (Int × Int)} {p : Int × Int} : atI [PyData.int p.1, .int p.2] 0 = some (.int p.1) := rfl
theorem pick_r {n : Nat} {c : Ob} (h : BxI n c) (hn : n ≤ 100000000) {xs : List PyData} (hx : 0 < xs.length ∧ xs.length < 1000) {Q : KV.R → Ob → Prop} (k : ∀ x c', x ∈ xs → BxI (n + 1) c' → Q (.val x) c') : wB G__law_pick c [.list xs] Q :=
  (pick_w h hn hx).mono fun z c' ⟨x, m, e, hb⟩ => by subst e; exact k x c' m hb
theorem begin_w {n b : Nat} {c : Ob} (h : BxI n c) (hn : n ≤ 90000000) (hb : b ≤ 10) {ts : List (Int × Int)} (ht : KeysOk b ts) (last : Bool) : wB G__law_begin_of c [.tuple (ts.map keyD), .bool last] fun z c' => ∃ v, z = .val (verD v) ∧ VerOk (2 * b + 3) v ∧ (v.trust = none ↔ last = true) ∧ BxI (n + b + 4) c' := by
  unfold G__law_begin_of
  refine wb_run (r := [.own c, .fz (.tuple (ts.map keyD)), .fz (.bool last), .un, .un, .un, .un, .un]) rfl ?_
  unfold g__law_begin_of
  have tl := ht.1
  refine ws_cut (M := fun r1 => r1 = [.own c, .fz (.tuple (ts.map keyD)), .fz (.bool last), .own (.lst (ts.map keyD)), .un, .un, .un, .un]) ?_ ?_
  · repeat' array_get_dec
    rfl
  rintro _ rfl
  refine ws_cut (M := fun r1 => ∃ (ks : List (Int × Int)) (c' : Ob), r1 = [.own c', .fz (.tuple (ts.map keyD)), .fz (.bool last), .own (.lst (ks.map keyD)), .un, .un, .un, .un] ∧ KeysOk (b + 1) ks ∧ BxI (n + 2) c') ?_ ?_
  · repeat' array_get_dec
    · rename_i d _ _ _ _
      exact ⟨ts ++ [(9, d)], _, by rw [List.map_append]; rfl, ht.add ⟨(by decide : (0 : Int) ≤ 9), by assumption⟩, by assumption⟩
    · rw [sizeLine_eq, List.length_map]; omega
    · exact ⟨ts, _, rfl, ht.mono (by omega), (by assumption : BxI (n + 1) _).mono (by omega)⟩
  rintro _ ⟨ks, c1, rfl, hk, hb1⟩
  have kl := hk.1
  refine ws_cut (M := fun r1 => r1 = [.own c1, .fz (.tuple (ts.map keyD)), .fz (.bool last), .own (.lst (ks.map keyD)), .own (.lst ((ts.map (·.1)).map .int)), .un, .un, .un]) ?_ ?_
  · refine ws_set (wd_lcm ?_)
    repeat' array_get_dec
    refine ⟨rfl, fstD, fun d hd => ?_, ?_⟩
    · obtain ⟨p, _, rfl⟩ := List.mem_map.mp hd
      show wG _ _ [.own c1, .fz (.tuple (ts.map keyD)), .fz (.bool last), .own (.lst (ks.map keyD)), .un, .un, .un, .un] _
      unfold keyD
      repeat' array_get_dec
      exact ⟨rfl, rfl⟩
    · rw [map_fstD]
      show wPut _ _ [.own c1, .fz (.tuple (ts.map keyD)), .fz (.bool last), .own (.lst (ks.map keyD)), .un, .un, .un, .un] _
      repeat' array_get_dec
      rfl
  rintro _ rfl
  refine ws_cut (M := fun r1 => ∃ (ms : List Int) (c' : Ob), r1 = [.own c', .fz (.tuple (ts.map keyD)), .fz (.bool last), .own (.lst (ks.map keyD)), .own (.lst ((ts.map (·.1)).map .int)), .own (.lst (ms.map .int)), .un, .un] ∧ ms.length ≤ 2 * b + 1 ∧ BxI (n + b + 3) c') ?_ ?_
  · refine ws_set (wd_bin (wd_lc ?_))
    repeat' array_get_dec
    refine ⟨rfl, fun i acc r2 => ∃ (ms : List Int) (c' : Ob), acc = ms.map .int ∧ r2 = [.own c', .fz (.tuple (ts.map keyD)), .fz (.bool last), .lck (.lst (ks.map keyD)), .own (.lst ((ts.map (·.1)).map .int)), .un, .un, .un] ∧ ms.length ≤ i ∧ BxI (n + 2 + i) c', ⟨[], c1, rfl, rfl, Nat.le_refl _, hb1⟩, ?_, ?_⟩
    · rintro i d acc _ hd ⟨ms, c', rfl, rfl, hl, hbi⟩
      have hi : i < ks.length := by
        have := (List.getElem?_eq_some_iff.mp hd).1
        rwa [List.length_map] at this
      obtain ⟨p, _, rfl⟩ := List.mem_map.mp (List.mem_of_getElem? hd)
      unfold keyD
      repeat' array_get_dec
      · exact ⟨ms ++ [p.1], _, by rw [List.map_append]; rfl, rfl, by rw [List.length_append]; simp; omega, by assumption⟩
      · exact ⟨ms, _, rfl, rfl, by omega, by assumption⟩
    · rintro xs _ ⟨ms, c', rfl, rfl, hl, hbi⟩
      rw [List.length_map] at hl hbi
      show wSt _ [.own c', .fz (.tuple (ts.map keyD)), .fz (.bool last), .own (.lst (ks.map keyD)), .own (.lst ((ts.map (·.1)).map .int)), .un, .un, .un] _
      repeat' array_get_dec
      exact ⟨ms ++ ts.map (·.1), c', by rw [List.map_append], by rw [List.length_append, List.length_map]; omega, hbi.mono (by omega)⟩
  rintro _ ⟨ms, c2, rfl, hm, hb2⟩
  repeat' array_get_dec
  refine pick_r hb2 (by omega) (by simp) fun x c3 hx hb3 => ?_
  have hx2 : ∃ ws, x = .tuple (ws.map keyD) ∧ KeysOk 2 ws := by
    simp only [List.mem_cons, List.not_mem_nil, or_false] at hx
    rcases hx with rfl | rfl | rfl
    · exact ⟨[(1, 0)], rfl, by decide, by simp⟩
    · exact ⟨[(1, 0)], rfl, by decide, by simp⟩
    · exact ⟨[(1, 0), (2, 1)], rfl, by decide, by simp⟩
  obtain ⟨ws, rfl, hw⟩ := hx2
  simp only [List.set_cons_zero, List.set_cons_succ]
  refine wput_v rfl rfl (by simp only [List.set_cons_zero, List.set_cons_succ]; exact rfl) ?_
  refine ws_cut (M := fun r1 => ∃ tr : Option (List (Int × Int)), r1 = [.own c3, .fz (.tuple (ts.map keyD)), .fz (.bool last), .own (.lst (ks.map keyD)), .own (.lst ((ts.map (·.1)).map .int)), .own (.lst (ms.map .int)), .fz (belowD tr), .un] ∧ (∀ u, tr = some u → KeysOk 2 u) ∧ (tr = none ↔ last = true)) ?_ ?_
  · cases last
    · repeat' array_get_dec
      exact ⟨some ws, rfl, fun u e => (by cases e; exact hw), by simp⟩
    · repeat' array_get_dec
      exact ⟨none, rfl, fun u e => (by cases e), by simp⟩
  rintro _ ⟨tr, rfl, htr, hlast⟩
  repeat' array_get_dec
  refine wf_eq (row_keys (hk.mono (by omega))) ?_
  repeat' array_get_dec
  refine wf_eq (row_ints (by rw [List.length_map]; omega)) ?_
  repeat' array_get_dec
  refine wf_eq (row_ints (by omega)) ?_
  repeat' array_get_dec
  refine ⟨⟨sortD ltK ks, sortD ltI (ts.map (·.1)), tr, sortD ltI ms, []⟩, rfl, ⟨(hk.sort).mono (by omega), ?_, fun u e => (htr u e).mono (by omega), ?_, by simp⟩, hlast, hb3.mono (by omega)⟩
  · have := sortD_length ltI (ts.map (·.1)); rw [List.length_map] at this; show (sortD ltI (ts.map (·.1))).length ≤ 2 * b + 3; omega
  · have := sortD_length ltI ms; show (sortD ltI ms).length ≤ 2 * b + 3; omega
end KL
namespace KL
open PySem PySem.Spec PyProof.Rows L2 KV
theorem row_keys_add {ks : List (Int × Int)} {a b : Int} (h : KeysOk 62 ks) (ha : 0 ≤ a) (hb : 0 ≤ b) : F__law_row [.list (ks.map keyD ++ [.tuple [.int a, .int b]])] = some (.val (.tuple ((sortD ltK (ks ++ [(a, b)])).map keyD))) := by
  have := row_keys (h.add (p := (a, b)) ⟨ha, hb⟩)
  rw [List.map_append] at this
  exact this
theorem row_ints_add {ns : List Int} {a : Int} (h : ns.length ≤ 62) : F__law_row [.list (ns.map .int ++ [.int a])] = some (.val (.tuple ((sortD ltI (ns ++ [a])).map .int))) := by
  have := row_ints (ns := ns ++ [a]) (by rw [List.length_append]; simp; omega)
  rw [List.map_append] at this
  exact this
end KL

end

section
local macro_rules | `(tactic| array_get_dec) => `(tactic| first
  | with_reducible refine KV.ws_seq ?_
  | with_reducible refine KV.ws_set ?_
  | with_reducible refine KV.ws_ret ?_
  | with_reducible refine KV.ws_asg ?_
  | with_reducible refine KV.ws_par' ?_
  | with_reducible refine KV.ws_parO ?_
  | with_reducible refine KV.wput2 ?_
  | with_reducible refine KV.ws_par3' ?_
  | with_reducible refine KV.ws_drop ?_
  | with_reducible refine KV.ws_setIx' ?_
  | ((with_reducible apply KV.wown); exact rfl)
  | ((with_reducible apply KV.wsi); exact rfl; exact rfl; (simp only [List.set_cons_zero, List.set_cons_succ]; try exact rfl))
  | with_reducible refine KV.ws_next ?_
  | with_reducible refine KV.ws_break ?_
  | with_reducible refine KV.wparp ?_
  | with_reducible refine KV.wparp3 ?_
  | with_reducible refine KV.wd_c ?_
  | with_reducible refine KV.wd_bin ?_
  | with_reducible refine KV.wd_un ?_
  | with_reducible refine KV.wd_cb ?_
  | with_reducible refine KV.wd_tup' ?_
  | with_reducible refine KV.wd_lst' ?_
  | with_reducible refine KV.wd_call ?_
  | with_reducible refine KV.wd_callK ?_
  | with_reducible refine KV.wd_callT ?_
  | with_reducible refine KV.wd_v ?_
  | with_reducible refine KV.wd_slice ?_
  | with_reducible refine KV.wd_isi ?_
  | with_reducible refine KV.wd_isi2 ?_
  | with_reducible refine KV.wst_val ?_
  | with_reducible refine KV.wst_tmp ?_
  | with_reducible refine KV.wst_slot ?_
  | with_reducible refine KV.wdr_val ?_
  | with_reducible refine KV.wdr_tmp ?_
  | with_reducible refine KV.wfz_val ?_
  | with_reducible refine KV.wfz_tmp ?_
  | with_reducible refine KV.wn_nil ?_
  | with_reducible refine KV.wn_cons ?_
  | with_reducible refine KV.wdrs_nil ?_
  | with_reducible refine KV.wdrs_cons ?_
  | with_reducible refine KV.wv_nil ?_
  | with_reducible refine KV.wv_cons ?_
  | with_reducible refine KV.wp_none ?_
  | with_reducible refine KV.wp_some ?_
  | with_reducible refine KV.wt_b ?_
  | with_reducible refine KV.wt_not ?_
  | with_reducible refine KV.wt_yes ?_
  | with_reducible refine KV.wgs_nil ?_
  | with_reducible refine KV.wgs_cons ?_
  | with_reducible refine KV.wg_tup ?_
  | with_reducible refine KV.wi_seq ?_
  | with_reducible refine KV.wsq_list ?_
  | with_reducible refine KV.wsq_tup ?_
  | ((with_reducible apply KV.wsq_own); exact rfl; (simp only [List.set_cons_zero, List.set_cons_succ]; try exact rfl))
  | ((with_reducible apply KV.wsq_lck); exact rfl)
  | with_reducible refine KV.wr_val ?_
  | with_reducible refine KV.wr_tmp ?_
  | with_reducible refine KV.wo_add ?_
  | with_reducible refine KV.wo_sub ?_
  | with_reducible refine KV.wo_neg ?_
  | with_reducible refine KV.wo_c ?_
  | with_reducible refine KV.wo_isN ?_
  | with_reducible refine KV.wo_notN ?_
  | with_reducible refine KV.wo_eqI ?_
  | with_reducible refine KV.wo_neI ?_
  | with_reducible refine KV.wo_eqNil ?_
  | with_reducible refine KV.wo_eqB ?_
  | with_reducible refine KV.wo_neB ?_
  | with_reducible refine KV.wo_neNil ?_
  | with_reducible refine KV.wo_inT ?_
  | with_reducible refine KV.wo_inL ?_
  | with_reducible refine KV.wo_notInT ?_
  | with_reducible refine KV.wo_notInL ?_
  | with_reducible refine KV.wo_srt ?_
  | with_reducible refine KV.wo_srtR ?_
  | with_reducible refine KV.wo_rev ?_
  | with_reducible refine KV.wo_lenL ?_
  | with_reducible refine KV.wo_lenT ?_
  | with_reducible refine KV.wo_intI ?_
  | with_reducible refine KV.wo_tupL ?_
  | with_reducible refine KV.wo_tupT ?_
  | with_reducible refine KV.wo_lstL ?_
  | with_reducible refine KV.wo_lstT ?_
  | ((with_reducible apply KV.wd_fz); exact rfl)
  | ((with_reducible apply KV.wd_own); exact rfl)
  | ((with_reducible apply KV.wd_lck); exact rfl)
  | ((with_reducible apply KV.wdr_fz); exact rfl)
  | ((with_reducible apply KV.wdr_own); exact rfl)
  | ((with_reducible apply KV.wdr_lck); exact rfl)
  | ((with_reducible apply KV.wfz_fz); exact rfl)
  | ((with_reducible apply KV.wfz_own); exact rfl; (simp only [List.set_cons_zero, List.set_cons_succ]; try exact rfl))
  | ((with_reducible apply KV.wput_v); exact rfl; (first | exact rfl | assumption); (simp only [List.set_cons_zero, List.set_cons_succ]; try exact rfl))
  | ((with_reducible apply KV.wput_t); exact rfl; (first | exact rfl | assumption); (simp only [List.set_cons_zero, List.set_cons_succ]; try exact rfl))
  | ((with_reducible apply KV.wg_nm); exact rfl; (first | exact rfl | assumption); (simp only [List.set_cons_zero, List.set_cons_succ]; try exact rfl))
  | ((with_reducible apply KV.wd_callB'); exact rfl)
  | ((with_reducible apply KV.wcb); exact rfl)
  | ((with_reducible apply KV.wd_app'); exact rfl)
  | ((with_reducible apply KV.wd_pop); exact rfl)
  | ((with_reducible apply KV.wapp); exact rfl; (simp only [List.set_cons_zero, List.set_cons_succ]; try exact rfl))
  | ((with_reducible apply KV.ws_gf_fz); exact rfl)
  | ((with_reducible apply KV.ws_gf_own'); exact rfl; (simp only [List.set_cons_zero, List.set_cons_succ]; try exact rfl))
  | ((with_reducible apply KV.wr_own); exact rfl)
  | ((with_reducible apply KV.wr_fz); exact rfl)
  | with_reducible refine KV.ws_if ?_
  | with_reducible refine KV.wd_if ?_
  | with_reducible refine KV.wt_and ?_
  | with_reducible refine KV.wt_or ?_
  | with_reducible refine KV.wd_chP ?_
  | with_reducible refine KV.wsame ?_
  | with_reducible refine KV.wi_r1' ?_
  | with_reducible refine KV.wi_r2' ?_
  | ((with_reducible apply KV.wrg); omega; omega)
  | ((with_reducible apply KV.wrg2); omega; omega; omega; omega; omega)
  | with_reducible refine KV.and_t ?_
  | with_reducible refine KV.and_f ?_
  | with_reducible refine KV.and_nt ?_
  | with_reducible refine KV.and_nf ?_
  | with_reducible refine KV.and_dec ?_
  | with_reducible refine KV.and_ndec ?_
  | with_reducible refine And.intro (fun hb => ?_) (fun hb => ?_)
  | ((with_reducible apply KV.wo_ixT); exact rfl)
  | ((with_reducible apply KV.wo_ixL); exact rfl)
  | ((with_reducible refine KV.wo_isT (b := true) ?_ ?_); exact rfl)
  | ((with_reducible refine KV.wo_isT (b := false) ?_ ?_); exact rfl)
  | ((with_reducible refine KV.wo_isT2 (b := true) ?_ ?_); exact rfl)
  | ((with_reducible refine KV.wo_isT2 (b := false) ?_ ?_); exact rfl)
  | ((with_reducible apply KV.wo_mul); omega)
  | ((with_reducible apply KV.wo_mod); omega)
  | ((with_reducible apply KV.wo_div); omega)
  | ((with_reducible apply KV.wo_addL); (simp only [List.length_append, List.length_cons, List.length_nil, List.length_map]; omega))
  | ((with_reducible apply KV.wo_addT); (simp only [List.length_append, List.length_cons, List.length_nil, List.length_map]; omega))
  | ((with_reducible refine And.intro ?_ (Nat.le_of_ble_eq_true rfl)))
  | with_reducible refine Exists.intro _ (And.intro rfl ?_)
  | fail "no step")
local macro_rules | `(tactic| array_get_dec) => `(tactic| ((with_reducible refine KL.take_r (by assumption) (by omega) (by omega) (fun d c h0 h1 hb => ?_)); (simp only [List.set_cons_zero, List.set_cons_succ])))
local macro_rules | `(tactic| array_get_dec) => `(tactic| first
  | with_reducible refine KV.wf_eq (KL.row_keys_add (by assumption) (by omega) (by omega)) ?_
  | with_reducible refine KV.wf_eq (KL.row_ints_add (by omega)) ?_
  | with_reducible refine KV.wf_eq KL.without_ints ?_
  | fail "no step")
local macro_rules | `(tactic| array_get_dec) => `(tactic| first
  | with_reducible refine KV.wt_andP ?_
  | with_reducible refine KV.wt_orP ?_
  | fail "no step")
namespace KL
open PySem PySem.Spec PyProof.Rows L2 KV
theorem len_sadd {b : Nat} {ns : List Int} {a : Int} (h : ns.length ≤ b) : (sortD ltI (ns ++ [a])).length ≤ b + 1 := by
  have := sortD_length ltI (ns ++ [a])
  rw [List.length_append] at this
  simp at this
  omega
theorem len_fil {b : Nat} {ns : List Int} {p : Int → Bool} (h : ns.length ≤ b) : (ns.filter p).length ≤ b + 1 := by
  have := List.length_filter_le p ns
  omega
theorem ver_fin {n b : Nat} {c : Ob} {ks : List (Int × Int)} {hs ms gs : List Int} {tr tr0 : Option (List (Int × Int))} {x : KV.R} (e : x = .val (verD ⟨ks, hs, tr, ms, gs⟩)) (h1 : KeysOk b ks) (h2 : hs.length ≤ b) (h3 : ∀ ts, tr = some ts → KeysOk b ts) (h4 : ms.length ≤ b) (h5 : gs.length ≤ b) (h6 : tr = none ↔ tr0 = none) (h7 : BxI n c) :
    ∃ v', x = .val (verD v') ∧ VerOk b v' ∧ (v'.trust = none ↔ tr0 = none) ∧ BxI n c := ⟨_, e, ⟨h1, h2, h3, h4, h5⟩, h6, h7⟩
theorem changed_w {n b : Nat} {c : Ob} (h : BxI n c) (hn : n ≤ 90000000) (hb : b ≤ 60) {v : Ver} (hv : VerOk b v) : wB G__law_changed c [verD v] fun z c' => ∃ v', z = .val (verD v') ∧ VerOk (b + 1) v' ∧ (v'.trust = none ↔ v.trust = none) ∧ BxI (n + 3) c' := by
  obtain ⟨ks, hs, tr, ms, gs⟩ := v
  obtain ⟨hk, hh, ht, hm, hg⟩ := hv
  dsimp only at hk hh ht hm hg
  have hk62 : KeysOk 62 ks := hk.mono (by omega)
  have hkl := hk.1
  unfold G__law_changed verD
  dsimp only
  refine wb_run (r := [.own c, .fz (.tuple [.tuple (ks.map keyD), .tuple (hs.map .int), belowD tr, .tuple (ms.map .int), .tuple (gs.map .int)]), .un, .un, .un, .un, .un, .un, .un, .un, .un, .un, .un]) rfl ?_
  unfold g__law_changed
  repeat' array_get_dec
  rename_i d0 c0 hd0 hd1 hb0 way c1 hw0 hw1 hb1
  refine wd_lcf' ?_
  repeat' array_get_dec
  refine ⟨rfl, numIs (1 + d0), id, fun d hd => ?_, ?_⟩
  · obtain ⟨p, _, rfl⟩ := List.mem_map.mp hd
    simp only [wipeE, List.set_cons_zero, List.set_cons_succ]
    unfold keyD
    repeat' array_get_dec
    refine ⟨rfl, fun _ => ?_, fun _ => rfl⟩
    repeat' array_get_dec
    exact ⟨rfl, rfl⟩
  rw [filter_numIs]
  simp only [unlck]
  repeat' array_get_dec
  all_goals first
    | (refine ver_fin (tr := tr) rfl ?_ ?_ (fun ts e => (ht ts e).mono (by omega)) ?_ ?_ Iff.rfl ?_
       · first | exact hk.mono (by omega) | exact (hk.add ⟨by omega, by omega⟩).sort
       · first | exact len_sadd hh | exact len_fil hh | omega
       · first | exact len_sadd hm | exact len_fil hm | omega
       · first | exact len_sadd hg | exact len_fil hg | omega
       · first | exact hb1.mono (by omega) | exact BxI.mono (by assumption) (by omega))
    | skip
  · refine wd_lcf' ?_
    repeat' array_get_dec
    refine ⟨rfl, numNot (1 + d0), id, fun d hd => ?_, ?_⟩
    · obtain ⟨p, _, rfl⟩ := List.mem_map.mp hd
      simp only [wipeE, List.set_cons_zero, List.set_cons_succ]
      unfold keyD
      repeat' array_get_dec
      refine ⟨rfl, fun _ => ?_, fun _ => rfl⟩
      repeat' array_get_dec
      exact ⟨rfl, rfl⟩
    rw [filter_numNot]
    simp only [unlck]
    repeat' array_get_dec
    exact ver_fin (tr := tr) rfl ((hk.filter _).mono (by omega)) (by omega) (fun ts e => (ht ts e).mono (by omega)) (by omega) (len_fil hg) Iff.rfl (hb1.mono (by omega))
  · rename_i hno
    cases tr with
    | none => simp [belowD, KV.isNon] at hno
    | some ts =>
      have hts := ht ts rfl
      have hts62 : KeysOk 62 ts := hts.mono (by omega)
      have htl := hts.1
      unfold belowD
      dsimp only
      refine wd_lcf' ?_
      repeat' array_get_dec
      refine ⟨rfl, numNot (1 + d0), id, fun d hd => ?_, ?_⟩
      · obtain ⟨p, _, rfl⟩ := List.mem_map.mp hd
        simp only [wipeE, List.set_cons_zero, List.set_cons_succ]
        unfold keyD
        repeat' array_get_dec
        refine ⟨rfl, fun _ => ?_, fun _ => rfl⟩
        repeat' array_get_dec
        exact ⟨rfl, rfl⟩
      rw [filter_numNot]
      simp only [unlck]
      repeat' array_get_dec
      · exact ver_fin (tr := some (sortD ltK (ts ++ [_]))) rfl (hk.mono (by omega)) (by omega) (fun ts' e => by cases e; exact (hts.add ⟨by omega, by omega⟩).sort) (by omega) (by omega) (by simp) (BxI.mono (by assumption) (by omega))
      · exact ver_fin (tr := some (ts.filter fun p => !decide (p.1 = 1 + d0))) rfl (hk.mono (by omega)) (by omega) (fun ts' e => by cases e; exact (hts.filter _).mono (by omega)) (by omega) (by omega) (by simp) (hb1.mono (by omega))
end KL

end

section
local macro_rules | `(tactic| array_get_dec) => `(tactic| first
  | with_reducible refine KV.ws_seq ?_
  | with_reducible refine KV.ws_set ?_
  | with_reducible refine KV.ws_ret ?_
  | with_reducible refine KV.ws_asg ?_
  | with_reducible refine KV.ws_par' ?_
  | with_reducible refine KV.ws_parO ?_
  | with_reducible refine KV.wput2 ?_
  | with_reducible refine KV.ws_par3' ?_
  | with_reducible refine KV.ws_drop ?_
  | with_reducible refine KV.ws_setIx' ?_
  | ((with_reducible apply KV.wown); exact rfl)
  | ((with_reducible apply KV.wsi); exact rfl; exact rfl; (simp only [List.set_cons_zero, List.set_cons_succ]; try exact rfl))
  | with_reducible refine KV.ws_next ?_
  | with_reducible refine KV.ws_break ?_
  | with_reducible refine KV.wparp ?_
  | with_reducible refine KV.wparp3 ?_
  | with_reducible refine KV.wd_c ?_
  | with_reducible refine KV.wd_bin ?_
  | with_reducible refine KV.wd_un ?_
  | with_reducible refine KV.wd_cb ?_
  | with_reducible refine KV.wd_tup' ?_
  | with_reducible refine KV.wd_lst' ?_
  | with_reducible refine KV.wd_call ?_
  | with_reducible refine KV.wd_callK ?_
  | with_reducible refine KV.wd_callT ?_
  | with_reducible refine KV.wd_v ?_
  | with_reducible refine KV.wd_slice ?_
  | with_reducible refine KV.wd_isi ?_
  | with_reducible refine KV.wd_isi2 ?_
  | with_reducible refine KV.wst_val ?_
  | with_reducible refine KV.wst_tmp ?_
  | with_reducible refine KV.wst_slot ?_
  | with_reducible refine KV.wdr_val ?_
  | with_reducible refine KV.wdr_tmp ?_
  | with_reducible refine KV.wfz_val ?_
  | with_reducible refine KV.wfz_tmp ?_
  | with_reducible refine KV.wn_nil ?_
  | with_reducible refine KV.wn_cons ?_
  | with_reducible refine KV.wdrs_nil ?_
  | with_reducible refine KV.wdrs_cons ?_
  | with_reducible refine KV.wv_nil ?_
  | with_reducible refine KV.wv_cons ?_
  | with_reducible refine KV.wp_none ?_
  | with_reducible refine KV.wp_some ?_
  | with_reducible refine KV.wt_b ?_
  | with_reducible refine KV.wt_not ?_
  | with_reducible refine KV.wt_yes ?_
  | with_reducible refine KV.wgs_nil ?_
  | with_reducible refine KV.wgs_cons ?_
  | with_reducible refine KV.wg_tup ?_
  | with_reducible refine KV.wi_seq ?_
  | with_reducible refine KV.wsq_list ?_
  | with_reducible refine KV.wsq_tup ?_
  | ((with_reducible apply KV.wsq_own); exact rfl; (simp only [List.set_cons_zero, List.set_cons_succ]; try exact rfl))
  | ((with_reducible apply KV.wsq_lck); exact rfl)
  | with_reducible refine KV.wr_val ?_
  | with_reducible refine KV.wr_tmp ?_
  | with_reducible refine KV.wo_add ?_
  | with_reducible refine KV.wo_sub ?_
  | with_reducible refine KV.wo_neg ?_
  | with_reducible refine KV.wo_c ?_
  | with_reducible refine KV.wo_isN ?_
  | with_reducible refine KV.wo_notN ?_
  | with_reducible refine KV.wo_eqI ?_
  | with_reducible refine KV.wo_neI ?_
  | with_reducible refine KV.wo_eqNil ?_
  | with_reducible refine KV.wo_eqB ?_
  | with_reducible refine KV.wo_neB ?_
  | with_reducible refine KV.wo_neNil ?_
  | with_reducible refine KV.wo_inT ?_
  | with_reducible refine KV.wo_inL ?_
  | with_reducible refine KV.wo_notInT ?_
  | with_reducible refine KV.wo_notInL ?_
  | with_reducible refine KV.wo_srt ?_
  | with_reducible refine KV.wo_srtR ?_
  | with_reducible refine KV.wo_rev ?_
  | with_reducible refine KV.wo_lenL ?_
  | with_reducible refine KV.wo_lenT ?_
  | with_reducible refine KV.wo_intI ?_
  | with_reducible refine KV.wo_tupL ?_
  | with_reducible refine KV.wo_tupT ?_
  | with_reducible refine KV.wo_lstL ?_
  | with_reducible refine KV.wo_lstT ?_
  | ((with_reducible apply KV.wd_fz); exact rfl)
  | ((with_reducible apply KV.wd_own); exact rfl)
  | ((with_reducible apply KV.wd_lck); exact rfl)
  | ((with_reducible apply KV.wdr_fz); exact rfl)
  | ((with_reducible apply KV.wdr_own); exact rfl)
  | ((with_reducible apply KV.wdr_lck); exact rfl)
  | ((with_reducible apply KV.wfz_fz); exact rfl)
  | ((with_reducible apply KV.wfz_own); exact rfl; (simp only [List.set_cons_zero, List.set_cons_succ]; try exact rfl))
  | ((with_reducible apply KV.wput_v); exact rfl; (first | exact rfl | assumption); (simp only [List.set_cons_zero, List.set_cons_succ]; try exact rfl))
  | ((with_reducible apply KV.wput_t); exact rfl; (first | exact rfl | assumption); (simp only [List.set_cons_zero, List.set_cons_succ]; try exact rfl))
  | ((with_reducible apply KV.wg_nm); exact rfl; (first | exact rfl | assumption); (simp only [List.set_cons_zero, List.set_cons_succ]; try exact rfl))
  | ((with_reducible apply KV.wd_callB'); exact rfl)
  | ((with_reducible apply KV.wcb); exact rfl)
  | ((with_reducible apply KV.wd_app'); exact rfl)
  | ((with_reducible apply KV.wd_pop); exact rfl)
  | ((with_reducible apply KV.wapp); exact rfl; (simp only [List.set_cons_zero, List.set_cons_succ]; try exact rfl))
  | ((with_reducible apply KV.ws_gf_fz); exact rfl)
  | ((with_reducible apply KV.ws_gf_own'); exact rfl; (simp only [List.set_cons_zero, List.set_cons_succ]; try exact rfl))
  | ((with_reducible apply KV.wr_own); exact rfl)
  | ((with_reducible apply KV.wr_fz); exact rfl)
  | with_reducible refine KV.ws_if ?_
  | with_reducible refine KV.wd_if ?_
  | with_reducible refine KV.wt_and ?_
  | with_reducible refine KV.wt_or ?_
  | with_reducible refine KV.wd_chP ?_
  | with_reducible refine KV.wsame ?_
  | with_reducible refine KV.wi_r1' ?_
  | with_reducible refine KV.wi_r2' ?_
  | ((with_reducible apply KV.wrg); omega; omega)
  | ((with_reducible apply KV.wrg2); omega; omega; omega; omega; omega)
  | with_reducible refine KV.and_t ?_
  | with_reducible refine KV.and_f ?_
  | with_reducible refine KV.and_nt ?_
  | with_reducible refine KV.and_nf ?_
  | with_reducible refine KV.and_dec ?_
  | with_reducible refine KV.and_ndec ?_
  | with_reducible refine And.intro (fun hb => ?_) (fun hb => ?_)
  | ((with_reducible apply KV.wo_ixT); exact rfl)
  | ((with_reducible apply KV.wo_ixL); exact rfl)
  | ((with_reducible refine KV.wo_isT (b := true) ?_ ?_); exact rfl)
  | ((with_reducible refine KV.wo_isT (b := false) ?_ ?_); exact rfl)
  | ((with_reducible refine KV.wo_isT2 (b := true) ?_ ?_); exact rfl)
  | ((with_reducible refine KV.wo_isT2 (b := false) ?_ ?_); exact rfl)
  | ((with_reducible apply KV.wo_mul); omega)
  | ((with_reducible apply KV.wo_mod); omega)
  | ((with_reducible apply KV.wo_div); omega)
  | ((with_reducible apply KV.wo_addL); (simp only [List.length_append, List.length_cons, List.length_nil, List.length_map]; omega))
  | ((with_reducible apply KV.wo_addT); (simp only [List.length_append, List.length_cons, List.length_nil, List.length_map]; omega))
  | ((with_reducible refine And.intro ?_ (Nat.le_of_ble_eq_true rfl)))
  | with_reducible refine Exists.intro _ (And.intro rfl ?_)
  | fail "no step")
local macro_rules | `(tactic| array_get_dec) => `(tactic| ((with_reducible refine KL.take_r (by assumption) (by omega) (by omega) (fun d c h0 h1 hb => ?_)); (simp only [List.set_cons_zero, List.set_cons_succ])))
namespace KL
open PySem PySem.Spec PyProof.Rows L2 KV
theorem begin_r {n b : Nat} {c : Ob} (h : BxI n c) (hn : n ≤ 90000000) (hb : b ≤ 10) {ts : List (Int × Int)} (ht : KeysOk b ts) {last : Bool} {Q : KV.R → Ob → Prop} (k : ∀ v c', VOk (2 * b + 3) last v → BxI (n + b + 4) c' → Q (.val (verD v)) c') : wB G__law_begin_of c [.tuple (ts.map keyD), .bool last] Q :=
  (begin_w h hn hb ht last).mono fun z c' ⟨v, e, h1, h2, h3⟩ => by subst e; exact k v c' ⟨h1, h2⟩ h3
theorem changed_r {n b : Nat} {c : Ob} (h : BxI n c) (hn : n ≤ 90000000) (hb : b ≤ 60) {last : Bool} {v : Ver} (hv : VOk b last v) {Q : KV.R → Ob → Prop} (k : ∀ v' c', VOk (b + 1) last v' → BxI (n + 3) c' → Q (.val (verD v')) c') : wB G__law_changed c [verD v] Q :=
  (changed_w h hn hb hv.1).mono fun z c' ⟨v', e, h1, h2, h3⟩ => by subst e; exact k v' c' ⟨h1, h2.trans hv.2⟩ h3
theorem zone_w {n : Nat} {c : Ob} (h : BxI n c) (hn : n ≤ 80000000) {ts : List (Int × Int)} (ht : KeysOk 2 ts) (last : Bool) {many : Nat} (hm : 1 ≤ many ∧ many ≤ 10) : wB G__law_zone c [.tuple (ts.map keyD), .bool last, .int many] fun z c' => ∃ zn, z = .val (zoneD zn) ∧ ZnOk 30 last many zn ∧ BxI (n + 200) c' := by
  unfold G__law_zone
  refine wb_run (r := [.own c, .fz (.tuple (ts.map keyD)), .fz (.bool last), .fz (.int many), .un, .un, .un, .un, .un, .un, .un]) rfl ?_
  unfold g__law_zone
  refine ws_cut (M := fun r1 => ∃ (c' : Ob) (v : Ver), r1 = [.own c', .fz (.tuple (ts.map keyD)), .fz (.bool last), .fz (.int many), .fz (verD v), .fz (.int 0), .un, .un, .un, .un, .un] ∧ VOk 7 last v ∧ BxI (n + 6) c') ?_ ?_
  · repeat' array_get_dec
    refine begin_r h (by omega) (by omega) ht fun v c' hv hb => ?_
    simp only [List.set_cons_zero, List.set_cons_succ]
    repeat' array_get_dec
    exact ⟨c', v, rfl, hv, hb⟩
  rintro _ ⟨c1, v0, rfl, hv0, hb1⟩
  refine ws_cut (M := fun r1 => r1 = [.own c1, .fz (.tuple (ts.map keyD)), .fz (.bool last), .fz (.int many), .fz (verD v0), .fz (.int 0), .own (.lst ([(0, v0)].map lineD)), .un, .un, .un, .un]) ?_ ?_
  · repeat' array_get_dec
    rfl
  rintro _ rfl
  refine ws_cut (M := fun r1 => ∃ (c' : Ob) (v : Ver) (ln : List (Int × Ver)) (m : Int) (s7 s8 : Sl), r1 = [.own c', .fz (.tuple (ts.map keyD)), .fz (.bool last), .fz (.int many), .fz (verD v), .fz (.int m), .own (.lst (ln.map lineD)), s7, s8, .un, .un] ∧ nlk s7 = true ∧ nlk s8 = true ∧ ln.length ≤ many ∧ LnOk 30 last m ln ∧ m ≤ 7 * many ∧ BxI (n + 150) c') ?_ ?_
  · refine ws_forI ?_
    repeat' array_get_dec
    rename_i d c2 hd0 hd1 hb2
    refine ⟨rfl, fun i r1 => ∃ (c' : Ob) (v : Ver) (ln : List (Int × Ver)) (m : Int) (s7 s8 : Sl), r1 = [.own c', .fz (.tuple (ts.map keyD)), .fz (.bool last), .fz (.int many), .fz (verD v), .fz (.int m), .own (.lst (ln.map lineD)), s7, s8, .un, .un] ∧ nlk s7 = true ∧ nlk s8 = true ∧ ln.length = i + 1 ∧ LnOk (7 + 2 * i) last m ln ∧ VOk (7 + 2 * i) last v ∧ (0 ≤ m ∧ m ≤ 7 * i) ∧ BxI (n + 7 + 10 * i) c', ?_, ?_, ?_⟩
    · exact ⟨c2, v0, [(0, v0)], 0, .un, .un, rfl, rfl, rfl, rfl, LnOk.one hv0, hv0, by omega, hb2⟩
    · rintro i d _ hd ⟨c', v, ln, m, s7, s8, rfl, n7, n8, hl, hln, hv, hm0, hbi⟩
      obtain ⟨hi, rfl⟩ := range_at hd
      refine wg_nm rfl n7 (by simp only [List.set_cons_zero, List.set_cons_succ]; exact rfl) ?_
      refine ws_cut (M := fun r1 => ∃ (c' : Ob) (e : Int), r1 = [.own c', .fz (.tuple (ts.map keyD)), .fz (.bool last), .fz (.int many), .fz (verD v), .fz (.int (m + 1 + e)), .own (.lst (ln.map lineD)), .fz (.int i), s8, .un, .un] ∧ 0 ≤ e ∧ e < 7 ∧ BxI (n + 8 + 10 * i) c') ?_ ?_
      · repeat' array_get_dec
        exact ⟨_, _, rfl, by assumption, by assumption, BxI.mono (by assumption) (by omega)⟩
      rintro _ ⟨c3, e, rfl, he0, he1, hb3⟩
      refine ws_cut (M := fun r1 => ∃ (c' : Ob) (v' : Ver) (s8 : Sl), r1 = [.own c', .fz (.tuple (ts.map keyD)), .fz (.bool last), .fz (.int many), .fz (verD v'), .fz (.int (m + 1 + e)), .own (.lst (ln.map lineD)), .fz (.int i), s8, .un, .un] ∧ nlk s8 = true ∧ VOk (7 + 2 * (i + 1)) last v' ∧ BxI (n + 16 + 10 * i) c') ?_ ?_
      · refine ws_forI ?_
        repeat' array_get_dec
        rename_i d2 c4 hd20 hd21 hb4
        refine ⟨rfl, fun j r1 => ∃ (c' : Ob) (v' : Ver) (s8 : Sl), r1 = [.own c', .fz (.tuple (ts.map keyD)), .fz (.bool last), .fz (.int many), .fz (verD v'), .fz (.int (m + 1 + e)), .own (.lst (ln.map lineD)), .fz (.int i), s8, .un, .un] ∧ nlk s8 = true ∧ VOk (7 + 2 * i + j) last v' ∧ BxI (n + 9 + 10 * i + 3 * j) c', ?_, ?_, ?_⟩
        · exact ⟨c4, v, s8, rfl, n8, hv, hb4.mono (by omega)⟩
        · rintro j d3 _ hd3 ⟨c5, v5, s8', rfl, n8', hv5, hb5⟩
          obtain ⟨hj, rfl⟩ := range_at hd3
          refine wg_nm rfl n8' (by simp only [List.set_cons_zero, List.set_cons_succ]; exact rfl) ?_
          repeat' array_get_dec
          refine changed_r hb5 (by omega) (by omega) hv5 fun v' c' hv' hb' => ?_
          simp only [List.set_cons_zero, List.set_cons_succ]
          repeat' array_get_dec
          exact ⟨c', v', _, rfl, rfl, hv', hb'.mono (by omega)⟩
        · rintro _ ⟨c5, v5, s8', rfl, n8', hv5, hb5⟩
          rw [rangeD_length] at hv5 hb5
          exact ⟨c5, v5, s8', rfl, n8', ⟨hv5.1.mono (by omega), hv5.2⟩, hb5.mono (by omega)⟩
      rintro _ ⟨c6, v6, s8', rfl, n8', hv6, hb6⟩
      repeat' array_get_dec
      · refine ⟨c6, v6, ln ++ [(m + 1 + e, v6)], m + 1 + e, _, s8', by rw [List.map_append]; rfl, rfl, n8', by rw [List.length_append, hl]; rfl, (hln.mono (by omega)).add (by omega) hv6, hv6, by omega, hb6.mono (by omega)⟩
      · rw [sizeLine_eq, List.length_map]; omega
    · rintro _ ⟨c', v, ln, m, s7, s8, rfl, n7, n8, hl, hln, hv, hm0, hbi⟩
      rw [rangeD_length] at hl hln hv hm0 hbi
      exact ⟨c', v, ln, m, s7, s8, rfl, n7, n8, by omega, hln.mono (by omega), by omega, hbi.mono (by omega)⟩
  rintro _ ⟨c2, v2, ln, m, s7, s8, rfl, n7, n8, hl, hln, hm2, hb2⟩
  repeat' array_get_dec
  refine ⟨⟨ln, _, _, _, _, _⟩, rfl, ⟨hl, ⟨m, hln, hm2⟩, ?_, ?_, ?_, ?_, ?_⟩, BxI.mono (by assumption) (by omega)⟩
  all_goals dsimp only; omega
end KL

end

section
local macro_rules | `(tactic| array_get_dec) => `(tactic| first
  | with_reducible refine KV.ws_seq ?_
  | with_reducible refine KV.ws_set ?_
  | with_reducible refine KV.ws_ret ?_
  | with_reducible refine KV.ws_asg ?_
  | with_reducible refine KV.ws_par' ?_
  | with_reducible refine KV.ws_parO ?_
  | with_reducible refine KV.wput2 ?_
  | with_reducible refine KV.ws_par3' ?_
  | with_reducible refine KV.ws_drop ?_
  | with_reducible refine KV.ws_setIx' ?_
  | ((with_reducible apply KV.wown); exact rfl)
  | ((with_reducible apply KV.wsi); exact rfl; exact rfl; (simp only [List.set_cons_zero, List.set_cons_succ]; try exact rfl))
  | with_reducible refine KV.ws_next ?_
  | with_reducible refine KV.ws_break ?_
  | with_reducible refine KV.wparp ?_
  | with_reducible refine KV.wparp3 ?_
  | with_reducible refine KV.wd_c ?_
  | with_reducible refine KV.wd_bin ?_
  | with_reducible refine KV.wd_un ?_
  | with_reducible refine KV.wd_cb ?_
  | with_reducible refine KV.wd_tup' ?_
  | with_reducible refine KV.wd_lst' ?_
  | with_reducible refine KV.wd_call ?_
  | with_reducible refine KV.wd_callK ?_
  | with_reducible refine KV.wd_callT ?_
  | with_reducible refine KV.wd_v ?_
  | with_reducible refine KV.wd_slice ?_
  | with_reducible refine KV.wd_isi ?_
  | with_reducible refine KV.wd_isi2 ?_
  | with_reducible refine KV.wst_val ?_
  | with_reducible refine KV.wst_tmp ?_
  | with_reducible refine KV.wst_slot ?_
  | with_reducible refine KV.wdr_val ?_
  | with_reducible refine KV.wdr_tmp ?_
  | with_reducible refine KV.wfz_val ?_
  | with_reducible refine KV.wfz_tmp ?_
  | with_reducible refine KV.wn_nil ?_
  | with_reducible refine KV.wn_cons ?_
  | with_reducible refine KV.wdrs_nil ?_
  | with_reducible refine KV.wdrs_cons ?_
  | with_reducible refine KV.wv_nil ?_
  | with_reducible refine KV.wv_cons ?_
  | with_reducible refine KV.wp_none ?_
  | with_reducible refine KV.wp_some ?_
  | with_reducible refine KV.wt_b ?_
  | with_reducible refine KV.wt_not ?_
  | with_reducible refine KV.wt_yes ?_
  | with_reducible refine KV.wgs_nil ?_
  | with_reducible refine KV.wgs_cons ?_
  | with_reducible refine KV.wg_tup ?_
  | with_reducible refine KV.wi_seq ?_
  | with_reducible refine KV.wsq_list ?_
  | with_reducible refine KV.wsq_tup ?_
  | ((with_reducible apply KV.wsq_own); exact rfl; (simp only [List.set_cons_zero, List.set_cons_succ]; try exact rfl))
  | ((with_reducible apply KV.wsq_lck); exact rfl)
  | with_reducible refine KV.wr_val ?_
  | with_reducible refine KV.wr_tmp ?_
  | with_reducible refine KV.wo_add ?_
  | with_reducible refine KV.wo_sub ?_
  | with_reducible refine KV.wo_neg ?_
  | with_reducible refine KV.wo_c ?_
  | with_reducible refine KV.wo_isN ?_
  | with_reducible refine KV.wo_notN ?_
  | with_reducible refine KV.wo_eqI ?_
  | with_reducible refine KV.wo_neI ?_
  | with_reducible refine KV.wo_eqNil ?_
  | with_reducible refine KV.wo_eqB ?_
  | with_reducible refine KV.wo_neB ?_
  | with_reducible refine KV.wo_neNil ?_
  | with_reducible refine KV.wo_inT ?_
  | with_reducible refine KV.wo_inL ?_
  | with_reducible refine KV.wo_notInT ?_
  | with_reducible refine KV.wo_notInL ?_
  | with_reducible refine KV.wo_srt ?_
  | with_reducible refine KV.wo_srtR ?_
  | with_reducible refine KV.wo_rev ?_
  | with_reducible refine KV.wo_lenL ?_
  | with_reducible refine KV.wo_lenT ?_
  | with_reducible refine KV.wo_intI ?_
  | with_reducible refine KV.wo_tupL ?_
  | with_reducible refine KV.wo_tupT ?_
  | with_reducible refine KV.wo_lstL ?_
  | with_reducible refine KV.wo_lstT ?_
  | ((with_reducible apply KV.wd_fz); exact rfl)
  | ((with_reducible apply KV.wd_own); exact rfl)
  | ((with_reducible apply KV.wd_lck); exact rfl)
  | ((with_reducible apply KV.wdr_fz); exact rfl)
  | ((with_reducible apply KV.wdr_own); exact rfl)
  | ((with_reducible apply KV.wdr_lck); exact rfl)
  | ((with_reducible apply KV.wfz_fz); exact rfl)
  | ((with_reducible apply KV.wfz_own); exact rfl; (simp only [List.set_cons_zero, List.set_cons_succ]; try exact rfl))
  | ((with_reducible apply KV.wput_v); exact rfl; (first | exact rfl | assumption); (simp only [List.set_cons_zero, List.set_cons_succ]; try exact rfl))
  | ((with_reducible apply KV.wput_t); exact rfl; (first | exact rfl | assumption); (simp only [List.set_cons_zero, List.set_cons_succ]; try exact rfl))
  | ((with_reducible apply KV.wg_nm); exact rfl; (first | exact rfl | assumption); (simp only [List.set_cons_zero, List.set_cons_succ]; try exact rfl))
  | ((with_reducible apply KV.wd_callB'); exact rfl)
  | ((with_reducible apply KV.wcb); exact rfl)
  | ((with_reducible apply KV.wd_app'); exact rfl)
  | ((with_reducible apply KV.wd_pop); exact rfl)
  | ((with_reducible apply KV.wapp); exact rfl; (simp only [List.set_cons_zero, List.set_cons_succ]; try exact rfl))
  | ((with_reducible apply KV.ws_gf_fz); exact rfl)
  | ((with_reducible apply KV.ws_gf_own'); exact rfl; (simp only [List.set_cons_zero, List.set_cons_succ]; try exact rfl))
  | ((with_reducible apply KV.wr_own); exact rfl)
  | ((with_reducible apply KV.wr_fz); exact rfl)
  | with_reducible refine KV.ws_if ?_
  | with_reducible refine KV.wd_if ?_
  | with_reducible refine KV.wt_and ?_
  | with_reducible refine KV.wt_or ?_
  | with_reducible refine KV.wd_chP ?_
  | with_reducible refine KV.wsame ?_
  | with_reducible refine KV.wi_r1' ?_
  | with_reducible refine KV.wi_r2' ?_
  | ((with_reducible apply KV.wrg); omega; omega)
  | ((with_reducible apply KV.wrg2); omega; omega; omega; omega; omega)
  | with_reducible refine KV.and_t ?_
  | with_reducible refine KV.and_f ?_
  | with_reducible refine KV.and_nt ?_
  | with_reducible refine KV.and_nf ?_
  | with_reducible refine KV.and_dec ?_
  | with_reducible refine KV.and_ndec ?_
  | with_reducible refine And.intro (fun hb => ?_) (fun hb => ?_)
  | ((with_reducible apply KV.wo_ixT); exact rfl)
  | ((with_reducible apply KV.wo_ixL); exact rfl)
  | ((with_reducible refine KV.wo_isT (b := true) ?_ ?_); exact rfl)
  | ((with_reducible refine KV.wo_isT (b := false) ?_ ?_); exact rfl)
  | ((with_reducible refine KV.wo_isT2 (b := true) ?_ ?_); exact rfl)
  | ((with_reducible refine KV.wo_isT2 (b := false) ?_ ?_); exact rfl)
  | ((with_reducible apply KV.wo_mul); omega)
  | ((with_reducible apply KV.wo_mod); omega)
  | ((with_reducible apply KV.wo_div); omega)
  | ((with_reducible apply KV.wo_addL); (simp only [List.length_append, List.length_cons, List.length_nil, List.length_map]; omega))
  | ((with_reducible apply KV.wo_addT); (simp only [List.length_append, List.length_cons, List.length_nil, List.length_map]; omega))
  | ((with_reducible refine And.intro ?_ (Nat.le_of_ble_eq_true rfl)))
  | with_reducible refine Exists.intro _ (And.intro rfl ?_)
  | fail "no step")
local macro_rules | `(tactic| array_get_dec) => `(tactic| ((with_reducible refine KL.take_r (by assumption) (by omega) (by omega) (fun d c h0 h1 hb => ?_)); (simp only [List.set_cons_zero, List.set_cons_succ])))
local macro_rules | `(tactic| array_get_dec) => `(tactic| first
  | with_reducible refine KV.wt_andP ?_
  | with_reducible refine KV.wt_orP ?_
  | fail "no step")
namespace KL
open PySem PySem.Spec PyProof.Rows L2 KV
theorem zip_self {xs : List PyData} {e : PyData} (h : e ∈ zipD xs xs) : ∃ x ∈ xs, e = .tuple [x, x] := by
  obtain ⟨i, hi⟩ := List.getElem?_of_mem h
  obtain ⟨x, y, e1, e2, e3⟩ := zipD_get hi
  rw [e1] at e2
  cases e2
  exact ⟨x, List.mem_of_getElem? e1, e3⟩
theorem boolsOf_true (n : Nat) : boolsOf (List.replicate n (PyData.bool true)) = some (List.replicate n true) := by
  induction n with
  | zero => rfl
  | succ n ih => rw [List.replicate_succ]; show Option.map _ (boolsOf (List.replicate n (PyData.bool true))) = _; rw [ih]; rfl
theorem wo_allT {zs : List PyData} {QR : KV.R → Prop} (hz : ∀ z ∈ zs, z = .bool true) (h : QR (.val (.bool true))) : wO (opAll [.list zs]) QR := ⟨_, by
  have e : zs = List.replicate zs.length (PyData.bool true) := List.eq_replicate_iff.mpr ⟨rfl, hz⟩
  rw [e]
  show Option.map _ (boolsOf (List.replicate zs.length (PyData.bool true))) = _
  rw [boolsOf_true, Option.map_some]
  have : (List.replicate zs.length true).all id = true := by
    rw [List.all_eq_true]; intro x hx; exact (List.mem_replicate.mp hx).2
  rw [this], h⟩
theorem same_refl : ∀ (n : Nat) (d : PyData), okD n d = true → n ≤ 60 → Fz__law_same n [d, d] = some (.val (.bool true))
  | 0, _, h, _ => by simp [okD] at h
  | n + 1, d, h, hn => by
    refine wf_get ?_
    show wF (runP 4 (g__law_same (Fz__law_same n))) [d, d] _
    refine wf_run (r := [.fz d, .fz d, .un, .un]) rfl ?_
    unfold g__law_same
    cases d with
    | list xs =>
      obtain ⟨hl, hx⟩ := okD_list h
      repeat' array_get_dec
      all_goals try (rename_i hb; simp at hb; done)
      refine wd_lcm (wi_zipL ?_)
      repeat' array_get_dec
      refine ⟨xs, xs, rfl, hl, rfl, fun _ => .bool true, fun e he => ?_, ?_⟩
      · obtain ⟨x, mx, rfl⟩ := zip_self he
        simp only [wipeE, List.set_cons_zero, List.set_cons_succ]
        repeat' array_get_dec
        refine wf_eq (same_refl n x (hx x mx) (by omega)) ?_
        repeat' array_get_dec
        exact ⟨rfl, rfl⟩
      · simp only [unlck]
        repeat' array_get_dec
        refine wo_allT (fun z hz => by obtain ⟨_, _, e⟩ := List.mem_map.mp hz; exact e.symm) ?_
        repeat' array_get_dec
        simp
    | tuple xs =>
      obtain ⟨hl, hx⟩ := okD_tuple h
      repeat' array_get_dec
      all_goals try (rename_i hb; simp at hb; done)
      refine wd_lcm (wi_zipT ?_)
      repeat' array_get_dec
      refine ⟨xs, xs, rfl, hl, rfl, fun _ => .bool true, fun e he => ?_, ?_⟩
      · obtain ⟨x, mx, rfl⟩ := zip_self he
        simp only [wipeE, List.set_cons_zero, List.set_cons_succ]
        repeat' array_get_dec
        refine wf_eq (same_refl n x (hx x mx) (by omega)) ?_
        repeat' array_get_dec
        exact ⟨rfl, rfl⟩
      · simp only [unlck]
        repeat' array_get_dec
        refine wo_allT (fun z hz => by obtain ⟨_, _, e⟩ := List.mem_map.mp hz; exact e.symm) ?_
        repeat' array_get_dec
        simp
    | dict kvs => simp [okD] at h
    | none =>
      repeat' array_get_dec
      · refine wo_eqSame (n := 1) rfl (by decide) ?_
        repeat' array_get_dec
        rfl
      · rename_i hb; exact absurd hb (by simp [KV.isNon])
    | bool b =>
      repeat' array_get_dec
      · simp
      · rename_i hb; exact absurd hb (by simp [KV.isNon])
    | int i =>
      repeat' array_get_dec
      · rename_i hb; exact absurd hb (by simp [KV.isNon])
      · simp
    | str s =>
      repeat' array_get_dec
      · refine wo_eqSame (n := 1) rfl (by decide) ?_
        repeat' array_get_dec
        rfl
      · rename_i hb; exact absurd hb (by simp [KV.isNon])
end KL

end

section
local macro_rules | `(tactic| array_get_dec) => `(tactic| first
  | with_reducible refine KV.ws_seq ?_
  | with_reducible refine KV.ws_set ?_
  | with_reducible refine KV.ws_ret ?_
  | with_reducible refine KV.ws_asg ?_
  | with_reducible refine KV.ws_par' ?_
  | with_reducible refine KV.ws_parO ?_
  | with_reducible refine KV.wput2 ?_
  | with_reducible refine KV.ws_par3' ?_
  | with_reducible refine KV.ws_drop ?_
  | with_reducible refine KV.ws_setIx' ?_
  | ((with_reducible apply KV.wown); exact rfl)
  | ((with_reducible apply KV.wsi); exact rfl; exact rfl; (simp only [List.set_cons_zero, List.set_cons_succ]; try exact rfl))
  | with_reducible refine KV.ws_next ?_
  | with_reducible refine KV.ws_break ?_
  | with_reducible refine KV.wparp ?_
  | with_reducible refine KV.wparp3 ?_
  | with_reducible refine KV.wd_c ?_
  | with_reducible refine KV.wd_bin ?_
  | with_reducible refine KV.wd_un ?_
  | with_reducible refine KV.wd_cb ?_
  | with_reducible refine KV.wd_tup' ?_
  | with_reducible refine KV.wd_lst' ?_
  | with_reducible refine KV.wd_call ?_
  | with_reducible refine KV.wd_callK ?_
  | with_reducible refine KV.wd_callT ?_
  | with_reducible refine KV.wd_v ?_
  | with_reducible refine KV.wd_slice ?_
  | with_reducible refine KV.wd_isi ?_
  | with_reducible refine KV.wd_isi2 ?_
  | with_reducible refine KV.wst_val ?_
  | with_reducible refine KV.wst_tmp ?_
  | with_reducible refine KV.wst_slot ?_
  | with_reducible refine KV.wdr_val ?_
  | with_reducible refine KV.wdr_tmp ?_
  | with_reducible refine KV.wfz_val ?_
  | with_reducible refine KV.wfz_tmp ?_
  | with_reducible refine KV.wn_nil ?_
  | with_reducible refine KV.wn_cons ?_
  | with_reducible refine KV.wdrs_nil ?_
  | with_reducible refine KV.wdrs_cons ?_
  | with_reducible refine KV.wv_nil ?_
  | with_reducible refine KV.wv_cons ?_
  | with_reducible refine KV.wp_none ?_
  | with_reducible refine KV.wp_some ?_
  | with_reducible refine KV.wt_b ?_
  | with_reducible refine KV.wt_not ?_
  | with_reducible refine KV.wt_yes ?_
  | with_reducible refine KV.wgs_nil ?_
  | with_reducible refine KV.wgs_cons ?_
  | with_reducible refine KV.wg_tup ?_
  | with_reducible refine KV.wi_seq ?_
  | with_reducible refine KV.wsq_list ?_
  | with_reducible refine KV.wsq_tup ?_
  | ((with_reducible apply KV.wsq_own); exact rfl; (simp only [List.set_cons_zero, List.set_cons_succ]; try exact rfl))
  | ((with_reducible apply KV.wsq_lck); exact rfl)
  | with_reducible refine KV.wr_val ?_
  | with_reducible refine KV.wr_tmp ?_
  | with_reducible refine KV.wo_add ?_
  | with_reducible refine KV.wo_sub ?_
  | with_reducible refine KV.wo_neg ?_
  | with_reducible refine KV.wo_c ?_
  | with_reducible refine KV.wo_isN ?_
  | with_reducible refine KV.wo_notN ?_
  | with_reducible refine KV.wo_eqI ?_
  | with_reducible refine KV.wo_neI ?_
  | with_reducible refine KV.wo_eqNil ?_
  | with_reducible refine KV.wo_eqB ?_
  | with_reducible refine KV.wo_neB ?_
  | with_reducible refine KV.wo_neNil ?_
  | with_reducible refine KV.wo_inT ?_
  | with_reducible refine KV.wo_inL ?_
  | with_reducible refine KV.wo_notInT ?_
  | with_reducible refine KV.wo_notInL ?_
  | with_reducible refine KV.wo_srt ?_
  | with_reducible refine KV.wo_srtR ?_
  | with_reducible refine KV.wo_rev ?_
  | with_reducible refine KV.wo_lenL ?_
  | with_reducible refine KV.wo_lenT ?_
  | with_reducible refine KV.wo_intI ?_
  | with_reducible refine KV.wo_tupL ?_
  | with_reducible refine KV.wo_tupT ?_
  | with_reducible refine KV.wo_lstL ?_
  | with_reducible refine KV.wo_lstT ?_
  | ((with_reducible apply KV.wd_fz); exact rfl)
  | ((with_reducible apply KV.wd_own); exact rfl)
  | ((with_reducible apply KV.wd_lck); exact rfl)
  | ((with_reducible apply KV.wdr_fz); exact rfl)
  | ((with_reducible apply KV.wdr_own); exact rfl)
  | ((with_reducible apply KV.wdr_lck); exact rfl)
  | ((with_reducible apply KV.wfz_fz); exact rfl)
  | ((with_reducible apply KV.wfz_own); exact rfl; (simp only [List.set_cons_zero, List.set_cons_succ]; try exact rfl))
  | ((with_reducible apply KV.wput_v); exact rfl; (first | exact rfl | assumption); (simp only [List.set_cons_zero, List.set_cons_succ]; try exact rfl))
  | ((with_reducible apply KV.wput_t); exact rfl; (first | exact rfl | assumption); (simp only [List.set_cons_zero, List.set_cons_succ]; try exact rfl))
  | ((with_reducible apply KV.wg_nm); exact rfl; (first | exact rfl | assumption); (simp only [List.set_cons_zero, List.set_cons_succ]; try exact rfl))
  | ((with_reducible apply KV.wd_callB'); exact rfl)
  | ((with_reducible apply KV.wcb); exact rfl)
  | ((with_reducible apply KV.wd_app'); exact rfl)
  | ((with_reducible apply KV.wd_pop); exact rfl)
  | ((with_reducible apply KV.wapp); exact rfl; (simp only [List.set_cons_zero, List.set_cons_succ]; try exact rfl))
  | ((with_reducible apply KV.ws_gf_fz); exact rfl)
  | ((with_reducible apply KV.ws_gf_own'); exact rfl; (simp only [List.set_cons_zero, List.set_cons_succ]; try exact rfl))
  | ((with_reducible apply KV.wr_own); exact rfl)
  | ((with_reducible apply KV.wr_fz); exact rfl)
  | with_reducible refine KV.ws_if ?_
  | with_reducible refine KV.wd_if ?_
  | with_reducible refine KV.wt_and ?_
  | with_reducible refine KV.wt_or ?_
  | with_reducible refine KV.wd_chP ?_
  | with_reducible refine KV.wsame ?_
  | with_reducible refine KV.wi_r1' ?_
  | with_reducible refine KV.wi_r2' ?_
  | ((with_reducible apply KV.wrg); omega; omega)
  | ((with_reducible apply KV.wrg2); omega; omega; omega; omega; omega)
  | with_reducible refine KV.and_t ?_
  | with_reducible refine KV.and_f ?_
  | with_reducible refine KV.and_nt ?_
  | with_reducible refine KV.and_nf ?_
  | with_reducible refine KV.and_dec ?_
  | with_reducible refine KV.and_ndec ?_
  | with_reducible refine And.intro (fun hb => ?_) (fun hb => ?_)
  | ((with_reducible apply KV.wo_ixT); exact rfl)
  | ((with_reducible apply KV.wo_ixL); exact rfl)
  | ((with_reducible refine KV.wo_isT (b := true) ?_ ?_); exact rfl)
  | ((with_reducible refine KV.wo_isT (b := false) ?_ ?_); exact rfl)
  | ((with_reducible refine KV.wo_isT2 (b := true) ?_ ?_); exact rfl)
  | ((with_reducible refine KV.wo_isT2 (b := false) ?_ ?_); exact rfl)
  | ((with_reducible apply KV.wo_mul); omega)
  | ((with_reducible apply KV.wo_mod); omega)
  | ((with_reducible apply KV.wo_div); omega)
  | ((with_reducible apply KV.wo_addL); (simp only [List.length_append, List.length_cons, List.length_nil, List.length_map]; omega))
  | ((with_reducible apply KV.wo_addT); (simp only [List.length_append, List.length_cons, List.length_nil, List.length_map]; omega))
  | ((with_reducible refine And.intro ?_ (Nat.le_of_ble_eq_true rfl)))
  | with_reducible refine Exists.intro _ (And.intro rfl ?_)
  | fail "no step")
local macro_rules | `(tactic| array_get_dec) => `(tactic| ((with_reducible refine KL.take_r (by assumption) (by omega) (by omega) (fun d c h0 h1 hb => ?_)); (simp only [List.set_cons_zero, List.set_cons_succ])))
namespace KL
open PySem PySem.Spec PyProof.Rows L2 KV
section
variable {Z : PyData} {n : Nat} {ts : Nat → Int} {lag : Int}
theorem begin_of_ok (h : ZLike Z n ts lag) {v : Int} (h0 : 0 ≤ v) (h1 : v < n) : F_begin_of [Z, .int v] = some (.val (.int (ts v.toNat))) := by
  obtain ⟨⟨L, hL, hn, hE⟩, hz⟩ := h
  obtain ⟨E, e1, e2⟩ := hE v.toNat (by omega)
  rw [show ((v.toNat : Nat) : Int) = v by omega] at e1
  refine wf_get ?_
  unfold F_begin_of
  refine wf_run (r := [.fz Z, .fz (.int v)]) rfl ?_
  unfold g_begin_of
  repeat' array_get_dec
  refine wo_eq hL ?_
  repeat' array_get_dec
  refine wo_eq e1 ?_
  repeat' array_get_dec
  refine wo_eq e2 ?_
  repeat' array_get_dec
  rfl
theorem end_of_ok (h : ZLike Z n ts lag) {v : Int} (h0 : 0 ≤ v) (h1 : v < n) : F_end_of [Z, .int v] = some (.val (if v + 1 < n then .int (ts (v + 1).toNat + lag) else .none)) := by
  obtain ⟨⟨L, hL, hn, hE⟩, hz⟩ := h
  refine wf_get ?_
  unfold F_end_of
  refine wf_run (r := [.fz Z, .fz (.int v), .un, .un]) rfl ?_
  unfold g_end_of
  repeat' array_get_dec
  refine wo_eq hL ?_
  repeat' array_get_dec
  refine wo_eq hz ?_
  repeat' array_get_dec
  refine wo_eq hn ?_
  repeat' array_get_dec
  · rename_i hb
    obtain ⟨E, e1, e2⟩ := hE (v + 1).toNat (by omega)
    rw [show (((v + 1).toNat : Nat) : Int) = v + 1 by omega] at e1
    refine wo_eq e1 ?_
    repeat' array_get_dec
    refine wo_eq e2 ?_
    repeat' array_get_dec
    show KV.R.val _ = _
    rw [if_pos hb]
  · rename_i hb
    show KV.R.val _ = _
    rw [if_neg hb]
theorem may_tell_ok (h : ZLike Z n ts lag) (v t : Int) : F_may_tell [Z, .int v, .int t] = some (.val (.bool (tellB n ts lag v t))) := by
  have h' := h
  obtain ⟨⟨L, hL, hn, hE⟩, hz⟩ := h'
  refine wf_get ?_
  unfold F_may_tell
  refine wf_run (r := [.fz Z, .fz (.int v), .fz (.int t), .un]) rfl ?_
  unfold g_may_tell
  repeat' array_get_dec
  refine wo_eq hL ?_
  repeat' array_get_dec
  refine wo_eq hn ?_
  repeat' array_get_dec
  · rename_i hb
    show KV.R.val _ = _
    unfold tellB
    rw [decide_eq_false]
    simp at hb
    omega
  · rename_i hb
    simp at hb
    refine wf_eq (begin_of_ok h hb.1 hb.2) ?_
    repeat' array_get_dec
    · rename_i hc
      show KV.R.val _ = _
      unfold tellB
      rw [decide_eq_false]
      omega
    · rename_i hc
      refine wf_eq (end_of_ok h hb.1 hb.2) ?_
      by_cases hv : v + 1 < n
      · rw [if_pos hv]
        repeat' array_get_dec
        · rename_i hx; simp [KV.isNon] at hx
        · show KV.R.val _ = _
          unfold tellB
          congr 2
          refine decide_eq_decide.mpr ⟨fun hx => ⟨hb.1, hb.2, by omega, fun _ => hx⟩, fun hx => hx.2.2.2 hv⟩
      · rw [if_neg hv]
        repeat' array_get_dec
        · show KV.R.val _ = _
          unfold tellB
          congr 2
          exact (decide_eq_true ⟨hb.1, hb.2, by omega, fun hx => absurd hx hv⟩).symm
        · rename_i hx; simp [KV.isNon] at hx
theorem law_told_ok (h : ZLike Z n ts lag) {v : Int} (h0 : 0 ≤ v) (h1 : v < n) (t : Int) : F__law_told [Z, .int v, .int t] = some (.val (.bool (tellB n ts lag v t))) := by
  have h' := h
  obtain ⟨⟨L, hL, hn, hE⟩, hz⟩ := h'
  obtain ⟨E, e1, e2⟩ := hE v.toNat (by omega)
  rw [show ((v.toNat : Nat) : Int) = v by omega] at e1
  refine wf_get ?_
  unfold F__law_told
  refine wf_run (r := [.fz Z, .fz (.int v), .fz (.int t), .un]) rfl ?_
  unfold g__law_told
  repeat' array_get_dec
  refine wo_eq hL ?_
  repeat' array_get_dec
  refine wo_eq e1 ?_
  repeat' array_get_dec
  refine wo_eq e2 ?_
  repeat' array_get_dec
  · rename_i hc
    show KV.R.val _ = _
    unfold tellB
    rw [decide_eq_false]
    omega
  · rename_i hc
    refine wo_eq hn ?_
    repeat' array_get_dec
    · rename_i hv
      show KV.R.val _ = _
      unfold tellB
      congr 2
      exact (decide_eq_true ⟨h0, h1, by omega, fun hx => by omega⟩).symm
    · rename_i hv
      obtain ⟨E', e3, e4⟩ := hE (v + 1).toNat (by omega)
      rw [show (((v + 1).toNat : Nat) : Int) = v + 1 by omega] at e3
      refine wo_eq e3 ?_
      repeat' array_get_dec
      refine wo_eq e4 ?_
      repeat' array_get_dec
      refine wo_eq hz ?_
      repeat' array_get_dec
      show KV.R.val _ = _
      unfold tellB
      congr 2
      refine decide_eq_decide.mpr ⟨fun hx => ⟨h0, h1, by omega, fun _ => hx⟩, fun hx => hx.2.2.2 (by omega)⟩
/-- the numbers that may be told -/
def toldD (n : Nat) (ts : Nat → Int) (lag t : Int) : List PyData := (rangeD 0 n).filter fun d => match d with | .int v => tellB n ts lag v t | _ => false
theorem law_told_at_ok (h : ZLike Z n ts lag) (hn : n ≤ 1000) (t : Int) : F__law_told_at [Z, .int t] = some (.tmp (.lst (toldD n ts lag t))) := by
  have h' := h
  obtain ⟨⟨L, hL, hl, hE⟩, hz⟩ := h'
  refine wf_get ?_
  unfold F__law_told_at
  refine wf_run (r := [.fz Z, .fz (.int t), .un]) rfl ?_
  unfold g__law_told_at
  refine ws_ret (wd_lcf' ?_)
  repeat' array_get_dec
  refine wo_eq hL ?_
  repeat' array_get_dec
  refine wo_eq hl ?_
  repeat' array_get_dec
  refine ⟨rfl, fun d => (match d with | .int v => tellB n ts lag v t | _ => false), id, fun d hd => ?_, ?_⟩
  · obtain ⟨i, hi⟩ := List.getElem?_of_mem hd
    obtain ⟨hin, rfl⟩ := range_at hi
    simp only [wipeE, List.set_cons_zero, List.set_cons_succ]
    repeat' array_get_dec
    refine wf_eq (law_told_ok h (by omega) (by omega) t) ?_
    repeat' array_get_dec
    refine ⟨rfl, fun _ => ?_, fun _ => rfl⟩
    repeat' array_get_dec
    exact ⟨rfl, rfl⟩
  · rw [List.map_id]; exact ⟨_, rfl, rfl⟩
end
end KL

end

section
local macro_rules | `(tactic| array_get_dec) => `(tactic| first
  | with_reducible refine KV.ws_seq ?_
  | with_reducible refine KV.ws_set ?_
  | with_reducible refine KV.ws_ret ?_
  | with_reducible refine KV.ws_asg ?_
  | with_reducible refine KV.ws_par' ?_
  | with_reducible refine KV.ws_parO ?_
  | with_reducible refine KV.wput2 ?_
  | with_reducible refine KV.ws_par3' ?_
  | with_reducible refine KV.ws_drop ?_
  | with_reducible refine KV.ws_setIx' ?_
  | ((with_reducible apply KV.wown); exact rfl)
  | ((with_reducible apply KV.wsi); exact rfl; exact rfl; (simp only [List.set_cons_zero, List.set_cons_succ]; try exact rfl))
  | with_reducible refine KV.ws_next ?_
  | with_reducible refine KV.ws_break ?_
  | with_reducible refine KV.wparp ?_
  | with_reducible refine KV.wparp3 ?_
  | with_reducible refine KV.wd_c ?_
  | with_reducible refine KV.wd_bin ?_
  | with_reducible refine KV.wd_un ?_
  | with_reducible refine KV.wd_cb ?_
  | with_reducible refine KV.wd_tup' ?_
  | with_reducible refine KV.wd_lst' ?_
  | with_reducible refine KV.wd_call ?_
  | with_reducible refine KV.wd_callK ?_
  | with_reducible refine KV.wd_callT ?_
  | with_reducible refine KV.wd_v ?_
  | with_reducible refine KV.wd_slice ?_
  | with_reducible refine KV.wd_isi ?_
  | with_reducible refine KV.wd_isi2 ?_
  | with_reducible refine KV.wst_val ?_
  | with_reducible refine KV.wst_tmp ?_
  | with_reducible refine KV.wst_slot ?_
  | with_reducible refine KV.wdr_val ?_
  | with_reducible refine KV.wdr_tmp ?_
  | with_reducible refine KV.wfz_val ?_
  | with_reducible refine KV.wfz_tmp ?_
  | with_reducible refine KV.wn_nil ?_
  | with_reducible refine KV.wn_cons ?_
  | with_reducible refine KV.wdrs_nil ?_
  | with_reducible refine KV.wdrs_cons ?_
  | with_reducible refine KV.wv_nil ?_
  | with_reducible refine KV.wv_cons ?_
  | with_reducible refine KV.wp_none ?_
  | with_reducible refine KV.wp_some ?_
  | with_reducible refine KV.wt_b ?_
  | with_reducible refine KV.wt_not ?_
  | with_reducible refine KV.wt_yes ?_
  | with_reducible refine KV.wgs_nil ?_
  | with_reducible refine KV.wgs_cons ?_
  | with_reducible refine KV.wg_tup ?_
  | with_reducible refine KV.wi_seq ?_
  | with_reducible refine KV.wsq_list ?_
  | with_reducible refine KV.wsq_tup ?_
  | ((with_reducible apply KV.wsq_own); exact rfl; (simp only [List.set_cons_zero, List.set_cons_succ]; try exact rfl))
  | ((with_reducible apply KV.wsq_lck); exact rfl)
  | with_reducible refine KV.wr_val ?_
  | with_reducible refine KV.wr_tmp ?_
  | with_reducible refine KV.wo_add ?_
  | with_reducible refine KV.wo_sub ?_
  | with_reducible refine KV.wo_neg ?_
  | with_reducible refine KV.wo_c ?_
  | with_reducible refine KV.wo_isN ?_
  | with_reducible refine KV.wo_notN ?_
  | with_reducible refine KV.wo_eqI ?_
  | with_reducible refine KV.wo_neI ?_
  | with_reducible refine KV.wo_eqNil ?_
  | with_reducible refine KV.wo_eqB ?_
  | with_reducible refine KV.wo_neB ?_
  | with_reducible refine KV.wo_neNil ?_
  | with_reducible refine KV.wo_inT ?_
  | with_reducible refine KV.wo_inL ?_
  | with_reducible refine KV.wo_notInT ?_
  | with_reducible refine KV.wo_notInL ?_
  | with_reducible refine KV.wo_srt ?_
  | with_reducible refine KV.wo_srtR ?_
  | with_reducible refine KV.wo_rev ?_
  | with_reducible refine KV.wo_lenL ?_
  | with_reducible refine KV.wo_lenT ?_
  | with_reducible refine KV.wo_intI ?_
  | with_reducible refine KV.wo_tupL ?_
  | with_reducible refine KV.wo_tupT ?_
  | with_reducible refine KV.wo_lstL ?_
  | with_reducible refine KV.wo_lstT ?_
  | ((with_reducible apply KV.wd_fz); exact rfl)
  | ((with_reducible apply KV.wd_own); exact rfl)
  | ((with_reducible apply KV.wd_lck); exact rfl)
  | ((with_reducible apply KV.wdr_fz); exact rfl)
  | ((with_reducible apply KV.wdr_own); exact rfl)
  | ((with_reducible apply KV.wdr_lck); exact rfl)
  | ((with_reducible apply KV.wfz_fz); exact rfl)
  | ((with_reducible apply KV.wfz_own); exact rfl; (simp only [List.set_cons_zero, List.set_cons_succ]; try exact rfl))
  | ((with_reducible apply KV.wput_v); exact rfl; (first | exact rfl | assumption); (simp only [List.set_cons_zero, List.set_cons_succ]; try exact rfl))
  | ((with_reducible apply KV.wput_t); exact rfl; (first | exact rfl | assumption); (simp only [List.set_cons_zero, List.set_cons_succ]; try exact rfl))
  | ((with_reducible apply KV.wg_nm); exact rfl; (first | exact rfl | assumption); (simp only [List.set_cons_zero, List.set_cons_succ]; try exact rfl))
  | ((with_reducible apply KV.wd_callB'); exact rfl)
  | ((with_reducible apply KV.wcb); exact rfl)
  | ((with_reducible apply KV.wd_app'); exact rfl)
  | ((with_reducible apply KV.wd_pop); exact rfl)
  | ((with_reducible apply KV.wapp); exact rfl; (simp only [List.set_cons_zero, List.set_cons_succ]; try exact rfl))
  | ((with_reducible apply KV.ws_gf_fz); exact rfl)
  | ((with_reducible apply KV.ws_gf_own'); exact rfl; (simp only [List.set_cons_zero, List.set_cons_succ]; try exact rfl))
  | ((with_reducible apply KV.wr_own); exact rfl)
  | ((with_reducible apply KV.wr_fz); exact rfl)
  | with_reducible refine KV.ws_if ?_
  | with_reducible refine KV.wd_if ?_
  | with_reducible refine KV.wt_and ?_
  | with_reducible refine KV.wt_or ?_
  | with_reducible refine KV.wd_chP ?_
  | with_reducible refine KV.wsame ?_
  | with_reducible refine KV.wi_r1' ?_
  | with_reducible refine KV.wi_r2' ?_
  | ((with_reducible apply KV.wrg); omega; omega)
  | ((with_reducible apply KV.wrg2); omega; omega; omega; omega; omega)
  | with_reducible refine KV.and_t ?_
  | with_reducible refine KV.and_f ?_
  | with_reducible refine KV.and_nt ?_
  | with_reducible refine KV.and_nf ?_
  | with_reducible refine KV.and_dec ?_
  | with_reducible refine KV.and_ndec ?_
  | with_reducible refine And.intro (fun hb => ?_) (fun hb => ?_)
  | ((with_reducible apply KV.wo_ixT); exact rfl)
  | ((with_reducible apply KV.wo_ixL); exact rfl)
  | ((with_reducible refine KV.wo_isT (b := true) ?_ ?_); exact rfl)
  | ((with_reducible refine KV.wo_isT (b := false) ?_ ?_); exact rfl)
  | ((with_reducible refine KV.wo_isT2 (b := true) ?_ ?_); exact rfl)
  | ((with_reducible refine KV.wo_isT2 (b := false) ?_ ?_); exact rfl)
  | ((with_reducible apply KV.wo_mul); omega)
  | ((with_reducible apply KV.wo_mod); omega)
  | ((with_reducible apply KV.wo_div); omega)
  | ((with_reducible apply KV.wo_addL); (simp only [List.length_append, List.length_cons, List.length_nil, List.length_map]; omega))
  | ((with_reducible apply KV.wo_addT); (simp only [List.length_append, List.length_cons, List.length_nil, List.length_map]; omega))
  | ((with_reducible refine And.intro ?_ (Nat.le_of_ble_eq_true rfl)))
  | with_reducible refine Exists.intro _ (And.intro rfl ?_)
  | fail "no step")
local macro_rules | `(tactic| array_get_dec) => `(tactic| ((with_reducible refine KL.take_r (by assumption) (by omega) (by omega) (fun d c h0 h1 hb => ?_)); (simp only [List.set_cons_zero, List.set_cons_succ])))
namespace KL
open PySem PySem.Spec PyProof.Rows L2 KV
def timeAt (ln : List (Int × Ver)) (i : Nat) : Int := match ln[i]? with
  | some p => p.1
  | none => 0
theorem atI_nat' {xs : List PyData} {i : Nat} {x : PyData} (h : xs[i]? = some x) : atI xs (i : Int) = some x := by
  have hl := (List.getElem?_eq_some_iff.mp h).1
  unfold L2.atI ixN
  rw [if_pos (by omega), if_pos (by omega), Option.bind_some]
  exact h
theorem atI_last {xs : List PyData} {x : PyData} : atI (xs ++ [x]) (-1) = some x := by
  unfold L2.atI ixN
  rw [if_neg (by decide), List.length_append, List.length_singleton, if_pos (by omega), Option.bind_some]
  have e : (-1 + ((xs.length + 1 : Nat) : Int)).toNat = xs.length := by omega
  rw [e, List.getElem?_append_right (Nat.le_refl _), Nat.sub_self]; rfl
theorem zlike_zone (z : Zn) : ZLike (zoneD z) z.line.length (timeAt z.line) z.lag where
  z0 := ⟨.tuple (z.line.map lineD), rfl, by show some (KV.R.val (.int ((z.line.map lineD).length : Nat))) = _; rw [List.length_map], fun i hi => by
    have e : (z.line.map lineD)[i]? = some (lineD z.line[i]) := by rw [List.getElem?_map, List.getElem?_eq_getElem hi]; rfl
    refine ⟨lineD z.line[i], by show Option.map _ (atI (z.line.map lineD) i) = _; rw [atI_nat' e]; rfl, ?_⟩
    unfold timeAt
    rw [List.getElem?_eq_getElem hi]
    rfl⟩
  z3 := rfl
theorem zlike_lists (z : Zn) : ZLike (toLs 12 (zoneD z)) z.line.length (timeAt z.line) z.lag where
  z0 := ⟨.list ((z.line.map lineD).map (toLs 10)), rfl, by show some (KV.R.val (.int (((z.line.map lineD).map (toLs 10)).length : Nat))) = _; rw [List.length_map, List.length_map], fun i hi => by
    have e : ((z.line.map lineD).map (toLs 10))[i]? = some (toLs 10 (lineD z.line[i])) := by rw [List.getElem?_map, List.getElem?_map, List.getElem?_eq_getElem hi]; rfl
    refine ⟨toLs 10 (lineD z.line[i]), by show Option.map _ (atI ((z.line.map lineD).map (toLs 10)) i) = _; rw [atI_nat' e]; rfl, ?_⟩
    unfold timeAt
    rw [List.getElem?_eq_getElem hi]
    rfl⟩
  z3 := rfl
theorem ok_leaf {n : Nat} (i : Int) : okD (n + 1) (.int i) = true := rfl
theorem ok_ints {n : Nat} {ns : List Int} (h : ns.length ≤ 16777216) : okD (n + 2) (.tuple (ns.map .int)) = true :=
  okD_mkT (by rw [List.length_map]; exact h) fun x hx => by obtain ⟨i, _, rfl⟩ := List.mem_map.mp hx; rfl
theorem ok_key {n : Nat} (p : Int × Int) : okD (n + 2) (keyD p) = true := okD_mkT (Nat.le_of_ble_eq_true rfl) fun x hx => by simp at hx; rcases hx with rfl | rfl <;> rfl
theorem ok_keys {n : Nat} {ks : List (Int × Int)} (h : ks.length ≤ 16777216) : okD (n + 3) (.tuple (ks.map keyD)) = true :=
  okD_mkT (by rw [List.length_map]; exact h) fun x hx => by obtain ⟨p, _, rfl⟩ := List.mem_map.mp hx; exact ok_key p
theorem ok_ver {n b : Nat} {v : Ver} (h : VerOk b v) (hb : b ≤ 1000) : okD (n + 4) (verD v) = true := by
  have h1 := h.keys.1
  have h2 := h.heads
  have h3 := h.marks
  have h4 := h.gone
  refine okD_mkT (Nat.le_of_ble_eq_true rfl) fun x hx => ?_
  simp only [List.mem_cons, List.not_mem_nil, or_false] at hx
  rcases hx with rfl | rfl | rfl | rfl | rfl
  · exact ok_keys (by omega)
  · exact ok_ints (by omega)
  · cases e : v.trust with
    | none => rfl
    | some ts => have := (h.trust ts e).1; exact ok_keys (by omega)
  · exact ok_ints (by omega)
  · exact ok_ints (by omega)
theorem ok_zone {n b many : Nat} {last : Bool} {z : Zn} {m : Int} (hl : z.line.length ≤ many) (hm : many ≤ 1000) (h : LnOk b last m z.line) (hb : b ≤ 1000) : okD (n + 7) (zoneD z) = true := by
  refine okD_mkT (Nat.le_of_ble_eq_true rfl) fun x hx => ?_
  simp only [List.mem_cons, List.not_mem_nil, or_false] at hx
  rcases hx with rfl | rfl | rfl | rfl | rfl | rfl
  · refine okD_mkT (by rw [List.length_map]; omega) fun y hy => ?_
    obtain ⟨p, hp, rfl⟩ := List.mem_map.mp hy
    refine okD_mkT (Nat.le_of_ble_eq_true rfl) fun x hx => ?_
    simp only [List.mem_cons, List.not_mem_nil, or_false] at hx
    rcases hx with rfl | rfl
    · rfl
    · exact ok_ver (h.ver p hp).1 hb
  all_goals rfl
def toldI (n : Nat) (ts : Nat → Int) (lag t : Int) : List Int := ((List.range n).map fun i => ((i : Nat) : Int)).filter fun v => tellB n ts lag v t
theorem toldD_eq (n : Nat) (ts : Nat → Int) (lag t : Int) : toldD n ts lag t = (toldI n ts lag t).map .int := by
  unfold toldD toldI rangeD
  have : (List.range n).map (fun (k : Nat) => PyData.int (0 + (k : Int))) = ((List.range n).map fun i => ((i : Nat) : Int)).map .int := by
    rw [List.map_map]; refine List.map_congr_left fun i _ => ?_; simp
  rw [this, List.filter_map]; rfl
theorem toldI_mem (n : Nat) (ts : Nat → Int) (lag t v : Int) : v ∈ toldI n ts lag t ↔ tellB n ts lag v t = true := by
  unfold toldI
  rw [List.mem_filter, List.mem_map]
  constructor
  · exact fun h => h.2
  · intro h
    refine ⟨?_, h⟩
    unfold tellB at h
    simp at h
    exact ⟨v.toNat, List.mem_range.mpr (by omega), by omega⟩
theorem toldI_len (n : Nat) (ts : Nat → Int) (lag t : Int) : (toldI n ts lag t).length ≤ n := by
  unfold toldI
  refine Nat.le_trans (List.length_filter_le ..) ?_
  rw [List.length_map, List.length_range]; exact Nat.le_refl _
theorem toldI_first {n : Nat} {ts : Nat → Int} {lag : Int} (hn : 0 < n) (h0 : ts 0 = 0) (hl : 0 ≤ lag) (hu : ∀ i, 1 ≤ i → i < n → 0 < ts i) : toldI n ts lag 0 = [0] := by
  unfold toldI
  obtain ⟨k, rfl⟩ : ∃ k, n = k + 1 := ⟨n - 1, by omega⟩
  rw [List.range_succ_eq_map, List.map_cons, List.map_map, List.filter_cons]
  have e : tellB (k + 1) ts lag ((0 : Nat) : Int) 0 = true := by
    unfold tellB
    refine decide_eq_true ⟨by omega, by omega, by show ts 0 ≤ 0; omega, fun h => ?_⟩
    have := hu 1 (by omega) (by omega)
    show 0 < ts 1 + lag
    omega
  rw [if_pos e]
  have : List.filter (fun v => tellB (k + 1) ts lag v 0) (List.map ((fun i => ((i : Nat) : Int)) ∘ Nat.succ) (List.range k)) = [] := by
    rw [List.filter_eq_nil_iff]
    intro v hv
    obtain ⟨i, hi, rfl⟩ := List.mem_map.mp hv
    have := hu (i + 1) (by omega) (by have := List.mem_range.mp hi; omega)
    unfold tellB
    rw [decide_eq_true_iff]
    rintro ⟨_, _, h, _⟩
    have e : (((fun i => ((i : Nat) : Int)) ∘ Nat.succ) i).toNat = i + 1 := by show (((i + 1 : Nat) : Int)).toNat = i + 1; omega
    rw [e] at h
    omega
  rw [this]; rfl
theorem LnOk.times {b : Nat} {last : Bool} {m : Int} {ln : List (Int × Ver)} (h : LnOk b last m ln) : timeAt ln 0 = 0 ∧ ∀ i, 1 ≤ i → i < ln.length → 0 < timeAt ln i := by
  obtain ⟨⟨v, r, e⟩, up, _⟩ := h
  subst e
  refine ⟨rfl, fun i h1 h2 => ?_⟩
  obtain ⟨j, rfl⟩ : ∃ j, i = j + 1 := ⟨i - 1, by omega⟩
  have hj : j < r.length := by simpa using h2
  have := (List.pairwise_cons.mp up).1 r[j] (List.getElem_mem hj)
  unfold timeAt
  rw [List.getElem?_cons_succ, List.getElem?_eq_getElem hj]
  exact this
end KL

end

section
local macro_rules | `(tactic| array_get_dec) => `(tactic| first
  | with_reducible refine KV.ws_seq ?_
  | with_reducible refine KV.ws_set ?_
  | with_reducible refine KV.ws_ret ?_
  | with_reducible refine KV.ws_asg ?_
  | with_reducible refine KV.ws_par' ?_
  | with_reducible refine KV.ws_parO ?_
  | with_reducible refine KV.wput2 ?_
  | with_reducible refine KV.ws_par3' ?_
  | with_reducible refine KV.ws_drop ?_
  | with_reducible refine KV.ws_setIx' ?_
  | ((with_reducible apply KV.wown); exact rfl)
  | ((with_reducible apply KV.wsi); exact rfl; exact rfl; (simp only [List.set_cons_zero, List.set_cons_succ]; try exact rfl))
  | with_reducible refine KV.ws_next ?_
  | with_reducible refine KV.ws_break ?_
  | with_reducible refine KV.wparp ?_
  | with_reducible refine KV.wparp3 ?_
  | with_reducible refine KV.wd_c ?_
  | with_reducible refine KV.wd_bin ?_
  | with_reducible refine KV.wd_un ?_
  | with_reducible refine KV.wd_cb ?_
  | with_reducible refine KV.wd_tup' ?_
  | with_reducible refine KV.wd_lst' ?_
  | with_reducible refine KV.wd_call ?_
  | with_reducible refine KV.wd_callK ?_
  | with_reducible refine KV.wd_callT ?_
  | with_reducible refine KV.wd_v ?_
  | with_reducible refine KV.wd_slice ?_
  | with_reducible refine KV.wd_isi ?_
  | with_reducible refine KV.wd_isi2 ?_
  | with_reducible refine KV.wst_val ?_
  | with_reducible refine KV.wst_tmp ?_
  | with_reducible refine KV.wst_slot ?_
  | with_reducible refine KV.wdr_val ?_
  | with_reducible refine KV.wdr_tmp ?_
  | with_reducible refine KV.wfz_val ?_
  | with_reducible refine KV.wfz_tmp ?_
  | with_reducible refine KV.wn_nil ?_
  | with_reducible refine KV.wn_cons ?_
  | with_reducible refine KV.wdrs_nil ?_
  | with_reducible refine KV.wdrs_cons ?_
  | with_reducible refine KV.wv_nil ?_
  | with_reducible refine KV.wv_cons ?_
  | with_reducible refine KV.wp_none ?_
  | with_reducible refine KV.wp_some ?_
  | with_reducible refine KV.wt_b ?_
  | with_reducible refine KV.wt_not ?_
  | with_reducible refine KV.wt_yes ?_
  | with_reducible refine KV.wgs_nil ?_
  | with_reducible refine KV.wgs_cons ?_
  | with_reducible refine KV.wg_tup ?_
  | with_reducible refine KV.wi_seq ?_
  | with_reducible refine KV.wsq_list ?_
  | with_reducible refine KV.wsq_tup ?_
  | ((with_reducible apply KV.wsq_own); exact rfl; (simp only [List.set_cons_zero, List.set_cons_succ]; try exact rfl))
  | ((with_reducible apply KV.wsq_lck); exact rfl)
  | with_reducible refine KV.wr_val ?_
  | with_reducible refine KV.wr_tmp ?_
  | with_reducible refine KV.wo_add ?_
  | with_reducible refine KV.wo_sub ?_
  | with_reducible refine KV.wo_neg ?_
  | with_reducible refine KV.wo_c ?_
  | with_reducible refine KV.wo_isN ?_
  | with_reducible refine KV.wo_notN ?_
  | with_reducible refine KV.wo_eqI ?_
  | with_reducible refine KV.wo_neI ?_
  | with_reducible refine KV.wo_eqNil ?_
  | with_reducible refine KV.wo_eqB ?_
  | with_reducible refine KV.wo_neB ?_
  | with_reducible refine KV.wo_neNil ?_
  | with_reducible refine KV.wo_inT ?_
  | with_reducible refine KV.wo_inL ?_
  | with_reducible refine KV.wo_notInT ?_
  | with_reducible refine KV.wo_notInL ?_
  | with_reducible refine KV.wo_srt ?_
  | with_reducible refine KV.wo_srtR ?_
  | with_reducible refine KV.wo_rev ?_
  | with_reducible refine KV.wo_lenL ?_
  | with_reducible refine KV.wo_lenT ?_
  | with_reducible refine KV.wo_intI ?_
  | with_reducible refine KV.wo_tupL ?_
  | with_reducible refine KV.wo_tupT ?_
  | with_reducible refine KV.wo_lstL ?_
  | with_reducible refine KV.wo_lstT ?_
  | ((with_reducible apply KV.wd_fz); exact rfl)
  | ((with_reducible apply KV.wd_own); exact rfl)
  | ((with_reducible apply KV.wd_lck); exact rfl)
  | ((with_reducible apply KV.wdr_fz); exact rfl)
  | ((with_reducible apply KV.wdr_own); exact rfl)
  | ((with_reducible apply KV.wdr_lck); exact rfl)
  | ((with_reducible apply KV.wfz_fz); exact rfl)
  | ((with_reducible apply KV.wfz_own); exact rfl; (simp only [List.set_cons_zero, List.set_cons_succ]; try exact rfl))
  | ((with_reducible apply KV.wput_v); exact rfl; (first | exact rfl | assumption); (simp only [List.set_cons_zero, List.set_cons_succ]; try exact rfl))
  | ((with_reducible apply KV.wput_t); exact rfl; (first | exact rfl | assumption); (simp only [List.set_cons_zero, List.set_cons_succ]; try exact rfl))
  | ((with_reducible apply KV.wg_nm); exact rfl; (first | exact rfl | assumption); (simp only [List.set_cons_zero, List.set_cons_succ]; try exact rfl))
  | ((with_reducible apply KV.wd_callB'); exact rfl)
  | ((with_reducible apply KV.wcb); exact rfl)
  | ((with_reducible apply KV.wd_app'); exact rfl)
  | ((with_reducible apply KV.wd_pop); exact rfl)
  | ((with_reducible apply KV.wapp); exact rfl; (simp only [List.set_cons_zero, List.set_cons_succ]; try exact rfl))
  | ((with_reducible apply KV.ws_gf_fz); exact rfl)
  | ((with_reducible apply KV.ws_gf_own'); exact rfl; (simp only [List.set_cons_zero, List.set_cons_succ]; try exact rfl))
  | ((with_reducible apply KV.wr_own); exact rfl)
  | ((with_reducible apply KV.wr_fz); exact rfl)
  | with_reducible refine KV.ws_if ?_
  | with_reducible refine KV.wd_if ?_
  | with_reducible refine KV.wt_and ?_
  | with_reducible refine KV.wt_or ?_
  | with_reducible refine KV.wd_chP ?_
  | with_reducible refine KV.wsame ?_
  | with_reducible refine KV.wi_r1' ?_
  | with_reducible refine KV.wi_r2' ?_
  | ((with_reducible apply KV.wrg); omega; omega)
  | ((with_reducible apply KV.wrg2); omega; omega; omega; omega; omega)
  | with_reducible refine KV.and_t ?_
  | with_reducible refine KV.and_f ?_
  | with_reducible refine KV.and_nt ?_
  | with_reducible refine KV.and_nf ?_
  | with_reducible refine KV.and_dec ?_
  | with_reducible refine KV.and_ndec ?_
  | with_reducible refine And.intro (fun hb => ?_) (fun hb => ?_)
  | ((with_reducible apply KV.wo_ixT); exact rfl)
  | ((with_reducible apply KV.wo_ixL); exact rfl)
  | ((with_reducible refine KV.wo_isT (b := true) ?_ ?_); exact rfl)
  | ((with_reducible refine KV.wo_isT (b := false) ?_ ?_); exact rfl)
  | ((with_reducible refine KV.wo_isT2 (b := true) ?_ ?_); exact rfl)
  | ((with_reducible refine KV.wo_isT2 (b := false) ?_ ?_); exact rfl)
  | ((with_reducible apply KV.wo_mul); omega)
  | ((with_reducible apply KV.wo_mod); omega)
  | ((with_reducible apply KV.wo_div); omega)
  | ((with_reducible apply KV.wo_addL); (simp only [List.length_append, List.length_cons, List.length_nil, List.length_map]; omega))
  | ((with_reducible apply KV.wo_addT); (simp only [List.length_append, List.length_cons, List.length_nil, List.length_map]; omega))
  | ((with_reducible refine And.intro ?_ (Nat.le_of_ble_eq_true rfl)))
  | with_reducible refine Exists.intro _ (And.intro rfl ?_)
  | fail "no step")
local macro_rules | `(tactic| array_get_dec) => `(tactic| ((with_reducible refine KL.take_r (by assumption) (by omega) (by omega) (fun d c h0 h1 hb => ?_)); (simp only [List.set_cons_zero, List.set_cons_succ])))
namespace KL
open PySem PySem.Spec PyProof.Rows L2 KV
theorem frozen_ok : ∀ (n : Nat) (d : PyData), okD n d = true → Fz_frozen n [d] = some (.val (toTp n d))
  | 0, _, h => by simp [okD] at h
  | n + 1, d, h => by
    refine wf_get ?_
    show wF (runP 2 (g_frozen (Fz_frozen n))) [d] _
    refine wf_run (r := [.fz d, .un]) rfl ?_
    unfold g_frozen
    cases d with
    | list xs =>
      have hx := (okD_list h).2
      repeat' array_get_dec
      refine wd_lcm ?_
      repeat' array_get_dec
      refine ⟨rfl, toTp n, fun x hm => ?_, ?_⟩
      · simp only [wipeE, List.set_cons_zero, List.set_cons_succ]
        repeat' array_get_dec
        refine wf_eq (frozen_ok n x (hx x hm)) ?_
        repeat' array_get_dec
        exact ⟨rfl, rfl⟩
      · simp only [unlck]
        repeat' array_get_dec
        rfl
    | tuple xs =>
      have hx := (okD_tuple h).2
      repeat' array_get_dec
      refine wd_lcm ?_
      repeat' array_get_dec
      refine ⟨rfl, toTp n, fun x hm => ?_, ?_⟩
      · simp only [wipeE, List.set_cons_zero, List.set_cons_succ]
        repeat' array_get_dec
        refine wf_eq (frozen_ok n x (hx x hm)) ?_
        repeat' array_get_dec
        exact ⟨rfl, rfl⟩
      · simp only [unlck]
        repeat' array_get_dec
        rfl
    | dict kvs => simp [okD] at h
    | none => repeat' array_get_dec
              rfl
    | bool _ => repeat' array_get_dec
                rfl
    | int _ => repeat' array_get_dec
               rfl
    | str _ => repeat' array_get_dec
               rfl
end KL
namespace KL
open PySem PySem.Spec PyProof.Rows L2 KV
theorem map_erase {α β : Type} (f : α → β) : ∀ (l : List α) (i : Nat), (l.map f).eraseIdx i = (l.eraseIdx i).map f
  | [], _ => rfl
  | _ :: _, 0 => rfl
  | x :: l, i + 1 => by show f x :: (l.map f).eraseIdx i = f x :: (l.eraseIdx i).map f; rw [map_erase f l i]
theorem enum_snoc (xs : List PyData) (x : PyData) : enumD (xs ++ [x]) = enumD xs ++ [.tuple [.int (xs.length : Nat), x]] := by
  refine List.ext_getElem? fun i => ?_
  have g : ∀ (ys : List PyData) (i : Nat), (enumD ys)[i]? = (ys[i]?).map fun y => PyData.tuple [.int (i : Nat), y] := by
    intro ys i
    unfold enumD
    rw [List.getElem?_zipWith]
    by_cases h : i < ys.length
    · rw [List.getElem?_range h, List.getElem?_eq_getElem h]; rfl
    · rw [List.getElem?_eq_none (by rw [List.length_range]; omega), List.getElem?_eq_none (by omega)]; rfl
  rw [g]
  by_cases h : i < xs.length
  · rw [List.getElem?_append_left h, List.getElem?_append_left (by rw [enumD_length]; exact h), g]
  · rw [List.getElem?_append_right (by omega), List.getElem?_append_right (by rw [enumD_length]; omega), enumD_length]
    by_cases h2 : i = xs.length
    · subst h2; rw [Nat.sub_self]; rfl
    · rw [List.getElem?_eq_none (by simp; omega), List.getElem?_eq_none (by simp; omega)]; rfl
def fitK (v : Int) : PyData → Bool
  | .tuple [_, .int l] => decide (l ≤ v)
  | _ => false
/-- the places of what fits -/
theorem fit_ok (v : Int) (A : List Int) : A.Pairwise (· ≤ ·) → ((enumD (A.map .int)).filter (fitK v)).map fstD = (List.range (M3.leN A v)).map fun i => PyData.int (i : Nat) := by
  refine M3.snoc_ind (P := fun A => A.Pairwise (· ≤ ·) → ((enumD (A.map .int)).filter (fitK v)).map fstD = (List.range (M3.leN A v)).map fun i => PyData.int (i : Nat)) ?_ ?_ A
  · intro _; rfl
  · intro A a ih h
    obtain ⟨h1, h2⟩ := M3.asc_snoc h
    rw [List.map_append]
    show (List.filter (fitK v) (enumD (A.map .int ++ [.int a]))).map fstD = _
    rw [enum_snoc, List.filter_append, List.map_append, ih h1, M3.leN_snoc, List.length_map]
    by_cases c : a ≤ v
    · rw [if_pos c, List.range_succ, List.map_append, M3.leN_all A v fun b hb => by have := h2 b hb; omega]
      have : fitK v (.tuple [.int (A.length : Nat), .int a]) = true := decide_eq_true c
      rw [List.filter_cons_of_pos this]; rfl
    · rw [if_neg c, Nat.add_zero]
      have : ¬ fitK v (.tuple [.int (A.length : Nat), .int a]) = true := by show ¬ decide (a ≤ v) = true; simpa using c
      rw [List.filter_cons_of_neg this]; simp
theorem seq_nat {k n : Nat} (h : k < n) : seqIndex? (k : Int) n = some k := by
  have hd : (!decide ((k : Int) < 0)) = true := by simp
  have e : (if (k : Int) < 0 then (k : Int) + n else k) = k := if_neg (by omega)
  unfold seqIndex?
  rw [e]
  have c : (decide (0 ≤ (k : Int)) && decide ((k : Int) < (n : Int))) = true := by simp; omega
  exact if_pos c
theorem popLe_len (A : List Int) (v : Int) : (M3.popLe A v).length ≤ A.length := by
  unfold M3.popLe
  split
  · exact Nat.le_refl _
  · exact List.length_eraseIdx_le ..
theorem taken_ok {lasts vs : List Int} (h1 : lasts.length ≤ 100000) (h2 : vs.length ≤ 1000) : F_taken_up [.list (lasts.map .int), .list (vs.map .int)] = some (.tmp (.lst ((M3.tak lasts vs).map .int))) := by
  refine wf_get ?_
  unfold F_taken_up
  refine wf_run (r := [.fz (.list (lasts.map .int)), .fz (.list (vs.map .int)), .un, .un, .un, .un, .un, .un]) rfl ?_
  unfold g_taken_up
  refine ws_cut (M := fun r1 => r1 = [.fz (.list (lasts.map .int)), .fz (.list (vs.map .int)), .own (.lst ((srtI lasts).map .int)), .own (.lst []), .un, .un, .un, .un]) ?_ ?_
  · repeat' array_get_dec
    rfl
  rintro _ rfl
  have hl : (srtI lasts).length = lasts.length := (srtI_perm lasts).length_eq
  have hd : (M3.sortDe vs).length = vs.length := (M3.sortDe_perm vs).length_eq
  refine ws_cut (M := fun r1 => ∃ s4 s5 : Sl, r1 = [.fz (.list (lasts.map .int)), .fz (.list (vs.map .int)), .own (.lst ((M3.left (srtI lasts) (M3.sortDe vs)).map .int)), .own (.lst ((M3.sortDe vs).map .int)), s4, s5, .un, .un] ∧ (M3.left (srtI lasts) (M3.sortDe vs)).length ≤ lasts.length) ?_ ?_
  · refine ws_forI ?_
    repeat' array_get_dec
    show _ ∧ _
    refine ⟨rfl, fun i r1 => ∃ (s4 s5 : Sl) (A : List Int), r1 = [.fz (.list (lasts.map .int)), .fz (.list (vs.map .int)), .own (.lst (A.map .int)), .own (.lst (((M3.sortDe vs).take i).map .int)), s4, s5, .un, .un] ∧ nlk s4 = true ∧ nlk s5 = true ∧ A.Pairwise (· ≤ ·) ∧ A.length ≤ lasts.length ∧ M3.left A ((M3.sortDe vs).drop i) = M3.left (srtI lasts) (M3.sortDe vs), ?_, ?_, ?_⟩
    · exact ⟨.un, .un, srtI lasts, rfl, rfl, rfl, srtI_sorted _, by omega, rfl⟩
    · rintro i d _ hdd ⟨s4, s5, A, rfl, n4, n5, hA, hlen, hleft⟩
      have hdd2 : ((M3.sortDe vs).map PyData.int)[i]? = some d := hdd
      rw [List.getElem?_map] at hdd2
      obtain ⟨v, hv, rfl⟩ := Option.map_eq_some_iff.mp hdd2
      have hi : i < (M3.sortDe vs).length := (List.getElem?_eq_some_iff.mp hv).1
      have hdrop : (M3.sortDe vs).drop i = v :: (M3.sortDe vs).drop (i + 1) := by
        rw [List.drop_eq_getElem_cons hi]
        congr 1
        exact (List.getElem?_eq_some_iff.mp hv).2
      have htake : (M3.sortDe vs).take (i + 1) = (M3.sortDe vs).take i ++ [v] := by
        rw [List.take_add_one, hv]; rfl
      rw [hdrop, M3.left] at hleft
      array_get_dec
      refine ws_cut (M := fun r1 => r1 = [.fz (.list (lasts.map .int)), .fz (.list (vs.map .int)), .own (.lst (A.map .int)), .own (.lst (((M3.sortDe vs).take i).map .int)), .fz (.int v), .own (.lst ((List.range (M3.leN A v)).map fun i => PyData.int (i : Nat))), .un, .un]) ?_ ?_
      · refine ws_set (wd_lcf' ?_)
        refine wi_enumO ?_
        repeat' array_get_dec
        refine weno_own rfl (by rw [List.length_map]; omega) rfl ?_
        refine ⟨rfl, fitK v, fstD, fun d hd => ?_, ?_⟩
        · obtain ⟨j, hj⟩ := List.getElem?_of_mem hd
          obtain ⟨x, hx, rfl⟩ := enumD_get hj
          rw [List.getElem?_map] at hx
          obtain ⟨a, _, rfl⟩ := Option.map_eq_some_iff.mp hx
          show wG _ _ [.fz (.list (lasts.map .int)), .fz (.list (vs.map .int)), .lck (.lst (A.map .int)), .own (.lst (((M3.sortDe vs).take i).map .int)), .fz (.int v), s5, .un, .un] _
          repeat' array_get_dec
          refine ⟨rfl, fun _ => ?_, fun _ => rfl⟩
          repeat' array_get_dec
          exact ⟨rfl, rfl⟩
        rw [fit_ok v A hA]
        show wPut 5 _ [.fz (.list (lasts.map .int)), .fz (.list (vs.map .int)), .own (.lst (A.map .int)), .own (.lst (((M3.sortDe vs).take i).map .int)), .fz (.int v), s5, .un, .un] _
        repeat' array_get_dec
        rfl
      rintro _ rfl
      have hle := M3.leN_le A v
      refine ws_cut (M := fun r1 => r1 = [.fz (.list (lasts.map .int)), .fz (.list (vs.map .int)), .own (.lst ((M3.popLe A v).map .int)), .own (.lst (((M3.sortDe vs).take i).map .int)), .fz (.int v), .own (.lst ((List.range (M3.leN A v)).map fun i => PyData.int (i : Nat))), .un, .un]) ?_ ?_
      · by_cases c : M3.leN A v = 0
        · have e : M3.popLe A v = A := if_pos c
          rw [e, c]
          repeat' array_get_dec
          · rename_i hb; exact absurd hb (by simp)
          · rfl
        · have e : M3.popLe A v = A.eraseIdx (M3.leN A v - 1) := if_neg c
          have er : (List.range (M3.leN A v)).map (fun i => PyData.int (i : Nat)) = ((List.range (M3.leN A v - 1)).map fun i => PyData.int (i : Nat)) ++ [PyData.int ((M3.leN A v - 1 : Nat) : Int)] := by
            have : M3.leN A v = (M3.leN A v - 1) + 1 := by omega
            rw [this, List.range_succ, List.map_append]; rfl
          rw [e]
          repeat' array_get_dec
          · refine wo_ixL (by rw [er]; exact atI_last) ?_
            have hlt : M3.leN A v - 1 < A.length := by omega
            refine wpop_e rfl (by omega) (seq_nat (by rw [List.length_map]; exact hlt)) (List.getElem?_eq_getElem (by rw [List.length_map]; exact hlt)) rfl ?_
            show [_, _, Sl.own (Ob.lst ((List.map PyData.int A).eraseIdx (M3.leN A v - 1))), _, _, _, _, _] = _
            rw [map_erase]
          · rename_i hb; exact absurd hb (by rw [List.length_map, List.length_range]; simp; omega)
      rintro _ rfl
      repeat' array_get_dec
      · refine ⟨_, _, M3.popLe A v, by rw [htake, List.map_append]; rfl, rfl, rfl, M3.popLe_asc hA, ?_, hleft⟩
        have := popLe_len A v
        omega
      · rw [List.length_map, List.length_take, sizeLine_eq]; omega
    · rintro _ ⟨s4, s5, A, rfl, n4, n5, hA, hlen, hleft⟩
      have e : (List.map PyData.int (srtI vs).reverse).length = (M3.sortDe vs).length := by rw [List.length_map]; rfl
      rw [e, List.drop_length, M3.left] at hleft
      rw [e, List.take_length]
      exact ⟨s4, s5, by rw [hleft], by rw [← hleft]; exact hlen⟩
  rintro _ ⟨s4, s5, rfl, hll⟩
  repeat' array_get_dec
  show KV.R.tmp _ = _
  unfold M3.tak
  rw [List.map_append]
end KL

end

section
local macro_rules | `(tactic| array_get_dec) => `(tactic| first
  | with_reducible refine KV.ws_seq ?_
  | with_reducible refine KV.ws_set ?_
  | with_reducible refine KV.ws_ret ?_
  | with_reducible refine KV.ws_asg ?_
  | with_reducible refine KV.ws_par' ?_
  | with_reducible refine KV.ws_parO ?_
  | with_reducible refine KV.wput2 ?_
  | with_reducible refine KV.ws_par3' ?_
  | with_reducible refine KV.ws_drop ?_
  | with_reducible refine KV.ws_setIx' ?_
  | ((with_reducible apply KV.wown); exact rfl)
  | ((with_reducible apply KV.wsi); exact rfl; exact rfl; (simp only [List.set_cons_zero, List.set_cons_succ]; try exact rfl))
  | with_reducible refine KV.ws_next ?_
  | with_reducible refine KV.ws_break ?_
  | with_reducible refine KV.wparp ?_
  | with_reducible refine KV.wparp3 ?_
  | with_reducible refine KV.wd_c ?_
  | with_reducible refine KV.wd_bin ?_
  | with_reducible refine KV.wd_un ?_
  | with_reducible refine KV.wd_cb ?_
  | with_reducible refine KV.wd_tup' ?_
  | with_reducible refine KV.wd_lst' ?_
  | with_reducible refine KV.wd_call ?_
  | with_reducible refine KV.wd_callK ?_
  | with_reducible refine KV.wd_callT ?_
  | with_reducible refine KV.wd_v ?_
  | with_reducible refine KV.wd_slice ?_
  | with_reducible refine KV.wd_isi ?_
  | with_reducible refine KV.wd_isi2 ?_
  | with_reducible refine KV.wst_val ?_
  | with_reducible refine KV.wst_tmp ?_
  | with_reducible refine KV.wst_slot ?_
  | with_reducible refine KV.wdr_val ?_
  | with_reducible refine KV.wdr_tmp ?_
  | with_reducible refine KV.wfz_val ?_
  | with_reducible refine KV.wfz_tmp ?_
  | with_reducible refine KV.wn_nil ?_
  | with_reducible refine KV.wn_cons ?_
  | with_reducible refine KV.wdrs_nil ?_
  | with_reducible refine KV.wdrs_cons ?_
  | with_reducible refine KV.wv_nil ?_
  | with_reducible refine KV.wv_cons ?_
  | with_reducible refine KV.wp_none ?_
  | with_reducible refine KV.wp_some ?_
  | with_reducible refine KV.wt_b ?_
  | with_reducible refine KV.wt_not ?_
  | with_reducible refine KV.wt_yes ?_
  | with_reducible refine KV.wgs_nil ?_
  | with_reducible refine KV.wgs_cons ?_
  | with_reducible refine KV.wg_tup ?_
  | with_reducible refine KV.wi_seq ?_
  | with_reducible refine KV.wsq_list ?_
  | with_reducible refine KV.wsq_tup ?_
  | ((with_reducible apply KV.wsq_own); exact rfl; (simp only [List.set_cons_zero, List.set_cons_succ]; try exact rfl))
  | ((with_reducible apply KV.wsq_lck); exact rfl)
  | with_reducible refine KV.wr_val ?_
  | with_reducible refine KV.wr_tmp ?_
  | with_reducible refine KV.wo_add ?_
  | with_reducible refine KV.wo_sub ?_
  | with_reducible refine KV.wo_neg ?_
  | with_reducible refine KV.wo_c ?_
  | with_reducible refine KV.wo_isN ?_
  | with_reducible refine KV.wo_notN ?_
  | with_reducible refine KV.wo_eqI ?_
  | with_reducible refine KV.wo_neI ?_
  | with_reducible refine KV.wo_eqNil ?_
  | with_reducible refine KV.wo_eqB ?_
  | with_reducible refine KV.wo_neB ?_
  | with_reducible refine KV.wo_neNil ?_
  | with_reducible refine KV.wo_inT ?_
  | with_reducible refine KV.wo_inL ?_
  | with_reducible refine KV.wo_notInT ?_
  | with_reducible refine KV.wo_notInL ?_
  | with_reducible refine KV.wo_srt ?_
  | with_reducible refine KV.wo_srtR ?_
  | with_reducible refine KV.wo_rev ?_
  | with_reducible refine KV.wo_lenL ?_
  | with_reducible refine KV.wo_lenT ?_
  | with_reducible refine KV.wo_intI ?_
  | with_reducible refine KV.wo_tupL ?_
  | with_reducible refine KV.wo_tupT ?_
  | with_reducible refine KV.wo_lstL ?_
  | with_reducible refine KV.wo_lstT ?_
  | ((with_reducible apply KV.wd_fz); exact rfl)
  | ((with_reducible apply KV.wd_own); exact rfl)
  | ((with_reducible apply KV.wd_lck); exact rfl)
  | ((with_reducible apply KV.wdr_fz); exact rfl)
  | ((with_reducible apply KV.wdr_own); exact rfl)
  | ((with_reducible apply KV.wdr_lck); exact rfl)
  | ((with_reducible apply KV.wfz_fz); exact rfl)
  | ((with_reducible apply KV.wfz_own); exact rfl; (simp only [List.set_cons_zero, List.set_cons_succ]; try exact rfl))
  | ((with_reducible apply KV.wput_v); exact rfl; (first | exact rfl | assumption); (simp only [List.set_cons_zero, List.set_cons_succ]; try exact rfl))
  | ((with_reducible apply KV.wput_t); exact rfl; (first | exact rfl | assumption); (simp only [List.set_cons_zero, List.set_cons_succ]; try exact rfl))
  | ((with_reducible apply KV.wg_nm); exact rfl; (first | exact rfl | assumption); (simp only [List.set_cons_zero, List.set_cons_succ]; try exact rfl))
  | ((with_reducible apply KV.wd_callB'); exact rfl)
  | ((with_reducible apply KV.wcb); exact rfl)
  | ((with_reducible apply KV.wd_app'); exact rfl)
  | ((with_reducible apply KV.wd_pop); exact rfl)
  | ((with_reducible apply KV.wapp); exact rfl; (simp only [List.set_cons_zero, List.set_cons_succ]; try exact rfl))
  | ((with_reducible apply KV.ws_gf_fz); exact rfl)
  | ((with_reducible apply KV.ws_gf_own'); exact rfl; (simp only [List.set_cons_zero, List.set_cons_succ]; try exact rfl))
  | ((with_reducible apply KV.wr_own); exact rfl)
  | ((with_reducible apply KV.wr_fz); exact rfl)
  | with_reducible refine KV.ws_if ?_
  | with_reducible refine KV.wd_if ?_
  | with_reducible refine KV.wt_and ?_
  | with_reducible refine KV.wt_or ?_
  | with_reducible refine KV.wd_chP ?_
  | with_reducible refine KV.wsame ?_
  | with_reducible refine KV.wi_r1' ?_
  | with_reducible refine KV.wi_r2' ?_
  | ((with_reducible apply KV.wrg); omega; omega)
  | ((with_reducible apply KV.wrg2); omega; omega; omega; omega; omega)
  | with_reducible refine KV.and_t ?_
  | with_reducible refine KV.and_f ?_
  | with_reducible refine KV.and_nt ?_
  | with_reducible refine KV.and_nf ?_
  | with_reducible refine KV.and_dec ?_
  | with_reducible refine KV.and_ndec ?_
  | with_reducible refine And.intro (fun hb => ?_) (fun hb => ?_)
  | ((with_reducible apply KV.wo_ixT); exact rfl)
  | ((with_reducible apply KV.wo_ixL); exact rfl)
  | ((with_reducible refine KV.wo_isT (b := true) ?_ ?_); exact rfl)
  | ((with_reducible refine KV.wo_isT (b := false) ?_ ?_); exact rfl)
  | ((with_reducible refine KV.wo_isT2 (b := true) ?_ ?_); exact rfl)
  | ((with_reducible refine KV.wo_isT2 (b := false) ?_ ?_); exact rfl)
  | ((with_reducible apply KV.wo_mul); omega)
  | ((with_reducible apply KV.wo_mod); omega)
  | ((with_reducible apply KV.wo_div); omega)
  | ((with_reducible apply KV.wo_addL); (simp only [List.length_append, List.length_cons, List.length_nil, List.length_map]; omega))
  | ((with_reducible apply KV.wo_addT); (simp only [List.length_append, List.length_cons, List.length_nil, List.length_map]; omega))
  | ((with_reducible refine And.intro ?_ (Nat.le_of_ble_eq_true rfl)))
  | with_reducible refine Exists.intro _ (And.intro rfl ?_)
  | fail "no step")
local macro_rules | `(tactic| array_get_dec) => `(tactic| ((with_reducible refine KL.take_r (by assumption) (by omega) (by omega) (fun d c h0 h1 hb => ?_)); (simp only [List.set_cons_zero, List.set_cons_succ])))
namespace KL
open PySem PySem.Spec PyProof.Rows L2 KV
theorem left_len : ∀ (V A : List Int), (M3.left A V).length ≤ A.length
  | [], A => Nat.le_refl _
  | v :: V, A => by rw [M3.left]; exact Nat.le_trans (left_len V _) (popLe_len A v)
theorem tak_len (L V : List Int) : (M3.tak L V).length ≤ L.length + V.length := by
  unfold M3.tak
  rw [List.length_append]
  have h1 := left_len (M3.sortDe V) (srtI L)
  have h2 := (srtI_perm L).length_eq
  have h3 := (M3.sortDe_perm V).length_eq
  omega
theorem wo_allB {α : Type} {p : α → Bool} {zs : List α} {ds : List PyData} {QR : KV.R → Prop} (e : ds = zs.map fun x => PyData.bool (p x)) (h : QR (.val (.bool (zs.all p)))) : wO (opAll [.list ds]) QR := by subst e; exact wo_all h
/-- whether a pair may be told -/
def tellP (n : Nat) (ts : Nat → Int) (lag : Int) (p : Int × Int) : Bool := tellB n ts lag p.2 p.1
def tellPD (n : Nat) (ts : Nat → Int) (lag : Int) : PyData → PyData
  | .tuple [.int t, .int v] => .bool (tellB n ts lag v t)
  | _ => .none
def sndD : PyData → PyData
  | .tuple [_, d] => d
  | _ => .none
def needD (n : Nat) (ts : Nat → Int) (lag : Int) (as : List (Int × Int)) : PyData := if as.all (tellP n ts lag) = true then .int (M3.needN as : Nat) else .none
theorem needs_ok {Z : PyData} {n : Nat} {ts : Nat → Int} {lag : Int} (h : ZLike Z n ts lag) {row : PyData} {ps : List (Int × Int)} (hf : F_frozen [row] = some (.val (.tuple (ps.map keyD)))) (hp : KeysOk 63 ps) : F_needs_servers [Z, row] = some (.val (needD n ts lag (sortD ltK ps))) := by
  have hs := hp.sort
  have hl : (sortD ltK ps).length ≤ 63 := hs.1
  have hsort := sortD_sorted ltK_ok ps
  generalize hA : sortD ltK ps = A at *
  refine wf_get ?_
  unfold F_needs_servers
  refine wf_run (r := [.fz Z, .fz row, .un, .un, .un, .un, .un]) rfl ?_
  unfold g_needs_servers
  refine ws_cut (M := fun r1 => r1 = [.fz Z, .fz row, .own (.lst (A.map keyD)), .un, .un, .un, .un]) ?_ ?_
  · repeat' array_get_dec
    refine wf_eq hf ?_
    repeat' array_get_dec
    refine wo_eq (z := .tmp (.lst (A.map keyD))) ((opST_eq _).trans ((ss_keys hp).trans (by rw [hA]))) ?_
    repeat' array_get_dec
    rfl
  rintro _ rfl
  refine ws_cut (M := fun r1 => r1 = [.fz Z, .fz row, .own (.lst (A.map keyD)), .un, .un, .un, .un] ∧ A.all (tellP n ts lag) = true) ?_ ?_
  · repeat' array_get_dec
    refine wd_lcm ?_
    repeat' array_get_dec
    refine ⟨rfl, tellPD n ts lag, fun d hd => ?_, ?_⟩
    · obtain ⟨p, _, rfl⟩ := List.mem_map.mp hd
      show wG _ _ [.fz Z, .fz row, .lck (.lst (A.map keyD)), .un, .un, .un, .un] _
      unfold keyD
      repeat' array_get_dec
      refine wf_eq (may_tell_ok h p.2 p.1) ?_
      repeat' array_get_dec
      exact ⟨rfl, rfl⟩
    · show wSt _ [.fz Z, .fz row, .own (.lst (A.map keyD)), .un, .un, .un, .un] _
      repeat' array_get_dec
      refine wo_allB (p := tellP n ts lag) (zs := A) (by rw [List.map_map]; rfl) ?_
      repeat' array_get_dec
      · rename_i hb
        show KV.R.val _ = _
        unfold needD
        rw [if_neg (by simpa using hb)]
      · rename_i hb
        exact ⟨rfl, by simpa using hb⟩
  rintro _ ⟨rfl, hall⟩
  refine ws_cut (M := fun r1 => r1 = [.fz Z, .fz row, .own (.lst (A.map keyD)), .own (.lst []), .un, .un, .un]) ?_ ?_
  · repeat' array_get_dec
    rfl
  rintro _ rfl
  have hms : (sortD ltI (A.map (·.1))).length ≤ 63 := Nat.le_trans (sortD_length _ _) (by rw [List.length_map]; exact hl)
  have hG : M3.groups A = (sortD ltI (A.map (·.1))).map fun m => (m, (A.filter fun a => decide (a.1 = m)).map (·.2)) := rfl
  have hGl : (M3.groups A).length ≤ 63 := by rw [hG, List.length_map]; exact hms
  refine ws_cut (M := fun r1 => ∃ s4 : Sl, ∃ L : List Int, r1 = [.fz Z, .fz row, .own (.lst (A.map keyD)), .own (.lst (L.map .int)), s4, .un, .un] ∧ L = ((M3.groups A).map (·.2)).foldl M3.tak []) ?_ ?_
  · refine ws_forI ?_
    repeat' array_get_dec
    refine wd_lcm ?_
    repeat' array_get_dec
    refine ⟨rfl, fstD, fun d hd => ?_, ?_⟩
    · obtain ⟨p, _, rfl⟩ := List.mem_map.mp hd
      show wG _ _ [.fz Z, .fz row, .lck (.lst (A.map keyD)), .own (.lst []), .un, .un, .un] _
      unfold keyD
      repeat' array_get_dec
      exact ⟨rfl, rfl⟩
    show wDr [.fz Z, .fz row, .own (.lst (A.map keyD)), .own (.lst []), .un, .un, .un] _ _
    rw [map_fstD]
    repeat' array_get_dec
    refine wo_eq (z := .tmp (.lst ((sortD ltI (A.map (·.1))).map .int))) (opSS_int (by rw [List.length_map]; omega)) ?_
    repeat' array_get_dec
    refine ⟨rfl, fun i r1 => ∃ (s4 : Sl) (L : List Int), r1 = [.fz Z, .fz row, .own (.lst (A.map keyD)), .own (.lst (L.map .int)), s4, .un, .un] ∧ nlk s4 = true ∧ L = (((M3.groups A).map (·.2)).take i).foldl M3.tak [] ∧ L.length ≤ i * 63, ?_, ?_, ?_⟩
    · exact ⟨.un, [], rfl, rfl, rfl, Nat.zero_le _⟩
    · rintro i d _ hdd ⟨s4, L, rfl, n4, hL, hLl⟩
      rw [List.getElem?_map] at hdd
      obtain ⟨m, hm, rfl⟩ := Option.map_eq_some_iff.mp hdd
      have hi : i < (sortD ltI (A.map (·.1))).length := (List.getElem?_eq_some_iff.mp hm).1
      have hg : ((M3.groups A).map (·.2))[i]? = some ((A.filter fun a => decide (a.1 = m)).map (·.2)) := by
        rw [hG, List.map_map, List.getElem?_map, hm]; rfl
      have htake : ((M3.groups A).map (·.2)).take (i + 1) = ((M3.groups A).map (·.2)).take i ++ [(A.filter fun a => decide (a.1 = m)).map (·.2)] := by
        rw [List.take_add_one, hg]; rfl
      array_get_dec
      refine ws_set ?_
      repeat' array_get_dec
      refine wd_lcf' ?_
      repeat' array_get_dec
      refine ⟨rfl, numIs m, sndD, fun d hd => ?_, ?_⟩
      · obtain ⟨p, _, rfl⟩ := List.mem_map.mp hd
        show wG _ _ [.fz Z, .fz row, .lck (.lst (A.map keyD)), .fz (.list (L.map .int)), .fz (.int m), .un, .un] _
        unfold keyD
        repeat' array_get_dec
        refine ⟨rfl, fun _ => ?_, fun _ => rfl⟩
        repeat' array_get_dec
        exact ⟨rfl, rfl⟩
      have ev : ((A.map keyD).filter (numIs m)).map sndD = ((A.filter fun a => decide (a.1 = m)).map (·.2)).map PyData.int := by
        have e1 : ((A.map keyD).filter (numIs m)) = (A.filter fun p => decide (p.1 = m)).map keyD := by
          have := filter_numIs A m; rw [List.map_id] at this; exact this
        rw [e1, List.map_map, List.map_map]; rfl
      rw [ev]
      show wFz _ [.fz Z, .fz row, .own (.lst (A.map keyD)), .fz (.list (L.map .int)), .fz (.int m), .un, .un] _
      have hfl : ((A.filter fun a => decide (a.1 = m)).map (·.2)).length ≤ 63 := by
        rw [List.length_map]; exact Nat.le_trans (List.length_filter_le ..) hl
      repeat' array_get_dec
      refine wf_eq (taken_ok (by omega) (by omega)) ?_
      repeat' array_get_dec
      refine ⟨_, _, rfl, rfl, by rw [htake, List.foldl_append, ← hL]; rfl, ?_⟩
      have := tak_len L ((A.filter fun a => decide (a.1 = m)).map (·.2))
      omega
    · rintro _ ⟨s4, L, rfl, n4, hL, hLl⟩
      refine ⟨s4, L, rfl, ?_⟩
      rw [hL, List.take_of_length_le (by rw [hG]; simp)]
  rintro _ ⟨s4, L, rfl, hL⟩
  repeat' array_get_dec
  show KV.R.val _ = _
  unfold needD
  rw [if_pos hall, M3.needN_groups hsort, ← hL, List.length_map]
end KL

end

section
local macro_rules | `(tactic| array_get_dec) => `(tactic| first
  | with_reducible refine KV.ws_seq ?_
  | with_reducible refine KV.ws_set ?_
  | with_reducible refine KV.ws_ret ?_
  | with_reducible refine KV.ws_asg ?_
  | with_reducible refine KV.ws_par' ?_
  | with_reducible refine KV.ws_parO ?_
  | with_reducible refine KV.wput2 ?_
  | with_reducible refine KV.ws_par3' ?_
  | with_reducible refine KV.ws_drop ?_
  | with_reducible refine KV.ws_setIx' ?_
  | ((with_reducible apply KV.wown); exact rfl)
  | ((with_reducible apply KV.wsi); exact rfl; exact rfl; (simp only [List.set_cons_zero, List.set_cons_succ]; try exact rfl))
  | with_reducible refine KV.ws_next ?_
  | with_reducible refine KV.ws_break ?_
  | with_reducible refine KV.wparp ?_
  | with_reducible refine KV.wparp3 ?_
  | with_reducible refine KV.wd_c ?_
  | with_reducible refine KV.wd_bin ?_
  | with_reducible refine KV.wd_un ?_
  | with_reducible refine KV.wd_cb ?_
  | with_reducible refine KV.wd_tup' ?_
  | with_reducible refine KV.wd_lst' ?_
  | with_reducible refine KV.wd_call ?_
  | with_reducible refine KV.wd_callK ?_
  | with_reducible refine KV.wd_callT ?_
  | with_reducible refine KV.wd_v ?_
  | with_reducible refine KV.wd_slice ?_
  | with_reducible refine KV.wd_isi ?_
  | with_reducible refine KV.wd_isi2 ?_
  | with_reducible refine KV.wst_val ?_
  | with_reducible refine KV.wst_tmp ?_
  | with_reducible refine KV.wst_slot ?_
  | with_reducible refine KV.wdr_val ?_
  | with_reducible refine KV.wdr_tmp ?_
  | with_reducible refine KV.wfz_val ?_
  | with_reducible refine KV.wfz_tmp ?_
  | with_reducible refine KV.wn_nil ?_
  | with_reducible refine KV.wn_cons ?_
  | with_reducible refine KV.wdrs_nil ?_
  | with_reducible refine KV.wdrs_cons ?_
  | with_reducible refine KV.wv_nil ?_
  | with_reducible refine KV.wv_cons ?_
  | with_reducible refine KV.wp_none ?_
  | with_reducible refine KV.wp_some ?_
  | with_reducible refine KV.wt_b ?_
  | with_reducible refine KV.wt_not ?_
  | with_reducible refine KV.wt_yes ?_
  | with_reducible refine KV.wgs_nil ?_
  | with_reducible refine KV.wgs_cons ?_
  | with_reducible refine KV.wg_tup ?_
  | with_reducible refine KV.wi_seq ?_
  | with_reducible refine KV.wsq_list ?_
  | with_reducible refine KV.wsq_tup ?_
  | ((with_reducible apply KV.wsq_own); exact rfl; (simp only [List.set_cons_zero, List.set_cons_succ]; try exact rfl))
  | ((with_reducible apply KV.wsq_lck); exact rfl)
  | with_reducible refine KV.wr_val ?_
  | with_reducible refine KV.wr_tmp ?_
  | with_reducible refine KV.wo_add ?_
  | with_reducible refine KV.wo_sub ?_
  | with_reducible refine KV.wo_neg ?_
  | with_reducible refine KV.wo_c ?_
  | with_reducible refine KV.wo_isN ?_
  | with_reducible refine KV.wo_notN ?_
  | with_reducible refine KV.wo_eqI ?_
  | with_reducible refine KV.wo_neI ?_
  | with_reducible refine KV.wo_eqNil ?_
  | with_reducible refine KV.wo_eqB ?_
  | with_reducible refine KV.wo_neB ?_
  | with_reducible refine KV.wo_neNil ?_
  | with_reducible refine KV.wo_inT ?_
  | with_reducible refine KV.wo_inL ?_
  | with_reducible refine KV.wo_notInT ?_
  | with_reducible refine KV.wo_notInL ?_
  | with_reducible refine KV.wo_srt ?_
  | with_reducible refine KV.wo_srtR ?_
  | with_reducible refine KV.wo_rev ?_
  | with_reducible refine KV.wo_lenL ?_
  | with_reducible refine KV.wo_lenT ?_
  | with_reducible refine KV.wo_intI ?_
  | with_reducible refine KV.wo_tupL ?_
  | with_reducible refine KV.wo_tupT ?_
  | with_reducible refine KV.wo_lstL ?_
  | with_reducible refine KV.wo_lstT ?_
  | ((with_reducible apply KV.wd_fz); exact rfl)
  | ((with_reducible apply KV.wd_own); exact rfl)
  | ((with_reducible apply KV.wd_lck); exact rfl)
  | ((with_reducible apply KV.wdr_fz); exact rfl)
  | ((with_reducible apply KV.wdr_own); exact rfl)
  | ((with_reducible apply KV.wdr_lck); exact rfl)
  | ((with_reducible apply KV.wfz_fz); exact rfl)
  | ((with_reducible apply KV.wfz_own); exact rfl; (simp only [List.set_cons_zero, List.set_cons_succ]; try exact rfl))
  | ((with_reducible apply KV.wput_v); exact rfl; (first | exact rfl | assumption); (simp only [List.set_cons_zero, List.set_cons_succ]; try exact rfl))
  | ((with_reducible apply KV.wput_t); exact rfl; (first | exact rfl | assumption); (simp only [List.set_cons_zero, List.set_cons_succ]; try exact rfl))
  | ((with_reducible apply KV.wg_nm); exact rfl; (first | exact rfl | assumption); (simp only [List.set_cons_zero, List.set_cons_succ]; try exact rfl))
  | ((with_reducible apply KV.wd_callB'); exact rfl)
  | ((with_reducible apply KV.wcb); exact rfl)
  | ((with_reducible apply KV.wd_app'); exact rfl)
  | ((with_reducible apply KV.wd_pop); exact rfl)
  | ((with_reducible apply KV.wapp); exact rfl; (simp only [List.set_cons_zero, List.set_cons_succ]; try exact rfl))
  | ((with_reducible apply KV.ws_gf_fz); exact rfl)
  | ((with_reducible apply KV.ws_gf_own'); exact rfl; (simp only [List.set_cons_zero, List.set_cons_succ]; try exact rfl))
  | ((with_reducible apply KV.wr_own); exact rfl)
  | ((with_reducible apply KV.wr_fz); exact rfl)
  | with_reducible refine KV.ws_if ?_
  | with_reducible refine KV.wd_if ?_
  | with_reducible refine KV.wt_and ?_
  | with_reducible refine KV.wt_or ?_
  | with_reducible refine KV.wd_chP ?_
  | with_reducible refine KV.wsame ?_
  | with_reducible refine KV.wi_r1' ?_
  | with_reducible refine KV.wi_r2' ?_
  | ((with_reducible apply KV.wrg); omega; omega)
  | ((with_reducible apply KV.wrg2); omega; omega; omega; omega; omega)
  | with_reducible refine KV.and_t ?_
  | with_reducible refine KV.and_f ?_
  | with_reducible refine KV.and_nt ?_
  | with_reducible refine KV.and_nf ?_
  | with_reducible refine KV.and_dec ?_
  | with_reducible refine KV.and_ndec ?_
  | with_reducible refine And.intro (fun hb => ?_) (fun hb => ?_)
  | ((with_reducible apply KV.wo_ixT); exact rfl)
  | ((with_reducible apply KV.wo_ixL); exact rfl)
  | ((with_reducible refine KV.wo_isT (b := true) ?_ ?_); exact rfl)
  | ((with_reducible refine KV.wo_isT (b := false) ?_ ?_); exact rfl)
  | ((with_reducible refine KV.wo_isT2 (b := true) ?_ ?_); exact rfl)
  | ((with_reducible refine KV.wo_isT2 (b := false) ?_ ?_); exact rfl)
  | ((with_reducible apply KV.wo_mul); omega)
  | ((with_reducible apply KV.wo_mod); omega)
  | ((with_reducible apply KV.wo_div); omega)
  | ((with_reducible apply KV.wo_addL); (simp only [List.length_append, List.length_cons, List.length_nil, List.length_map]; omega))
  | ((with_reducible apply KV.wo_addT); (simp only [List.length_append, List.length_cons, List.length_nil, List.length_map]; omega))
  | ((with_reducible refine And.intro ?_ (Nat.le_of_ble_eq_true rfl)))
  | with_reducible refine Exists.intro _ (And.intro rfl ?_)
  | fail "no step")
local macro_rules | `(tactic| array_get_dec) => `(tactic| ((with_reducible refine KL.take_r (by assumption) (by omega) (by omega) (fun d c h0 h1 hb => ?_)); (simp only [List.set_cons_zero, List.set_cons_succ])))
namespace KL
open PySem PySem.Spec PyProof.Rows L2 KV
theorem cut_to {xs : List PyData} {k : Nat} (h : k ≤ xs.length) : KV.cutD xs none (some (k : Int)) = xs.take k := by
  unfold KV.cutD
  rw [HT.sIx_none, HT.sIx_nat, Nat.min_eq_left h, List.drop_zero, Nat.sub_zero]
theorem cut_from {xs : List PyData} {k : Nat} (h : k ≤ xs.length) : KV.cutD xs (some (k : Int)) none = xs.drop k := by
  unfold KV.cutD
  rw [HT.sIx_none, HT.sIx_nat, Nat.min_eq_left h, List.take_of_length_le (by rw [List.length_drop]; exact Nat.le_refl _)]
theorem op_to {xs : List PyData} {k : Nat} (h : k ≤ xs.length) : opSlice (.list xs) none (some (k : Int)) = some (.tmp (.lst (xs.take k))) := by
  show some (KV.R.tmp (.lst (KV.cutD xs none (some ((k : Nat) : Int))))) = _
  rw [cut_to h]
theorem op_from {xs : List PyData} {k : Nat} (h : k + 1 ≤ xs.length) : opSlice (.list xs) (some ((k : Int) + 1)) none = some (.tmp (.lst (xs.drop (k + 1)))) := by
  show some (KV.R.tmp (.lst (KV.cutD xs (some (((k + 1 : Nat) : Nat) : Int)) none))) = _
  rw [cut_from h]
theorem told_ex {ts : Nat → Int} {t : Int} (h0 : ts 0 ≤ t) : ∀ n : Nat, 0 < n → ∃ v, v < n ∧ ts v ≤ t ∧ (v + 1 < n → t < ts (v + 1))
  | 1, _ => ⟨0, by omega, h0, fun h => by omega⟩
  | n + 2, _ => by
    by_cases c : ts (n + 1) ≤ t
    · exact ⟨n + 1, by omega, c, fun h => by omega⟩
    · obtain ⟨v, h1, h2, h3⟩ := told_ex h0 (n + 1) (by omega)
      refine ⟨v, by omega, h2, fun h => ?_⟩
      by_cases e : v + 1 < n + 1
      · exact h3 e
      · have : v = n := by omega
        subst this
        omega
theorem toldI_ne {n : Nat} {ts : Nat → Int} {lag t : Int} (hn : 0 < n) (h0 : ts 0 ≤ t) (hl : 0 ≤ lag) : 0 < (toldI n ts lag t).length := by
  obtain ⟨v, h1, h2, h3⟩ := told_ex h0 n hn
  have : (v : Int) ∈ toldI n ts lag t := by
    rw [toldI_mem]
    unfold tellB
    refine decide_eq_true ⟨by omega, by omega, by rw [Int.toNat_natCast]; exact h2, fun h => ?_⟩
    have := h3 (by omega)
    rw [show ((v : Int) + 1).toNat = v + 1 by omega]
    omega
  exact List.length_pos_of_mem this
theorem ok_tale {n : Nat} {ps : List (Int × Int)} (h : KeysOk 63 ps) : okD (n + 3) (.list (ps.map keyD)) = true :=
  okD_mkL (by have := h.1; rw [List.length_map]; omega) fun x hx => by obtain ⟨p, _, rfl⟩ := List.mem_map.mp hx; exact ok_key p
theorem fr_list {ps : List (Int × Int)} (h : KeysOk 63 ps) : F_frozen [.list (ps.map keyD)] = some (.val (.tuple (ps.map keyD))) := by
  have := frozen_ok 12 _ (ok_tale (n := 9) h)
  refine Eq.trans this ?_
  show some (KV.R.val (.tuple ((ps.map keyD).map (toTp 11)))) = _
  rw [List.map_map]; rfl
def canB (n : Nat) (ts : Nat → Int) (lag : Int) (as : List (Int × Int)) (k : Int) : Bool := as.all (tellP n ts lag) && decide ((M3.needN as : Int) ≤ k)
theorem can_ok {Z : PyData} {n : Nat} {ts : Nat → Int} {lag k : Int} (h : ZLike Z n ts lag) (h1 : opIx Z (.int 1) = some (.val (.int k))) {row : PyData} {ps : List (Int × Int)} (hf : F_frozen [row] = some (.val (.tuple (ps.map keyD)))) (hp : KeysOk 63 ps) : F_can_tell [Z, row] = some (.val (.bool (canB n ts lag (sortD ltK ps) k))) := by
  refine wf_get ?_
  unfold F_can_tell
  refine wf_run (r := [.fz Z, .fz row, .un]) rfl ?_
  unfold g_can_tell
  have hn := needs_ok h hf hp
  unfold canB
  unfold needD at hn
  by_cases c : (sortD ltK ps).all (tellP n ts lag) = true
  · rw [if_pos c] at hn
    rw [c]
    repeat' array_get_dec
    refine wf_eq hn ?_
    repeat' array_get_dec
    · refine wo_eq h1 ?_
      repeat' array_get_dec
      rfl
    · rename_i hb; exact absurd hb (by simp [KV.isNon])
  · rw [if_neg c] at hn
    rw [Bool.eq_false_iff.mpr c]
    repeat' array_get_dec
    refine wf_eq hn ?_
    repeat' array_get_dec
    · rename_i hb; exact absurd hb (by simp [KV.isNon])
    · rfl
end KL
namespace KL
open PySem PySem.Spec PyProof.Rows L2 KV
theorem best_mem : ∀ (P : List (M4.An × Nat)) (v : Int), M4.best P v = 0 ∨ ∃ p ∈ P, v < p.1.2 ∧ p.2 = M4.best P v
  | [], _ => .inl rfl
  | q :: P, v => by
    have ih := best_mem P v
    have e : M4.best (q :: P) v = if v < q.1.2 then max q.2 (M4.best P v) else M4.best P v := rfl
    rw [e]
    by_cases c : v < q.1.2
    · rw [if_pos c]
      rcases Nat.le_total q.2 (M4.best P v) with h | h
      · rw [Nat.max_eq_right h]
        rcases ih with z | ⟨p, hp, h1, h2⟩
        · exact .inl z
        · exact .inr ⟨p, List.mem_cons_of_mem _ hp, h1, h2⟩
      · rw [Nat.max_eq_left h]
        exact .inr ⟨q, by simp, c, rfl⟩
    · rw [if_neg c]
      rcases ih with z | ⟨p, hp, h1, h2⟩
      · exact .inl z
      · exact .inr ⟨p, List.mem_cons_of_mem _ hp, h1, h2⟩
theorem top_mem : ∀ (P : List (M4.An × Nat)), M4.top P = 0 ∨ ∃ p ∈ P, p.2 = M4.top P
  | [] => .inl rfl
  | q :: P => by
    have ih := top_mem P
    have e : M4.top (q :: P) = max q.2 (M4.top P) := rfl
    rw [e]
    rcases Nat.le_total q.2 (M4.top P) with h | h
    · rw [Nat.max_eq_right h]
      rcases ih with z | ⟨p, hp, h2⟩
      · exact .inl z
      · exact .inr ⟨p, List.mem_cons_of_mem _ hp, h2⟩
    · rw [Nat.max_eq_left h]
      exact .inr ⟨q, by simp, rfl⟩
theorem max_best (P : List (M4.An × Nat)) (v : Int) : maxL (((P.filter fun p => decide (v < p.1.2)).map fun p => (p.2 : Int)) ++ [0]) = (M4.best P v : Nat) := by
  refine (maxL_uniq ?_ ?_).symm
  · rcases best_mem P v with z | ⟨p, hp, h1, h2⟩
    · rw [z]; simp
    · refine List.mem_append_left _ (List.mem_map.mpr ⟨p, List.mem_filter.mpr ⟨hp, decide_eq_true h1⟩, by rw [h2]⟩)
  · intro y hy
    rcases List.mem_append.mp hy with z | z
    · obtain ⟨p, hp, rfl⟩ := List.mem_map.mp z
      obtain ⟨h1, h2⟩ := List.mem_filter.mp hp
      have := M4.best_ge P v p h1 (of_decide_eq_true h2)
      omega
    · simp at z; omega
theorem max_top (P : List (M4.An × Nat)) : maxL ((P.map fun p => (p.2 : Int)) ++ [0]) = (M4.top P : Nat) := by
  refine (maxL_uniq ?_ ?_).symm
  · rcases top_mem P with z | ⟨p, hp, h2⟩
    · rw [z]; simp
    · refine List.mem_append_left _ (List.mem_map.mpr ⟨p, hp, by rw [h2]⟩)
  · intro y hy
    rcases List.mem_append.mp hy with z | z
    · obtain ⟨p, hp, rfl⟩ := List.mem_map.mp z
      have := M4.top_ge P p hp
      omega
    · simp at z; omega
/-- a filter over the places of a list -/
theorem range_filter {α : Type} (P : List α) (keep val : PyData → _) (kp : α → Bool) (vp : α → PyData) (h : ∀ (j : Nat) (p : α), P[j]? = some p → keep (.int (j : Nat)) = kp p ∧ val (.int (j : Nat)) = vp p) : ((rangeD 0 P.length).filter keep).map val = (P.filter kp).map vp := by
  have e : rangeD 0 P.length = (List.range P.length).map fun (k : Nat) => PyData.int (k : Int) := by
    unfold rangeD
    refine List.map_congr_left fun k _ => ?_
    rw [Int.zero_add]
  rw [e]
  clear e
  have key : ∀ (Q : List α) (n : Nat), (∀ (j : Nat) (p : α), Q[j]? = some p → keep (.int ((n + j : Nat) : Int)) = kp p ∧ val (.int ((n + j : Nat) : Int)) = vp p) →
      (((List.range' n Q.length).map fun (k : Nat) => PyData.int (k : Int)).filter keep).map val = (Q.filter kp).map vp := by
    intro Q
    induction Q with
    | nil => intro n _; rfl
    | cons q Q ih =>
      intro n hq
      have h0 := hq 0 q rfl
      rw [Nat.add_zero] at h0
      have h1 := ih (n + 1) fun j p hp => by
        have := hq (j + 1) p (by simpa using hp)
        rw [show n + (j + 1) = n + 1 + j by omega] at this
        exact this
      rw [List.length_cons, List.range'_succ, List.map_cons]
      by_cases c : kp q = true
      · rw [List.filter_cons_of_pos (by rw [h0.1]; exact c), List.filter_cons_of_pos c, List.map_cons, List.map_cons, h0.2, h1]
      · rw [List.filter_cons_of_neg (by rw [h0.1]; exact c), List.filter_cons_of_neg c, h1]
  rw [List.range_eq_range']
  exact key P 0 fun j p hp => by rw [Nat.zero_add]; exact h j p hp
/-- the number that the longest row that falls has -/
def lfn (ps : List (Int × Int)) : Nat := M3.needN (sortD ltK ps)
theorem lfn_lf (ps : List (Int × Int)) : M4.LF ps (lfn ps) := (M4.needN_lf (sortD_sorted ltK_ok ps)).same fun x => sortD_mem ltK_ok ps x
def lowS (ps : List (Int × Int)) : List (Int × Int) := sortD ltK (ps.map fun p => (p.1, 0 - p.2))
def fallS (ps : List (Int × Int)) : List (Int × Int) := (lowS ps).map fun p => (p.1, 0 - p.2)
theorem fallS_aft (ps : List (Int × Int)) : (fallS ps).Pairwise M4.aft := by
  unfold fallS lowS
  rw [List.pairwise_map]
  refine (sortD_sorted ltK_ok _).imp fun {a b} h => ?_
  rw [ltK_iff] at h
  rcases h with z | ⟨z1, z2⟩
  · exact .inl z
  · exact .inr ⟨z1, by show 0 - b.2 < 0 - a.2; omega⟩
theorem fallS_mem (ps : List (Int × Int)) (x : Int × Int) : x ∈ fallS ps ↔ x ∈ ps := by
  unfold fallS lowS
  rw [List.mem_map]
  constructor
  · rintro ⟨q, hq, rfl⟩
    rw [sortD_mem ltK_ok] at hq
    obtain ⟨p, hp, rfl⟩ := List.mem_map.mp hq
    have : (p.1, 0 - (0 - p.2)) = p := by rw [show 0 - (0 - p.2) = p.2 by omega]
    show (p.1, 0 - (0 - p.2)) ∈ ps
    rw [this]; exact hp
  · intro hx
    refine ⟨(x.1, 0 - x.2), (sortD_mem ltK_ok _ _).mpr (List.mem_map.mpr ⟨x, hx, rfl⟩), ?_⟩
    show (x.1, 0 - (0 - x.2)) = x
    rw [show 0 - (0 - x.2) = x.2 by omega]
theorem fallS_top (ps : List (Int × Int)) : M4.top (M4.dpOf (fallS ps)) = lfn ps :=
  ((M4.top_lf (fallS_aft ps)).same (fallS_mem ps)).uniq (lfn_lf ps)
theorem lowS_len (ps : List (Int × Int)) : (lowS ps).length ≤ ps.length := by
  have := sortD_length ltK (ps.map fun p => (p.1, 0 - p.2))
  rw [List.length_map] at this
  exact this
theorem sx_ok {ps : List (Int × Int)} (h0 : ps ≠ []) (hl : ps.length ≤ 60) : opSX (.list (ps.map fun p => PyData.tuple [.int p.1, .int (0 - p.2)])) = some (.tmp (.lst ((lowS ps).map keyD))) := by
  cases ps with
  | nil => exact absurd rfl h0
  | cons p ps =>
    have h := opSX_tup (k := [p.1, 0 - p.2]) (ks := ps.map fun p => [p.1, 0 - p.2]) (by rw [List.length_cons, List.length_map]; rw [List.length_cons] at hl; omega) (by
      unfold evenX
      simp)
    have e1 : (((p :: ps).map fun p => PyData.tuple [.int p.1, .int (0 - p.2)])) = (([p.1, 0 - p.2] :: ps.map fun p => [p.1, 0 - p.2]).map tupD) := by
      rw [List.map_cons, List.map_cons, List.map_map]; rfl
    rw [e1, h]
    have e2 : ([p.1, 0 - p.2] :: ps.map fun p => [p.1, 0 - p.2]) = (((p :: ps).map fun p => (p.1, 0 - p.2)).map fun p => [p.1, p.2]) := by
      rw [List.map_map]; rfl
    rw [e2, sortD_map, List.map_map]
    rfl
theorem lowS_ne {ps : List (Int × Int)} (h0 : ps ≠ []) : lowS ps ≠ [] := by
  cases ps with
  | nil => exact absurd rfl h0
  | cons p ps =>
    intro h
    have : (p.1, 0 - p.2) ∈ lowS (p :: ps) := (sortD_mem ltK_ok _ _).mpr (List.mem_map.mpr ⟨p, by simp, rfl⟩)
    rw [h] at this
    cases this
def lowD : PyData → PyData
  | .tuple [.int t, .int v] => .tuple [.int t, .int (0 - v)]
  | _ => .none
theorem dp_len (s : List M4.An) (h : s.Pairwise M4.aft) : (M4.dpOf s).length = s.length := by
  have := congrArg List.length (M4.inv_run s h).2
  rw [List.length_map] at this
  exact this
def nmD (p : M4.An × Nat) : PyData := .int (p.2 : Int)
theorem least_ok {ps : List (Int × Int)} (h0 : ps ≠ []) (hl : ps.length ≤ 60) : F__law_least [.list (ps.map keyD)] = some (.val (.int (lfn ps : Nat))) := by
  refine wf_get ?_
  unfold F__law_least
  refine wf_run (r := [.fz (.list (ps.map keyD)), .un, .un, .un, .un, .un, .un, .un, .un]) rfl ?_
  unfold g__law_least
  have hlow := lowS_len ps
  refine ws_cut (M := fun r1 => r1 = [.fz (.list (ps.map keyD)), .own (.lst ((lowS ps).map keyD)), .un, .un, .un, .un, .un, .un, .un]) ?_ ?_
  · refine ws_set (wd_un (wd_lcm ?_))
    repeat' array_get_dec
    refine ⟨rfl, lowD, fun d hd => ?_, ?_⟩
    · obtain ⟨p, _, rfl⟩ := List.mem_map.mp hd
      unfold keyD
      simp only [wipeE, List.set_cons_zero, List.set_cons_succ]
      repeat' array_get_dec
      exact ⟨rfl, rfl⟩
    · simp only [unlck]
      repeat' array_get_dec
      refine wo_eq (z := .tmp (.lst ((lowS ps).map keyD))) ?_ ?_
      · rw [List.map_map]
        exact sx_ok h0 hl
      · repeat' array_get_dec
        rfl
  rintro _ rfl
  refine ws_cut (M := fun r1 => r1 = [.fz (.list (ps.map keyD)), .own (.lst ((lowS ps).map keyD)), .own (.lst []), .un, .un, .un, .un, .un, .un]) ?_ ?_
  · repeat' array_get_dec
    rfl
  rintro _ rfl
  have hfl : (fallS ps).length = (lowS ps).length := by unfold fallS; rw [List.length_map]
  refine ws_cut (M := fun r1 => ∃ s3 s4 s5 s6 s7 s8 : Sl, r1 = [.fz (.list (ps.map keyD)), .fz (.list ((lowS ps).map keyD)), .own (.lst ((M4.dpOf (fallS ps)).map nmD)), s3, s4, s5, s6, s7, s8]) ?_ ?_
  · refine ws_forI ?_
    refine wi_enum ?_
    repeat' array_get_dec
    refine ⟨by rw [List.length_map]; omega, rfl, fun i r1 => ∃ s3 s4 s5 s6 : Sl, r1 = [.fz (.list (ps.map keyD)), .fz (.list ((lowS ps).map keyD)), .own (.lst ((M4.dpOf ((fallS ps).take i)).map nmD)), s3, s4, s5, s6, .un, .un] ∧ nlk s3 = true ∧ nlk s4 = true ∧ nlk s5 = true ∧ nlk s6 = true, ?_, ?_, ?_⟩
    · exact ⟨.un, .un, .un, .un, rfl, rfl, rfl, rfl, rfl⟩
    · rintro i d _ hd ⟨s3, s4, s5, s6, rfl, n3, n4, n5, n6⟩
      obtain ⟨x, hx, rfl⟩ := enumD_get hd
      rw [List.getElem?_map] at hx
      obtain ⟨a, ha, rfl⟩ := Option.map_eq_some_iff.mp hx
      have hi : i < (lowS ps).length := (List.getElem?_eq_some_iff.mp ha).1
      have hfa : (fallS ps)[i]? = some (a.1, 0 - a.2) := by unfold fallS; rw [List.getElem?_map, ha]; rfl
      have htk : (fallS ps).take (i + 1) = (fallS ps).take i ++ [(a.1, 0 - a.2)] := by rw [List.take_add_one, hfa]; rfl
      have hpw : ((fallS ps).take i).Pairwise M4.aft := (fallS_aft ps).sublist (List.take_sublist _ _)
      have hdl : (M4.dpOf ((fallS ps).take i)).length = i := by rw [dp_len _ hpw, List.length_take]; omega
      have hinv := (M4.inv_run _ hpw).2
      generalize hP : M4.dpOf ((fallS ps).take i) = P at *
      show wG _ (.tuple [.int (i : Nat), .tuple [.int a.1, .int a.2]]) _ _
      refine wg_tup (wgs_cons (wg_nm rfl n3 rfl ?_))
      refine wgs_cons (wg_tup (wgs_cons (wg_nm rfl n4 rfl ?_)))
      refine wgs_cons (wg_nm rfl n5 rfl ?_)
      refine wgs_nil (wgs_nil ?_)
      simp only [List.set_cons_zero, List.set_cons_succ]
      refine ws_cut (M := fun r1 => r1 = [.fz (.list (ps.map keyD)), .fz (.list ((lowS ps).map keyD)), .own (.lst (P.map nmD)), .fz (.int (i : Nat)), .fz (.int a.1), .fz (.int a.2), .own (.lst ((P.filter fun p => decide (0 - a.2 < p.1.2)).map nmD)), .un, .un]) ?_ ?_
      · refine ws_set (wd_lcf' ?_)
        repeat' array_get_dec
        have hat : ∀ (j : Nat) (p : M4.An × Nat), P[j]? = some p → (lowS ps)[j]? = some (p.1.1, 0 - p.1.2) := by
          intro j p hp
          have h1 : (P.map (·.1))[j]? = some p.1 := by rw [List.getElem?_map, hp]; rfl
          rw [hinv, List.getElem?_take] at h1
          split at h1
          · unfold fallS at h1
            rw [List.getElem?_map] at h1
            obtain ⟨q, hq, e⟩ := Option.map_eq_some_iff.mp h1
            rw [hq, ← e]
            show some q = some (q.1, 0 - (0 - q.2))
            rw [show 0 - (0 - q.2) = q.2 by omega]
          · cases h1
        refine ⟨rfl, fun d => match d with | .int j => decide ((match P[j.toNat]? with | some p => 0 - p.1.2 | none => 0) < a.2) | _ => false, fun d => match d with | .int j => (match P[j.toNat]? with | some p => nmD p | none => .none) | _ => .none, fun d hd => ?_, ?_⟩
        · obtain ⟨j, hj⟩ := List.getElem?_of_mem hd
          obtain ⟨hlt, rfl⟩ := range_at hj
          have hlt2 : j < P.length := by rw [hdl]; omega
          have hpj : P[j]? = some P[j] := List.getElem?_eq_getElem hlt2
          have hlj := hat j _ hpj
          have e1 : ((lowS ps).map keyD)[j]? = some (keyD (P[j].1.1, 0 - P[j].1.2)) := by rw [List.getElem?_map, hlj]; rfl
          have e2 : (P.map nmD)[j]? = some (nmD P[j]) := by rw [List.getElem?_map, hpj]; rfl
          simp only [wipeE, List.set_cons_zero, List.set_cons_succ]
          repeat' array_get_dec
          refine wo_ixL (atI_nat' e1) ?_
          repeat' array_get_dec
          refine wo_eq (z := .val (.int (0 - P[j].1.2))) rfl ?_
          repeat' array_get_dec
          refine ⟨by simp [hpj], fun hb => ?_, fun hb => rfl⟩
          repeat' array_get_dec
          refine wo_ixL (atI_nat' e2) ?_
          repeat' array_get_dec
          exact ⟨by simp [hpj], rfl⟩
        · simp only [unlck]
          rw [show ((i : Nat) : Int).toNat = P.length by omega]
          rw [range_filter P _ _ (fun p => decide (0 - a.2 < p.1.2)) nmD fun j p hp => ⟨by
            simp only [Int.toNat_natCast, hp]
            exact decide_eq_decide.mpr ⟨fun h => by have h2 : (0 : Int) - p.1.2 < a.2 := h; omega, fun h => by have h2 : (0 : Int) - a.2 < p.1.2 := h; show (0 : Int) - p.1.2 < a.2; omega⟩, by simp only [Int.toNat_natCast, hp]⟩]
          repeat' array_get_dec
          rfl
      rintro _ rfl
      have e3 : ((P.filter fun p : M4.An × Nat => decide (0 - a.2 < p.1.2)).map nmD) ++ [PyData.int 0] = ((((P.filter fun p : M4.An × Nat => decide (0 - a.2 < p.1.2)).map fun p : M4.An × Nat => (p.2 : Int)) ++ [0]).map PyData.int) := by
        rw [List.map_append, List.map_map]; rfl
      have hfl2 : (P.filter fun p => decide (0 - a.2 < p.1.2)).length ≤ 60 := Nat.le_trans (List.length_filter_le _ _) (by omega)
      repeat' array_get_dec
      · rw [e3]
        refine wo_maxL (by simp) ?_
        rw [max_best]
        repeat' array_get_dec
        · refine ⟨.fz (.int (i : Nat)), .fz (.int a.1), .fz (.int a.2), .own (.lst ((P.filter fun p => decide (0 - a.2 < p.1.2)).map nmD)), ?_, rfl, rfl, rfl, rfl⟩
          rw [htk, M4.dp_snoc, hP, List.map_append]
          have e4 : nmD ((a.1, 0 - a.2), M4.best P (0 - a.2) + 1) = .int (1 + (M4.best P (0 - a.2) : Nat)) := by
            show PyData.int _ = _
            congr 1
            push_cast
            omega
          show _ = [_, _, Sl.own (Ob.lst (P.map nmD ++ [nmD ((a.1, 0 - a.2), M4.best P (0 - a.2) + 1)])), _, _, _, _, _, _]
          rw [e4]
        · rw [List.length_map, hdl, sizeLine_eq]; omega
    · rintro _ ⟨s3, s4, s5, s6, rfl, n3, n4, n5, n6⟩
      refine ⟨s3, s4, s5, s6, .un, .un, ?_⟩
      rw [enumD_length, List.length_map, ← hfl, List.take_length]
  rintro _ ⟨s3, s4, s5, s6, s7, s8, rfl⟩
  have hdl : (M4.dpOf (fallS ps)).length ≤ 60 := by rw [dp_len _ (fallS_aft ps)]; omega
  have e3 : ((M4.dpOf (fallS ps)).map nmD) ++ [PyData.int 0] = ((((M4.dpOf (fallS ps)).map fun p : M4.An × Nat => (p.2 : Int)) ++ [0]).map PyData.int) := by
    rw [List.map_append, List.map_map]; rfl
  repeat' array_get_dec
  rw [e3]
  refine wo_maxL (by simp) ?_
  rw [max_top, fallS_top]
  repeat' array_get_dec
  rfl
end KL

end

section
local macro_rules | `(tactic| array_get_dec) => `(tactic| first
  | with_reducible refine KV.ws_seq ?_
  | with_reducible refine KV.ws_set ?_
  | with_reducible refine KV.ws_ret ?_
  | with_reducible refine KV.ws_asg ?_
  | with_reducible refine KV.ws_par' ?_
  | with_reducible refine KV.ws_parO ?_
  | with_reducible refine KV.wput2 ?_
  | with_reducible refine KV.ws_par3' ?_
  | with_reducible refine KV.ws_drop ?_
  | with_reducible refine KV.ws_setIx' ?_
  | ((with_reducible apply KV.wown); exact rfl)
  | ((with_reducible apply KV.wsi); exact rfl; exact rfl; (simp only [List.set_cons_zero, List.set_cons_succ]; try exact rfl))
  | with_reducible refine KV.ws_next ?_
  | with_reducible refine KV.ws_break ?_
  | with_reducible refine KV.wparp ?_
  | with_reducible refine KV.wparp3 ?_
  | with_reducible refine KV.wd_c ?_
  | with_reducible refine KV.wd_bin ?_
  | with_reducible refine KV.wd_un ?_
  | with_reducible refine KV.wd_cb ?_
  | with_reducible refine KV.wd_tup' ?_
  | with_reducible refine KV.wd_lst' ?_
  | with_reducible refine KV.wd_call ?_
  | with_reducible refine KV.wd_callK ?_
  | with_reducible refine KV.wd_callT ?_
  | with_reducible refine KV.wd_v ?_
  | with_reducible refine KV.wd_slice ?_
  | with_reducible refine KV.wd_isi ?_
  | with_reducible refine KV.wd_isi2 ?_
  | with_reducible refine KV.wst_val ?_
  | with_reducible refine KV.wst_tmp ?_
  | with_reducible refine KV.wst_slot ?_
  | with_reducible refine KV.wdr_val ?_
  | with_reducible refine KV.wdr_tmp ?_
  | with_reducible refine KV.wfz_val ?_
  | with_reducible refine KV.wfz_tmp ?_
  | with_reducible refine KV.wn_nil ?_
  | with_reducible refine KV.wn_cons ?_
  | with_reducible refine KV.wdrs_nil ?_
  | with_reducible refine KV.wdrs_cons ?_
  | with_reducible refine KV.wv_nil ?_
  | with_reducible refine KV.wv_cons ?_
  | with_reducible refine KV.wp_none ?_
  | with_reducible refine KV.wp_some ?_
  | with_reducible refine KV.wt_b ?_
  | with_reducible refine KV.wt_not ?_
  | with_reducible refine KV.wt_yes ?_
  | with_reducible refine KV.wgs_nil ?_
  | with_reducible refine KV.wgs_cons ?_
  | with_reducible refine KV.wg_tup ?_
  | with_reducible refine KV.wi_seq ?_
  | with_reducible refine KV.wsq_list ?_
  | with_reducible refine KV.wsq_tup ?_
  | ((with_reducible apply KV.wsq_own); exact rfl; (simp only [List.set_cons_zero, List.set_cons_succ]; try exact rfl))
  | ((with_reducible apply KV.wsq_lck); exact rfl)
  | with_reducible refine KV.wr_val ?_
  | with_reducible refine KV.wr_tmp ?_
  | with_reducible refine KV.wo_add ?_
  | with_reducible refine KV.wo_sub ?_
  | with_reducible refine KV.wo_neg ?_
  | with_reducible refine KV.wo_c ?_
  | with_reducible refine KV.wo_isN ?_
  | with_reducible refine KV.wo_notN ?_
  | with_reducible refine KV.wo_eqI ?_
  | with_reducible refine KV.wo_neI ?_
  | with_reducible refine KV.wo_eqNil ?_
  | with_reducible refine KV.wo_eqB ?_
  | with_reducible refine KV.wo_neB ?_
  | with_reducible refine KV.wo_neNil ?_
  | with_reducible refine KV.wo_inT ?_
  | with_reducible refine KV.wo_inL ?_
  | with_reducible refine KV.wo_notInT ?_
  | with_reducible refine KV.wo_notInL ?_
  | with_reducible refine KV.wo_srt ?_
  | with_reducible refine KV.wo_srtR ?_
  | with_reducible refine KV.wo_rev ?_
  | with_reducible refine KV.wo_lenL ?_
  | with_reducible refine KV.wo_lenT ?_
  | with_reducible refine KV.wo_intI ?_
  | with_reducible refine KV.wo_tupL ?_
  | with_reducible refine KV.wo_tupT ?_
  | with_reducible refine KV.wo_lstL ?_
  | with_reducible refine KV.wo_lstT ?_
  | ((with_reducible apply KV.wd_fz); exact rfl)
  | ((with_reducible apply KV.wd_own); exact rfl)
  | ((with_reducible apply KV.wd_lck); exact rfl)
  | ((with_reducible apply KV.wdr_fz); exact rfl)
  | ((with_reducible apply KV.wdr_own); exact rfl)
  | ((with_reducible apply KV.wdr_lck); exact rfl)
  | ((with_reducible apply KV.wfz_fz); exact rfl)
  | ((with_reducible apply KV.wfz_own); exact rfl; (simp only [List.set_cons_zero, List.set_cons_succ]; try exact rfl))
  | ((with_reducible apply KV.wput_v); exact rfl; (first | exact rfl | assumption); (simp only [List.set_cons_zero, List.set_cons_succ]; try exact rfl))
  | ((with_reducible apply KV.wput_t); exact rfl; (first | exact rfl | assumption); (simp only [List.set_cons_zero, List.set_cons_succ]; try exact rfl))
  | ((with_reducible apply KV.wg_nm); exact rfl; (first | exact rfl | assumption); (simp only [List.set_cons_zero, List.set_cons_succ]; try exact rfl))
  | ((with_reducible apply KV.wd_callB'); exact rfl)
  | ((with_reducible apply KV.wcb); exact rfl)
  | ((with_reducible apply KV.wd_app'); exact rfl)
  | ((with_reducible apply KV.wd_pop); exact rfl)
  | ((with_reducible apply KV.wapp); exact rfl; (simp only [List.set_cons_zero, List.set_cons_succ]; try exact rfl))
  | ((with_reducible apply KV.ws_gf_fz); exact rfl)
  | ((with_reducible apply KV.ws_gf_own'); exact rfl; (simp only [List.set_cons_zero, List.set_cons_succ]; try exact rfl))
  | ((with_reducible apply KV.wr_own); exact rfl)
  | ((with_reducible apply KV.wr_fz); exact rfl)
  | with_reducible refine KV.ws_if ?_
  | with_reducible refine KV.wd_if ?_
  | with_reducible refine KV.wt_and ?_
  | with_reducible refine KV.wt_or ?_
  | with_reducible refine KV.wd_chP ?_
  | with_reducible refine KV.wsame ?_
  | with_reducible refine KV.wi_r1' ?_
  | with_reducible refine KV.wi_r2' ?_
  | ((with_reducible apply KV.wrg); omega; omega)
  | ((with_reducible apply KV.wrg2); omega; omega; omega; omega; omega)
  | with_reducible refine KV.and_t ?_
  | with_reducible refine KV.and_f ?_
  | with_reducible refine KV.and_nt ?_
  | with_reducible refine KV.and_nf ?_
  | with_reducible refine KV.and_dec ?_
  | with_reducible refine KV.and_ndec ?_
  | with_reducible refine And.intro (fun hb => ?_) (fun hb => ?_)
  | ((with_reducible apply KV.wo_ixT); exact rfl)
  | ((with_reducible apply KV.wo_ixL); exact rfl)
  | ((with_reducible refine KV.wo_isT (b := true) ?_ ?_); exact rfl)
  | ((with_reducible refine KV.wo_isT (b := false) ?_ ?_); exact rfl)
  | ((with_reducible refine KV.wo_isT2 (b := true) ?_ ?_); exact rfl)
  | ((with_reducible refine KV.wo_isT2 (b := false) ?_ ?_); exact rfl)
  | ((with_reducible apply KV.wo_mul); omega)
  | ((with_reducible apply KV.wo_mod); omega)
  | ((with_reducible apply KV.wo_div); omega)
  | ((with_reducible apply KV.wo_addL); (simp only [List.length_append, List.length_cons, List.length_nil, List.length_map]; omega))
  | ((with_reducible apply KV.wo_addT); (simp only [List.length_append, List.length_cons, List.length_nil, List.length_map]; omega))
  | ((with_reducible refine And.intro ?_ (Nat.le_of_ble_eq_true rfl)))
  | with_reducible refine Exists.intro _ (And.intro rfl ?_)
  | fail "no step")
local macro_rules | `(tactic| array_get_dec) => `(tactic| ((with_reducible refine KL.take_r (by assumption) (by omega) (by omega) (fun d c h0 h1 hb => ?_)); (simp only [List.set_cons_zero, List.set_cons_succ])))
namespace KL
open PySem PySem.Spec PyProof.Rows L2 KV
theorem times_up {b : Nat} {last : Bool} {m : Int} {ln : List (Int × Ver)} (h : LnOk b last m ln) : ∀ i j, i < j → j < ln.length → timeAt ln i < timeAt ln j := by
  intro i j hij hj
  have h1 : ln[i]? = some ln[i] := List.getElem?_eq_getElem (by omega)
  have h2 : ln[j]? = some ln[j] := List.getElem?_eq_getElem hj
  have := (List.pairwise_iff_getElem.mp h.up) i j (by omega) hj hij
  unfold timeAt
  rw [h1, h2]; exact this
theorem tellB_iff {n : Nat} {ts : Nat → Int} {lag v t : Int} : tellB n ts lag v t = true ↔ 0 ≤ v ∧ v < n ∧ ts v.toNat ≤ t ∧ (v + 1 < n → t < ts (v + 1).toNat + lag) := by
  unfold tellB; exact decide_eq_true_iff
theorem fit_ne {n : Nat} {ts : Nat → Int} {lag t now : Int} (h0 : ts 0 ≤ t) (hn : 0 < n) (hl : 0 ≤ lag) (hu : ∀ i j, i < j → j < n → ts i < ts j) (h1 : now < n) (h2 : ts now.toNat ≤ t) : ∃ v, v ∈ toldI n ts lag t ∧ now ≤ v := by
  obtain ⟨v, a1, a2, a3⟩ := told_ex h0 n hn
  refine ⟨(v : Nat), ?_, ?_⟩
  · rw [toldI_mem, tellB_iff]
    refine ⟨by omega, by omega, by rw [Int.toNat_natCast]; exact a2, fun h => ?_⟩
    have := a3 (by omega)
    rw [show ((v : Int) + 1).toNat = v + 1 by omega]
    omega
  · refine Int.not_lt.mp fun c => ?_
    have b1 : v + 1 < n := by omega
    have b2 := a3 b1
    have b3 : ts (v + 1) ≤ ts now.toNat := by
      by_cases e : v + 1 = now.toNat
      · rw [e]; exact Int.le_refl _
      · exact Int.le_of_lt (hu _ _ (by omega) (by omega))
    omega
/-- the way of one server -/
structure WayOk (n : Nat) (ts : Nat → Int) (lag : Int) (k : Nat) (w : List Int) : Prop where
  len : w.length = k
  tell : ∀ (i : Nat) v, w[i]? = some v → tellB n ts lag v (i : Nat) = true
  up : w.Pairwise (· ≤ ·)
def geD (now : Int) : PyData → Bool
  | .int v => decide (now ≤ v)
  | _ => false
theorem walked_w {n b : Nat} {c : Ob} (h : BxI n c) (hn : n ≤ 50000000) {z : Zn} {m : Int} (hln : LnOk b true m z.line) (hlen : z.line.length ≤ 900) (hlag : 0 ≤ z.lag) {most : Int} (hm : 0 ≤ most ∧ most ≤ 1000) :
    wB G__law_walked c [zoneD z, .int most] fun y c' => ∃ w, y = .tmp (.lst (w.map .int)) ∧ WayOk z.line.length (timeAt z.line) z.lag most.toNat w ∧ BxI (n + 1000) c' := by
  have hZ := zlike_zone z
  have hpos : 0 < z.line.length := by obtain ⟨v, r, e⟩ := hln.first; rw [e]; simp
  have ht0 := (KL.LnOk.times hln).1
  have hup := times_up hln
  unfold G__law_walked
  refine wb_run (r := [.own c, .fz (zoneD z), .fz (.int most), .un, .un, .un, .un, .un]) rfl ?_
  unfold g__law_walked
  refine ws_cut (M := fun r1 => r1 = [.own c, .fz (zoneD z), .fz (.int most), .own (.lst []), .fz (.int 0), .un, .un, .un]) ?_ ?_
  · repeat' array_get_dec
    rfl
  rintro _ rfl
  refine ws_cut (M := fun r1 => ∃ (c' : Ob) (w : List Int) (s4 s5 s6 : Sl), r1 = [.own c', .fz (zoneD z), .fz (.int most), .own (.lst (w.map .int)), s4, s5, s6, .un] ∧ WayOk z.line.length (timeAt z.line) z.lag most.toNat w ∧ BxI (n + 1000) c') ?_ ?_
  · refine ws_forI ?_
    repeat' array_get_dec
    refine ⟨rfl, fun i r1 => ∃ (c' : Ob) (w : List Int) (now : Int) (s5 s6 : Sl), r1 = [.own c', .fz (zoneD z), .fz (.int most), .own (.lst (w.map .int)), .fz (.int now), s5, s6, .un] ∧ nlk s5 = true ∧ nlk s6 = true ∧ WayOk z.line.length (timeAt z.line) z.lag i w ∧ (∀ v ∈ w, v ≤ now) ∧ 0 ≤ now ∧ now < z.line.length ∧ timeAt z.line now.toNat ≤ (i : Nat) ∧ BxI (n + i) c', ?_, ?_, ?_⟩
    · refine ⟨c, [], 0, .un, .un, rfl, rfl, rfl, ⟨rfl, by simp, by simp⟩, by simp, Int.le_refl _, by omega, ?_, h⟩
      show timeAt z.line 0 ≤ _
      rw [ht0]; exact Int.le_refl _
    · rintro i d _ hd ⟨c', w, now, s5, s6, rfl, n5, n6, hw, hle, hn0, hn1, hts, hb⟩
      obtain ⟨hi, rfl⟩ := range_at hd
      have hi2 : (i : Int) < 1000 := by omega
      array_get_dec
      refine ws_cut (M := fun r1 => r1 = [.own c', .fz (zoneD z), .fz (.int most), .own (.lst (w.map .int)), .fz (.int now), .fz (.int (i : Nat)), .own (.lst (((toldI z.line.length (timeAt z.line) z.lag (i : Nat)).filter fun v => decide (now ≤ v)).map .int)), .un]) ?_ ?_
      · refine ws_set (wd_lcf' ?_)
        repeat' array_get_dec
        refine wf_eq (law_told_at_ok hZ (by omega) _) ?_
        rw [toldD_eq]
        repeat' array_get_dec
        refine ⟨rfl, geD now, id, fun d hd => ?_, ?_⟩
        · obtain ⟨v, _, rfl⟩ := List.mem_map.mp hd
          simp only [wipeE, List.set_cons_zero, List.set_cons_succ]
          repeat' array_get_dec
          refine ⟨rfl, fun _ => ?_, fun _ => rfl⟩
          repeat' array_get_dec
          exact ⟨rfl, rfl⟩
        · simp only [unlck]
          rw [filter_map_int, List.map_id]
          repeat' array_get_dec
          rfl
      rintro _ rfl
      obtain ⟨v0, hv0, hv1⟩ := fit_ne (ts := timeAt z.line) (lag := z.lag) (t := (i : Nat)) (now := now) (by rw [ht0]; omega) hpos hlag hup hn1 hts
      have hfit : 0 < ((toldI z.line.length (timeAt z.line) z.lag (i : Nat)).filter fun v => decide (now ≤ v)).length := List.length_pos_of_mem (List.mem_filter.mpr ⟨hv0, decide_eq_true hv1⟩)
      have hfl : ((toldI z.line.length (timeAt z.line) z.lag (i : Nat)).filter fun v => decide (now ≤ v)).length ≤ z.line.length := Nat.le_trans (List.length_filter_le _ _) (toldI_len _ _ _ _)
      repeat' array_get_dec
      refine pick_r hb (by omega) (by rw [List.length_map]; omega) fun x c2 hx hb2 => ?_
      obtain ⟨v, hv, rfl⟩ := List.mem_map.mp hx
      obtain ⟨hv2, hv3⟩ := List.mem_filter.mp hv
      have hv4 : now ≤ v := of_decide_eq_true hv3
      rw [toldI_mem] at hv2
      have hv5 := tellB_iff.mp hv2
      simp only [List.set_cons_zero, List.set_cons_succ]
      repeat' array_get_dec
      · refine ⟨c2, w ++ [v], v, _, _, by rw [List.map_append]; rfl, rfl, rfl, ⟨by rw [List.length_append, hw.len]; rfl, ?_, ?_⟩, ?_, hv5.1, hv5.2.1, ?_, hb2.mono (by omega)⟩
        · intro j u hj
          by_cases cj : j < w.length
          · rw [List.getElem?_append_left cj] at hj
            exact hw.tell j u hj
          · rw [List.getElem?_append_right (by omega)] at hj
            have hl := hw.len
            by_cases cz : j - w.length = 0
            · rw [cz] at hj
              have : v = u := by simpa using hj
              subst this
              rw [show j = i by omega]
              exact hv2
            · obtain ⟨q, hq⟩ : ∃ q, j - w.length = q + 1 := ⟨j - w.length - 1, by omega⟩
              rw [hq] at hj
              simp at hj
        · refine List.pairwise_append.mpr ⟨hw.up, by simp, fun u hu y hy => ?_⟩
          rw [List.mem_singleton] at hy
          have := hle u hu
          omega
        · intro u hu
          rcases List.mem_append.mp hu with q | q
          · have := hle u q; omega
          · rw [List.mem_singleton] at q; omega
        · have := hv5.2.2.1
          omega
      · rw [List.length_map, hw.len, sizeLine_eq]; omega
    · rintro _ ⟨c', w, now, s5, s6, rfl, n5, n6, hw, hle, hn0, hn1, hts, hb⟩
      rw [rangeD_length] at hw hb
      exact ⟨c', w, _, s5, s6, rfl, hw, hb.mono (by omega)⟩
  rintro _ ⟨c', w, s4, s5, s6, rfl, hw, hb⟩
  repeat' array_get_dec
  first
    | exact ⟨hw, hb⟩
    | exact ⟨w, rfl, hw, hb⟩
end KL

end

section
local macro_rules | `(tactic| array_get_dec) => `(tactic| first
  | with_reducible refine KV.ws_seq ?_
  | with_reducible refine KV.ws_set ?_
  | with_reducible refine KV.ws_ret ?_
  | with_reducible refine KV.ws_asg ?_
  | with_reducible refine KV.ws_par' ?_
  | with_reducible refine KV.ws_parO ?_
  | with_reducible refine KV.wput2 ?_
  | with_reducible refine KV.ws_par3' ?_
  | with_reducible refine KV.ws_drop ?_
  | with_reducible refine KV.ws_setIx' ?_
  | ((with_reducible apply KV.wown); exact rfl)
  | ((with_reducible apply KV.wsi); exact rfl; exact rfl; (simp only [List.set_cons_zero, List.set_cons_succ]; try exact rfl))
  | with_reducible refine KV.ws_next ?_
  | with_reducible refine KV.ws_break ?_
  | with_reducible refine KV.wparp ?_
  | with_reducible refine KV.wparp3 ?_
  | with_reducible refine KV.wd_c ?_
  | with_reducible refine KV.wd_bin ?_
  | with_reducible refine KV.wd_un ?_
  | with_reducible refine KV.wd_cb ?_
  | with_reducible refine KV.wd_tup' ?_
  | with_reducible refine KV.wd_lst' ?_
  | with_reducible refine KV.wd_call ?_
  | with_reducible refine KV.wd_callK ?_
  | with_reducible refine KV.wd_callT ?_
  | with_reducible refine KV.wd_v ?_
  | with_reducible refine KV.wd_slice ?_
  | with_reducible refine KV.wd_isi ?_
  | with_reducible refine KV.wd_isi2 ?_
  | with_reducible refine KV.wst_val ?_
  | with_reducible refine KV.wst_tmp ?_
  | with_reducible refine KV.wst_slot ?_
  | with_reducible refine KV.wdr_val ?_
  | with_reducible refine KV.wdr_tmp ?_
  | with_reducible refine KV.wfz_val ?_
  | with_reducible refine KV.wfz_tmp ?_
  | with_reducible refine KV.wn_nil ?_
  | with_reducible refine KV.wn_cons ?_
  | with_reducible refine KV.wdrs_nil ?_
  | with_reducible refine KV.wdrs_cons ?_
  | with_reducible refine KV.wv_nil ?_
  | with_reducible refine KV.wv_cons ?_
  | with_reducible refine KV.wp_none ?_
  | with_reducible refine KV.wp_some ?_
  | with_reducible refine KV.wt_b ?_
  | with_reducible refine KV.wt_not ?_
  | with_reducible refine KV.wt_yes ?_
  | with_reducible refine KV.wgs_nil ?_
  | with_reducible refine KV.wgs_cons ?_
  | with_reducible refine KV.wg_tup ?_
  | with_reducible refine KV.wi_seq ?_
  | with_reducible refine KV.wsq_list ?_
  | with_reducible refine KV.wsq_tup ?_
  | ((with_reducible apply KV.wsq_own); exact rfl; (simp only [List.set_cons_zero, List.set_cons_succ]; try exact rfl))
  | ((with_reducible apply KV.wsq_lck); exact rfl)
  | with_reducible refine KV.wr_val ?_
  | with_reducible refine KV.wr_tmp ?_
  | with_reducible refine KV.wo_add ?_
  | with_reducible refine KV.wo_sub ?_
  | with_reducible refine KV.wo_neg ?_
  | with_reducible refine KV.wo_c ?_
  | with_reducible refine KV.wo_isN ?_
  | with_reducible refine KV.wo_notN ?_
  | with_reducible refine KV.wo_eqI ?_
  | with_reducible refine KV.wo_neI ?_
  | with_reducible refine KV.wo_eqNil ?_
  | with_reducible refine KV.wo_eqB ?_
  | with_reducible refine KV.wo_neB ?_
  | with_reducible refine KV.wo_neNil ?_
  | with_reducible refine KV.wo_inT ?_
  | with_reducible refine KV.wo_inL ?_
  | with_reducible refine KV.wo_notInT ?_
  | with_reducible refine KV.wo_notInL ?_
  | with_reducible refine KV.wo_srt ?_
  | with_reducible refine KV.wo_srtR ?_
  | with_reducible refine KV.wo_rev ?_
  | with_reducible refine KV.wo_lenL ?_
  | with_reducible refine KV.wo_lenT ?_
  | with_reducible refine KV.wo_intI ?_
  | with_reducible refine KV.wo_tupL ?_
  | with_reducible refine KV.wo_tupT ?_
  | with_reducible refine KV.wo_lstL ?_
  | with_reducible refine KV.wo_lstT ?_
  | ((with_reducible apply KV.wd_fz); exact rfl)
  | ((with_reducible apply KV.wd_own); exact rfl)
  | ((with_reducible apply KV.wd_lck); exact rfl)
  | ((with_reducible apply KV.wdr_fz); exact rfl)
  | ((with_reducible apply KV.wdr_own); exact rfl)
  | ((with_reducible apply KV.wdr_lck); exact rfl)
  | ((with_reducible apply KV.wfz_fz); exact rfl)
  | ((with_reducible apply KV.wfz_own); exact rfl; (simp only [List.set_cons_zero, List.set_cons_succ]; try exact rfl))
  | ((with_reducible apply KV.wput_v); exact rfl; (first | exact rfl | assumption); (simp only [List.set_cons_zero, List.set_cons_succ]; try exact rfl))
  | ((with_reducible apply KV.wput_t); exact rfl; (first | exact rfl | assumption); (simp only [List.set_cons_zero, List.set_cons_succ]; try exact rfl))
  | ((with_reducible apply KV.wg_nm); exact rfl; (first | exact rfl | assumption); (simp only [List.set_cons_zero, List.set_cons_succ]; try exact rfl))
  | ((with_reducible apply KV.wd_callB'); exact rfl)
  | ((with_reducible apply KV.wcb); exact rfl)
  | ((with_reducible apply KV.wd_app'); exact rfl)
  | ((with_reducible apply KV.wd_pop); exact rfl)
  | ((with_reducible apply KV.wapp); exact rfl; (simp only [List.set_cons_zero, List.set_cons_succ]; try exact rfl))
  | ((with_reducible apply KV.ws_gf_fz); exact rfl)
  | ((with_reducible apply KV.ws_gf_own'); exact rfl; (simp only [List.set_cons_zero, List.set_cons_succ]; try exact rfl))
  | ((with_reducible apply KV.wr_own); exact rfl)
  | ((with_reducible apply KV.wr_fz); exact rfl)
  | with_reducible refine KV.ws_if ?_
  | with_reducible refine KV.wd_if ?_
  | with_reducible refine KV.wt_and ?_
  | with_reducible refine KV.wt_or ?_
  | with_reducible refine KV.wd_chP ?_
  | with_reducible refine KV.wsame ?_
  | with_reducible refine KV.wi_r1' ?_
  | with_reducible refine KV.wi_r2' ?_
  | ((with_reducible apply KV.wrg); omega; omega)
  | ((with_reducible apply KV.wrg2); omega; omega; omega; omega; omega)
  | with_reducible refine KV.and_t ?_
  | with_reducible refine KV.and_f ?_
  | with_reducible refine KV.and_nt ?_
  | with_reducible refine KV.and_nf ?_
  | with_reducible refine KV.and_dec ?_
  | with_reducible refine KV.and_ndec ?_
  | with_reducible refine And.intro (fun hb => ?_) (fun hb => ?_)
  | ((with_reducible apply KV.wo_ixT); exact rfl)
  | ((with_reducible apply KV.wo_ixL); exact rfl)
  | ((with_reducible refine KV.wo_isT (b := true) ?_ ?_); exact rfl)
  | ((with_reducible refine KV.wo_isT (b := false) ?_ ?_); exact rfl)
  | ((with_reducible refine KV.wo_isT2 (b := true) ?_ ?_); exact rfl)
  | ((with_reducible refine KV.wo_isT2 (b := false) ?_ ?_); exact rfl)
  | ((with_reducible apply KV.wo_mul); omega)
  | ((with_reducible apply KV.wo_mod); omega)
  | ((with_reducible apply KV.wo_div); omega)
  | ((with_reducible apply KV.wo_addL); (simp only [List.length_append, List.length_cons, List.length_nil, List.length_map]; omega))
  | ((with_reducible apply KV.wo_addT); (simp only [List.length_append, List.length_cons, List.length_nil, List.length_map]; omega))
  | ((with_reducible refine And.intro ?_ (Nat.le_of_ble_eq_true rfl)))
  | with_reducible refine Exists.intro _ (And.intro rfl ?_)
  | fail "no step")
local macro_rules | `(tactic| array_get_dec) => `(tactic| ((with_reducible refine KL.take_r (by assumption) (by omega) (by omega) (fun d c h0 h1 hb => ?_)); (simp only [List.set_cons_zero, List.set_cons_succ])))
namespace KL
open PySem PySem.Spec PyProof.Rows L2 KV
theorem ix_last {b : Nat} {last : Bool} {m : Int} {ln : List (Int × Ver)} (h : LnOk b last m ln) : ∃ v, opIx (.tuple (ln.map lineD)) (.int (-1)) = some (.val (lineD (m, v))) := by
  obtain ⟨l, v, e⟩ := h.ends
  subst e
  refine ⟨v, ?_⟩
  show Option.map _ (atI ((l ++ [(m, v)]).map lineD) (-1)) = _
  rw [List.map_append]
  show Option.map _ (atI (l.map lineD ++ [lineD (m, v)]) (-1)) = _
  rw [atI_last]; rfl
theorem all_sort {ps : List (Int × Int)} {p : Int × Int → Bool} : (sortD ltK ps).all p = ps.all p := by
  rw [Bool.eq_iff_iff, List.all_eq_true, List.all_eq_true]
  exact ⟨fun h x hx => h x ((sortD_mem ltK_ok ps x).mpr hx), fun h x hx => h x ((sortD_mem ltK_ok ps x).mp hx)⟩
def wayD (w : List Int) : PyData := .list (w.map .int)
/-- answers that ways tell -/
structure RowOk (n : Nat) (ts : Nat → Int) (lag : Int) (most : Nat) (ws : List (List Int)) (ps : List (Int × Int)) : Prop where
  way : ∀ w ∈ ws, WayOk n ts lag most w
  on : ∀ p ∈ ps, 0 ≤ p.1 ∧ ∃ (j : Nat) (w : List Int), ws[j]? = some w ∧ w[p.1.toNat]? = some p.2
theorem RowOk.tell {n : Nat} {ts : Nat → Int} {lag : Int} {most : Nat} {ws : List (List Int)} {ps : List (Int × Int)} (h : RowOk n ts lag most ws ps) {p : Int × Int} (hp : p ∈ ps) : tellB n ts lag p.2 p.1 = true := by
  obtain ⟨h0, j, w, hj, hw⟩ := h.on p hp
  have := (h.way w (List.mem_of_getElem? hj)).tell _ _ hw
  rw [show ((p.1.toNat : Nat) : Int) = p.1 by omega] at this
  exact this
theorem RowOk.lf {n : Nat} {ts : Nat → Int} {lag : Int} {most : Nat} {ws : List (List Int)} {ps : List (Int × Int)} (h : RowOk n ts lag most ws ps) : lfn ps ≤ ws.length := by
  have key : ∀ p : Int × Int, ∃ j : Nat, p ∈ ps → ∃ w : List Int, ws[j]? = some w ∧ w[p.1.toNat]? = some p.2 := by
    intro p
    by_cases c : p ∈ ps
    · obtain ⟨_, j, w, h1, h2⟩ := h.on p c
      exact ⟨j, fun _ => ⟨w, h1, h2⟩⟩
    · exact ⟨0, fun z => absurd z c⟩
  refine (lfn_lf ps).ways (fun p => (key p).choose) (fun a ha => ?_) fun a ha b hb e h1 h2 => ?_
  · obtain ⟨w, h1, h2⟩ := (key a).choose_spec ha
    exact (List.getElem?_eq_some_iff.mp h1).1
  · obtain ⟨w, a1, a2⟩ := (key a).choose_spec ha
    obtain ⟨w', b1, b2⟩ := (key b).choose_spec hb
    have e' : (key a).choose = (key b).choose := e
    rw [e', b1] at a1
    cases a1
    have hw := h.way w (List.mem_of_getElem? b1)
    have ha0 := (h.on a ha).1
    have hb0 := (h.on b hb).1
    have : a.2 ≤ b.2 := by
      by_cases q : a.1.toNat = b.1.toNat
      · rw [q, b2] at a2
        have := Option.some.inj a2
        omega
      · obtain ⟨l1, e1⟩ := List.getElem?_eq_some_iff.mp a2
        obtain ⟨l2, e2⟩ := List.getElem?_eq_some_iff.mp b2
        have := (List.pairwise_iff_getElem.mp hw.up) _ _ l1 l2 (by omega)
        rw [e1, e2] at this
        exact this
    omega
theorem needs_many {Z : PyData} {n : Nat} {ts : Nat → Int} {lag : Int} (h : ZLike Z n ts lag) {ps : List (Int × Int)} (hp : KeysOk 63 ps) (ht : ∀ p ∈ ps, tellB n ts lag p.2 p.1 = true) : F_needs_servers [Z, .list (ps.map keyD)] = some (.val (.int (lfn ps : Nat))) := by
  rw [needs_ok h (fr_list hp) hp]
  unfold needD
  rw [if_pos (by rw [all_sort, List.all_eq_true]; exact ht)]
  rfl
theorem can_many {Z : PyData} {n : Nat} {ts : Nat → Int} {lag k : Int} (h : ZLike Z n ts lag) (h1 : opIx Z (.int 1) = some (.val (.int k))) {ps : List (Int × Int)} (hp : KeysOk 63 ps) (ht : ∀ p ∈ ps, tellB n ts lag p.2 p.1 = true) : F_can_tell [Z, .list (ps.map keyD)] = some (.val (.bool (decide ((lfn ps : Int) ≤ k)))) := by
  rw [can_ok h h1 (fr_list hp) hp]
  unfold canB
  rw [all_sort, (List.all_eq_true.mpr ht : ps.all (tellP n ts lag) = true), Bool.true_and]
  rfl
theorem same_int (i : Int) : F__law_same [.int i, .int i] = some (.val (.bool true)) := same_refl 12 _ rfl (by decide)
theorem same_tt : F__law_same [.list [.bool true, .bool true], .list [.bool true, .bool true]] = some (.val (.bool true)) :=
  same_refl 12 _ rfl (by decide)
theorem lfn_sub {as bs : List (Int × Int)} (e : ∀ x ∈ as, x ∈ bs) : lfn as ≤ lfn bs := (lfn_lf as).sub (lfn_lf bs) e
theorem lfn_one {as bs : List (Int × Int)} {a : Int × Int} (e : ∀ x ∈ as, x ∈ bs ∨ x = a) : lfn as ≤ lfn bs + 1 := (lfn_lf as).one (lfn_lf bs) e
end KL

end

section
local macro_rules | `(tactic| array_get_dec) => `(tactic| first
  | with_reducible refine KV.ws_seq ?_
  | with_reducible refine KV.ws_set ?_
  | with_reducible refine KV.ws_ret ?_
  | with_reducible refine KV.ws_asg ?_
  | with_reducible refine KV.ws_par' ?_
  | with_reducible refine KV.ws_parO ?_
  | with_reducible refine KV.wput2 ?_
  | with_reducible refine KV.ws_par3' ?_
  | with_reducible refine KV.ws_drop ?_
  | with_reducible refine KV.ws_setIx' ?_
  | ((with_reducible apply KV.wown); exact rfl)
  | ((with_reducible apply KV.wsi); exact rfl; exact rfl; (simp only [List.set_cons_zero, List.set_cons_succ]; try exact rfl))
  | with_reducible refine KV.ws_next ?_
  | with_reducible refine KV.ws_break ?_
  | with_reducible refine KV.wparp ?_
  | with_reducible refine KV.wparp3 ?_
  | with_reducible refine KV.wd_c ?_
  | with_reducible refine KV.wd_bin ?_
  | with_reducible refine KV.wd_un ?_
  | with_reducible refine KV.wd_cb ?_
  | with_reducible refine KV.wd_tup' ?_
  | with_reducible refine KV.wd_lst' ?_
  | with_reducible refine KV.wd_call ?_
  | with_reducible refine KV.wd_callK ?_
  | with_reducible refine KV.wd_callT ?_
  | with_reducible refine KV.wd_v ?_
  | with_reducible refine KV.wd_slice ?_
  | with_reducible refine KV.wd_isi ?_
  | with_reducible refine KV.wd_isi2 ?_
  | with_reducible refine KV.wst_val ?_
  | with_reducible refine KV.wst_tmp ?_
  | with_reducible refine KV.wst_slot ?_
  | with_reducible refine KV.wdr_val ?_
  | with_reducible refine KV.wdr_tmp ?_
  | with_reducible refine KV.wfz_val ?_
  | with_reducible refine KV.wfz_tmp ?_
  | with_reducible refine KV.wn_nil ?_
  | with_reducible refine KV.wn_cons ?_
  | with_reducible refine KV.wdrs_nil ?_
  | with_reducible refine KV.wdrs_cons ?_
  | with_reducible refine KV.wv_nil ?_
  | with_reducible refine KV.wv_cons ?_
  | with_reducible refine KV.wp_none ?_
  | with_reducible refine KV.wp_some ?_
  | with_reducible refine KV.wt_b ?_
  | with_reducible refine KV.wt_not ?_
  | with_reducible refine KV.wt_yes ?_
  | with_reducible refine KV.wgs_nil ?_
  | with_reducible refine KV.wgs_cons ?_
  | with_reducible refine KV.wg_tup ?_
  | with_reducible refine KV.wi_seq ?_
  | with_reducible refine KV.wsq_list ?_
  | with_reducible refine KV.wsq_tup ?_
  | ((with_reducible apply KV.wsq_own); exact rfl; (simp only [List.set_cons_zero, List.set_cons_succ]; try exact rfl))
  | ((with_reducible apply KV.wsq_lck); exact rfl)
  | with_reducible refine KV.wr_val ?_
  | with_reducible refine KV.wr_tmp ?_
  | with_reducible refine KV.wo_add ?_
  | with_reducible refine KV.wo_sub ?_
  | with_reducible refine KV.wo_neg ?_
  | with_reducible refine KV.wo_c ?_
  | with_reducible refine KV.wo_isN ?_
  | with_reducible refine KV.wo_notN ?_
  | with_reducible refine KV.wo_eqI ?_
  | with_reducible refine KV.wo_neI ?_
  | with_reducible refine KV.wo_eqNil ?_
  | with_reducible refine KV.wo_eqB ?_
  | with_reducible refine KV.wo_neB ?_
  | with_reducible refine KV.wo_neNil ?_
  | with_reducible refine KV.wo_inT ?_
  | with_reducible refine KV.wo_inL ?_
  | with_reducible refine KV.wo_notInT ?_
  | with_reducible refine KV.wo_notInL ?_
  | with_reducible refine KV.wo_srt ?_
  | with_reducible refine KV.wo_srtR ?_
  | with_reducible refine KV.wo_rev ?_
  | with_reducible refine KV.wo_lenL ?_
  | with_reducible refine KV.wo_lenT ?_
  | with_reducible refine KV.wo_intI ?_
  | with_reducible refine KV.wo_tupL ?_
  | with_reducible refine KV.wo_tupT ?_
  | with_reducible refine KV.wo_lstL ?_
  | with_reducible refine KV.wo_lstT ?_
  | ((with_reducible apply KV.wd_fz); exact rfl)
  | ((with_reducible apply KV.wd_own); exact rfl)
  | ((with_reducible apply KV.wd_lck); exact rfl)
  | ((with_reducible apply KV.wdr_fz); exact rfl)
  | ((with_reducible apply KV.wdr_own); exact rfl)
  | ((with_reducible apply KV.wdr_lck); exact rfl)
  | ((with_reducible apply KV.wfz_fz); exact rfl)
  | ((with_reducible apply KV.wfz_own); exact rfl; (simp only [List.set_cons_zero, List.set_cons_succ]; try exact rfl))
  | ((with_reducible apply KV.wput_v); exact rfl; (first | exact rfl | assumption); (simp only [List.set_cons_zero, List.set_cons_succ]; try exact rfl))
  | ((with_reducible apply KV.wput_t); exact rfl; (first | exact rfl | assumption); (simp only [List.set_cons_zero, List.set_cons_succ]; try exact rfl))
  | ((with_reducible apply KV.wg_nm); exact rfl; (first | exact rfl | assumption); (simp only [List.set_cons_zero, List.set_cons_succ]; try exact rfl))
  | ((with_reducible apply KV.wd_callB'); exact rfl)
  | ((with_reducible apply KV.wcb); exact rfl)
  | ((with_reducible apply KV.wd_app'); exact rfl)
  | ((with_reducible apply KV.wd_pop); exact rfl)
  | ((with_reducible apply KV.wapp); exact rfl; (simp only [List.set_cons_zero, List.set_cons_succ]; try exact rfl))
  | ((with_reducible apply KV.ws_gf_fz); exact rfl)
  | ((with_reducible apply KV.ws_gf_own'); exact rfl; (simp only [List.set_cons_zero, List.set_cons_succ]; try exact rfl))
  | ((with_reducible apply KV.wr_own); exact rfl)
  | ((with_reducible apply KV.wr_fz); exact rfl)
  | with_reducible refine KV.ws_if ?_
  | with_reducible refine KV.wd_if ?_
  | with_reducible refine KV.wt_and ?_
  | with_reducible refine KV.wt_or ?_
  | with_reducible refine KV.wd_chP ?_
  | with_reducible refine KV.wsame ?_
  | with_reducible refine KV.wi_r1' ?_
  | with_reducible refine KV.wi_r2' ?_
  | ((with_reducible apply KV.wrg); omega; omega)
  | ((with_reducible apply KV.wrg2); omega; omega; omega; omega; omega)
  | with_reducible refine KV.and_t ?_
  | with_reducible refine KV.and_f ?_
  | with_reducible refine KV.and_nt ?_
  | with_reducible refine KV.and_nf ?_
  | with_reducible refine KV.and_dec ?_
  | with_reducible refine KV.and_ndec ?_
  | with_reducible refine And.intro (fun hb => ?_) (fun hb => ?_)
  | ((with_reducible apply KV.wo_ixT); exact rfl)
  | ((with_reducible apply KV.wo_ixL); exact rfl)
  | ((with_reducible refine KV.wo_isT (b := true) ?_ ?_); exact rfl)
  | ((with_reducible refine KV.wo_isT (b := false) ?_ ?_); exact rfl)
  | ((with_reducible refine KV.wo_isT2 (b := true) ?_ ?_); exact rfl)
  | ((with_reducible refine KV.wo_isT2 (b := false) ?_ ?_); exact rfl)
  | ((with_reducible apply KV.wo_mul); omega)
  | ((with_reducible apply KV.wo_mod); omega)
  | ((with_reducible apply KV.wo_div); omega)
  | ((with_reducible apply KV.wo_addL); (simp only [List.length_append, List.length_cons, List.length_nil, List.length_map]; omega))
  | ((with_reducible apply KV.wo_addT); (simp only [List.length_append, List.length_cons, List.length_nil, List.length_map]; omega))
  | ((with_reducible refine And.intro ?_ (Nat.le_of_ble_eq_true rfl)))
  | with_reducible refine Exists.intro _ (And.intro rfl ?_)
  | fail "no step")
local macro_rules | `(tactic| array_get_dec) => `(tactic| ((with_reducible refine KL.take_r (by assumption) (by omega) (by omega) (fun d c h0 h1 hb => ?_)); (simp only [List.set_cons_zero, List.set_cons_succ])))
namespace KL
open PySem PySem.Spec PyProof.Rows L2 KV
theorem nob_nlk {s : Sl} (h : s.ob = none) : nlk s = true := by
  cases s with
  | lck c => cases h
  | _ => rfl
theorem keys_of {b : Nat} {ps : List (Int × Int)} (hl : ps.length ≤ b) (h : ∀ p ∈ ps, 0 ≤ p.1 ∧ 0 ≤ p.2) : KeysOk b ps := ⟨hl, h⟩
/-- the zone, its lag, how many servers -/
theorem site_w {n i : Nat} {c : Ob} (h : BxI n c) (hn : n ≤ 40000000) {s2 s3 s4 s5 s6 s7 s8 s9 s10 s11 s12 s13 s14 s15 : Sl} (n2 : nlk s2 = true) (n3 : nlk s3 = true) (n4 : nlk s4 = true) {w : DenS} {N B C : Nms → Prop} {T : KV.R → Nms → Prop}
    (k : ∀ (c' : Ob) (z : Zn) (m cnt : Int), LnOk 30 true m z.line → m ≤ 42 → z.line.length ≤ 6 → 4 ≤ z.lag → z.lag ≤ 8 → 1 ≤ cnt → cnt ≤ 3 → BxI (n + 202) c' → wS w [.own c', .fz (.int i), .fz (zoneD z), .fz (.int cnt), .fz (.int (m + z.lag + 2)), s5, s6, s7, s8, s9, s10, s11, s12, s13, s14, s15] N T B C) :
    wS (dSeq (dSet 2 (dCallB G__law_zone 0 (vCons (dTup (vCons (dTup (vCons (dC (.int 1)) (vCons (dC (.int 0)) (vNil)))) (vNil))) (vCons (dC (.bool true)) (vCons (dC (.int 6)) (vNil)))))) (dSeq (dAsg (dTup (vCons (dBin (dBin (dSlice (dVar 2) none (some (dC (.int 3)))) (dTup (vCons (dBin (dC (.int 4)) (dCallB G__law_take 0 (vCons (dC (.int 5)) (vNil))) opAdd) (vNil))) opAdd) (dSlice (dVar 2) (some (dC (.int 4))) none) opAdd) (vCons (dBin (dC (.int 1)) (dCallB G__law_take 0 (vCons (dC (.int 3)) (vNil))) opAdd) (vNil)))) (gT (gsCons (gN 2) (gsCons (gN 3) (gsNil))))) (dSeq (dSet 4 (dBin (dBin (dBin (dBin (dBin (dVar 2) (dC (.int 0)) opIx) (dUn (dC (.int 1)) opNeg) opIx) (dC (.int 0)) opIx) (dBin (dVar 2) (dC (.int 3)) opIx) opAdd) (dC (.int 2)) opAdd)) w))) [.own c, .fz (.int i), s2, s3, s4, s5, s6, s7, s8, s9, s10, s11, s12, s13, s14, s15] N T B C := by
  refine ws_cut (M := fun r1 => ∃ (c' : Ob) (z : Zn), r1 = [.own c', .fz (.int i), .fz (zoneD z), s3, s4, s5, s6, s7, s8, s9, s10, s11, s12, s13, s14, s15] ∧ ZnOk 30 true 6 z ∧ BxI (n + 200) c') ?_ ?_
  · repeat' array_get_dec
    refine (zone_w h (by omega) (ts := [(1, 0)]) ⟨by decide, by simp⟩ true (many := 6) (by decide)).mono ?_
    rintro _ c1 ⟨z, rfl, hz, hb1⟩
    simp only [List.set_cons_zero, List.set_cons_succ]
    repeat' array_get_dec
    exact ⟨c1, z, rfl, hz, hb1⟩
  rintro _ ⟨c1, z, rfl, hz, hb1⟩
  obtain ⟨m, hln, hm⟩ := hz.line
  have hlen := hz.len
  obtain ⟨vl, hlast⟩ := ix_last hln
  refine ws_cut (M := fun r1 => ∃ (c' : Ob) (lag cnt : Int), r1 = [.own c', .fz (.int i), .fz (zoneD { z with lag := lag }), .fz (.int cnt), s4, s5, s6, s7, s8, s9, s10, s11, s12, s13, s14, s15] ∧ 4 ≤ lag ∧ lag ≤ 8 ∧ 1 ≤ cnt ∧ cnt ≤ 3 ∧ BxI (n + 202) c') ?_ ?_
  · repeat' array_get_dec
    refine wo_eq (z := .val (.tuple [.tuple (z.line.map lineD), .int z.servers, .int z.tries])) rfl ?_
    repeat' array_get_dec
    refine wo_eq (z := .val (.tuple [.int z.kl, .int z.rl])) rfl ?_
    repeat' array_get_dec
    rename_i d1 c3 p0 p1 hx d2 c4 q0 q1 hy
    exact ⟨c4, 4 + d1, 1 + d2, rfl, by omega, by omega, by omega, by omega, hy⟩
  rintro _ ⟨c2, lag, cnt, rfl, l1, l2, k1, k2, hb2⟩
  refine ws_cut (M := fun r1 => r1 = [.own c2, .fz (.int i), .fz (zoneD { z with lag := lag }), .fz (.int cnt), .fz (.int (m + lag + 2)), s5, s6, s7, s8, s9, s10, s11, s12, s13, s14, s15]) ?_ ?_
  · repeat' array_get_dec
    refine wo_eq (z := .val (.tuple (z.line.map lineD))) rfl ?_
    repeat' array_get_dec
    refine wo_eq hlast ?_
    repeat' array_get_dec
    refine wo_eq (z := .val (.int m)) rfl ?_
    repeat' array_get_dec
    refine wo_eq (z := .val (.int lag)) rfl ?_
    repeat' array_get_dec
    rfl
  rintro _ rfl
  exact k c2 { z with lag := lag } m cnt hln (by omega) (by omega) l1 l2 k1 k2 hb2
/-- the ways of the servers -/
theorem ways_w {n i b : Nat} {c : Ob} (h : BxI n c) (hn : n ≤ 40000000) {z : Zn} {m cnt most : Int} (hln : LnOk b true m z.line) (hlen : z.line.length ≤ 900) (hlag : 0 ≤ z.lag) (hc : 0 ≤ cnt ∧ cnt ≤ 3) (hm : 0 ≤ most ∧ most ≤ 1000) {s5 s6 s7 s8 s9 s10 s11 s12 s13 s14 s15 : Sl} (n5 : nlk s5 = true) (o7 : s7.ob = none) {N B C : Nms → Prop} {T : KV.R → Nms → Prop}
    (k : ∀ (c' : Ob) (ws : List (List Int)), ws.length = cnt.toNat → (∀ w ∈ ws, WayOk z.line.length (timeAt z.line) z.lag most.toNat w) → BxI (n + 3100) c' → N [.own c', .fz (.int i), .fz (zoneD z), .fz (.int cnt), .fz (.int most), .own (.lst (ws.map wayD)), s6, s7, s8, s9, s10, s11, s12, s13, s14, s15]) :
    wS (dSet 5 (dLc [7] (iR1 (dCons (dVar 3) (dNil))) (gN 7) (tYesD) (dCallB G__law_walked 0 (vCons (dVar 2) (vCons (dVar 4) (vNil)))))) [.own c, .fz (.int i), .fz (zoneD z), .fz (.int cnt), .fz (.int most), s5, s6, s7, s8, s9, s10, s11, s12, s13, s14, s15] N T B C := by
  refine ws_set (wd_lc ?_)
  repeat' array_get_dec
  refine ⟨by show (Option.isNone (Sl.ob s7) && true) = true; rw [o7]; rfl, fun q acc r2 => ∃ (ws : List (List Int)) (c' : Ob), acc = ws.map wayD ∧ r2 = [.own c', .fz (.int i), .fz (zoneD z), .fz (.int cnt), .fz (.int most), s5, s6, .un, s8, s9, s10, s11, s12, s13, s14, s15] ∧ ws.length = q ∧ (∀ w ∈ ws, WayOk z.line.length (timeAt z.line) z.lag most.toNat w) ∧ BxI (n + 1000 * q) c', ⟨[], c, rfl, rfl, rfl, by simp, h⟩, ?_, ?_⟩
  · rintro q d acc _ hd ⟨ws, c', rfl, rfl, hl, hw, hb⟩
    obtain ⟨hq, rfl⟩ := range_at hd
    repeat' array_get_dec
    refine (walked_w hb (by omega) hln hlen hlag hm).mono ?_
    rintro _ c2 ⟨w, rfl, hw2, hb2⟩
    simp only [List.set_cons_zero, List.set_cons_succ]
    repeat' array_get_dec
    refine ⟨ws ++ [w], c2, by rw [List.map_append]; rfl, rfl, by rw [List.length_append, hl]; rfl, fun x hx => ?_, hb2.mono (by omega)⟩
    rcases List.mem_append.mp hx with e | e
    · exact hw x e
    · rw [List.mem_singleton] at e; subst e; exact hw2
  · rintro xs _ ⟨ws, c', rfl, rfl, hl, hw, hb⟩
    rw [rangeD_length] at hl hb
    show wPut 5 _ [.own c', .fz (.int i), .fz (zoneD z), .fz (.int cnt), .fz (.int most), s5, s6, s7, s8, s9, s10, s11, s12, s13, s14, s15] _
    repeat' array_get_dec
    exact k c' ws hl hw (hb.mono (by omega))
theorem way_at {w : List Int} {a : Int} {k : Nat} (hl : w.length = k) (h0 : 0 ≤ a) (h1 : a < k) : ∃ v, L2.atI (w.map PyData.int) a = some (.int v) ∧ w[a.toNat]? = some v := by
  have hl2 : a.toNat < w.length := by omega
  refine ⟨w[a.toNat], ?_, List.getElem?_eq_getElem hl2⟩
  have := atI_nat' (xs := w.map PyData.int) (i := a.toNat) (x := .int w[a.toNat]) (by rw [List.getElem?_map, List.getElem?_eq_getElem hl2]; rfl)
  rw [show ((a.toNat : Nat) : Int) = a by omega] at this
  exact this
/-- the drawn answers -/
theorem row_w {n i b : Nat} {c : Ob} (h : BxI n c) (hn : n ≤ 40000000) {z : Zn} {m cnt most : Int} (hln : LnOk b true m z.line) {ws : List (List Int)} (hws : ∀ w ∈ ws, WayOk z.line.length (timeAt z.line) z.lag most.toNat w) (hwl : 0 < ws.length ∧ ws.length ≤ 3) (hm : 0 < most ∧ most ≤ 1000) {s6 s7 s8 s9 s10 s11 s12 s13 s14 s15 : Sl} (n6 : nlk s6 = true) (o7 : s7.ob = none) (n8 : nlk s8 = true) (n9 : nlk s9 = true) {w : DenS} {N B C : Nms → Prop} {T : KV.R → Nms → Prop}
    (k : ∀ (c' : Ob) (ps : List (Int × Int)) (s7 s8 s9 : Sl), ps.length = 14 → RowOk z.line.length (timeAt z.line) z.lag most.toNat ws ps → s7.ob = none → nlk s8 = true → nlk s9 = true → BxI (n + 100) c' → wS w [.own c', .fz (.int i), .fz (zoneD z), .fz (.int cnt), .fz (.int most), .fz (.list (ws.map wayD)), .own (.lst (ps.map keyD)), s7, s8, s9, s10, s11, s12, s13, s14, s15] N T B C) :
    wS (dSeq (dSet 6 (dLst (vNil))) (dSeq (dFor (iR1 (dCons (dC (.int 14)) (dNil))) (gN 7) b__law_right_1) w)) [.own c, .fz (.int i), .fz (zoneD z), .fz (.int cnt), .fz (.int most), .own (.lst (ws.map wayD)), s6, s7, s8, s9, s10, s11, s12, s13, s14, s15] N T B C := by
  refine ws_cut (M := fun r1 => r1 = [.own c, .fz (.int i), .fz (zoneD z), .fz (.int cnt), .fz (.int most), .own (.lst (ws.map wayD)), .own (.lst []), s7, s8, s9, s10, s11, s12, s13, s14, s15]) ?_ ?_
  · repeat' array_get_dec
    rfl
  rintro _ rfl
  refine ws_cut (M := fun r1 => ∃ (c' : Ob) (ps : List (Int × Int)) (s7 s8 s9 : Sl), r1 = [.own c', .fz (.int i), .fz (zoneD z), .fz (.int cnt), .fz (.int most), .fz (.list (ws.map wayD)), .own (.lst (ps.map keyD)), s7, s8, s9, s10, s11, s12, s13, s14, s15] ∧ ps.length = 14 ∧ RowOk z.line.length (timeAt z.line) z.lag most.toNat ws ps ∧ s7.ob = none ∧ nlk s8 = true ∧ nlk s9 = true ∧ BxI (n + 100) c') ?_ ?_
  · refine ws_forI ?_
    repeat' array_get_dec
    refine ⟨rfl, fun q r1 => ∃ (c' : Ob) (ps : List (Int × Int)) (s5 s7 s8 s9 : Sl), r1 = [.own c', .fz (.int i), .fz (zoneD z), .fz (.int cnt), .fz (.int most), s5, .own (.lst (ps.map keyD)), s7, s8, s9, s10, s11, s12, s13, s14, s15] ∧ ((q = 0 ∧ s5 = .own (.lst (ws.map wayD))) ∨ s5 = .fz (.list (ws.map wayD))) ∧ ps.length = q ∧ RowOk z.line.length (timeAt z.line) z.lag most.toNat ws ps ∧ s7.ob = none ∧ nlk s8 = true ∧ nlk s9 = true ∧ BxI (n + 2 * q) c', ?_, ?_, ?_⟩
    · exact ⟨c, [], _, s7, s8, s9, rfl, .inl ⟨rfl, rfl⟩, rfl, ⟨hws, by simp⟩, o7, n8, n9, h⟩
    · rintro q d _ hd ⟨c', ps, s5, s7, s8, s9, rfl, h5, hl, hrow, o7, n8, n9, hb⟩
      obtain ⟨hq, rfl⟩ := range_at hd
      have hq2 : q < 14 := hq
      have n7 := nob_nlk o7
      refine wg_nm rfl n7 (by simp only [List.set_cons_zero, List.set_cons_succ]; exact rfl) ?_
      unfold b__law_right_1
      have hwm : (ws.map wayD).length = ws.length := List.length_map _
      refine ws_cut (M := fun r1 => ∃ (c' : Ob) (a : Int) (w : List Int), r1 = [.own c', .fz (.int i), .fz (zoneD z), .fz (.int cnt), .fz (.int most), .fz (.list (ws.map wayD)), .own (.lst (ps.map keyD)), .fz (.int (q : Nat)), .fz (.int a), .fz (wayD w), s10, s11, s12, s13, s14, s15] ∧ 0 ≤ a ∧ a < most ∧ w ∈ ws ∧ BxI (n + 2 * q + 2) c') ?_ ?_
      · rcases h5 with ⟨_, rfl⟩ | rfl
        all_goals
          repeat' array_get_dec
          refine pick_r (by assumption) (by omega) (by omega) fun x c2 hx hb2 => ?_
          obtain ⟨w, hw, rfl⟩ := List.mem_map.mp hx
          simp only [List.set_cons_zero, List.set_cons_succ]
          repeat' array_get_dec
          exact ⟨c2, _, w, rfl, by assumption, by assumption, hw, hb2⟩
      rintro _ ⟨c2, a, w, rfl, a0, a1, hw, hb2⟩
      obtain ⟨v, hv, hwv⟩ := way_at (hws w hw).len a0 (by omega)
      unfold wayD
      repeat' array_get_dec
      · refine wo_ixL hv ?_
        repeat' array_get_dec
        · refine ⟨c2, ps ++ [(a, v)], _, _, _, _, by rw [List.map_append]; rfl, .inr rfl, by rw [List.length_append, hl]; rfl, ⟨hws, fun p hp => ?_⟩, rfl, rfl, rfl, hb2.mono (by omega)⟩
          rcases List.mem_append.mp hp with e | e
          · exact hrow.on p e
          · rw [List.mem_singleton] at e
            subst e
            obtain ⟨j, hj⟩ := List.getElem?_of_mem hw
            exact ⟨a0, j, w, hj, hwv⟩
        · rw [List.length_map, hl, sizeLine_eq]; omega
    · rintro _ ⟨c', ps, s5, s7, s8, s9, rfl, h5, hl, hrow, o7, n8, n9, hb⟩
      rw [rangeD_length] at hl hb h5
      rcases h5 with ⟨e, _⟩ | rfl
      · exact absurd e (by decide)
      · exact ⟨c', ps, s7, s8, s9, rfl, hl, hrow, o7, n8, n9, hb.mono (by omega)⟩
  rintro _ ⟨c', ps, t7, t8, t9, rfl, hl, hrow, o7, n8, n9, hb⟩
  exact k c' ps t7 t8 t9 hl hrow o7 n8 n9 hb
end KL

end

section
local macro_rules | `(tactic| array_get_dec) => `(tactic| first
  | with_reducible refine KV.ws_seq ?_
  | with_reducible refine KV.ws_set ?_
  | with_reducible refine KV.ws_ret ?_
  | with_reducible refine KV.ws_asg ?_
  | with_reducible refine KV.ws_par' ?_
  | with_reducible refine KV.ws_parO ?_
  | with_reducible refine KV.wput2 ?_
  | with_reducible refine KV.ws_par3' ?_
  | with_reducible refine KV.ws_drop ?_
  | with_reducible refine KV.ws_setIx' ?_
  | ((with_reducible apply KV.wown); exact rfl)
  | ((with_reducible apply KV.wsi); exact rfl; exact rfl; (simp only [List.set_cons_zero, List.set_cons_succ]; try exact rfl))
  | with_reducible refine KV.ws_next ?_
  | with_reducible refine KV.ws_break ?_
  | with_reducible refine KV.wparp ?_
  | with_reducible refine KV.wparp3 ?_
  | with_reducible refine KV.wd_c ?_
  | with_reducible refine KV.wd_bin ?_
  | with_reducible refine KV.wd_un ?_
  | with_reducible refine KV.wd_cb ?_
  | with_reducible refine KV.wd_tup' ?_
  | with_reducible refine KV.wd_lst' ?_
  | with_reducible refine KV.wd_call ?_
  | with_reducible refine KV.wd_callK ?_
  | with_reducible refine KV.wd_callT ?_
  | with_reducible refine KV.wd_v ?_
  | with_reducible refine KV.wd_slice ?_
  | with_reducible refine KV.wd_isi ?_
  | with_reducible refine KV.wd_isi2 ?_
  | with_reducible refine KV.wst_val ?_
  | with_reducible refine KV.wst_tmp ?_
  | with_reducible refine KV.wst_slot ?_
  | with_reducible refine KV.wdr_val ?_
  | with_reducible refine KV.wdr_tmp ?_
  | with_reducible refine KV.wfz_val ?_
  | with_reducible refine KV.wfz_tmp ?_
  | with_reducible refine KV.wn_nil ?_
  | with_reducible refine KV.wn_cons ?_
  | with_reducible refine KV.wdrs_nil ?_
  | with_reducible refine KV.wdrs_cons ?_
  | with_reducible refine KV.wv_nil ?_
  | with_reducible refine KV.wv_cons ?_
  | with_reducible refine KV.wp_none ?_
  | with_reducible refine KV.wp_some ?_
  | with_reducible refine KV.wt_b ?_
  | with_reducible refine KV.wt_not ?_
  | with_reducible refine KV.wt_yes ?_
  | with_reducible refine KV.wgs_nil ?_
  | with_reducible refine KV.wgs_cons ?_
  | with_reducible refine KV.wg_tup ?_
  | with_reducible refine KV.wi_seq ?_
  | with_reducible refine KV.wsq_list ?_
  | with_reducible refine KV.wsq_tup ?_
  | ((with_reducible apply KV.wsq_own); exact rfl; (simp only [List.set_cons_zero, List.set_cons_succ]; try exact rfl))
  | ((with_reducible apply KV.wsq_lck); exact rfl)
  | with_reducible refine KV.wr_val ?_
  | with_reducible refine KV.wr_tmp ?_
  | with_reducible refine KV.wo_add ?_
  | with_reducible refine KV.wo_sub ?_
  | with_reducible refine KV.wo_neg ?_
  | with_reducible refine KV.wo_c ?_
  | with_reducible refine KV.wo_isN ?_
  | with_reducible refine KV.wo_notN ?_
  | with_reducible refine KV.wo_eqI ?_
  | with_reducible refine KV.wo_neI ?_
  | with_reducible refine KV.wo_eqNil ?_
  | with_reducible refine KV.wo_eqB ?_
  | with_reducible refine KV.wo_neB ?_
  | with_reducible refine KV.wo_neNil ?_
  | with_reducible refine KV.wo_inT ?_
  | with_reducible refine KV.wo_inL ?_
  | with_reducible refine KV.wo_notInT ?_
  | with_reducible refine KV.wo_notInL ?_
  | with_reducible refine KV.wo_srt ?_
  | with_reducible refine KV.wo_srtR ?_
  | with_reducible refine KV.wo_rev ?_
  | with_reducible refine KV.wo_lenL ?_
  | with_reducible refine KV.wo_lenT ?_
  | with_reducible refine KV.wo_intI ?_
  | with_reducible refine KV.wo_tupL ?_
  | with_reducible refine KV.wo_tupT ?_
  | with_reducible refine KV.wo_lstL ?_
  | with_reducible refine KV.wo_lstT ?_
  | ((with_reducible apply KV.wd_fz); exact rfl)
  | ((with_reducible apply KV.wd_own); exact rfl)
  | ((with_reducible apply KV.wd_lck); exact rfl)
  | ((with_reducible apply KV.wdr_fz); exact rfl)
  | ((with_reducible apply KV.wdr_own); exact rfl)
  | ((with_reducible apply KV.wdr_lck); exact rfl)
  | ((with_reducible apply KV.wfz_fz); exact rfl)
  | ((with_reducible apply KV.wfz_own); exact rfl; (simp only [List.set_cons_zero, List.set_cons_succ]; try exact rfl))
  | ((with_reducible apply KV.wput_v); exact rfl; (first | exact rfl | assumption); (simp only [List.set_cons_zero, List.set_cons_succ]; try exact rfl))
  | ((with_reducible apply KV.wput_t); exact rfl; (first | exact rfl | assumption); (simp only [List.set_cons_zero, List.set_cons_succ]; try exact rfl))
  | ((with_reducible apply KV.wg_nm); exact rfl; (first | exact rfl | assumption); (simp only [List.set_cons_zero, List.set_cons_succ]; try exact rfl))
  | ((with_reducible apply KV.wd_callB'); exact rfl)
  | ((with_reducible apply KV.wcb); exact rfl)
  | ((with_reducible apply KV.wd_app'); exact rfl)
  | ((with_reducible apply KV.wd_pop); exact rfl)
  | ((with_reducible apply KV.wapp); exact rfl; (simp only [List.set_cons_zero, List.set_cons_succ]; try exact rfl))
  | ((with_reducible apply KV.ws_gf_fz); exact rfl)
  | ((with_reducible apply KV.ws_gf_own'); exact rfl; (simp only [List.set_cons_zero, List.set_cons_succ]; try exact rfl))
  | ((with_reducible apply KV.wr_own); exact rfl)
  | ((with_reducible apply KV.wr_fz); exact rfl)
  | with_reducible refine KV.ws_if ?_
  | with_reducible refine KV.wd_if ?_
  | with_reducible refine KV.wt_and ?_
  | with_reducible refine KV.wt_or ?_
  | with_reducible refine KV.wd_chP ?_
  | with_reducible refine KV.wsame ?_
  | with_reducible refine KV.wi_r1' ?_
  | with_reducible refine KV.wi_r2' ?_
  | ((with_reducible apply KV.wrg); omega; omega)
  | ((with_reducible apply KV.wrg2); omega; omega; omega; omega; omega)
  | with_reducible refine KV.and_t ?_
  | with_reducible refine KV.and_f ?_
  | with_reducible refine KV.and_nt ?_
  | with_reducible refine KV.and_nf ?_
  | with_reducible refine KV.and_dec ?_
  | with_reducible refine KV.and_ndec ?_
  | with_reducible refine And.intro (fun hb => ?_) (fun hb => ?_)
  | ((with_reducible apply KV.wo_ixT); exact rfl)
  | ((with_reducible apply KV.wo_ixL); exact rfl)
  | ((with_reducible refine KV.wo_isT (b := true) ?_ ?_); exact rfl)
  | ((with_reducible refine KV.wo_isT (b := false) ?_ ?_); exact rfl)
  | ((with_reducible refine KV.wo_isT2 (b := true) ?_ ?_); exact rfl)
  | ((with_reducible refine KV.wo_isT2 (b := false) ?_ ?_); exact rfl)
  | ((with_reducible apply KV.wo_mul); omega)
  | ((with_reducible apply KV.wo_mod); omega)
  | ((with_reducible apply KV.wo_div); omega)
  | ((with_reducible apply KV.wo_addL); (simp only [List.length_append, List.length_cons, List.length_nil, List.length_map]; omega))
  | ((with_reducible apply KV.wo_addT); (simp only [List.length_append, List.length_cons, List.length_nil, List.length_map]; omega))
  | ((with_reducible refine And.intro ?_ (Nat.le_of_ble_eq_true rfl)))
  | with_reducible refine Exists.intro _ (And.intro rfl ?_)
  | fail "no step")
local macro_rules | `(tactic| array_get_dec) => `(tactic| ((with_reducible refine KL.take_r (by assumption) (by omega) (by omega) (fun d c h0 h1 hb => ?_)); (simp only [List.set_cons_zero, List.set_cons_succ])))
namespace KL
open PySem PySem.Spec PyProof.Rows L2 KV
/-- a lap -/
theorem lap_w {n i : Nat} {c : Ob} (h : BxI n c) (hn : n ≤ 30000000) {s2 s3 s4 s5 s6 s7 s8 s9 s10 s11 s12 s13 s14 s15 : Sl} (n2 : nlk s2 = true) (n3 : nlk s3 = true) (n4 : nlk s4 = true) (n5 : nlk s5 = true) (n6 : nlk s6 = true) (o7 : s7.ob = none) (n8 : nlk s8 = true) (n9 : nlk s9 = true) (n10 : nlk s10 = true) (n11 : nlk s11 = true) (n12 : nlk s12 = true) (n13 : nlk s13 = true) (n14 : nlk s14 = true) (n15 : nlk s15 = true) {N B C : Nms → Prop} {T : KV.R → Nms → Prop}
    (k : ∀ c' s2 s3 s4 s5 s6 s7 s8 s9 s10 s11 s12 s13 s14 s15, nlk s2 = true → nlk s3 = true → nlk s4 = true → nlk s5 = true → nlk s6 = true → s7.ob = none → nlk s8 = true → nlk s9 = true → nlk s10 = true → nlk s11 = true → nlk s12 = true → nlk s13 = true → nlk s14 = true → nlk s15 = true → BxI (n + 4000) c' → N [.own c', .fz (.int i), s2, s3, s4, s5, s6, s7, s8, s9, s10, s11, s12, s13, s14, s15]) :
    wS b__law_right_0 [.own c, .fz (.int i), s2, s3, s4, s5, s6, s7, s8, s9, s10, s11, s12, s13, s14, s15] N T B C := by
  unfold b__law_right_0
  refine site_w h (by omega) n2 n3 n4 fun c1 z m cnt hln hm hlen l1 l2 k1 k2 hb1 => ?_
  have hm0 : 0 ≤ m := by
    obtain ⟨l, v, e⟩ := hln.ends
    exact (hln.le (m, v) (by rw [e]; simp)).1
  refine ws_seq ?_
  refine ways_w hb1 (by omega) hln (by omega) (by omega) (by omega) (by omega) n5 o7 fun c2 ws hwl hws hb2 => ?_
  refine row_w hb2 (by omega) hln hws (by omega) (by omega) n6 o7 n8 n9 fun c3 ps t7 t8 t9 hpl hrow o7' n8' n9' hb3 => ?_
  have hkeys : ∀ p ∈ ps, 0 ≤ p.1 ∧ 0 ≤ p.2 := fun p hp => ⟨(hrow.on p hp).1, (tellB_iff.mp (hrow.tell hp)).1⟩
  have hk14 : KeysOk 63 ps := keys_of (by omega) hkeys
  have hZ := zlike_zone z
  have hcnt : (lfn ps : Int) ≤ cnt := by have := hrow.lf; omega
  have hne : ps ≠ [] := by intro e; rw [e] at hpl; cases hpl
  have hpos : 0 < z.line.length := by obtain ⟨v, r, e⟩ := hln.first; rw [e]; simp
  have ht0 := (KL.LnOk.times hln).1
  refine ws_cut (M := fun r1 => r1 = [.own c3, .fz (.int i), .fz (zoneD z), .fz (.int cnt), .fz (.int (m + z.lag + 2)), .fz (.list (ws.map wayD)), .fz (.list (ps.map keyD)), t7, t8, t9, .fz (.int (lfn ps : Nat)), s11, s12, s13, s14, s15]) ?_ ?_
  · repeat' array_get_dec
    refine wf_eq (needs_many hZ hk14 fun p hp => hrow.tell hp) ?_
    repeat' array_get_dec
    rfl
  rintro _ rfl
  refine ws_cut (M := fun r1 => r1 = [.own c3, .fz (.int i), .fz (zoneD z), .fz (.int cnt), .fz (.int (m + z.lag + 2)), .fz (.list (ws.map wayD)), .fz (.list (ps.map keyD)), t7, t8, t9, .fz (.int (lfn ps : Nat)), s11, s12, s13, s14, s15]) ?_ ?_
  · repeat' array_get_dec
    refine wf_eq (least_ok hne (by omega)) ?_
    repeat' array_get_dec
    refine wf_eq (same_int _) ?_
    repeat' array_get_dec
    · exfalso; omega
    · rfl
  rintro _ rfl
  have hlm : (ps.map keyD).length = ps.length := List.length_map _
  refine ws_cut (M := fun r1 => ∃ s11 s12 : Sl, r1 = [.own c3, .fz (.int i), .fz (zoneD z), .fz (.int cnt), .fz (.int (m + z.lag + 2)), .fz (.list (ws.map wayD)), .fz (.list (ps.map keyD)), t7, t8, t9, .fz (.int (lfn ps : Nat)), s11, s12, s13, s14, s15] ∧ nlk s11 = true ∧ nlk s12 = true) ?_ ?_
  · refine ws_forI ?_
    repeat' array_get_dec
    · refine ⟨rfl, fun _ r1 => ∃ s11 s12 : Sl, r1 = [.own c3, .fz (.int i), .fz (zoneD z), .fz (.int cnt), .fz (.int (m + z.lag + 2)), .fz (.list (ws.map wayD)), .fz (.list (ps.map keyD)), t7, t8, t9, .fz (.int (lfn ps : Nat)), s11, s12, s13, s14, s15] ∧ nlk s11 = true ∧ nlk s12 = true, ⟨s11, s12, rfl, n11, n12⟩, ?_, ?_⟩
      · rintro q d _ hd ⟨s11, s12, rfl, n11, n12⟩
        obtain ⟨hq, rfl⟩ := range_at hd
        rw [List.length_map] at hq
        have hq2 : q < ps.length := by omega
        refine wg_nm rfl n11 (by simp only [List.set_cons_zero, List.set_cons_succ]; exact rfl) ?_
        have hsubm : ∀ p ∈ ps.take q ++ ps.drop (q + 1), p ∈ ps := fun p hp => by
          rcases List.mem_append.mp hp with e | e
          · exact List.mem_of_mem_take e
          · exact List.mem_of_mem_drop e
        have hlenL : (ps.take q ++ ps.drop (q + 1)).length = 13 := by
          rw [List.length_append, List.length_take, List.length_drop]; omega
        have hkl : KeysOk 63 (ps.take q ++ ps.drop (q + 1)) := keys_of (by omega) fun p hp => hkeys p (hsubm p hp)
        have hneL : ps.take q ++ ps.drop (q + 1) ≠ [] := by intro e; rw [e] at hlenL; cases hlenL
        have e1 : (ps.map keyD).take q ++ (ps.map keyD).drop (q + 1) = (ps.take q ++ ps.drop (q + 1)).map keyD := by rw [List.map_append, List.map_take, List.map_drop]
        have a1 := lfn_sub hsubm
        have a2 : lfn ps ≤ lfn (ps.take q ++ ps.drop (q + 1)) + 1 := lfn_one (a := ps[q]) fun x hx => by
          rw [← List.take_append_drop q ps, List.drop_eq_getElem_cons hq2] at hx
          rcases List.mem_append.mp hx with e | e
          · exact .inl (List.mem_append_left _ e)
          · rcases List.mem_cons.mp e with e | e
            · exact .inr e
            · exact .inl (List.mem_append_right _ e)
        refine ws_cut (M := fun r1 => r1 = [.own c3, .fz (.int i), .fz (zoneD z), .fz (.int cnt), .fz (.int (m + z.lag + 2)), .fz (.list (ws.map wayD)), .fz (.list (ps.map keyD)), t7, t8, t9, .fz (.int (lfn ps : Nat)), .fz (.int (q : Nat)), .fz (.int (lfn (ps.take q ++ ps.drop (q + 1)) : Nat)), s13, s14, s15]) ?_ ?_
        · repeat' array_get_dec
          refine wo_eq (op_to (by omega)) ?_
          repeat' array_get_dec
          refine wo_eq (op_from (by omega)) ?_
          repeat' array_get_dec
          refine wo_addL (by rw [List.length_take, List.length_drop]; omega) ?_
          repeat' array_get_dec
          rw [e1]
          refine wf_eq (needs_many hZ hkl fun p hp => hrow.tell (hsubm p hp)) ?_
          repeat' array_get_dec
          rfl
        rintro _ rfl
        repeat' array_get_dec
        refine wo_eq (op_to (by omega)) ?_
        repeat' array_get_dec
        refine wo_eq (op_from (by omega)) ?_
        repeat' array_get_dec
        refine wo_addL (by rw [List.length_take, List.length_drop]; omega) ?_
        repeat' array_get_dec
        rw [e1]
        refine wf_eq (least_ok hneL (by omega)) ?_
        repeat' array_get_dec
        refine wf_eq (same_int _) ?_
        repeat' array_get_dec
        · rename_i hx
          exfalso
          simp at hx
          omega
        · exact ⟨_, _, rfl, rfl, rfl⟩
      · rintro _ ⟨s11, s12, rfl, n11, n12⟩
        exact ⟨s11, s12, rfl, n11, n12⟩
  rintro _ ⟨u11, u12, rfl, n11', n12'⟩
  refine ws_cut (M := fun r1 => ∃ (a : Int) (c' : Ob), r1 = [.own c', .fz (.int i), .fz (zoneD z), .fz (.int cnt), .fz (.int (m + z.lag + 2)), .fz (.list (ws.map wayD)), .fz (.list (ps.map keyD)), t7, .fz (.int a), t9, .fz (.int (lfn ps : Nat)), u11, u12, s13, s14, s15] ∧ 0 ≤ a ∧ a < m + z.lag + 2 ∧ BxI (n + 3500) c') ?_ ?_
  · repeat' array_get_dec
    rename_i a c4 a0 a1 hb4
    exact ⟨a, c4, rfl, a0, a1, hb4.mono (by omega)⟩
  rintro _ ⟨a, c4, rfl, a0, a1, hb4⟩
  have hne2 := toldI_ne (n := z.line.length) (ts := timeAt z.line) (lag := z.lag) hpos (t := a) (by rw [ht0]; exact a0) (by omega)
  have hle2 := toldI_len z.line.length (timeAt z.line) z.lag a
  refine ws_cut (M := fun r1 => ∃ (v : Int) (c' : Ob), r1 = [.own c', .fz (.int i), .fz (zoneD z), .fz (.int cnt), .fz (.int (m + z.lag + 2)), .fz (.list (ws.map wayD)), .fz (.list (ps.map keyD)), t7, .fz (.int a), t9, .fz (.int (lfn ps : Nat)), u11, u12, .own (.lst ((ps ++ [(a, v)]).map keyD)), s14, s15] ∧ tellB z.line.length (timeAt z.line) z.lag v a = true ∧ BxI (n + 3501) c') ?_ ?_
  · repeat' array_get_dec
    refine wf_eq (law_told_at_ok hZ (by omega) a) ?_
    rw [toldD_eq]
    repeat' array_get_dec
    refine pick_r hb4 (by omega) (by rw [List.length_map]; omega) fun x c5 hx hb5 => ?_
    obtain ⟨v, hv, rfl⟩ := List.mem_map.mp hx
    simp only [List.set_cons_zero, List.set_cons_succ]
    repeat' array_get_dec
    exact ⟨v, c5, by rw [List.map_append]; rfl, (toldI_mem _ _ _ _ _).mp hv, hb5⟩
  rintro _ ⟨v, c5, rfl, hv, hb5⟩
  have hv0 := (tellB_iff.mp hv).1
  have hkM : KeysOk 63 (ps ++ [(a, v)]) := keys_of (by rw [List.length_append, hpl]; show 14 + 1 ≤ 63; decide) fun p hp => by
    rcases List.mem_append.mp hp with e | e
    · exact hkeys p e
    · rw [List.mem_singleton] at e; subst e; exact ⟨a0, hv0⟩
  have htM : ∀ p ∈ ps ++ [(a, v)], tellB z.line.length (timeAt z.line) z.lag p.2 p.1 = true := fun p hp => by
    rcases List.mem_append.mp hp with e | e
    · exact hrow.tell e
    · rw [List.mem_singleton] at e; subst e; exact hv
  have b1 : lfn ps ≤ lfn (ps ++ [(a, v)]) := lfn_sub fun x hx => List.mem_append_left _ hx
  have b2 : lfn (ps ++ [(a, v)]) ≤ lfn ps + 1 := lfn_one (a := (a, v)) fun x hx => by
    rcases List.mem_append.mp hx with e | e
    · exact .inl e
    · rw [List.mem_singleton] at e; exact .inr e
  refine ws_cut (M := fun r1 => r1 = [.own c5, .fz (.int i), .fz (zoneD z), .fz (.int cnt), .fz (.int (m + z.lag + 2)), .fz (.list (ws.map wayD)), .fz (.list (ps.map keyD)), t7, .fz (.int a), t9, .fz (.int (lfn ps : Nat)), u11, u12, .fz (.list ((ps ++ [(a, v)]).map keyD)), .fz (.int (lfn (ps ++ [(a, v)]) : Nat)), s15]) ?_ ?_
  · repeat' array_get_dec
    refine wf_eq (needs_many hZ hkM htM) ?_
    repeat' array_get_dec
    rfl
  rintro _ rfl
  refine ws_cut (M := fun r1 => r1 = [.own c5, .fz (.int i), .fz (zoneD z), .fz (.int cnt), .fz (.int (m + z.lag + 2)), .fz (.list (ws.map wayD)), .fz (.list (ps.map keyD)), t7, .fz (.int a), t9, .fz (.int (lfn ps : Nat)), u11, u12, .fz (.list ((ps ++ [(a, v)]).map keyD)), .fz (.int (lfn (ps ++ [(a, v)]) : Nat)), s15]) ?_ ?_
  · repeat' array_get_dec
    refine wf_eq (least_ok (by simp) (by rw [List.length_append, hpl]; show 14 + 1 ≤ 60; decide)) ?_
    repeat' array_get_dec
    refine wf_eq (same_int _) ?_
    repeat' array_get_dec
    · rename_i hx
      exfalso
      simp at hx
      omega
    · rfl
  rintro _ rfl
  have can : ∀ (x : Nat) (qs : List (Int × Int)), KeysOk 63 qs → (∀ p ∈ qs, tellB z.line.length (timeAt z.line) z.lag p.2 p.1 = true) → ∀ k : Int, F_can_tell [.tuple [.tuple (z.line.map lineD), .int k, .int 1, .int z.lag, .int z.kl, .int z.rl], .list (qs.map keyD)] = some (.val (.bool (decide ((lfn qs : Int) ≤ k)))) := fun _ qs h1 h2 k =>
    can_many (zlike_zone { z with servers := k, tries := 1 }) (k := k) rfl h1 h2
  refine ws_cut (M := fun r1 => r1 = [.own c5, .fz (.int i), .fz (zoneD z), .fz (.int cnt), .fz (.int (m + z.lag + 2)), .fz (.list (ws.map wayD)), .fz (.list (ps.map keyD)), t7, .fz (.int a), t9, .fz (.int (lfn ps : Nat)), u11, u12, .fz (.list ((ps ++ [(a, v)]).map keyD)), .fz (.int (lfn (ps ++ [(a, v)]) : Nat)), .own (.lst [.bool true, .bool true])]) ?_ ?_
  · repeat' array_get_dec
    refine wo_eq (z := .val (.tuple (z.line.map lineD))) rfl ?_
    repeat' array_get_dec
    refine wo_eq (z := .val (.tuple [.int z.lag, .int z.kl, .int z.rl])) rfl ?_
    repeat' array_get_dec
    refine wf_eq (can 0 _ hkM htM _) ?_
    rw [decide_eq_true (Int.le_refl _)]
    repeat' array_get_dec
    refine wo_eq (z := .val (.tuple (z.line.map lineD))) rfl ?_
    repeat' array_get_dec
    refine wo_eq (z := .val (.tuple [.int z.lag, .int z.kl, .int z.rl])) rfl ?_
    repeat' array_get_dec
    refine wf_eq (can 0 _ hk14 (fun p hp => hrow.tell hp) _) ?_
    rw [decide_eq_true (Int.le_refl _)]
    repeat' array_get_dec
    rfl
  rintro _ rfl
  refine ws_cut (M := fun r1 => r1 = [.own c5, .fz (.int i), .fz (zoneD z), .fz (.int cnt), .fz (.int (m + z.lag + 2)), .fz (.list (ws.map wayD)), .fz (.list (ps.map keyD)), t7, .fz (.int a), t9, .fz (.int (lfn ps : Nat)), u11, u12, .fz (.list ((ps ++ [(a, v)]).map keyD)), .fz (.int (lfn (ps ++ [(a, v)]) : Nat)), .fz (.list [.bool true, .bool true])]) ?_ ?_
  · repeat' array_get_dec
    refine wf_eq same_tt ?_
    repeat' array_get_dec
    rfl
  rintro _ rfl
  have fin : ∀ s : Nms, s = [.own c5, .fz (.int i), .fz (zoneD z), .fz (.int cnt), .fz (.int (m + z.lag + 2)), .fz (.list (ws.map wayD)), .fz (.list (ps.map keyD)), t7, .fz (.int a), t9, .fz (.int (lfn ps : Nat)), u11, u12, .fz (.list ((ps ++ [(a, v)]).map keyD)), .fz (.int (lfn (ps ++ [(a, v)]) : Nat)), .fz (.list [.bool true, .bool true])] → N s := fun s e => by
    subst e
    exact k c5 _ _ _ _ _ _ _ _ _ _ _ _ _ _ rfl rfl rfl rfl rfl o7' rfl n9' rfl n11' n12' rfl rfl rfl (hb5.mono (by omega))
  repeat' array_get_dec
  · refine wo_eq (z := .val (.tuple (z.line.map lineD))) rfl ?_
    repeat' array_get_dec
    refine wo_eq (z := .val (.tuple [.int z.lag, .int z.kl, .int z.rl])) rfl ?_
    repeat' array_get_dec
    refine wf_eq (can 0 _ hk14 (fun p hp => hrow.tell hp) _) ?_
    rw [decide_eq_false (by omega)]
    repeat' array_get_dec
    refine wo_eq (z := .val (.bool false)) rfl ?_
    repeat' array_get_dec
    exact fin _ rfl
  · exact fin _ rfl
end KL

end

section
local macro_rules | `(tactic| array_get_dec) => `(tactic| first
  | with_reducible refine KV.ws_seq ?_
  | with_reducible refine KV.ws_set ?_
  | with_reducible refine KV.ws_ret ?_
  | with_reducible refine KV.ws_asg ?_
  | with_reducible refine KV.ws_par' ?_
  | with_reducible refine KV.ws_parO ?_
  | with_reducible refine KV.wput2 ?_
  | with_reducible refine KV.ws_par3' ?_
  | with_reducible refine KV.ws_drop ?_
  | with_reducible refine KV.ws_setIx' ?_
  | ((with_reducible apply KV.wown); exact rfl)
  | ((with_reducible apply KV.wsi); exact rfl; exact rfl; (simp only [List.set_cons_zero, List.set_cons_succ]; try exact rfl))
  | with_reducible refine KV.ws_next ?_
  | with_reducible refine KV.ws_break ?_
  | with_reducible refine KV.wparp ?_
  | with_reducible refine KV.wparp3 ?_
  | with_reducible refine KV.wd_c ?_
  | with_reducible refine KV.wd_bin ?_
  | with_reducible refine KV.wd_un ?_
  | with_reducible refine KV.wd_cb ?_
  | with_reducible refine KV.wd_tup' ?_
  | with_reducible refine KV.wd_lst' ?_
  | with_reducible refine KV.wd_call ?_
  | with_reducible refine KV.wd_callK ?_
  | with_reducible refine KV.wd_callT ?_
  | with_reducible refine KV.wd_v ?_
  | with_reducible refine KV.wd_slice ?_
  | with_reducible refine KV.wd_isi ?_
  | with_reducible refine KV.wd_isi2 ?_
  | with_reducible refine KV.wst_val ?_
  | with_reducible refine KV.wst_tmp ?_
  | with_reducible refine KV.wst_slot ?_
  | with_reducible refine KV.wdr_val ?_
  | with_reducible refine KV.wdr_tmp ?_
  | with_reducible refine KV.wfz_val ?_
  | with_reducible refine KV.wfz_tmp ?_
  | with_reducible refine KV.wn_nil ?_
  | with_reducible refine KV.wn_cons ?_
  | with_reducible refine KV.wdrs_nil ?_
  | with_reducible refine KV.wdrs_cons ?_
  | with_reducible refine KV.wv_nil ?_
  | with_reducible refine KV.wv_cons ?_
  | with_reducible refine KV.wp_none ?_
  | with_reducible refine KV.wp_some ?_
  | with_reducible refine KV.wt_b ?_
  | with_reducible refine KV.wt_not ?_
  | with_reducible refine KV.wt_yes ?_
  | with_reducible refine KV.wgs_nil ?_
  | with_reducible refine KV.wgs_cons ?_
  | with_reducible refine KV.wg_tup ?_
  | with_reducible refine KV.wi_seq ?_
  | with_reducible refine KV.wsq_list ?_
  | with_reducible refine KV.wsq_tup ?_
  | ((with_reducible apply KV.wsq_own); exact rfl; (simp only [List.set_cons_zero, List.set_cons_succ]; try exact rfl))
  | ((with_reducible apply KV.wsq_lck); exact rfl)
  | with_reducible refine KV.wr_val ?_
  | with_reducible refine KV.wr_tmp ?_
  | with_reducible refine KV.wo_add ?_
  | with_reducible refine KV.wo_sub ?_
  | with_reducible refine KV.wo_neg ?_
  | with_reducible refine KV.wo_c ?_
  | with_reducible refine KV.wo_isN ?_
  | with_reducible refine KV.wo_notN ?_
  | with_reducible refine KV.wo_eqI ?_
  | with_reducible refine KV.wo_neI ?_
  | with_reducible refine KV.wo_eqNil ?_
  | with_reducible refine KV.wo_eqB ?_
  | with_reducible refine KV.wo_neB ?_
  | with_reducible refine KV.wo_neNil ?_
  | with_reducible refine KV.wo_inT ?_
  | with_reducible refine KV.wo_inL ?_
  | with_reducible refine KV.wo_notInT ?_
  | with_reducible refine KV.wo_notInL ?_
  | with_reducible refine KV.wo_srt ?_
  | with_reducible refine KV.wo_srtR ?_
  | with_reducible refine KV.wo_rev ?_
  | with_reducible refine KV.wo_lenL ?_
  | with_reducible refine KV.wo_lenT ?_
  | with_reducible refine KV.wo_intI ?_
  | with_reducible refine KV.wo_tupL ?_
  | with_reducible refine KV.wo_tupT ?_
  | with_reducible refine KV.wo_lstL ?_
  | with_reducible refine KV.wo_lstT ?_
  | ((with_reducible apply KV.wd_fz); exact rfl)
  | ((with_reducible apply KV.wd_own); exact rfl)
  | ((with_reducible apply KV.wd_lck); exact rfl)
  | ((with_reducible apply KV.wdr_fz); exact rfl)
  | ((with_reducible apply KV.wdr_own); exact rfl)
  | ((with_reducible apply KV.wdr_lck); exact rfl)
  | ((with_reducible apply KV.wfz_fz); exact rfl)
  | ((with_reducible apply KV.wfz_own); exact rfl; (simp only [List.set_cons_zero, List.set_cons_succ]; try exact rfl))
  | ((with_reducible apply KV.wput_v); exact rfl; (first | exact rfl | assumption); (simp only [List.set_cons_zero, List.set_cons_succ]; try exact rfl))
  | ((with_reducible apply KV.wput_t); exact rfl; (first | exact rfl | assumption); (simp only [List.set_cons_zero, List.set_cons_succ]; try exact rfl))
  | ((with_reducible apply KV.wg_nm); exact rfl; (first | exact rfl | assumption); (simp only [List.set_cons_zero, List.set_cons_succ]; try exact rfl))
  | ((with_reducible apply KV.wd_callB'); exact rfl)
  | ((with_reducible apply KV.wcb); exact rfl)
  | ((with_reducible apply KV.wd_app'); exact rfl)
  | ((with_reducible apply KV.wd_pop); exact rfl)
  | ((with_reducible apply KV.wapp); exact rfl; (simp only [List.set_cons_zero, List.set_cons_succ]; try exact rfl))
  | ((with_reducible apply KV.ws_gf_fz); exact rfl)
  | ((with_reducible apply KV.ws_gf_own'); exact rfl; (simp only [List.set_cons_zero, List.set_cons_succ]; try exact rfl))
  | ((with_reducible apply KV.wr_own); exact rfl)
  | ((with_reducible apply KV.wr_fz); exact rfl)
  | with_reducible refine KV.ws_if ?_
  | with_reducible refine KV.wd_if ?_
  | with_reducible refine KV.wt_and ?_
  | with_reducible refine KV.wt_or ?_
  | with_reducible refine KV.wd_chP ?_
  | with_reducible refine KV.wsame ?_
  | with_reducible refine KV.wi_r1' ?_
  | with_reducible refine KV.wi_r2' ?_
  | ((with_reducible apply KV.wrg); omega; omega)
  | ((with_reducible apply KV.wrg2); omega; omega; omega; omega; omega)
  | with_reducible refine KV.and_t ?_
  | with_reducible refine KV.and_f ?_
  | with_reducible refine KV.and_nt ?_
  | with_reducible refine KV.and_nf ?_
  | with_reducible refine KV.and_dec ?_
  | with_reducible refine KV.and_ndec ?_
  | with_reducible refine And.intro (fun hb => ?_) (fun hb => ?_)
  | ((with_reducible apply KV.wo_ixT); exact rfl)
  | ((with_reducible apply KV.wo_ixL); exact rfl)
  | ((with_reducible refine KV.wo_isT (b := true) ?_ ?_); exact rfl)
  | ((with_reducible refine KV.wo_isT (b := false) ?_ ?_); exact rfl)
  | ((with_reducible refine KV.wo_isT2 (b := true) ?_ ?_); exact rfl)
  | ((with_reducible refine KV.wo_isT2 (b := false) ?_ ?_); exact rfl)
  | ((with_reducible apply KV.wo_mul); omega)
  | ((with_reducible apply KV.wo_mod); omega)
  | ((with_reducible apply KV.wo_div); omega)
  | ((with_reducible apply KV.wo_addL); (simp only [List.length_append, List.length_cons, List.length_nil, List.length_map]; omega))
  | ((with_reducible apply KV.wo_addT); (simp only [List.length_append, List.length_cons, List.length_nil, List.length_map]; omega))
  | ((with_reducible refine And.intro ?_ (Nat.le_of_ble_eq_true rfl)))
  | with_reducible refine Exists.intro _ (And.intro rfl ?_)
  | fail "no step")
local macro_rules | `(tactic| array_get_dec) => `(tactic| ((with_reducible refine KL.take_r (by assumption) (by omega) (by omega) (fun d c h0 h1 hb => ?_)); (simp only [List.set_cons_zero, List.set_cons_succ])))
namespace KL
open PySem PySem.Spec PyProof.Rows L2 KV
theorem right_w {n : Nat} {c : Ob} (h : BxI n c) (hn : n ≤ 20000000) : wB G__law_right c [] fun z _ => z = .val (.bool true) := by
  unfold G__law_right
  refine wb_run (r := [.own c, .un, .un, .un, .un, .un, .un, .un, .un, .un, .un, .un, .un, .un, .un, .un]) rfl ?_
  show wS (dSeq (dFor (iR1 (dCons (dC (.int 2)) (dNil))) (gN 1) b__law_right_0) (dRet (dC (.bool true)))) _ _ _ _ _
  refine ws_cut (M := fun r1 => ∃ (c' : Ob) (s1 s2 s3 s4 s5 s6 s7 s8 s9 s10 s11 s12 s13 s14 s15 : Sl), r1 = [.own c', s1, s2, s3, s4, s5, s6, s7, s8, s9, s10, s11, s12, s13, s14, s15]) ?_ ?_
  · refine ws_forI ?_
    repeat' array_get_dec
    refine ⟨rfl, fun i r1 => ∃ (c' : Ob) (s1 s2 s3 s4 s5 s6 s7 s8 s9 s10 s11 s12 s13 s14 s15 : Sl), r1 = [.own c', s1, s2, s3, s4, s5, s6, s7, s8, s9, s10, s11, s12, s13, s14, s15] ∧ nlk s1 = true ∧ nlk s2 = true ∧ nlk s3 = true ∧ nlk s4 = true ∧ nlk s5 = true ∧ nlk s6 = true ∧ s7.ob = none ∧ nlk s8 = true ∧ nlk s9 = true ∧ nlk s10 = true ∧ nlk s11 = true ∧ nlk s12 = true ∧ nlk s13 = true ∧ nlk s14 = true ∧ nlk s15 = true ∧ BxI (n + 4000 * i) c', ?_, ?_, ?_⟩
    · exact ⟨c, .un, .un, .un, .un, .un, .un, .un, .un, .un, .un, .un, .un, .un, .un, .un, rfl, rfl, rfl, rfl, rfl, rfl, rfl, rfl, rfl, rfl, rfl, rfl, rfl, rfl, rfl, rfl, h⟩
    · rintro i d _ hd ⟨c', s1, s2, s3, s4, s5, s6, s7, s8, s9, s10, s11, s12, s13, s14, s15, rfl, n1, n2, n3, n4, n5, n6, n7, n8, n9, n10, n11, n12, n13, n14, n15, hb⟩
      obtain ⟨hi, rfl⟩ := range_at hd
      have hi2 : i < 2 := hi
      refine wg_nm rfl n1 (by simp only [List.set_cons_zero, List.set_cons_succ]; exact rfl) ?_
      exact lap_w hb (by omega) n2 n3 n4 n5 n6 n7 n8 n9 n10 n11 n12 n13 n14 n15 fun c2 t2 t3 t4 t5 t6 t7 t8 t9 t10 t11 t12 t13 t14 t15 m2 m3 m4 m5 m6 m7 m8 m9 m10 m11 m12 m13 m14 m15 hb2 => ⟨c2, _, t2, t3, t4, t5, t6, t7, t8, t9, t10, t11, t12, t13, t14, t15, rfl, rfl, m2, m3, m4, m5, m6, m7, m8, m9, m10, m11, m12, m13, m14, m15, hb2.mono (by omega)⟩
    · rintro _ ⟨c', s1, s2, s3, s4, s5, s6, s7, s8, s9, s10, s11, s12, s13, s14, s15, rfl, n1, n2, n3, n4, n5, n6, n7, n8, n9, n10, n11, n12, n13, n14, n15, hb⟩
      exact ⟨c', s1, s2, s3, s4, s5, s6, s7, s8, s9, s10, s11, s12, s13, s14, s15, rfl⟩
  rintro _ ⟨c', s1, s2, s3, s4, s5, s6, s7, s8, s9, s10, s11, s12, s13, s14, s15, rfl⟩
  repeat' array_get_dec
  rfl
theorem right_r {n : Nat} {c : Ob} (h : BxI n c) (hn : n ≤ 20000000) {Q : KV.R → Ob → Prop} (k : ∀ c', Q (.val (.bool true)) c') : wB G__law_right c [] Q :=
  (right_w h hn).mono fun z c' e => by subst e; exact k c'
end KL
namespace KL
open PySem PySem.Spec PyProof.Rows L2 KV
theorem abs_ok (c : Int) : opAbs [.int c] = some (.val (.int (c.natAbs : Int))) := by
  have e : (if c < 0 then -c else c) = (c.natAbs : Int) := by split <;> omega
  show some (KV.R.val (PyData.int (if c < 0 then -c else c))) = _
  rw [e]
theorem pow18 : opPow (.int 10) (.int 18) = some (.val (.int 1000000000000000000)) := by
  unfold opPow KV.opI; simp
theorem box_tail {l : List Int} {k : Nat} (hk : k < 64) {c : Int} {Q : KV.R → Prop} (h : ∀ x y : Int, 0 ≤ x → 0 ≤ y → y < 4611686018427387904 → Q (.tmp (.lst [.int x, .int y, .int 0]))) :
    wS (dRet (dLst (vCons (dBin (dCB (dCons (dVar 2) (dNil)) opAbs) (dCB (dCons (dBin (dCB (dCons (dVar 2) (dNil)) opAbs) (dBin (dC (.int 10)) (dC (.int 18)) opPow) opGe) (dNil)) opInt) opMul) (vCons (dBin (dBin (dBin (dCB (dCons (dVar 2) (dNil)) opInt) (dC (.int 2305843009213693951)) opMod) (dBin (dC (.int 39373)) (dVar 1) opMul) opAdd) (dC (.int 43)) opAdd) (vCons (dC (.int 0)) (vNil)))))) [.fz (.list (l.map .int)), .fz (.int k), .fz (.int c)]
      (fun _ => Q (.val .none)) (fun x r1 => wO (KV.ret (.rt x r1)) fun z => Q z.1) (fun _ => False) (fun _ => False) := by
  have h1 := Int.emod_nonneg c (show (2305843009213693951 : Int) ≠ 0 by decide)
  have h2 := Int.emod_lt_of_pos c (show (0 : Int) < 2305843009213693951 by decide)
  repeat' array_get_dec
  refine wo_eq (abs_ok c) ?_
  repeat' array_get_dec
  refine wo_eq (abs_ok c) ?_
  repeat' array_get_dec
  refine wo_eq pow18 ?_
  repeat' array_get_dec
  cases hd : decide ((1000000000000000000 : Int) ≤ (c.natAbs : Int)) with
  | true =>
    refine wo_eq (z := .val (.int 1)) rfl ?_
    repeat' array_get_dec
    exact h _ _ (by omega) (by omega) (by omega)
  | false =>
    refine wo_eq (z := .val (.int 0)) rfl ?_
    repeat' array_get_dec
    exact h _ _ (by omega) (by omega) (by omega)
theorem box_w {l : List Int} {k : Nat} (hk : k < 64) {Q : KV.R → Prop} (h : ∀ c, BxI 0 c → Q (.tmp c)) : wF F__law_box [.list (l.map .int), .int k] Q := by
  unfold F__law_box
  refine wf_run (r := [.fz (.list (l.map .int)), .fz (.int k), .un]) rfl ?_
  unfold g__law_box
  refine ws_cut (M := fun r1 => ∃ c : Int, r1 = [.fz (.list (l.map .int)), .fz (.int k), .fz (.int c)]) ?_ ?_
  · repeat' array_get_dec
    · rename_i hb
      rw [List.length_map] at hb
      have e : (l.map PyData.int)[k]? = some (.int l[k]) := by rw [List.getElem?_map, List.getElem?_eq_getElem (by omega)]; rfl
      refine wo_ixL (atI_nat' e) ?_
      repeat' array_get_dec
      exact ⟨_, rfl⟩
    · exact ⟨_, rfl⟩
  rintro _ ⟨c, rfl⟩
  exact box_tail hk fun x y h0 h1 h2 => h _ ⟨x, y, 0, rfl, h0, h1, h2, Int.le_refl _, Int.le_refl _⟩
theorem spec (l : List Int) (hl : l.length ≤ 63) : F_law [.list (l.map .int)] = some (.val (.bool true)) := by
  refine wf_get ?_
  unfold F_law
  refine wf_run (r := [.fz (.list (l.map .int)), .un]) rfl ?_
  unfold g_law
  repeat' array_get_dec
  refine wd_lcm ?_
  repeat' array_get_dec
  obtain ⟨q, hq, hq3, hq0⟩ : ∃ q : Int, opMin2 [PyData.int 3, PyData.int ((l.map PyData.int).length : Nat)] = some (.val (.int q)) ∧ q ≤ 3 ∧ 0 ≤ q := by
    rw [List.length_map]
    refine ⟨_, rfl, ?_, ?_⟩ <;> split <;> omega
  refine wo_eq hq ?_
  repeat' array_get_dec
  refine ⟨rfl, fun _ => .bool true, fun d hd => ?_, ?_⟩
  · obtain ⟨i, hi⟩ := List.getElem?_of_mem hd
    obtain ⟨hlt, rfl⟩ := range_at hi
    simp only [wipeE, List.set_cons_zero, List.set_cons_succ]
    repeat' array_get_dec
    refine box_w (by omega) fun c hc => ?_
    repeat' array_get_dec
    refine right_r hc (by omega) fun c' => ?_
    repeat' array_get_dec
    exact ⟨rfl, rfl⟩
  · simp only [unlck]
    repeat' array_get_dec
    refine wo_allT (fun z hz => by obtain ⟨_, _, e⟩ := List.mem_map.mp hz; exact e.symm) ?_
    repeat' array_get_dec
    rfl
end KL

end

section
namespace KL
open PySem PySem.Spec PyProof.Rows L2 KV
def dd_0 : He.DefD := ⟨("frozen", none), "frozen", "frozen", defArgs s_frozen, defBody s_frozen, defScope s_frozen, [], []⟩
def dd_1 : He.DefD := ⟨("begin_of", none), "begin_of", "begin_of", defArgs s_begin_of, defBody s_begin_of, defScope s_begin_of, [], []⟩
def dd_2 : He.DefD := ⟨("end_of", none), "end_of", "end_of", defArgs s_end_of, defBody s_end_of, defScope s_end_of, [], []⟩
def dd_3 : He.DefD := ⟨("may_tell", none), "may_tell", "may_tell", defArgs s_may_tell, defBody s_may_tell, defScope s_may_tell, [], []⟩
def dd_4 : He.DefD := ⟨("taken_up", none), "taken_up", "taken_up", defArgs s_taken_up, defBody s_taken_up, defScope s_taken_up, [], []⟩
def dd_5 : He.DefD := ⟨("needs_servers", none), "needs_servers", "needs_servers", defArgs s_needs_servers, defBody s_needs_servers, defScope s_needs_servers, [], []⟩
def dd_6 : He.DefD := ⟨("can_tell", none), "can_tell", "can_tell", defArgs s_can_tell, defBody s_can_tell, defScope s_can_tell, [], []⟩
def dd_7 : He.DefD := ⟨("_law_box", none), "_law_box", "_law_box", defArgs s__law_box, defBody s__law_box, defScope s__law_box, [], []⟩
def dd_8 : He.DefD := ⟨("_law_take", none), "_law_take", "_law_take", defArgs s__law_take, defBody s__law_take, defScope s__law_take, [], []⟩
def dd_9 : He.DefD := ⟨("_law_pick", none), "_law_pick", "_law_pick", defArgs s__law_pick, defBody s__law_pick, defScope s__law_pick, [], []⟩
def dd_10 : He.DefD := ⟨("_law_same", none), "_law_same", "_law_same", defArgs s__law_same, defBody s__law_same, defScope s__law_same, [], []⟩
def dd_11 : He.DefD := ⟨("_law_told", none), "_law_told", "_law_told", defArgs s__law_told, defBody s__law_told, defScope s__law_told, [], []⟩
def dd_12 : He.DefD := ⟨("_law_told_at", none), "_law_told_at", "_law_told_at", defArgs s__law_told_at, defBody s__law_told_at, defScope s__law_told_at, [], []⟩
def dd_13 : He.DefD := ⟨("_law_least", none), "_law_least", "_law_least", defArgs s__law_least, defBody s__law_least, defScope s__law_least, [], []⟩
def dd_14 : He.DefD := ⟨("_law_row", none), "_law_row", "_law_row", defArgs s__law_row, defBody s__law_row, defScope s__law_row, [], []⟩
def dd_15 : He.DefD := ⟨("_law_begin_of", none), "_law_begin_of", "_law_begin_of", defArgs s__law_begin_of, defBody s__law_begin_of, defScope s__law_begin_of, [], []⟩
def dd_16 : He.DefD := ⟨("_law_without", none), "_law_without", "_law_without", defArgs s__law_without, defBody s__law_without, defScope s__law_without, [], []⟩
def dd_17 : He.DefD := ⟨("_law_changed", none), "_law_changed", "_law_changed", defArgs s__law_changed, defBody s__law_changed, defScope s__law_changed, [], []⟩
def dd_18 : He.DefD := ⟨("_law_zone", none), "_law_zone", "_law_zone", defArgs s__law_zone, defBody s__law_zone, defScope s__law_zone, [], []⟩
def dd_19 : He.DefD := ⟨("_law_walked", none), "_law_walked", "_law_walked", defArgs s__law_walked, defBody s__law_walked, defScope s__law_walked, [], []⟩
def dd_20 : He.DefD := ⟨("_law_right", none), "_law_right", "_law_right", defArgs s__law_right, defBody s__law_right, defScope s__law_right, [], []⟩
def dd_21 : He.DefD := ⟨("law", none), "law", "law", defArgs s_law, defBody s_law, defScope s_law, [], []⟩
def fn : List He.DefD := [dd_0, dd_1, dd_2, dd_3, dd_4, dd_5, dd_6, dd_7, dd_8, dd_9, dd_10, dd_11, dd_12, dd_13, dd_14, dd_15, dd_16, dd_17, dd_18, dd_19, dd_20, dd_21]
def fa : List He.Fa := [.glo "frozen", .glo "begin_of", .glo "end_of", .glo "may_tell", .glo "taken_up", .glo "needs_servers", .glo "can_tell", .glo "_law_box", .glo "_law_take", .glo "_law_pick", .glo "_law_same", .glo "_law_told", .glo "_law_told_at", .glo "_law_least", .glo "_law_row", .glo "_law_begin_of", .glo "_law_without", .glo "_law_changed", .glo "_law_zone", .glo "_law_walked", .glo "_law_right", .glo "law", .free "abs", .free "all", .free "bool", .free "enumerate", .free "int", .free "isinstance", .free "len", .free "list", .free "max", .free "min", .free "range", .free "set", .free "sorted", .free "str", .free "tuple", .free "zip"]
abbrev R : PySem.W.OpenRow := PySem.W.OpenLaw.row PySem.Challenge.rw_keyturns_k04_whole_rows_that_fall
abbrev hk : PySem.W.Hook := He.hookD 4 fa fn
def ob (s : PySem.W.SharedT) : He.AlD := He.obsDG 4 fa fn (HandSHeadRun.getT s)
theorem ob_eq (s : PySem.W.SharedT) : ob s = hk.obs s.abs := He.obsDG_eq (HandSHeadRun.getT_eq s)
theorem run (w : World) : HandSHeadRun.RunEq R (PySem.W.view R.prog [24]) hk ob 2600 ["__name__", "frozen", "begin_of", "end_of", "may_tell", "taken_up", "needs_servers", "can_tell", "_law_box", "_law_take", "_law_pick", "_law_same", "_law_told", "_law_told_at", "_law_least", "_law_row", "_law_begin_of", "_law_without", "_law_changed", "_law_zone", "_law_walked", "_law_right"] w := by
  intro os
  kernel_rfl
theorem facts {K : PySem.W.Frag} {h : Heap} {mg : Str → Option Value} (X : K.In h) (G : h.Ns mainGlobals mg) (c : He.SaysD fa fn K) : Facts K mg where
  f_abs := He.free_ok X G (c.fact 22 (f := .free "abs") rfl)
  f_all := He.free_ok X G (c.fact 23 (f := .free "all") rfl)
  f_bool := He.free_ok X G (c.fact 24 (f := .free "bool") rfl)
  f_enumerate := He.free_ok X G (c.fact 25 (f := .free "enumerate") rfl)
  f_int := He.free_ok X G (c.fact 26 (f := .free "int") rfl)
  f_isinstance := He.free_ok X G (c.fact 27 (f := .free "isinstance") rfl)
  f_len := He.free_ok X G (c.fact 28 (f := .free "len") rfl)
  f_list := He.free_ok X G (c.fact 29 (f := .free "list") rfl)
  f_max := He.free_ok X G (c.fact 30 (f := .free "max") rfl)
  f_min := He.free_ok X G (c.fact 31 (f := .free "min") rfl)
  f_range := He.free_ok X G (c.fact 32 (f := .free "range") rfl)
  f_set := He.free_ok X G (c.fact 33 (f := .free "set") rfl)
  f_sorted := He.free_ok X G (c.fact 34 (f := .free "sorted") rfl)
  f_str := He.free_ok X G (c.fact 35 (f := .free "str") rfl)
  f_tuple := He.free_ok X G (c.fact 36 (f := .free "tuple") rfl)
  f_zip := He.free_ok X G (c.fact 37 (f := .free "zip") rfl)
  d_frozen := by
    obtain ⟨fd, F⟩ := c.def_ 0 (d := dd_0) rfl
    exact ⟨_, fd, He.glo_ok X G (c.fact 0 (f := .glo "frozen") rfl), F⟩
  d_begin_of := by
    obtain ⟨fd, F⟩ := c.def_ 1 (d := dd_1) rfl
    exact ⟨_, fd, He.glo_ok X G (c.fact 1 (f := .glo "begin_of") rfl), F⟩
  d_end_of := by
    obtain ⟨fd, F⟩ := c.def_ 2 (d := dd_2) rfl
    exact ⟨_, fd, He.glo_ok X G (c.fact 2 (f := .glo "end_of") rfl), F⟩
  d_may_tell := by
    obtain ⟨fd, F⟩ := c.def_ 3 (d := dd_3) rfl
    exact ⟨_, fd, He.glo_ok X G (c.fact 3 (f := .glo "may_tell") rfl), F⟩
  d_taken_up := by
    obtain ⟨fd, F⟩ := c.def_ 4 (d := dd_4) rfl
    exact ⟨_, fd, He.glo_ok X G (c.fact 4 (f := .glo "taken_up") rfl), F⟩
  d_needs_servers := by
    obtain ⟨fd, F⟩ := c.def_ 5 (d := dd_5) rfl
    exact ⟨_, fd, He.glo_ok X G (c.fact 5 (f := .glo "needs_servers") rfl), F⟩
  d_can_tell := by
    obtain ⟨fd, F⟩ := c.def_ 6 (d := dd_6) rfl
    exact ⟨_, fd, He.glo_ok X G (c.fact 6 (f := .glo "can_tell") rfl), F⟩
  d__law_box := by
    obtain ⟨fd, F⟩ := c.def_ 7 (d := dd_7) rfl
    exact ⟨_, fd, He.glo_ok X G (c.fact 7 (f := .glo "_law_box") rfl), F⟩
  d__law_take := by
    obtain ⟨fd, F⟩ := c.def_ 8 (d := dd_8) rfl
    exact ⟨_, fd, He.glo_ok X G (c.fact 8 (f := .glo "_law_take") rfl), F⟩
  d__law_pick := by
    obtain ⟨fd, F⟩ := c.def_ 9 (d := dd_9) rfl
    exact ⟨_, fd, He.glo_ok X G (c.fact 9 (f := .glo "_law_pick") rfl), F⟩
  d__law_same := by
    obtain ⟨fd, F⟩ := c.def_ 10 (d := dd_10) rfl
    exact ⟨_, fd, He.glo_ok X G (c.fact 10 (f := .glo "_law_same") rfl), F⟩
  d__law_told := by
    obtain ⟨fd, F⟩ := c.def_ 11 (d := dd_11) rfl
    exact ⟨_, fd, He.glo_ok X G (c.fact 11 (f := .glo "_law_told") rfl), F⟩
  d__law_told_at := by
    obtain ⟨fd, F⟩ := c.def_ 12 (d := dd_12) rfl
    exact ⟨_, fd, He.glo_ok X G (c.fact 12 (f := .glo "_law_told_at") rfl), F⟩
  d__law_least := by
    obtain ⟨fd, F⟩ := c.def_ 13 (d := dd_13) rfl
    exact ⟨_, fd, He.glo_ok X G (c.fact 13 (f := .glo "_law_least") rfl), F⟩
  d__law_row := by
    obtain ⟨fd, F⟩ := c.def_ 14 (d := dd_14) rfl
    exact ⟨_, fd, He.glo_ok X G (c.fact 14 (f := .glo "_law_row") rfl), F⟩
  d__law_begin_of := by
    obtain ⟨fd, F⟩ := c.def_ 15 (d := dd_15) rfl
    exact ⟨_, fd, He.glo_ok X G (c.fact 15 (f := .glo "_law_begin_of") rfl), F⟩
  d__law_without := by
    obtain ⟨fd, F⟩ := c.def_ 16 (d := dd_16) rfl
    exact ⟨_, fd, He.glo_ok X G (c.fact 16 (f := .glo "_law_without") rfl), F⟩
  d__law_changed := by
    obtain ⟨fd, F⟩ := c.def_ 17 (d := dd_17) rfl
    exact ⟨_, fd, He.glo_ok X G (c.fact 17 (f := .glo "_law_changed") rfl), F⟩
  d__law_zone := by
    obtain ⟨fd, F⟩ := c.def_ 18 (d := dd_18) rfl
    exact ⟨_, fd, He.glo_ok X G (c.fact 18 (f := .glo "_law_zone") rfl), F⟩
  d__law_walked := by
    obtain ⟨fd, F⟩ := c.def_ 19 (d := dd_19) rfl
    exact ⟨_, fd, He.glo_ok X G (c.fact 19 (f := .glo "_law_walked") rfl), F⟩
  d__law_right := by
    obtain ⟨fd, F⟩ := c.def_ 20 (d := dd_20) rfl
    exact ⟨_, fd, He.glo_ok X G (c.fact 20 (f := .glo "_law_right") rfl), F⟩
  d_law := by
    obtain ⟨fd, F⟩ := c.def_ 21 (d := dd_21) rfl
    exact ⟨_, fd, He.glo_ok X G (c.fact 21 (f := .glo "law") rfl), F⟩
end KL
open PySem PySem.W PySem.Calls PyProof.Rows
theorem holds (spec : ∀ ns : List Int, ns.length ≤ 63 → KL.F_law [.list (ns.map .int)] = some (.val (.bool true))) : PySem.Challenge.rw_keyturns_k04_whole_rows_that_fall.Holds := by
  w_on; o_law
  refine HandSHeadRun.head_any (r := OpenLaw.row PySem.Challenge.rw_keyturns_k04_whole_rows_that_fall) (q := view (OpenLaw.row PySem.Challenge.rw_keyturns_k04_whole_rows_that_fall).prog [24]) (H := KL.hk) (ob := KL.ob) (M := 2600) (loose := ["__name__", "frozen", "begin_of", "end_of", "may_tell", "taken_up", "needs_servers", "can_tell", "_law_box", "_law_take", "_law_pick", "_law_same", "_law_told", "_law_told_at", "_law_least", "_law_row", "_law_begin_of", "_law_without", "_law_changed", "_law_zone", "_law_walked", "_law_right"]) (d := HandSHeadRun.topDef (OpenLaw.row PySem.Challenge.rw_keyturns_k04_whole_rows_that_fall).prog 24) (kwd := []) KL.ob_eq
    (by kernel_rfl) (fun s => by kernel_rfl) KL.run (by kernel_rfl) (by kernel_rfl) (by kernel_rfl) (by rfl) (by first | assumption | decide +kernel) (by decide +kernel) ⟨rfl, rfl, rfl, rfl, rfl, by decide +kernel⟩ ?hw ?hc
  case hw => w_witness2
  case hc =>
    refine KV.walk_G (l := PySem.Challenge.rw_keyturns_k04_whole_rows_that_fall) (n := 63) (k := 16) (x := "_law_script") rfl (by decide) (by kernel_rfl) ⟨rfl, by decide, by decide⟩ ?_
    intro w mg fa h Y G hmg0
    obtain ⟨K, KX, c⟩ := Y
    have hmg : mg ("law" : PySem.Str) = some (.ref fa) := by
      have e : (HandSHeadRun.topDef (OpenLaw.row PySem.Challenge.rw_keyturns_k04_whole_rows_that_fall).prog 24).name = ("law" : PySem.Str) := by kernel_rfl
      rw [← e]
      exact hmg0
    have Z := KL.facts KX G c
    obtain ⟨f0, fd, hm0, FD⟩ := Z.d_law
    have e := hm0.symm.trans hmg
    cases e
    have bb := L2.FunD.bindsA (ps := ["_law_script"]) FD fun _ _ _ _ _ _ us hl => match us, hl with | [_], _ => rfl
    refine ⟨K, fd, KL.F_law, KX, fun s v => bb s [v] rfl, spec, fun base KB GB => ?_⟩
    obtain ⟨f1, fd1, o⟩ := KL.ok_law (P := (PySem.Challenge.rw_keyturns_k04_whole_rows_that_fall).prog) (w := w) (base := base) Z
    have e1 := hm0.symm.trans o.m
    cases e1
    have e2 := KL.fd_eq FD o.D
    cases e2
    exact o.run

end
open PySem PySem.W PySem.Calls PyProof.Rows
theorem PySem.Challenge.cw_keyturns_k04_whole_rows_that_fall_holds : PySem.Challenge.rw_keyturns_k04_whole_rows_that_fall.Holds :=
  holds KL.spec
