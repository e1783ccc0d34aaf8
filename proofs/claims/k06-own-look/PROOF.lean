import PyProof.Rows.All
import Wide.All
import OpenK.AllK
import Wide.FinOn
import HandS.ForMost
import HandS.TupAny
import HandS.TupMul
import HandS.IsInst
import KE.DataEq
import KE.DataIsa
import PyProof.ReprReads
import HandS.Defaults
import HandS.Words
import HandS.Ends
import HandS.HeadEnd
import HandS.Style
import HandS.Head0
import HandS.Head1
import HandS.Head2
import HandS.HeadHook1
import HandS.HeadHook2
import HandS.HeadNt
import KE.KStateDown
import Lean
import PySem.Challenge.RW_keyturns_k06_believing_beside_an_own_loo
set_option Elab.async false
set_option linter.all false
set_option maxRecDepth 100000
set_option maxHeartbeats 0
set_option autoImplicit false
/-! KV, part 1: data that stands still, owned lists, the state of a def's names as plain data. -/
namespace KV
open PySem PySem.Spec PyProof.Rows L2

/-- a list that stands still: locked, or of the written part -/
def FzL (K : PySem.W.Frag) (H : Hp) (a : Addr) (xs : List V) : Prop :=
  (∃ o, H a = some (.frz o (.lst xs))) ∨
    ∃ (o : Obj) (its : Array Value) (n : Nat), K.lookup a = some o ∧ o.cls = .type "list" ∧ o.dict = none ∧ o.data = .seq its n ∧ its.size ≤ sizeLine ∧ Vals xs its.toList
theorem FzL.sq {K : PySem.W.Frag} {H : Hp} {a : Addr} {xs : List V} (h : FzL K H a xs) : SqL K H a xs := by
  rcases h with h | h
  · exact .inl (.inr h)
  · exact .inr h
theorem FzL.of_sq {K : PySem.W.Frag} {H : Hp} {a : Addr} {xs : List V} (h : SqL K H a xs) (hn : ∀ ys, H a ≠ some (.lst ys)) : FzL K H a xs := by
  rcases h with (h | h) | h
  · exact absurd h (hn _)
  · exact .inl h
  · exact .inr h

mutual
/-- what a value is, as data that nobody changes any more -/
inductive Rp (K : PySem.W.Frag) (H : Hp) : V → PyData → Prop
  | non : Rp K H .non .none
  | bl (b : Bool) : Rp K H (.bl b) (.bool b)
  | int (i : Int) : Rp K H (.int i) (.int i)
  | str (x : Str) : Rp K H (.str x) (.str x)
  | lst {a : Addr} {vs : List V} {ds : List PyData} : FzL K H a vs → RpAll K H vs ds → Rp K H (.ref a) (.list ds)
  | tup {a : Addr} {vs : List V} {ds : List PyData} : SqT K H a vs → RpAll K H vs ds → Rp K H (.ref a) (.tuple ds)
inductive RpAll (K : PySem.W.Frag) (H : Hp) : List V → List PyData → Prop
  | nil : RpAll K H [] []
  | cons {v : V} {vs : List V} {d : PyData} {ds : List PyData} : Rp K H v d → RpAll K H vs ds → RpAll K H (v :: vs) (d :: ds)
end

/-- what never changes stands -/
structure Fx (H H' : Hp) : Prop where
  frz : ∀ b o u, H b = some (.frz o u) → H' b = some (.frz o u)
  tup : ∀ b xs, H b = some (.tup xs) → H' b = some (.tup xs)
theorem Fx.refl (H : Hp) : Fx H H := ⟨fun _ _ _ h => h, fun _ _ h => h⟩
theorem Fx.trans {H H1 H2 : Hp} (a : Fx H H1) (b : Fx H1 H2) : Fx H H2 := ⟨fun c o u h => b.frz c o u (a.frz c o u h), fun c xs h => b.tup c xs (a.tup c xs h)⟩
theorem Fx.of_same {H H' : Hp} (h : Same H H') : Fx H H' := ⟨fun b _ _ e => h b _ e, fun b _ e => h b _ e⟩
theorem SqT.fx {K : PySem.W.Frag} {H H' : Hp} {a : Addr} {xs : List V} (f : Fx H H') (h : SqT K H a xs) : SqT K H' a xs := by
  rcases h with (h | ⟨o, h⟩) | h
  · exact .inl (.inl (f.tup _ _ h))
  · exact .inl (.inr ⟨o, f.frz _ _ _ h⟩)
  · exact .inr h
theorem FzL.fx {K : PySem.W.Frag} {H H' : Hp} {a : Addr} {xs : List V} (f : Fx H H') (h : FzL K H a xs) : FzL K H' a xs := by
  rcases h with ⟨o, h⟩ | h
  · exact .inl ⟨o, f.frz _ _ _ h⟩
  · exact .inr h

section
variable {K : PySem.W.Frag} {H H' : Hp}
mutual
theorem Rp.fx (f : Fx H H') : ∀ {v : V} {d : PyData}, Rp K H v d → Rp K H' v d
  | _, _, .non => .non
  | _, _, .bl b => .bl b
  | _, _, .int i => .int i
  | _, _, .str x => .str x
  | _, _, .lst h1 h2 => .lst (h1.fx f) (RpAll.fx f h2)
  | _, _, .tup h1 h2 => .tup (SqT.fx f h1) (RpAll.fx f h2)
theorem RpAll.fx (f : Fx H H') : ∀ {vs : List V} {ds : List PyData}, RpAll K H vs ds → RpAll K H' vs ds
  | _, _, .nil => .nil
  | _, _, .cons h1 h2 => .cons (Rp.fx f h1) (RpAll.fx f h2)
end
mutual
theorem Rp.dp : ∀ {v : V} {d : PyData}, Rp K H v d → Dp K H v d
  | _, _, .non => .non
  | _, _, .bl b => .bl b
  | _, _, .int i => .int i
  | _, _, .str x => .str x
  | _, _, .lst h1 h2 => .lst h1.sq (RpAll.dp h2)
  | _, _, .tup h1 h2 => .tup h1 (RpAll.dp h2)
theorem RpAll.dp : ∀ {vs : List V} {ds : List PyData}, RpAll K H vs ds → DpAll K H vs ds
  | _, _, .nil => .nil
  | _, _, .cons h1 h2 => .cons (Rp.dp h1) (RpAll.dp h2)
end
theorem RpAll.length : ∀ {vs : List V} {ds : List PyData}, RpAll K H vs ds → vs.length = ds.length
  | _, _, .nil => rfl
  | _, _, .cons _ h => by simp [RpAll.length h]
theorem RpAll.get : ∀ {vs : List V} {ds : List PyData} {i : Nat} {v : V}, RpAll K H vs ds → vs[i]? = some v → ∃ d, ds[i]? = some d ∧ Rp K H v d
  | _, _, _, _, .nil, e => by simp at e
  | _, _, 0, _, .cons h _, e => by simp at e; subst e; exact ⟨_, rfl, h⟩
  | _, _, i + 1, _, .cons _ t, e => by
    obtain ⟨d, h1, h2⟩ := RpAll.get (i := i) t (by simpa using e)
    exact ⟨d, by simpa using h1, h2⟩
theorem RpAll.get' : ∀ {vs : List V} {ds : List PyData} {i : Nat} {d : PyData}, RpAll K H vs ds → ds[i]? = some d → ∃ v, vs[i]? = some v ∧ Rp K H v d
  | _, _, _, _, .nil, e => by simp at e
  | _, _, 0, _, .cons h _, e => by simp at e; subst e; exact ⟨_, rfl, h⟩
  | _, _, i + 1, _, .cons _ t, e => by
    obtain ⟨d, h1, h2⟩ := RpAll.get' (i := i) t (by simpa using e)
    exact ⟨d, by simpa using h1, h2⟩
theorem RpAll.append : ∀ {vs ws : List V} {ds es : List PyData}, RpAll K H vs ds → RpAll K H ws es → RpAll K H (vs ++ ws) (ds ++ es)
  | _, _, _, _, .nil, h => h
  | _, _, _, _, .cons a t, h => .cons a (RpAll.append t h)
theorem RpAll.take : ∀ {vs : List V} {ds : List PyData} (n : Nat), RpAll K H vs ds → RpAll K H (vs.take n) (ds.take n)
  | _, _, _, .nil => by simp; exact .nil
  | _, _, 0, .cons _ _ => .nil
  | _, _, n + 1, .cons a t => .cons a (RpAll.take n t)
theorem RpAll.drop : ∀ {vs : List V} {ds : List PyData} (n : Nat), RpAll K H vs ds → RpAll K H (vs.drop n) (ds.drop n)
  | _, _, _, .nil => by simp; exact .nil
  | _, _, 0, .cons a t => .cons a t
  | _, _, n + 1, .cons _ t => RpAll.drop n t
theorem RpAll.set : ∀ {vs : List V} {ds : List PyData} {v : V} {d : PyData} (i : Nat), Rp K H v d → RpAll K H vs ds → RpAll K H (vs.set i v) (ds.set i d)
  | _, _, _, _, _, _, .nil => .nil
  | _, _, _, _, 0, r, .cons _ t => .cons r t
  | _, _, _, _, i + 1, r, .cons a t => .cons a (RpAll.set i r t)
theorem RpAll.eraseIdx : ∀ {vs : List V} {ds : List PyData} (i : Nat), RpAll K H vs ds → RpAll K H (vs.eraseIdx i) (ds.eraseIdx i)
  | _, _, _, .nil => by simp; exact .nil
  | _, _, 0, .cons _ t => t
  | _, _, i + 1, .cons a t => .cons a (RpAll.eraseIdx i t)
theorem RpAll.reverse {vs : List V} {ds : List PyData} (h : RpAll K H vs ds) : RpAll K H vs.reverse ds.reverse := by
  induction vs generalizing ds with
  | nil => cases h; exact .nil
  | cons v vs ih =>
    cases h with
    | cons a t =>
      rw [List.reverse_cons, List.reverse_cons]
      exact (ih t).append (.cons a .nil)
theorem RpAll.one {vs : List V} {d : PyData} (h : RpAll K H vs [d]) : ∃ v, vs = [v] ∧ Rp K H v d := by
  cases h with
  | cons a t => cases t; exact ⟨_, rfl, a⟩
theorem RpAll.ints : ∀ (ns : List Int), RpAll K H (ns.map V.int) (ns.map PyData.int)
  | [] => .nil
  | n :: r => .cons (.int n) (RpAll.ints r)
theorem RpAll.ints_of : ∀ {vs : List V} {ns : List Int}, RpAll K H vs (ns.map PyData.int) → vs = ns.map V.int
  | _, [], h => by cases h; rfl
  | _, n :: r, h => by
    cases h with
    | cons a t => cases a; rw [RpAll.ints_of t]; rfl
end

/-! ### things that may change -/
inductive Ob where
  | lst (ds : List PyData)
def Ob.data : Ob → PyData
  | .lst ds => .list ds
def ObOk (K : PySem.W.Frag) (H : Hp) (p : Addr) : Ob → Prop
  | .lst ds => ∃ vs, H p = some (.lst vs) ∧ RpAll K H vs ds
theorem ObOk.mut {K : PySem.W.Frag} {H : Hp} {p : Addr} {c : Ob} (h : ObOk K H p c) : Mut (H p) := by
  cases c with
  | lst ds => obtain ⟨vs, e, _⟩ := h; rw [e]; trivial
theorem ObOk.fx {K : PySem.W.Frag} {H H' : Hp} {p : Addr} {c : Ob} (h : ObOk K H p c) (f : Fx H H') (e : H' p = H p) : ObOk K H' p c := by
  cases c with
  | lst ds => obtain ⟨vs, e1, r⟩ := h; exact ⟨vs, e.trans e1, r.fx f⟩

/-- frozen data, or a list as it stands now -/
inductive Bp (K : PySem.W.Frag) (H : Hp) : V → PyData → Prop
  | rp {v : V} {d : PyData} : Rp K H v d → Bp K H v d
  | ob {p : Addr} {c : Ob} : ObOk K H p c → Bp K H (.ref p) c.data
theorem Bp.dp {K : PySem.W.Frag} {H : Hp} {v : V} {d : PyData} (h : Bp K H v d) : Dp K H v d := by
  cases h with
  | rp h => exact h.dp
  | @ob p c h =>
    cases c with
    | lst ds =>
      obtain ⟨vs, e, r⟩ := h
      exact .lst (SqL.of e) r.dp
theorem Bp.list {K : PySem.W.Frag} {H : Hp} {v : V} {ds : List PyData} (h : Bp K H v (.list ds)) : ∃ a vs, v = .ref a ∧ SqL K H a vs ∧ RpAll K H vs ds := by
  generalize e : PyData.list ds = d at h
  cases h with
  | rp h =>
    subst e
    cases h with
    | lst h1 h2 => exact ⟨_, _, rfl, h1.sq, h2⟩
  | @ob p c h =>
    cases c with
    | lst ds' =>
      cases e
      obtain ⟨vs, e, r⟩ := h
      exact ⟨p, vs, rfl, SqL.of e, r⟩
theorem Bp.tuple {K : PySem.W.Frag} {H : Hp} {v : V} {ds : List PyData} (h : Bp K H v (.tuple ds)) : ∃ a vs, v = .ref a ∧ SqT K H a vs ∧ RpAll K H vs ds := by
  generalize e : PyData.tuple ds = d at h
  cases h with
  | rp h =>
    subst e
    cases h with
    | tup h1 h2 => exact ⟨_, _, rfl, h1, h2⟩
  | @ob p c h => cases c with | lst ds' => cases e
theorem Bp.int {K : PySem.W.Frag} {H : Hp} {v : V} {i : Int} (h : Bp K H v (.int i)) : v = .int i := by
  generalize e : PyData.int i = d at h
  cases h with
  | rp h => subst e; cases h; rfl
  | @ob p c h => cases c with | lst ds' => cases e
theorem Bp.bool {K : PySem.W.Frag} {H : Hp} {v : V} {b : Bool} (h : Bp K H v (.bool b)) : v = .bl b := by
  generalize e : PyData.bool b = d at h
  cases h with
  | rp h => subst e; cases h; rfl
  | @ob p c h => cases c with | lst ds' => cases e
theorem Bp.str {K : PySem.W.Frag} {H : Hp} {v : V} {x : Str} (h : Bp K H v (.str x)) : v = .str x := by
  generalize e : PyData.str x = d at h
  cases h with
  | rp h => subst e; cases h; rfl
  | @ob p c h => cases c with | lst ds' => cases e
theorem Bp.non {K : PySem.W.Frag} {H : Hp} {v : V} (h : Bp K H v .none) : v = .non := by
  generalize e : PyData.none = d at h
  cases h with
  | rp h => subst e; cases h; rfl
  | @ob p c h => cases c with | lst ds' => cases e

/-! ### the names of a def -/
inductive Sl where
  | un
  | fz (d : PyData)
  | own (c : Ob)
  | lck (c : Ob)
def Sl.ob : Sl → Option Ob
  | .own c => some c
  | .lck c => some c
  | _ => none
abbrev Nms := List Sl
def SlOk (K : PySem.W.Frag) (H : Hp) (O : Addr → Prop) (v : Option V) : Sl → Prop
  | .un => True
  | .fz d => ∃ x, v = some x ∧ Rp K H x d
  | .own c => ∃ p, v = some (.ref p) ∧ ObOk K H p c ∧ O p
  | .lck c => ∃ p, v = some (.ref p) ∧ ObOk K H p c ∧ O p
structure EnvOk (K : PySem.W.Frag) (H : Hp) (O : Addr → Prop) (r : Nms) (σ : L2.St) : Prop where
  len : r.length = σ.length
  ok : ∀ (i : Nat) (s : Sl), r[i]? = some s → ∃ v, σ[i]? = some v ∧ SlOk K H O v s
  sep : ∀ (i j : Nat) (s t : Sl) (c e : Ob) (p : Addr), r[i]? = some s → r[j]? = some t → s.ob = some c → t.ob = some e → σ[i]? = some (some (.ref p)) → σ[j]? = some (some (.ref p)) → i = j
  mt : ∀ p, O p → Mut (H p)
/-- a step of the heap: only what is owned changes; what is owned newly is new -/
structure Stp (H : Hp) (O : Addr → Prop) (H' : Hp) (O' : Addr → Prop) : Prop where
  keep : ∀ b o, H b = some o → ¬ O b → H' b = some o
  own : ∀ b, O' b → O b ∨ H b = none
theorem Stp.refl (H : Hp) (O : Addr → Prop) : Stp H O H O := ⟨fun _ _ h _ => h, fun _ h => .inl h⟩
theorem Stp.trans {H H1 H2 : Hp} {O O1 O2 : Addr → Prop} (a : Stp H O H1 O1) (b : Stp H1 O1 H2 O2) : Stp H O H2 O2 where
  keep := fun c o h n => b.keep c o (a.keep c o h n) fun z => by
    rcases a.own c z with q | q
    · exact n q
    · rw [h] at q; cases q
  own := fun c h => by
    rcases b.own c h with q | q
    · exact a.own c q
    · cases e : H c with
      | none => exact .inr rfl
      | some o =>
        by_cases n : O c
        · exact .inl n
        · rw [a.keep c o e n] at q; cases q
theorem Stp.fx {H H' : Hp} {O O' : Addr → Prop} (s : Stp H O H' O') (hm : ∀ p, O p → Mut (H p)) : Fx H H' :=
  ⟨fun b o u e => s.keep b _ e fun z => by have := hm b z; rw [e] at this; exact this, fun b xs e => s.keep b _ e fun z => by have := hm b z; rw [e] at this; exact this⟩
theorem Stp.of_same {H H' : Hp} {O : Addr → Prop} (h : Same H H') : Stp H O H' O := ⟨fun b o e _ => h b o e, fun _ z => .inl z⟩

theorem SlOk.same {K : PySem.W.Frag} {H H' : Hp} {O : Addr → Prop} {v : Option V} {s : Sl} (f : Fx H H') (e : ∀ p, O p → H' p = H p) (h : SlOk K H O v s) : SlOk K H' O v s := by
  cases s with
  | un => trivial
  | fz d => obtain ⟨x, e1, r⟩ := h; exact ⟨x, e1, r.fx f⟩
  | own c => obtain ⟨p, e1, r, o⟩ := h; exact ⟨p, e1, r.fx f (e p o), o⟩
  | lck c => obtain ⟨p, e1, r, o⟩ := h; exact ⟨p, e1, r.fx f (e p o), o⟩
theorem SlOk.mono {K : PySem.W.Frag} {H : Hp} {O O' : Addr → Prop} {v : Option V} {s : Sl} (f : ∀ p, O p → O' p) (h : SlOk K H O v s) : SlOk K H O' v s := by
  cases s with
  | un => trivial
  | fz d => exact h
  | own c => obtain ⟨p, e1, r, o⟩ := h; exact ⟨p, e1, r, f p o⟩
  | lck c => obtain ⟨p, e1, r, o⟩ := h; exact ⟨p, e1, r, f p o⟩
section
variable {K : PySem.W.Frag} {H H' : Hp} {O O' : Addr → Prop} {r : Nms} {σ : L2.St}
theorem EnvOk.same (I : EnvOk K H O r σ) (h : Same H H') : EnvOk K H' O r σ := by
  have e : ∀ p, O p → H' p = H p := fun p o => by
    have := I.mt p o
    cases q : H p with
    | none => rw [q] at this; exact this.elim
    | some u => exact h p u q
  exact ⟨I.len, fun i s q => let ⟨v, e1, z⟩ := I.ok i s q; ⟨v, e1, z.same (Fx.of_same h) e⟩, I.sep, fun p o => by rw [e p o]; exact I.mt p o⟩
/-- a new thing comes to what is owned -/
theorem EnvOk.add {p : Addr} (I : EnvOk K H O r σ) (h : Same H H') (hm : Mut (H' p)) : EnvOk K H' (fun b => O b ∨ b = p) r σ := by
  have I' := I.same h
  exact ⟨I'.len, fun i s q => let ⟨v, e1, z⟩ := I'.ok i s q; ⟨v, e1, z.mono fun _ => .inl⟩, I'.sep, fun b o => by
    rcases o with o | rfl
    · exact I'.mt b o
    · exact hm⟩
theorem Stp.add {p : Addr} (h : Same H H') (hp : H p = none) : Stp H O H' (fun b => O b ∨ b = p) := ⟨fun b o e _ => h b o e, fun b z => by
  rcases z with z | rfl
  · exact .inl z
  · exact .inr hp⟩
theorem EnvOk.fxOf (I : EnvOk K H O r σ) (s : Stp H O H' O') : Fx H H' := s.fx I.mt
end

/-! ### what an expression gives -/
inductive R where
  | val (d : PyData)
  | slot (i : Nat)
  | tmp (c : Ob)
def ROk (K : PySem.W.Frag) (H : Hp) (O : Addr → Prop) (r : Nms) (σ : L2.St) (v : V) : R → Prop
  | .val d => Rp K H v d
  | .slot i => σ[i]? = some (some v)
  | .tmp c => ∃ p, v = .ref p ∧ ObOk K H p c ∧ O p ∧ ∀ (i : Nat) (s : Sl) (e : Ob), r[i]? = some s → s.ob = some e → σ[i]? ≠ some (some (.ref p))
/-- locked names stay as they are -/
def Keep (r r' : Nms) : Prop := ∀ (i : Nat) (c : Ob), r[i]? = some (.lck c) → r'[i]? = some (.lck c)
theorem Keep.refl (r : Nms) : Keep r r := fun _ _ h => h
theorem Keep.trans {r r1 r2 : Nms} (a : Keep r r1) (b : Keep r1 r2) : Keep r r2 := fun i c h => b i c (a i c h)
theorem Keep.set {r : Nms} {i : Nat} {s : Sl} (h : ∀ c, r[i]? ≠ some (.lck c)) : Keep r (r.set i s) := fun j c e => by
  by_cases hj : i = j
  · subst hj; exact absurd e (h c)
  · rw [List.getElem?_set_ne hj]; exact e

abbrev Den := Nms → Option (R × Nms)
def tX (K : PySem.W.Frag) (f : Den) : TE := fun σ H Q => ∃ O r x r', EnvOk K H O r σ ∧ f r = some (x, r') ∧
  ∀ H' O' v, Stp H O H' O' → EnvOk K H' O' r' σ → Keep r r' → ROk K H' O' r' σ v x → Q v H'
abbrev Ex (X : Cx) (e : Expr) (f : Den) : Prop := PE X e (tX X.K f)

/-! ### names and constants -/
def dVar (i : Nat) : Den := fun r => match r[i]? with
  | some (.fz d) => some (.val d, r)
  | some (.own _) => some (.slot i, r)
  | some (.lck _) => some (.slot i, r)
  | _ => none
section
variable {X : Cx} {e a b : Expr} {f g : Den} {pos : Pos}
theorem ex_var {i : Nat} {x : Str} (h : PE X (.Name x pos) (tVar i)) : Ex X (.Name x pos) (dVar i) := by
  refine ⟨fun pins s σ H Q I hw => h.run pins s σ H Q I ?_⟩
  obtain ⟨O, r, y, r', E, hf, k⟩ := hw
  unfold dVar at hf
  split at hf
  · rename_i d q
    cases hf
    obtain ⟨v, e1, x, e2, z⟩ := E.ok i _ q
    subst e2
    exact ⟨x, e1, k H O x (Stp.refl _ _) E (Keep.refl _) z⟩
  · rename_i c q
    cases hf
    obtain ⟨v, e1, p, e2, z, o⟩ := E.ok i _ q
    subst e2
    exact ⟨_, e1, k H O _ (Stp.refl _ _) E (Keep.refl _) e1⟩
  · rename_i c q
    cases hf
    obtain ⟨v, e1, p, e2, z, o⟩ := E.ok i _ q
    subst e2
    exact ⟨_, e1, k H O _ (Stp.refl _ _) E (Keep.refl _) e1⟩
  · cases hf
def dC (d : PyData) : Den := fun r => some (.val d, r)
theorem ex_c {v : V} {d : PyData} (h : PE X e (tC v)) (hr : ∀ H, Rp X.K H v d) : Ex X e (dC d) := by
  refine ⟨fun pins s σ H Q I hw => h.run pins s σ H Q I ?_⟩
  obtain ⟨O, r, y, r', E, hf, k⟩ := hw
  cases hf
  exact k H O v (Stp.refl _ _) E (Keep.refl _) (hr H)
theorem ex_int {i j} : Ex X (.Constant (.int i) j pos) (dC (.int i)) := ex_c pe_int fun _ => .int i
theorem ex_bl {b j} : Ex X (.Constant (.bool b) j pos) (dC (.bool b)) := ex_c pe_bl fun _ => .bl b
theorem ex_non {j} : Ex X (.Constant .none j pos) (dC .none) := ex_c pe_non fun _ => .non
theorem ex_str {x j} : Ex X (.Constant (.str x) j pos) (dC (.str x)) := ex_c pe_str fun _ => .str x

/-! ### what is given away stands still from then on -/
theorem lock_rp {K : PySem.W.Frag} {H : Hp} {p : Addr} {c : Ob} {od : Obj} {u : HO} (h : ObOk K H p c) (hu : H p = some u) : Rp K (upd H p (.frz od u)) (.ref p) c.data ∧ Fx H (upd H p (.frz od u)) := by
  have m := h.mut
  have fx : Fx H (upd H p (.frz od u)) := by
    refine ⟨fun b o w e => ?_, fun b xs e => ?_⟩
    · rw [upd_ne (fun z => by rw [← z, e] at m; exact m)]; exact e
    · rw [upd_ne (fun z => by rw [← z, e] at m; exact m)]; exact e
  refine ⟨?_, fx⟩
  cases c with
  | lst ds =>
    obtain ⟨vs, e1, r⟩ := h
    rw [e1] at hu; cases hu
    exact .lst (.inl ⟨od, upd_same⟩) (r.fx fx)
/-- the other names when the thing at p is locked -/
theorem EnvOk.freeze {K : PySem.W.Frag} {H : Hp} {O : Addr → Prop} {r : Nms} {σ : L2.St} {p : Addr} {od : Obj} {u : HO} (E : EnvOk K H O r σ) (fx : Fx H (upd H p (.frz od u)))
    (hn : ∀ (i : Nat) (s : Sl) (e : Ob), r[i]? = some s → s.ob = some e → σ[i]? ≠ some (some (.ref p))) : EnvOk K (upd H p (.frz od u)) (fun b => O b ∧ b ≠ p) r σ := by
  refine ⟨E.len, fun i s q => ?_, E.sep, fun b ⟨o, ne⟩ => by rw [upd_ne ne]; exact E.mt b o⟩
  obtain ⟨v, e1, z⟩ := E.ok i s q
  refine ⟨v, e1, ?_⟩
  cases s with
  | un => trivial
  | fz d => obtain ⟨x, e2, rp⟩ := z; exact ⟨x, e2, rp.fx fx⟩
  | own c =>
    obtain ⟨p', e2, ob, o⟩ := z
    have ne : p' ≠ p := fun z => hn i _ c q rfl (by rw [e1, e2, z])
    exact ⟨p', e2, ob.fx fx (upd_ne ne), o, ne⟩
  | lck c =>
    obtain ⟨p', e2, ob, o⟩ := z
    have ne : p' ≠ p := fun z => hn i _ c q rfl (by rw [e1, e2, z])
    exact ⟨p', e2, ob.fx fx (upd_ne ne), o, ne⟩
theorem Stp.freeze {H : Hp} {O : Addr → Prop} {p : Addr} {od : Obj} {u : HO} (hp : O p) : Stp H O (upd H p (.frz od u)) (fun b => O b ∧ b ≠ p) :=
  ⟨fun b o e n => by rw [upd_ne (fun z => n (by rw [z]; exact hp))]; exact e, fun b z => .inl z.1⟩

/-- a temporary thing stands still -/
def stl : R × Nms → R × Nms
  | (.tmp c, r) => (.val c.data, r)
  | x => x
def dStl (f : Den) : Den := fun r => (f r).map stl
theorem ex_stl (h : Ex X e f) : Ex X e (dStl f) := by
  refine ⟨fun pins s σ H Q I hw => ?_⟩
  obtain ⟨O, r, y, r', E, hf, k⟩ := hw
  unfold dStl at hf
  cases q : f r with
  | none => rw [q] at hf; cases hf
  | some y0 =>
    rw [q] at hf
    obtain ⟨x0, r0⟩ := y0
    cases x0 with
    | val d => cases hf; exact h.run pins s σ H Q I ⟨O, r, _, _, E, q, k⟩
    | slot i => cases hf; exact h.run pins s σ H Q I ⟨O, r, _, _, E, q, k⟩
    | tmp c =>
      cases hf
      refine thn (h.run pins s σ H (fun v H1 => ∃ O1, Stp H O H1 O1 ∧ EnvOk X.K H1 O1 r' σ ∧ Keep r r' ∧ ROk X.K H1 O1 r' σ v (.tmp c)) I ⟨O, r, _, _, E, q, fun H' O' v a b c d => ⟨O', a, b, c, d⟩⟩) fun u s1 hh => ?_
      obtain ⟨v, H1, I1, rv, O1, st, E1, kp, p, rfl, ob, op, hn⟩ := hh
      obtain ⟨u0, hu⟩ : ∃ u0, H1 p = some u0 := by
        cases z : H1 p with
        | none => have := ob.mut; rw [z] at this; exact this.elim
        | some u0 => exact ⟨u0, rfl⟩
      obtain ⟨od, I2⟩ := I1.lock hu (by have := ob.mut; rw [hu] at this; exact this)
      obtain ⟨rp, fx⟩ := lock_rp (od := od) ob hu
      exact ⟨_, _, I2, rv, k _ _ _ (st.trans (Stp.freeze op)) (E1.freeze fx hn) kp rp⟩
/-- .. or a name's thing: it stands still, the name keeps it -/
def frz : R × Nms → Option (R × Nms)
  | (.tmp c, r) => some (.val c.data, r)
  | (.slot i, r) => match r[i]? with
    | some (.own c) => some (.val c.data, r.set i (.fz c.data))
    | some (.fz d) => some (.val d, r)
    | _ => none
  | x => some x
def dFrz (f : Den) : Den := fun r => (f r).bind frz
theorem EnvOk.set {K : PySem.W.Frag} {H : Hp} {O : Addr → Prop} {r : Nms} {σ : L2.St} {i : Nat} {s : Sl} (E : EnvOk K H O r σ) (h : ∀ v, σ[i]? = some v → SlOk K H O v s) (hs : s.ob = none) : EnvOk K H O (r.set i s) σ := by
  refine ⟨by rw [List.length_set]; exact E.len, fun j t q => ?_, fun a b s1 t1 c e p h1 h2 h3 h4 h5 h6 => ?_, E.mt⟩
  · by_cases hj : i = j
    · subst hj
      have hl : i < r.length := by
        rw [List.getElem?_eq_some_iff] at q
        obtain ⟨q, _⟩ := q
        simpa using q
      rw [List.getElem?_set_self hl] at q
      cases q
      have hl2 : i < σ.length := by rw [← E.len]; exact hl
      exact ⟨σ[i], List.getElem?_eq_getElem hl2, h _ (List.getElem?_eq_getElem hl2)⟩
    · rw [List.getElem?_set_ne hj] at q
      exact E.ok j t q
  · have n1 : i ≠ a := fun z => by
      subst z
      have hl : i < r.length := by
        rw [List.getElem?_eq_some_iff] at h1
        obtain ⟨q, _⟩ := h1
        simpa using q
      rw [List.getElem?_set_self hl] at h1
      cases h1
      rw [hs] at h3; cases h3
    have n2 : i ≠ b := fun z => by
      subst z
      have hl : i < r.length := by
        rw [List.getElem?_eq_some_iff] at h2
        obtain ⟨q, _⟩ := h2
        simpa using q
      rw [List.getElem?_set_self hl] at h2
      cases h2
      rw [hs] at h4; cases h4
    rw [List.getElem?_set_ne n1] at h1
    rw [List.getElem?_set_ne n2] at h2
    exact E.sep a b s1 t1 c e p h1 h2 h3 h4 h5 h6
theorem ex_frz (h : Ex X e f) : Ex X e (dFrz f) := by
  refine ⟨fun pins s σ H Q I hw => ?_⟩
  obtain ⟨O, r, y, r', E, hf, k⟩ := hw
  unfold dFrz at hf
  cases q : f r with
  | none => rw [q] at hf; cases hf
  | some y0 =>
    rw [q] at hf
    obtain ⟨x0, r0⟩ := y0
    cases x0 with
    | val d => cases hf; exact h.run pins s σ H Q I ⟨O, r, _, _, E, q, k⟩
    | tmp c =>
      cases hf
      exact (ex_stl h).run pins s σ H Q I ⟨O, r, _, _, E, by unfold dStl; rw [q]; rfl, k⟩
    | slot i =>
      have hf : (match r0[i]? with
        | some (.own c) => some (R.val c.data, r0.set i (.fz c.data))
        | some (.fz d) => some (R.val d, r0)
        | _ => none) = some (y, r') := hf
      split at hf
      · rename_i c qi
        cases hf
        refine thn (h.run pins s σ H (fun v H1 => ∃ O1, Stp H O H1 O1 ∧ EnvOk X.K H1 O1 r0 σ ∧ Keep r r0 ∧ ROk X.K H1 O1 r0 σ v (.slot i)) I ⟨O, r, _, _, E, q, fun H' O' v a b c d => ⟨O', a, b, c, d⟩⟩) fun u s1 hh => ?_
        obtain ⟨v, H1, I1, rv, O1, st, E1, kp, hv⟩ := hh
        have hv : σ[i]? = some (some v) := hv
        obtain ⟨v', e1, p, e2, ob, op⟩ := E1.ok i _ qi
        rw [hv] at e1; cases e1; cases e2
        obtain ⟨u0, hu⟩ : ∃ u0, H1 p = some u0 := by
          cases z : H1 p with
          | none => have := ob.mut; rw [z] at this; exact this.elim
          | some u0 => exact ⟨u0, rfl⟩
        obtain ⟨od, I2⟩ := I1.lock hu (by have := ob.mut; rw [hu] at this; exact this)
        obtain ⟨rp, fx⟩ := lock_rp (od := od) ob hu
        have E2 : EnvOk X.K H1 O1 (r0.set i .un) σ := E1.set (fun _ _ => trivial) rfl
        have E3 : EnvOk X.K (upd H1 p (.frz od u0)) (fun b => O1 b ∧ b ≠ p) (r0.set i .un) σ := E2.freeze fx fun j t e h1 h2 h3 => by
          have hl : i < r0.length := (List.getElem?_eq_some_iff.mp qi).1
          by_cases hj : i = j
          · subst hj
            rw [List.getElem?_set_self hl] at h1
            cases h1; cases h2
          · rw [List.getElem?_set_ne hj] at h1
            exact hj (E1.sep i j _ _ c e p qi h1 rfl h2 hv h3)
        have E4 : EnvOk X.K (upd H1 p (.frz od u0)) (fun b => O1 b ∧ b ≠ p) (r0.set i (.fz c.data)) σ := by
          have := E3.set (i := i) (s := .fz c.data) (fun v hv' => by rw [hv] at hv'; cases hv'; exact ⟨_, rfl, rp⟩) rfl
          rw [List.set_set] at this
          exact this
        exact ⟨_, _, I2, rv, k _ _ _ (st.trans (Stp.freeze op)) E4 (kp.trans (Keep.set fun c' z => by rw [qi] at z; cases z)) rp⟩
      · rename_i d qi
        cases hf
        refine h.run pins s σ H Q I ⟨O, r, _, _, E, q, fun H' O' v st E' kp hv => k H' O' v st E' kp ?_⟩
        have hv : σ[i]? = some (some v) := hv
        obtain ⟨v', e1, x, e2, rp⟩ := E'.ok i _ qi
        rw [hv] at e1; cases e1; cases e2
        exact rp
      · cases hf
end
end KV

/-! KV, part 2: operators, calls, displays over data. -/
namespace KV
open PySem PySem.Spec PyProof.Rows L2

def deref (r : Nms) : R → Option PyData
  | .val d => some d
  | .tmp c => some c.data
  | .slot i => match r[i]? with
    | some (.fz d) => some d
    | some (.own c) => some c.data
    | some (.lck c) => some c.data
    | _ => none
theorem ROk.deref {K : PySem.W.Frag} {H : Hp} {O : Addr → Prop} {r : Nms} {σ : L2.St} {v : V} {x : R} {d : PyData} (E : EnvOk K H O r σ) (h : ROk K H O r σ v x) (hd : deref r x = some d) : Bp K H v d := by
  cases x with
  | val d' => cases hd; exact .rp h
  | tmp c => cases hd; obtain ⟨p, rfl, ob, _⟩ := h; exact .ob ob
  | slot i =>
    have h : σ[i]? = some (some v) := h
    have hd : (match r[i]? with
      | some (.fz d) => some d
      | some (.own c) => some c.data
      | some (.lck c) => some c.data
      | _ => none) = some d := hd
    split at hd
    · rename_i d' q
      cases hd
      obtain ⟨v', e1, x, e2, rp⟩ := E.ok i _ q
      rw [h] at e1; cases e1; cases e2
      exact .rp rp
    · rename_i c q
      cases hd
      obtain ⟨v', e1, p, e2, ob, _⟩ := E.ok i _ q
      rw [h] at e1; cases e1; cases e2
      exact .ob ob
    · rename_i c q
      cases hd
      obtain ⟨v', e1, p, e2, ob, _⟩ := E.ok i _ q
      rw [h] at e1; cases e1; cases e2
      exact .ob ob
    · cases hd
def R.late : R → Bool
  | .tmp _ => false
  | _ => true
theorem ROk.go {K : PySem.W.Frag} {H H' : Hp} {O O' : Addr → Prop} {r r' : Nms} {σ : L2.St} {v : V} {x : R} (h : ROk K H O r σ v x) (f : Fx H H') (hl : x.late = true) : ROk K H' O' r' σ v x := by
  cases x with
  | val d => exact Rp.fx f h
  | slot i => exact h
  | tmp c => cases hl
theorem stl_late (y : R × Nms) : (stl y).1.late = true := by
  obtain ⟨x, r⟩ := y
  cases x <;> rfl
theorem dStl_late {f : Den} {r r' : Nms} {x : R} (h : dStl f r = some (x, r')) : x.late = true := by
  unfold dStl at h
  cases q : f r with
  | none => rw [q] at h; cases h
  | some y =>
    rw [q] at h
    have h : stl y = (x, r') := Option.some.inj h
    have := stl_late y
    rw [h] at this
    exact this

/-- what an operation gives: data, or a new thing -/
def NewR (K : PySem.W.Frag) (H H' : Hp) (v : V) : R → Prop
  | .val d => Same H H' ∧ Rp K H' v d
  | .tmp c => Same H H' ∧ ∃ p, v = .ref p ∧ H p = none ∧ ObOk K H' p c
  | .slot _ => False
theorem NewR.done {K : PySem.W.Frag} {H H' : Hp} {O : Addr → Prop} {r : Nms} {σ : L2.St} {v : V} {x : R} (n : NewR K H H' v x) (E : EnvOk K H O r σ) : ∃ O', Stp H O H' O' ∧ EnvOk K H' O' r σ ∧ ROk K H' O' r σ v x := by
  cases x with
  | val d => exact ⟨O, Stp.of_same n.1, E.same n.1, n.2⟩
  | slot i => exact n.elim
  | tmp c =>
    obtain ⟨sm, p, rfl, hp, ob⟩ := n
    refine ⟨_, Stp.add sm hp, E.add sm ob.mut, p, rfl, ob, .inr rfl, fun i s e h1 h2 h3 => ?_⟩
    obtain ⟨v, e1, z⟩ := E.ok i s h1
    rw [h3] at e1; cases e1
    cases s with
    | un => cases h2
    | fz d => cases h2
    | own c' => obtain ⟨q, e2, ob', _⟩ := z; cases e2; have := ob'.mut; rw [hp] at this; exact this
    | lck c' => obtain ⟨q, e2, ob', _⟩ := z; cases e2; have := ob'.mut; rw [hp] at this; exact this

abbrev Op2 := PyData → PyData → Option R
abbrev OpN := List PyData → Option R
def rD2 (K : PySem.W.Frag) (op : Op2) : R2 := fun x y H Q => ∃ dx dy z, Bp K H x dx ∧ Bp K H y dy ∧ op dx dy = some z ∧ ∀ H' w, NewR K H H' w z → Q w H'
inductive BpAll (K : PySem.W.Frag) (H : Hp) : List V → List PyData → Prop
  | nil : BpAll K H [] []
  | cons {v : V} {vs : List V} {d : PyData} {ds : List PyData} : Bp K H v d → BpAll K H vs ds → BpAll K H (v :: vs) (d :: ds)
def rDN (K : PySem.W.Frag) (op : OpN) : List V → Hp → VK → Prop := fun vs H Q => ∃ ds z, BpAll K H vs ds ∧ op ds = some z ∧ ∀ H' w, NewR K H H' w z → Q w H'

section
variable {X : Cx} {e a b c : Expr} {f g h : Den} {pos : Pos} {es : List Expr}

def dBin (f g : Den) (op : Op2) : Den := fun r => (dStl f r).bind fun (x, r1) => (g r1).bind fun (y, r2) => (deref r2 x).bind fun dx => (deref r2 y).bind fun dy => (op dx dy).bind fun z => some (z, r2)
theorem bin_inv {f g : Den} {op : Op2} {r r' : Nms} {z : R} (h : dBin f g op r = some (z, r')) : ∃ x r1 y dx dy, dStl f r = some (x, r1) ∧ g r1 = some (y, r') ∧ deref r' x = some dx ∧ deref r' y = some dy ∧ op dx dy = some z := by
  unfold dBin at h
  obtain ⟨⟨x, r1⟩, q1, h⟩ := Option.bind_eq_some_iff.mp h
  obtain ⟨⟨y, r2⟩, q2, h⟩ := Option.bind_eq_some_iff.mp h
  obtain ⟨dx, q3, h⟩ := Option.bind_eq_some_iff.mp h
  obtain ⟨dy, q4, h⟩ := Option.bind_eq_some_iff.mp h
  obtain ⟨z', q5, h⟩ := Option.bind_eq_some_iff.mp h
  cases h
  exact ⟨x, r1, y, dx, dy, q1, q2, q3, q4, q5⟩
/-- the reading of two operands -/
theorem bin_read {op : Op2} {σ : L2.St} {H : Hp} {Q : VK} (hw : tX X.K (dBin f g op) σ H Q) : tX X.K (dStl f) σ H fun x H1 => tX X.K g σ H1 fun y H2 => rD2 X.K op x y H2 Q := by
  obtain ⟨O, r, z, r', E, hf, k⟩ := hw
  obtain ⟨x, r1, y, dx, dy, q1, q2, q3, q4, q5⟩ := bin_inv hf
  refine ⟨O, r, x, r1, E, q1, fun H1 O1 v st1 E1 kp1 ro1 => ⟨O1, r1, y, r', E1, q2, fun H2 O2 u st2 E2 kp2 ro2 => ?_⟩⟩
  refine ⟨dx, dy, z, (ro1.go (O' := O2) (r' := r') (E1.fxOf st2) (dStl_late q1)).deref E2 q3, ro2.deref E2 q4, q5, fun H3 w n => ?_⟩
  obtain ⟨O3, st3, E3, ro3⟩ := n.done E2
  exact k H3 O3 w (st1.trans (st2.trans st3)) E3 (kp1.trans kp2) ro3
theorem ex_bin {o : Operator} {op : Op2} (ho : OpR X (binaryOp o) (rD2 X.K op)) (ha : Ex X a f) (hb : Ex X b g) : Ex X (.BinOp a o b pos) (dBin f g op) :=
  ⟨fun pins s σ H Q I hw => (pe_op ho (ex_stl ha) hb).run pins s σ H Q I (bin_read hw)⟩
theorem ex_cmp {o : CmpOp} {op : Op2} (ho : OpR X (compareOp o) (rD2 X.K op)) (ha : Ex X a f) (hb : Ex X b g) (hm : behindInMarks o b = false) : Ex X (.Compare a [o] [b] pos) (dBin f g op) :=
  ⟨fun pins s σ H Q I hw => (pe_cmpR ho (ex_stl ha) hb hm).run pins s σ H Q I (bin_read hw)⟩
def dUn (f : Den) (op : PyData → Option R) : Den := fun r => (f r).bind fun (x, r1) => (deref r1 x).bind fun d => (op d).bind fun z => some (z, r1)
def rD1 (K : PySem.W.Frag) (op : PyData → Option R) : V → Hp → VK → Prop := fun x H Q => ∃ d z, Bp K H x d ∧ op d = some z ∧ ∀ H' w, NewR K H H' w z → Q w H'
theorem un_inv {f : Den} {op : PyData → Option R} {r r' : Nms} {z : R} (h : dUn f op r = some (z, r')) : ∃ x d, f r = some (x, r') ∧ deref r' x = some d ∧ op d = some z := by
  unfold dUn at h
  obtain ⟨⟨x, r1⟩, q1, h⟩ := Option.bind_eq_some_iff.mp h
  obtain ⟨d, q3, h⟩ := Option.bind_eq_some_iff.mp h
  obtain ⟨z', q5, h⟩ := Option.bind_eq_some_iff.mp h
  cases h
  exact ⟨x, d, q1, q3, q5⟩
theorem un_read {op : PyData → Option R} {σ : L2.St} {H : Hp} {Q : VK} (hw : tX X.K (dUn f op) σ H Q) : tX X.K f σ H fun x H1 => rD1 X.K op x H1 Q := by
  obtain ⟨O, r, z, r', E, hf, k⟩ := hw
  obtain ⟨x, d, q1, q3, q5⟩ := un_inv hf
  refine ⟨O, r, x, r', E, q1, fun H1 O1 v st1 E1 kp1 ro1 => ⟨d, z, ro1.deref E1 q3, q5, fun H3 w n => ?_⟩⟩
  obtain ⟨O3, st3, E3, ro3⟩ := n.done E1
  exact k H3 O3 w (st1.trans st3) E3 kp1 ro3
theorem ex_un {o : UnaryOp} {op : PyData → Option R} (ho : UnR X (unaryOp o) (rD1 X.K op)) (ha : Ex X a f) : Ex X (.UnaryOp o a pos) (dUn f op) :=
  ⟨fun pins s σ H Q I hw => (pe_un ho ha).run pins s σ H Q I (un_read hw)⟩

/-! ### argument lists -/
inductive ROks (K : PySem.W.Frag) (H : Hp) (σ : L2.St) : List V → List R → Prop
  | nil : ROks K H σ [] []
  | cons {v : V} {vs : List V} {x : R} {xs : List R} : x.late = true → ROk K H (fun _ => False) [] σ v x → ROks K H σ vs xs → ROks K H σ (v :: vs) (x :: xs)
theorem ROk.any {K : PySem.W.Frag} {H : Hp} {O O' : Addr → Prop} {r r' : Nms} {σ : L2.St} {v : V} {x : R} (h : ROk K H O r σ v x) (hl : x.late = true) : ROk K H O' r' σ v x := by
  cases x with
  | val d => exact h
  | slot i => exact h
  | tmp c => cases hl
theorem ROks.fx {K : PySem.W.Frag} {H H' : Hp} {σ : L2.St} (f : Fx H H') : ∀ {vs : List V} {xs : List R}, ROks K H σ vs xs → ROks K H' σ vs xs
  | _, _, .nil => .nil
  | _, _, .cons hl h t => .cons hl (h.go f hl) (ROks.fx f t)
abbrev Dens := Nms → Option (List R × Nms)
def tXs (K : PySem.W.Frag) (f : Dens) : TA := fun σ H Q => ∃ O r x r', EnvOk K H O r σ ∧ f r = some (x, r') ∧
  ∀ H' O' v, Stp H O H' O' → EnvOk K H' O' r' σ → Keep r r' → ROks K H' σ v x → Q v H'
abbrev Exs (X : Cx) (es : List Expr) (f : Dens) : Prop := PA X es (tXs X.K f)
def dNil : Dens := fun r => some ([], r)
def dCons (f : Den) (g : Dens) : Dens := fun r => (dStl f r).bind fun (x, r1) => (g r1).bind fun (xs, r2) => some (x :: xs, r2)
theorem exs_nil : Exs X [] dNil := by
  refine ⟨fun pos pins s σ H Q I hw => ?_⟩
  obtain ⟨O, r, x, r', E, hf, k⟩ := hw
  cases hf
  exact pa_nil.run pos pins s σ H Q I (k H O [] (Stp.refl _ _) E (Keep.refl _) .nil)
theorem exs_cons {gs : Dens} (ha : Ex X e f) (hr : Exs X es gs) (hs : starEach (e :: es) X.env = (false, eval e X.env) :: starEach es X.env := by rfl) : Exs X (e :: es) (dCons f gs) := by
  refine ⟨fun pos pins s σ H Q I hw => (pa_cons (ex_stl ha) hr hs).run pos pins s σ H Q I ?_⟩
  obtain ⟨O, r, x, r', E, hf, k⟩ := hw
  unfold dCons at hf
  obtain ⟨⟨y, r1⟩, q1, hf⟩ := Option.bind_eq_some_iff.mp hf
  obtain ⟨⟨ys, r2⟩, q2, hf⟩ := Option.bind_eq_some_iff.mp hf
  cases hf
  refine ⟨O, r, y, r1, E, q1, fun H1 O1 v st1 E1 kp1 ro1 => ⟨O1, r1, ys, r', E1, q2, fun H2 O2 vs st2 E2 kp2 ro2 => ?_⟩⟩
  exact k H2 O2 _ (st1.trans st2) E2 (kp1.trans kp2) (.cons (dStl_late q1) ((ro1.go (O' := O2) (r' := r') (E1.fxOf st2) (dStl_late q1)).any (dStl_late q1)) ro2)
def derefs (r : Nms) : List R → Option (List PyData)
  | [] => some []
  | x :: xs => (deref r x).bind fun d => (derefs r xs).bind fun ds => some (d :: ds)
theorem ROks.derefs {K : PySem.W.Frag} {H : Hp} {O : Addr → Prop} {r : Nms} {σ : L2.St} (E : EnvOk K H O r σ) : ∀ {vs : List V} {xs : List R} {ds : List PyData}, ROks K H σ vs xs → derefs r xs = some ds → BpAll K H vs ds
  | _, _, _, .nil, h => by cases h; exact .nil
  | _, _, _, .cons hl h1 t, h => by
    unfold KV.derefs at h
    obtain ⟨d, q1, h⟩ := Option.bind_eq_some_iff.mp h
    obtain ⟨ds', q2, h⟩ := Option.bind_eq_some_iff.mp h
    cases h
    exact .cons ((h1.any (O' := O) (r' := r) hl).deref E q1) (ROks.derefs E t q2)
def dCB (fs : Dens) (op : OpN) : Den := fun r => (fs r).bind fun (xs, r1) => (derefs r1 xs).bind fun ds => (op ds).bind fun z => some (z, r1)
theorem cb_read {fs : Dens} {op : OpN} {σ : L2.St} {H : Hp} {Q : VK} (hw : tX X.K (dCB fs op) σ H Q) : tXs X.K fs σ H fun vs H1 => rDN X.K op vs H1 Q := by
  obtain ⟨O, r, z, r', E, hf, k⟩ := hw
  unfold dCB at hf
  obtain ⟨⟨xs, r1⟩, q1, hf⟩ := Option.bind_eq_some_iff.mp hf
  obtain ⟨ds, q2, hf⟩ := Option.bind_eq_some_iff.mp hf
  obtain ⟨z', q3, hf⟩ := Option.bind_eq_some_iff.mp hf
  cases hf
  refine ⟨O, r, xs, r', E, q1, fun H1 O1 v st1 E1 kp1 ro1 => ⟨ds, z, ro1.derefs E1 q2, q3, fun H3 w n => ?_⟩⟩
  obtain ⟨O3, st3, E3, ro3⟩ := n.done E1
  exact k H3 O3 w (st1.trans st3) E3 kp1 ro3
/-- f(e, ..), f a built-in function -/
theorem ex_callB {fs : Dens} {op : OpN} {x : Str} {p : Pos} {id : String} (hc : CallR X (.builtin id) (rDN X.K op)) (hg : Gl X x) (hm : X.mg x = none) (hv : bootBuiltins x = some (.builtin id)) (ha : Exs X (e :: es) fs) (hn : x ≠ "__name__" := by decide) (hdb : (x == ("__debug__" : Str)) = false := by decide)
    (he : starEach (e :: es) X.env = (false, eval e X.env) :: starEach es X.env := by rfl) (hpl : (backTo pos (starEach es X.env)).any (·.1) = false := by rfl) : Ex X (.Call (.Name x p) (e :: es) [] pos) (dCB fs op) :=
  ⟨fun pins s σ H Q I hw => (pe_callB hc hg hm hv ha hn hdb he hpl).run pins s σ H Q I (cb_read hw)⟩
/-- T(e, ..), T a built-in class -/
theorem ex_callTy {fs : Dens} {op : OpN} {x : Str} {p : Pos} {T : String} (hc : CallR X (.type T) (rDN X.K op)) (hg : Gl X x) (hm : X.mg x = none) (hv : bootBuiltins x = some (.type T)) (ha : Exs X (e :: es) fs) (hn : x ≠ "__name__" := by decide) (hdb : (x == ("__debug__" : Str)) = false := by decide)
    (he : starEach (e :: es) X.env = (false, eval e X.env) :: starEach es X.env := by rfl) (hpl : (backTo pos (starEach es X.env)).any (·.1) = false := by rfl) : Ex X (.Call (.Name x p) (e :: es) [] pos) (dCB fs op) :=
  ⟨fun pins s σ H Q I hw => (pe_callTy hc hg hm hv ha hn hdb he hpl).run pins s σ H Q I (cb_read hw)⟩

/-! ### arguments that stand still -/
abbrev Denv := Nms → Option (List PyData × Nms)
def tXv (K : PySem.W.Frag) (f : Denv) : TA := fun σ H Q => ∃ O r x r', EnvOk K H O r σ ∧ f r = some (x, r') ∧
  ∀ H' O' v, Stp H O H' O' → EnvOk K H' O' r' σ → Keep r r' → RpAll K H' v x → Q v H'
abbrev Exv (X : Cx) (es : List Expr) (f : Denv) : Prop := PA X es (tXv X.K f)
def vNil : Denv := fun r => some ([], r)
def vOf : R × Nms → Option (PyData × Nms)
  | (.val d, r) => some (d, r)
  | _ => none
def vCons (f : Den) (g : Denv) : Denv := fun r => ((dFrz f r).bind vOf).bind fun (x, r1) => (g r1).bind fun (xs, r2) => some (x :: xs, r2)
theorem vOf_some {y : R × Nms} {d : PyData} {r : Nms} (h : vOf y = some (d, r)) : y = (.val d, r) := by
  obtain ⟨x, r'⟩ := y
  cases x with
  | val d' => cases h; rfl
  | slot i => cases h
  | tmp c => cases h
theorem exv_nil : Exv X [] vNil := by
  refine ⟨fun pos pins s σ H Q I hw => ?_⟩
  obtain ⟨O, r, x, r', E, hf, k⟩ := hw
  cases hf
  exact pa_nil.run pos pins s σ H Q I (k H O [] (Stp.refl _ _) E (Keep.refl _) .nil)
theorem exv_cons {gs : Denv} (ha : Ex X e f) (hr : Exv X es gs) (hs : starEach (e :: es) X.env = (false, eval e X.env) :: starEach es X.env := by rfl) : Exv X (e :: es) (vCons f gs) := by
  refine ⟨fun pos pins s σ H Q I hw => (pa_cons (ex_frz ha) hr hs).run pos pins s σ H Q I ?_⟩
  obtain ⟨O, r, x, r', E, hf, k⟩ := hw
  unfold vCons at hf
  obtain ⟨⟨y, r1⟩, q1, hf⟩ := Option.bind_eq_some_iff.mp hf
  obtain ⟨⟨ys, r2⟩, q2, hf⟩ := Option.bind_eq_some_iff.mp hf
  cases hf
  obtain ⟨w, q3, q4⟩ := Option.bind_eq_some_iff.mp q1
  have := vOf_some q4
  subst this
  exact ⟨O, r, .val y, r1, E, q3, fun H1 O1 v st1 E1 kp1 ro1 => ⟨O1, r1, ys, r', E1, q2, fun H2 O2 vs st2 E2 kp2 ro2 => k H2 O2 _ (st1.trans st2) E2 (kp1.trans kp2) (.cons (Rp.fx (E1.fxOf st2) ro1) ro2)⟩⟩

/-! ### written tuples and lists -/
theorem same_upd {H : Hp} {p : Addr} {o : HO} (h : H p = none) : Same H (upd H p o) := fun b u e => by
  rw [upd_ne (ne_of_none e h)]; exact e
def dTup (fs : Denv) : Den := fun r => (fs r).bind fun (xs, r1) => if xs.length ≤ sizeLine then some (.val (.tuple xs), r1) else none
theorem ex_tup {fs : Denv} {x1} (h : Exv X es fs) : Ex X (.Tuple es x1 pos) (dTup fs) := by
  refine ⟨fun pins s σ H Q I hw => (pe_tup h).run pins s σ H Q I ?_⟩
  obtain ⟨O, r, x, r', E, hf, k⟩ := hw
  unfold dTup at hf
  obtain ⟨⟨xs, r1⟩, q1, hf⟩ := Option.bind_eq_some_iff.mp hf
  dsimp only at hf
  by_cases hl : xs.length ≤ sizeLine
  · rw [if_pos hl] at hf
    cases hf
    refine ⟨O, r, xs, r', E, q1, fun H1 O1 vs st1 E1 kp1 ro1 => ⟨by rw [ro1.length]; exact hl, fun p hp => ?_⟩⟩
    exact k _ O1 _ (st1.trans (Stp.of_same (same_upd hp))) (E1.same (same_upd hp)) kp1 (.tup (SqT.of upd_same) (ro1.fx (Fx.of_same (same_upd hp))))
  · rw [if_neg hl] at hf; cases hf
def dLst (fs : Denv) : Den := fun r => (fs r).bind fun (xs, r1) => if xs.length ≤ sizeLine then some (.tmp (.lst xs), r1) else none
theorem new_lst {K : PySem.W.Frag} {H : Hp} {p : Addr} {vs : List V} {ds : List PyData} (hp : H p = none) (r : RpAll K H vs ds) : NewR K H (upd H p (.lst vs)) (.ref p) (.tmp (.lst ds)) :=
  ⟨same_upd hp, p, rfl, hp, vs, upd_same, r.fx (Fx.of_same (same_upd hp))⟩
theorem new_tup {K : PySem.W.Frag} {H : Hp} {p : Addr} {vs : List V} {ds : List PyData} (hp : H p = none) (r : RpAll K H vs ds) : NewR K H (upd H p (.tup vs)) (.ref p) (.val (.tuple ds)) :=
  ⟨same_upd hp, .tup (SqT.of upd_same) (r.fx (Fx.of_same (same_upd hp)))⟩
theorem ex_lst {fs : Denv} (h : Exv X es fs) : Ex X (.List es pos) (dLst fs) := by
  refine ⟨fun pins s σ H Q I hw => (pe_lst h).run pins s σ H Q I ?_⟩
  obtain ⟨O, r, x, r', E, hf, k⟩ := hw
  unfold dLst at hf
  obtain ⟨⟨xs, r1⟩, q1, hf⟩ := Option.bind_eq_some_iff.mp hf
  dsimp only at hf
  by_cases hl : xs.length ≤ sizeLine
  · rw [if_pos hl] at hf
    cases hf
    refine ⟨O, r, xs, r', E, q1, fun H1 O1 vs st1 E1 kp1 ro1 => ⟨by rw [ro1.length]; exact hl, fun p hp => ?_⟩⟩
    obtain ⟨O3, st3, E3, ro3⟩ := (new_lst hp ro1).done E1
    exact k _ O3 _ (st1.trans st3) E3 kp1 ro3
  · rw [if_neg hl] at hf; cases hf

/-! ### tests, and, or, not, if -/
abbrev DenT := Nms → Option (Bool × Nms)
def tT (K : PySem.W.Frag) (f : DenT) : TT := fun σ H Q => ∃ O r x r', EnvOk K H O r σ ∧ f r = some (x, r') ∧
  ∀ H' O', Stp H O H' O' → EnvOk K H' O' r' σ → Keep r r' → Q x H'
abbrev Tx (X : Cx) (e : Expr) (f : DenT) : Prop := PT X e (tT X.K f)
abbrev Wx (X : Cx) (e : Expr) (f : DenT) : Prop := PW X e (tT X.K f)
def bOf : R × Nms → Option (Bool × Nms)
  | (.val (.bool b), r) => some (b, r)
  | _ => none
theorem bOf_some {y : R × Nms} {d : Bool} {r : Nms} (h : bOf y = some (d, r)) : y = (.val (.bool d), r) := by
  obtain ⟨x, r'⟩ := y
  cases x with
  | val d' => cases d' <;> cases h; rfl
  | slot i => cases h
  | tmp c => cases h
def dB (f : Den) : DenT := fun r => (f r).bind bOf
theorem b_read {σ : L2.St} {H : Hp} {Q : Bool → Hp → Prop} (hw : tT X.K (dB f) σ H Q) : tX X.K f σ H fun x H1 => ∃ c, x = .bl c ∧ Q c H1 := by
  obtain ⟨O, r, x, r', E, hf, k⟩ := hw
  unfold dB at hf
  obtain ⟨y, q1, hf⟩ := Option.bind_eq_some_iff.mp hf
  have := bOf_some hf
  subst this
  refine ⟨O, r, _, r', E, q1, fun H1 O1 v st1 E1 kp1 ro1 => ⟨x, ?_, k H1 O1 st1 E1 kp1⟩⟩
  have ro1 : Rp X.K H1 v (.bool x) := ro1
  cases ro1
  rfl
theorem tx_val (h : Ex X e f) (he : ∀ whole, isTrue e X.env whole = (do let v ← whole; standAt e.pos; holding [v] (truthy v)) := by intro _; rfl) : Tx X e (dB f) :=
  ⟨fun pins s σ H Q I hw => (pt_val h he).run pins s σ H Q I (b_read hw)⟩
theorem tx_cmp {o : CmpOp} {op : Op2} (ho : OpR X (compareOp o) (rD2 X.K op)) (ha : Ex X a f) (hb : Ex X b g) (hm : behindInMarks o b = false) : Tx X (.Compare a [o] [b] pos) (dB (dBin f g op)) := by
  refine ⟨fun pins s σ H Q I hw => (pt_cmpR ho (ex_stl ha) hb hm).run pins s σ H Q I ?_⟩
  exact bin_read (b_read hw)
theorem tx_of_wx {t : DenT} (h : Wx X e t) : Tx X e t := h.pt
variable {t u : DenT} {rest : List Expr}
def dAnd (t u : DenT) : DenT := fun r => (t r).bind fun (c, r1) => if c = true then u r1 else some (false, r1)
def dOr (t u : DenT) : DenT := fun r => (t r).bind fun (c, r1) => if c = true then some (true, r1) else u r1
def dNot (t : DenT) : DenT := fun r => (t r).bind fun (c, r1) => some (!c, r1)
theorem wx_and1 (ha : Tx X a t) : Wx X (.BoolOp .And [a] pos) t := pw_and1 ha
theorem wx_or1 (ha : Tx X a t) : Wx X (.BoolOp .Or [a] pos) t := pw_or1 ha
theorem and_read {σ : L2.St} {H : Hp} {Q : Bool → Hp → Prop} (hw : tT X.K (dAnd t u) σ H Q) : tT X.K t σ H fun c H1 => if c = true then tT X.K u σ H1 Q else Q false H1 := by
  obtain ⟨O, r, x, r', E, hf, k⟩ := hw
  unfold dAnd at hf
  obtain ⟨⟨c, r1⟩, q1, hf⟩ := Option.bind_eq_some_iff.mp hf
  refine ⟨O, r, c, r1, E, q1, fun H1 O1 st1 E1 kp1 => ?_⟩
  cases c with
  | true => exact ⟨O1, r1, x, r', E1, hf, fun H2 O2 st2 E2 kp2 => k H2 O2 (st1.trans st2) E2 (kp1.trans kp2)⟩
  | false => cases hf; exact k H1 O1 st1 E1 kp1
theorem or_read {σ : L2.St} {H : Hp} {Q : Bool → Hp → Prop} (hw : tT X.K (dOr t u) σ H Q) : tT X.K t σ H fun c H1 => if c = true then Q true H1 else tT X.K u σ H1 Q := by
  obtain ⟨O, r, x, r', E, hf, k⟩ := hw
  unfold dOr at hf
  obtain ⟨⟨c, r1⟩, q1, hf⟩ := Option.bind_eq_some_iff.mp hf
  refine ⟨O, r, c, r1, E, q1, fun H1 O1 st1 E1 kp1 => ?_⟩
  cases c with
  | false => exact ⟨O1, r1, x, r', E1, hf, fun H2 O2 st2 E2 kp2 => k H2 O2 (st1.trans st2) E2 (kp1.trans kp2)⟩
  | true => cases hf; exact k H1 O1 st1 E1 kp1
theorem wx_and (ha : Tx X a t) (hb : Wx X (.BoolOp .And (b :: rest) pos) u) : Wx X (.BoolOp .And (a :: b :: rest) pos) (dAnd t u) :=
  ⟨fun wh pins s σ H Q I hw => (pw_and ha hb).run wh pins s σ H Q I (and_read hw)⟩
theorem wx_or (ha : Tx X a t) (hb : Wx X (.BoolOp .Or (b :: rest) pos) u) : Wx X (.BoolOp .Or (a :: b :: rest) pos) (dOr t u) :=
  ⟨fun wh pins s σ H Q I hw => (pw_or ha hb).run wh pins s σ H Q I (or_read hw)⟩
theorem not_read {σ : L2.St} {H : Hp} {Q : Bool → Hp → Prop} (hw : tT X.K (dNot t) σ H Q) : tT X.K t σ H fun c H1 => Q (!c) H1 := by
  obtain ⟨O, r, x, r', E, hf, k⟩ := hw
  unfold dNot at hf
  obtain ⟨⟨c, r1⟩, q1, hf⟩ := Option.bind_eq_some_iff.mp hf
  cases hf
  exact ⟨O, r, c, r', E, q1, fun H1 O1 st1 E1 kp1 => k H1 O1 st1 E1 kp1⟩
theorem tx_not (ha : Tx X a t) : Tx X (.UnaryOp .Not a pos) (dNot t) :=
  ⟨fun pins s σ H Q I hw => (pt_not ha).run pins s σ H Q I (not_read hw)⟩
/-- .. as values -/
def dV (t : DenT) : Den := fun r => (t r).bind fun (c, r1) => some (.val (.bool c), r1)
theorem v_mono {σ : L2.St} {H : Hp} {Q : VK} (hw : tX X.K (dV t) σ H Q) : tT X.K t σ H fun c H1 => Q (.bl c) H1 := by
  obtain ⟨O, r, x, r', E, hf, k⟩ := hw
  unfold dV at hf
  obtain ⟨⟨c, r1⟩, q1, hf⟩ := Option.bind_eq_some_iff.mp hf
  cases hf
  exact ⟨O, r, c, r', E, q1, fun H1 O1 st1 E1 kp1 => k H1 O1 _ st1 E1 kp1 (.bl c)⟩
theorem dV_dB_read {σ : L2.St} {H : Hp} {Q : VK} (hw : tX X.K (dV (dB f)) σ H Q) : tX X.K f σ H fun x H1 => ∃ c, x = .bl c ∧ Q (.bl c) H1 := b_read (v_mono hw)
theorem ex_and1 {op} (ha : Ex X a f) : Ex X (.BoolOp op [a] pos) (dV (dB f)) := by
  refine ⟨fun pins s σ H Q I hw => (pe_one ha).run pins s σ H Q I ?_⟩
  obtain ⟨O, r, x, r', E, hf, k⟩ := hw
  unfold dV dB at hf
  obtain ⟨⟨c, r1⟩, q1, hf⟩ := Option.bind_eq_some_iff.mp hf
  obtain ⟨y, q2, q3⟩ := Option.bind_eq_some_iff.mp q1
  have := bOf_some q3
  subst this
  cases hf
  exact ⟨O, r, _, r', E, q2, k⟩
theorem ex_and {pu : DenT} (ha : Ex X a f) (hb : Ex X (.BoolOp .And (b :: rest) pos) (dV pu)) : Ex X (.BoolOp .And (a :: b :: rest) pos) (dV (dAnd (dB f) pu)) := by
  refine ⟨fun pins s σ H Q I hw => (pe_and ha hb).run pins s σ H Q I ?_⟩
  have h2 := b_read (and_read (v_mono hw))
  obtain ⟨O, r, x, r', E, hf, k⟩ := h2
  refine ⟨O, r, x, r', E, hf, fun H1 O1 v st1 E1 kp1 ro1 => ?_⟩
  obtain ⟨c, e, q⟩ := k H1 O1 v st1 E1 kp1 ro1
  refine ⟨c, e, ?_⟩
  cases c with
  | false => exact q
  | true =>
    obtain ⟨O2, r2, y, r3, E2, hf2, k2⟩ := q
    exact ⟨O2, r2, .val (.bool y), r3, E2, by unfold dV; rw [hf2]; rfl, fun H3 O3 v3 st3 E3 kp3 ro3 => by
      have ro3 : Rp X.K H3 v3 (.bool y) := ro3
      cases ro3
      exact k2 H3 O3 st3 E3 kp3⟩
theorem ex_or {pu : DenT} (ha : Ex X a f) (hb : Ex X (.BoolOp .Or (b :: rest) pos) (dV pu)) : Ex X (.BoolOp .Or (a :: b :: rest) pos) (dV (dOr (dB f) pu)) := by
  refine ⟨fun pins s σ H Q I hw => (pe_or ha hb).run pins s σ H Q I ?_⟩
  have h2 := b_read (or_read (v_mono hw))
  obtain ⟨O, r, x, r', E, hf, k⟩ := h2
  refine ⟨O, r, x, r', E, hf, fun H1 O1 v st1 E1 kp1 ro1 => ?_⟩
  obtain ⟨c, e, q⟩ := k H1 O1 v st1 E1 kp1 ro1
  refine ⟨c, e, ?_⟩
  cases c with
  | true => exact q
  | false =>
    obtain ⟨O2, r2, y, r3, E2, hf2, k2⟩ := q
    exact ⟨O2, r2, .val (.bool y), r3, E2, by unfold dV; rw [hf2]; rfl, fun H3 O3 v3 st3 E3 kp3 ro3 => by
      have ro3 : Rp X.K H3 v3 (.bool y) := ro3
      cases ro3
      exact k2 H3 O3 st3 E3 kp3⟩
theorem ex_not (ha : Ex X a f) : Ex X (.UnaryOp .Not a pos) (dV (dNot (dB f))) := by
  refine ⟨fun pins s σ H Q I hw => (pe_not ha).run pins s σ H Q I ?_⟩
  exact b_read (not_read (v_mono hw))
def dIfE (t : DenT) (f g : Den) : Den := fun r => (t r).bind fun (c, r1) => if c = true then f r1 else g r1
theorem ex_if (hc : Tx X c t) (ha : Ex X a f) (hb : Ex X b g) : Ex X (.IfExp c a b pos) (dIfE t f g) := by
  refine ⟨fun pins s σ H Q I hw => (pe_ifExp hc ha hb).run pins s σ H Q I ?_⟩
  obtain ⟨O, r, x, r', E, hf, k⟩ := hw
  unfold dIfE at hf
  obtain ⟨⟨c, r1⟩, q1, hf⟩ := Option.bind_eq_some_iff.mp hf
  refine ⟨O, r, c, r1, E, q1, fun H1 O1 st1 E1 kp1 => ?_⟩
  cases c with
  | true => exact ⟨O1, r1, x, r', E1, hf, fun H2 O2 v st2 E2 kp2 ro => k H2 O2 v (st1.trans st2) E2 (kp1.trans kp2) ro⟩
  | false => exact ⟨O1, r1, x, r', E1, hf, fun H2 O2 v st2 E2 kp2 ro => k H2 O2 v (st1.trans st2) E2 (kp1.trans kp2) ro⟩
end
end KV

/-! KV, part 3: statements, loops, comprehensions, defs. -/
namespace KV
open PySem PySem.Spec PyProof.Rows L2

inductive Out where
  | nx (r : Nms)
  | rt (x : R) (r : Nms)
  | bk (r : Nms)
  | ct (r : Nms)
/-- what a statement keeps of the names: locked ones, and (io) the first parameter -/
structure KeepS (io : Bool) (r : Nms) (σ : L2.St) (r' : Nms) (σ' : L2.St) : Prop where
  lk : Keep r r'
  lks : ∀ (i : Nat) (c : Ob), r[i]? = some (.lck c) → σ'[i]? = σ[i]?
  first : io = true → σ'[0]? = σ[0]?
theorem KeepS.refl (io : Bool) (r : Nms) (σ : L2.St) : KeepS io r σ r σ := ⟨Keep.refl r, fun _ _ _ => rfl, fun _ => rfl⟩
theorem KeepS.of {io : Bool} {r r' : Nms} {σ : L2.St} (k : Keep r r') : KeepS io r σ r' σ := ⟨k, fun _ _ _ => rfl, fun _ => rfl⟩
theorem KeepS.trans {io : Bool} {r r1 r2 : Nms} {σ σ1 σ2 : L2.St} (a : KeepS io r σ r1 σ1) (b : KeepS io r1 σ1 r2 σ2) : KeepS io r σ r2 σ2 :=
  ⟨a.lk.trans b.lk, fun i c h => (b.lks i c (a.lk i c h)).trans (a.lks i c h), fun h => (b.first h).trans (a.first h)⟩

def Post (K : PySem.W.Frag) (io : Bool) (D : Ends) (O : Addr → Prop) (r : Nms) (σ : L2.St) (H : Hp) : Out → Prop
  | .nx r' => ∀ H' O' σ', Stp H O H' O' → EnvOk K H' O' r' σ' → KeepS io r σ r' σ' → D.nx σ' H'
  | .rt x r' => ∀ H' O' σ' v, Stp H O H' O' → EnvOk K H' O' r' σ' → KeepS io r σ r' σ' → ROk K H' O' r' σ' v x → D.rt v H'
  | .bk r' => ∀ H' O' σ', Stp H O H' O' → EnvOk K H' O' r' σ' → KeepS io r σ r' σ' → D.bk σ' H'
  | .ct r' => ∀ H' O' σ', Stp H O H' O' → EnvOk K H' O' r' σ' → KeepS io r σ r' σ' → D.ct σ' H'
theorem Post.pre {K : PySem.W.Frag} {io : Bool} {D : Ends} {O O1 : Addr → Prop} {r r1 : Nms} {σ σ1 : L2.St} {H H1 : Hp} {o : Out} (h : Post K io D O r σ H o) (st : Stp H O H1 O1) (k : KeepS io r σ r1 σ1) : Post K io D O1 r1 σ1 H1 o := by
  cases o with
  | nx r' => exact fun H' O' σ' a b c => h H' O' σ' (st.trans a) b (k.trans c)
  | rt x r' => exact fun H' O' σ' v a b c d => h H' O' σ' v (st.trans a) b (k.trans c) d
  | bk r' => exact fun H' O' σ' a b c => h H' O' σ' (st.trans a) b (k.trans c)
  | ct r' => exact fun H' O' σ' a b c => h H' O' σ' (st.trans a) b (k.trans c)
abbrev DenS := Nms → Option Out
def tS (K : PySem.W.Frag) (io : Bool) (f : DenS) : TS := fun D σ H => ∃ O r o, EnvOk K H O r σ ∧ f r = some o ∧ Post K io D O r σ H o
abbrev Sx (io : Bool) (X : Cx) (st : Stmt) (f : DenS) : Prop := PS X st (tS X.K io f)
abbrev Bx (io : Bool) (X : Cx) (st : List Stmt) (f : DenS) : Prop := PSs X st (tS X.K io f)

def dNext : DenS := fun r => some (.nx r)
def dSeq (f g : DenS) : DenS := fun r => (f r).bind fun o => match o with
  | .nx r1 => g r1
  | o => some o
section
variable {io : Bool} {X : Cx} {e a b : Expr} {f g : Den} {t : DenT} {u w : DenS} {pos : Pos} {st : Stmt} {rest : List Stmt}
theorem bx_nil : Bx io X [] dNext := by
  refine ⟨fun pins s σ H D I hw => pss_nil.run pins s σ H D I ?_⟩
  obtain ⟨O, r, o, E, hf, k⟩ := hw
  cases hf
  exact k H O σ (Stp.refl _ _) E (KeepS.refl _ _ _)
theorem seq_read {D : Ends} {σ : L2.St} {H : Hp} (hw : tS X.K io (dSeq u w) D σ H) : tS X.K io u { D with nx := tS X.K io w D } σ H := by
  obtain ⟨O, r, o, E, hf, k⟩ := hw
  unfold dSeq at hf
  obtain ⟨o1, q1, hf⟩ := Option.bind_eq_some_iff.mp hf
  refine ⟨O, r, o1, E, q1, ?_⟩
  cases o1 with
  | nx r1 => exact fun H' O' σ' a b c => ⟨O', r1, o, b, hf, k.pre a c⟩
  | rt x r' => cases hf; exact k
  | bk r' => cases hf; exact k
  | ct r' => cases hf; exact k
theorem bx_cons (h1 : Sx io X st u) (h2 : Bx io X rest w) : Bx io X (st :: rest) (dSeq u w) :=
  ⟨fun pins s σ H D I hw => (pss_cons h1 h2).run pins s σ H D I (seq_read hw)⟩
theorem bx_one (h1 : Sx io X st u) : Bx io X [st] u := pss_one h1
def dIf (t : DenT) (u w : DenS) : DenS := fun r => (t r).bind fun (c, r1) => if c = true then u r1 else w r1
theorem sx_if {c : Expr} {A B : List Stmt} (hc : Tx X c t) (ha : Bx io X A u) (hb : Bx io X B w) : Sx io X (.If c A B pos) (dIf t u w) := by
  refine ⟨fun pins s σ H D I hw => (ps_if hc ha hb).run pins s σ H D I ?_⟩
  obtain ⟨O, r, o, E, hf, k⟩ := hw
  unfold dIf at hf
  obtain ⟨⟨c, r1⟩, q1, hf⟩ := Option.bind_eq_some_iff.mp hf
  refine ⟨O, r, c, r1, E, q1, fun H1 O1 st1 E1 kp1 => ?_⟩
  cases c with
  | true => exact ⟨O1, r1, o, E1, hf, k.pre st1 (KeepS.of kp1)⟩
  | false => exact ⟨O1, r1, o, E1, hf, k.pre st1 (KeepS.of kp1)⟩
def dRet (f : Den) : DenS := fun r => (f r).bind fun (x, r1) => some (.rt x r1)
theorem sx_ret (he : Ex X e f) : Sx io X (.Return (some e) pos) (dRet f) := by
  refine ⟨fun pins s σ H D I hw => ?_⟩
  obtain ⟨O, r, o, E, hf, k⟩ := hw
  unfold dRet at hf
  obtain ⟨⟨x, r1⟩, q1, hf⟩ := Option.bind_eq_some_iff.mp hf
  cases hf
  exact (ps_ret he).run pins s σ H D I ⟨O, r, x, r1, E, q1, fun H1 O1 v st1 E1 kp1 ro1 => k H1 O1 σ v st1 E1 (KeepS.of kp1) ro1⟩
theorem sx_pass : Sx io X (.Pass pos) dNext := by
  refine ⟨fun pins s σ H D I hw => ps_pass.run pins s σ H D I ?_⟩
  obtain ⟨O, r, o, E, hf, k⟩ := hw
  cases hf
  exact k H O σ (Stp.refl _ _) E (KeepS.refl _ _ _)
def dBreak : DenS := fun r => some (.bk r)
theorem sx_break : Sx io X (.Break pos) dBreak := by
  refine ⟨fun pins s σ H D I hw => ps_break.run pins s σ H D I ?_⟩
  obtain ⟨O, r, o, E, hf, k⟩ := hw
  cases hf
  exact k H O σ (Stp.refl _ _) E (KeepS.refl _ _ _)
theorem sx_doc {x j pos'} : Sx io X (.Expr (.Constant (.str x) j pos) pos') dNext := by
  refine ⟨fun pins s σ H D I hw => ps_doc.run pins s σ H D I ?_⟩
  obtain ⟨O, r, o, E, hf, k⟩ := hw
  cases hf
  exact k H O σ (Stp.refl _ _) E (KeepS.refl _ _ _)
def dDrop (f : Den) : DenS := fun r => (f r).bind fun (_, r1) => some (.nx r1)
theorem sx_expr (he : Ex X e f) (hs : swapsWith e none pos.line X.env = pure false := by rfl) : Sx io X (.Expr e pos) (dDrop f) := by
  refine ⟨fun pins s σ H D I hw => (ps_expr he hs).run pins s σ H D I ?_⟩
  obtain ⟨O, r, o, E, hf, k⟩ := hw
  unfold dDrop at hf
  obtain ⟨⟨x, r1⟩, q1, hf⟩ := Option.bind_eq_some_iff.mp hf
  cases hf
  exact ⟨O, r, x, r1, E, q1, fun H1 O1 v st1 E1 kp1 ro1 => k H1 O1 σ st1 E1 (KeepS.of kp1)⟩

/-! ### targets -/
/-- a name takes what is given -/
def setSl (i : Nat) (s : Sl) (r : Nms) : Option Nms := match r[i]? with
  | some (.lck _) => none
  | some _ => some (r.set i s)
  | none => none
theorem setSl_some {i : Nat} {s : Sl} {r r' : Nms} (h : setSl i s r = some r') : r' = r.set i s ∧ i < r.length ∧ ∀ c, r[i]? ≠ some (.lck c) := by
  unfold setSl at h
  split at h
  · cases h
  · rename_i t h1 h2
    cases h
    refine ⟨rfl, (List.getElem?_eq_some_iff.mp h2).1, fun c z => ?_⟩
    rw [z] at h2; cases h2; exact h1 c rfl
  · cases h
theorem EnvOk.store {K : PySem.W.Frag} {H : Hp} {O : Addr → Prop} {r : Nms} {σ : L2.St} {i : Nat} {s : Sl} {v : V} (E : EnvOk K H O r σ) (h : SlOk K H O (some v) s) (hs : ∀ c, s.ob = some c → ∀ (j : Nat) t e p, r[j]? = some t → t.ob = some e → j ≠ i → v = .ref p → σ[j]? ≠ some (some (.ref p))) : EnvOk K H O (r.set i s) (σ.set i (some v)) := by
  refine ⟨by rw [List.length_set, List.length_set]; exact E.len, fun j t q => ?_, fun a b s1 t1 c e p h1 h2 h3 h4 h5 h6 => ?_, E.mt⟩
  · by_cases hj : i = j
    · subst hj
      have hl : i < r.length := by
        obtain ⟨q, _⟩ := List.getElem?_eq_some_iff.mp q
        simpa using q
      rw [List.getElem?_set_self hl] at q
      cases q
      have hl2 : i < σ.length := by rw [← E.len]; exact hl
      exact ⟨some v, List.getElem?_set_self hl2, h⟩
    · rw [List.getElem?_set_ne hj] at q
      rw [List.getElem?_set_ne hj]
      exact E.ok j t q
  · have key : ∀ (a b : Nat) (s1 t1 : Sl) (c e : Ob), (r.set i s)[a]? = some s1 → (r.set i s)[b]? = some t1 → s1.ob = some c → t1.ob = some e → (σ.set i (some v))[a]? = some (some (.ref p)) → (σ.set i (some v))[b]? = some (some (.ref p)) → a = i → b ≠ i → False := by
      intro a b s1 t1 c e h1 h2 h3 h4 h5 h6 ha hb
      subst ha
      have hl : a < r.length := by
        obtain ⟨q, _⟩ := List.getElem?_eq_some_iff.mp h1
        simpa using q
      have hl2 : a < σ.length := by rw [← E.len]; exact hl
      rw [List.getElem?_set_self hl] at h1
      rw [List.getElem?_set_self hl2] at h5
      cases h1
      rw [List.getElem?_set_ne (Ne.symm hb)] at h2 h6
      exact hs c h3 b t1 e p h2 h4 hb (Option.some.inj (Option.some.inj h5)) h6
    by_cases ha : a = i
    · by_cases hb : b = i
      · rw [ha, hb]
      · exact (key a b s1 t1 c e h1 h2 h3 h4 h5 h6 ha hb).elim
    · by_cases hb : b = i
      · exact (key b a t1 s1 e c h2 h1 h4 h3 h6 h5 hb ha).elim
      · rw [List.getElem?_set_ne (Ne.symm ha)] at h1 h5
        rw [List.getElem?_set_ne (Ne.symm hb)] at h2 h6
        exact E.sep a b s1 t1 c e p h1 h2 h3 h4 h5 h6
theorem KeepS.store {io : Bool} {r : Nms} {σ : L2.St} {i : Nat} {s : Sl} {v : Option V} (hl : ∀ c, r[i]? ≠ some (.lck c)) (hi : io = true → i ≠ 0) : KeepS io r σ (r.set i s) (σ.set i v) :=
  ⟨Keep.set hl, fun j c h => by rw [List.getElem?_set_ne (fun z => hl c (by rw [z]; exact h))], fun h => by rw [List.getElem?_set_ne (hi h)]⟩
/-- name = value -/
def dSet (i : Nat) (f : Den) : DenS := fun r => (f r).bind fun y => match y with
  | (.val d, r1) => (setSl i (.fz d) r1).map Out.nx
  | (.tmp c, r1) => (setSl i (.own c) r1).map Out.nx
  | (.slot _, _) => none
theorem set_read {D : Ends} {σ : L2.St} {H : Hp} {i : Nat} (hi : io = true → i ≠ 0) (hw : tS X.K io (dSet i f) D σ H) : tX X.K f σ H fun v H1 => D.nx (σ.set i (some v)) H1 := by
  obtain ⟨O, r, o, E, hf, k⟩ := hw
  unfold dSet at hf
  obtain ⟨⟨x, r1⟩, q1, hf⟩ := Option.bind_eq_some_iff.mp hf
  refine ⟨O, r, x, r1, E, q1, fun H1 O1 v st1 E1 kp1 ro1 => ?_⟩
  cases x with
  | val d =>
    obtain ⟨r2, q2, e⟩ := Option.map_eq_some_iff.mp hf
    subst e
    obtain ⟨e, hl, hk⟩ := setSl_some q2
    subst e
    exact k H1 O1 _ st1 (E1.store ⟨v, rfl, ro1⟩ fun c z => by cases z) ((KeepS.of kp1).trans (KeepS.store hk hi))
  | tmp c =>
    obtain ⟨r2, q2, e⟩ := Option.map_eq_some_iff.mp hf
    subst e
    obtain ⟨e, hl, hk⟩ := setSl_some q2
    subst e
    obtain ⟨p, rfl, ob, op, hn⟩ := ro1
    exact k H1 O1 _ st1 (E1.store ⟨p, rfl, ob, op⟩ fun c z j t e p' h1 h2 h3 h4 => by cases h4; exact hn j t e h1 h2) ((KeepS.of kp1).trans (KeepS.store hk hi))
  | slot j => cases hf
theorem sx_set {i : Nat} {x : Str} {pos' : Pos} (hN : X.N.Nodup) (hi : X.N[i]? = some x) (hx : Loc X.env.scope x) (he : Ex X e f) (h0 : io = true → i ≠ 0 := by decide) (hs : swapsWith e (some (.Name x pos')) pos.line X.env = pure false := by rfl) (hf : X.fn x = true ∨ X.env.scope.names.lookup x = some .local := by first | exact .inl rfl | exact .inr rfl | assumption) :
    Sx io X (.Assign [.Name x pos'] e pos) (dSet i f) :=
  ⟨fun pins s σ H D I hw => (ps_set hN hi hx he hs hf).run pins s σ H D I (set_read h0 hw)⟩
/-- what a target takes: it stands still -/
abbrev DenG := PyData → Nms → Option Nms
/-- nothing but these slots -/
structure But (is : List Nat) (σ σ' : L2.St) : Prop where
  len : σ'.length = σ.length
  eq : ∀ j : Nat, j ∉ is → σ'[j]? = σ[j]?
theorem But.trans {is js : List Nat} {σ σ1 σ2 : L2.St} (a : But is σ σ1) (b : But js σ1 σ2) : But (is ++ js) σ σ2 := ⟨b.len.trans a.len, fun j h => by
  rw [List.mem_append] at h
  exact (b.eq j fun z => h (.inr z)).trans (a.eq j fun z => h (.inl z))⟩
def tG (K : PySem.W.Frag) (io : Bool) (is : List Nat) (g : DenG) : TG := fun v σ H Q => ∃ O r d r', EnvOk K H O r σ ∧ Rp K H v d ∧ g d r = some r' ∧ ∀ σ', EnvOk K H O r' σ' → KeepS io r σ r' σ' → But is σ σ' → Q σ' H
abbrev Gx (io : Bool) (is : List Nat) (X : Cx) (tg : Expr) (g : DenG) : Prop := PG X tg (tG X.K io is g)
def gN (i : Nat) : DenG := fun d r => setSl i (.fz d) r
theorem gx_name {i : Nat} {x : Str} (h : PG X (.Name x pos) (gName i)) (h0 : io = true → i ≠ 0 := by decide) : Gx io [i] X (.Name x pos) (gN i) := by
  refine ⟨fun pins s σ H v u Q I r hw => h.run pins s σ H v u Q I r ?_⟩
  obtain ⟨O, r, d, r', E, rp, hg, k⟩ := hw
  obtain ⟨e, hl, hk⟩ := setSl_some hg
  subst e
  exact k _ (E.store ⟨v, rfl, rp⟩ fun c z => by cases z) (KeepS.store hk h0) ⟨List.length_set .., fun j hj => List.getElem?_set_ne (by simpa using Ne.symm (by simpa using hj))⟩
abbrev DenGs := List PyData → Nms → Option Nms
def tGs (K : PySem.W.Frag) (io : Bool) (is : List Nat) (g : DenGs) : TGs := fun vs σ H Q => ∃ O r ds r', EnvOk K H O r σ ∧ RpAll K H vs ds ∧ g ds r = some r' ∧ ∀ σ', EnvOk K H O r' σ' → KeepS io r σ r' σ' → But is σ σ' → Q σ' H
abbrev Gxs (io : Bool) (is : List Nat) (X : Cx) (ts : List Expr) (g : DenGs) : Prop := PGs X ts (tGs X.K io is g)
def gsNil : DenGs := fun ds r => match ds with
  | [] => some r
  | _ => none
def gsCons (g : DenG) (h : DenGs) : DenGs := fun ds r => match ds with
  | d :: ds => (g d r).bind fun r1 => h ds r1
  | [] => none
theorem gxs_nil : Gxs io [] X [] gsNil := by
  refine ⟨fun pins s σ H vs us Q I r hw => pgs_nil.run pins s σ H vs us Q I r ?_⟩
  obtain ⟨O, r, ds, r', E, rp, hg, k⟩ := hw
  cases ds with
  | nil => cases rp; cases hg; exact ⟨rfl, k σ E (KeepS.refl _ _ _) ⟨rfl, fun _ _ => rfl⟩⟩
  | cons d ds => cases hg
theorem gxs_cons {is js : List Nat} {es : List Expr} {g : DenG} {h : DenGs} (h1 : Gx io is X e g) (h2 : Gxs io js X es h) (hs : (assignEach (e :: es) X.env).map (·.2) = assign e X.env :: (assignEach es X.env).map (·.2) := by rfl) : Gxs io (is ++ js) X (e :: es) (gsCons g h) := by
  refine ⟨fun pins s σ H vs us Q I rr hw => (pgs_cons h1 h2 hs).run pins s σ H vs us Q I rr ?_⟩
  obtain ⟨O, r, ds, r', E, rp, hg, k⟩ := hw
  cases ds with
  | nil => cases hg
  | cons d ds =>
    cases rp with
    | cons rp1 rp2 =>
      obtain ⟨r1, q1, hg⟩ := Option.bind_eq_some_iff.mp hg
      exact ⟨_, _, rfl, O, r, d, r1, E, rp1, q1, fun σ1 E1 k1 b1 => ⟨O, r1, ds, r', E1, rp2, hg, fun σ2 E2 k2 b2 => k σ2 E2 (k1.trans k2) (b1.trans b2)⟩⟩
def gT (h : DenGs) : DenG := fun d r => match d with
  | .tuple ds => h ds r
  | _ => none
theorem gx_tup {is : List Nat} {es : List Expr} {k : Nat} {h : DenGs} (n : Nat) (hc : X.calm = true) (hh : Gxs io is X es h) (hl : ∀ ds r r', h ds r = some r' → ds.length = n)
    (hn : (assignEach es X.env).length = n := by rfl) (hst : (assignEach es X.env).findIdx? (·.1) = none := by rfl) : Gx io is X (.Tuple es k pos) (gT h) := by
  refine ⟨fun pins s σ H v u Q I rr hw => (pg_tup hc hh hn hst).run pins s σ H v u Q I rr ?_⟩
  obtain ⟨O, r, d, r', E, rp, hg, k⟩ := hw
  cases d with
  | tuple ds =>
    cases rp with
    | @tup a vs _ hs ra => exact ⟨a, vs, rfl, hs, by rw [ra.length]; exact hl ds r r' hg, O, r, ds, r', E, ra, hg, k⟩
  | _ => cases hg
theorem gsNil_len (ds : List PyData) (r r' : Nms) (h : gsNil ds r = some r') : ds.length = 0 := by
  cases ds with
  | nil => rfl
  | cons d ds => cases h
theorem gsCons_len {g : DenG} {h : DenGs} {n : Nat} (hl : ∀ ds r r', h ds r = some r' → ds.length = n) (ds : List PyData) (r r' : Nms) (q : gsCons g h ds r = some r') : ds.length = n + 1 := by
  cases ds with
  | nil => cases q
  | cons d ds =>
    obtain ⟨r1, q1, q⟩ := Option.bind_eq_some_iff.mp q
    rw [List.length_cons, hl ds r1 r' q]
/-- target = value -/
def dAsg (f : Den) (g : DenG) : DenS := fun r => ((dFrz f r).bind vOf).bind fun (d, r1) => (g d r1).map Out.nx
theorem sx_asg {is : List Nat} {tg : Expr} {g : DenG} (he : Ex X e f) (hg : Gx io is X tg g) (hs : swapsWithSole [tg] e pos.line X.env = pure false := by rfl) (hw : swappedStores [tg] e X.env = pure none := by rfl)
    (h1 : (assignEach [tg] X.env).map (·.2) = [assign tg X.env] := by rfl) : Sx io X (.Assign [tg] e pos) (dAsg f g) := by
  refine ⟨fun pins s σ H D I hh => (ps_asg (ex_frz he) hg hs hw h1).run pins s σ H D I ?_⟩
  obtain ⟨O, r, o, E, hf, k⟩ := hh
  unfold dAsg at hf
  obtain ⟨⟨d, r1⟩, q1, hf⟩ := Option.bind_eq_some_iff.mp hf
  obtain ⟨y, q2, q3⟩ := Option.bind_eq_some_iff.mp q1
  have := vOf_some q3
  subst this
  obtain ⟨r2, q4, e⟩ := Option.map_eq_some_iff.mp hf
  subst e
  exact ⟨O, r, .val d, r1, E, q2, fun H1 O1 v st1 E1 kp1 ro1 => ⟨O1, r1, d, r2, E1, ro1, q4, fun σ' E2 k2 _ => k H1 O1 σ' st1 E2 ((KeepS.of kp1).trans k2)⟩⟩
/-- a, b = x, y: two local names -/
def dPar (i j : Nat) (fs : Denv) : DenS := fun r => (fs r).bind fun (ds, r1) => match ds with
  | [d, e] => ((setSl i (.fz d) r1).bind fun r2 => setSl j (.fz e) r2).map Out.nx
  | _ => none
theorem sx_par {i j : Nat} {x y : Str} {fs : Denv} {px py pt : Pos} {kt k2 pt2} (hc : X.calm = true) (hN : X.N.Nodup) (hi : X.N[i]? = some x) (hj : X.N[j]? = some y) (hij : i ≠ j)
    (hx : X.env.scope.names.lookup x = some .local) (hy : X.env.scope.names.lookup y = some .local) (ha : Exv X [a, b] fs)
    (hw : swappedStores [.Tuple [.Name x px, .Name y py] kt pt] (.Tuple [a, b] k2 pt2) X.env = pure (some [x, y])) (h0 : io = true → i ≠ 0 := by decide) (h1 : io = true → j ≠ 0 := by decide)
    (hs : swapsWithSole [.Tuple [.Name x px, .Name y py] kt pt] (.Tuple [a, b] k2 pt2) pos.line X.env = pure false := by rfl) :
    Sx io X (.Assign [.Tuple [.Name x px, .Name y py] kt pt] (.Tuple [a, b] k2 pt2) pos) (dPar i j fs) := by
  refine ⟨fun pins s σ H D I hh => (ps_par hc hN hi hj hij hx hy ha hw hs).run pins s σ H D I ?_⟩
  obtain ⟨O, r, o, E, hf, k⟩ := hh
  unfold dPar at hf
  obtain ⟨⟨ds, r1⟩, q1, hf⟩ := Option.bind_eq_some_iff.mp hf
  match ds, hf, q1 with
  | [d, e], hf, q1 =>
    obtain ⟨r3, q2, z⟩ := Option.map_eq_some_iff.mp hf
    subst z
    obtain ⟨r2, q3, q4⟩ := Option.bind_eq_some_iff.mp q2
    refine ⟨O, r, [d, e], r1, E, q1, fun H1 O1 vs st1 E1 kp1 ro1 => ?_⟩
    cases ro1 with
    | @cons v vs' _ _ rp1 ro2 =>
      cases ro2 with
      | @cons w ws' _ _ rp2 ro3 =>
        cases ro3
        obtain ⟨e1, hl, hk⟩ := setSl_some q3
        subst e1
        obtain ⟨e2, hl2, hk2⟩ := setSl_some q4
        subst e2
        have E2 := E1.store (i := i) (s := .fz d) ⟨v, rfl, rp1⟩ fun c z => by cases z
        have E3 := E2.store (i := j) (s := .fz e) ⟨w, rfl, rp2⟩ fun c z => by cases z
        exact ⟨v, w, rfl, k H1 O1 _ st1 E3 ((KeepS.of kp1).trans ((KeepS.store hk h0).trans (KeepS.store hk2 h1)))⟩
  | [], hf, _ => cases hf
  | [_], hf, _ => cases hf
  | _ :: _ :: _ :: _, hf, _ => cases hf

/-! ### a def -/
/-- a def that changes nothing of its arguments -/
def spP (K : PySem.W.Frag) (n : Nat) (F : List PyData → Option R) : Sp := fun vs H Q _ => ∃ ds z, RpAll K H vs ds ∧ ds.length = n ∧ F ds = some z ∧ ∀ H' w, NewR K H H' w z → Q w H'
/-- what comes back from a body -/
def ret : Out → Option (R × Nms)
  | .nx r => some (.val .none, r)
  | .rt (.val d) r => some (.val d, r)
  | .rt (.tmp c) r => some (.tmp c, r)
  | .rt (.slot i) r => match r[i]? with
    | some (.own c) => some (.tmp c, r.set i .un)
    | some (.fz d) => some (.val d, r)
    | _ => none
  | _ => none
def env0 (N : Nat) (ss : List Sl) : Nms := ss ++ List.replicate (N - ss.length) .un
def runP (N : Nat) (f : DenS) (ds : List PyData) : Option R := ((f (env0 N (ds.map .fz))).bind ret).map (·.1)
theorem env0_ok {K : PySem.W.Frag} {H : Hp} {O : Addr → Prop} {N : List Str} {vs : List V} {ss : List Sl} (hl : vs.length = ss.length) (h : ∀ (i : Nat) v s, vs[i]? = some v → ss[i]? = some s → SlOk K H O (some v) s)
    (sep : ∀ (i j : Nat) s t c e p, ss[i]? = some s → ss[j]? = some t → s.ob = some c → t.ob = some e → vs[i]? = some (.ref p) → vs[j]? = some (.ref p) → i = j) (mt : ∀ p, O p → Mut (H p)) : EnvOk K H O (env0 N.length ss) (L2.start N vs) := by
  have at1 : ∀ (i : Nat) s, (env0 N.length ss)[i]? = some s → (i < ss.length ∧ ss[i]? = some s) ∨ (ss.length ≤ i ∧ s = .un ∧ i < ss.length + (N.length - ss.length)) := fun i s q => by
    unfold env0 at q
    by_cases hi : i < ss.length
    · rw [List.getElem?_append_left hi] at q
      exact .inl ⟨hi, q⟩
    · rw [List.getElem?_append_right (by omega), List.getElem?_replicate] at q
      split at q
      · cases q; exact .inr ⟨by omega, rfl, by omega⟩
      · cases q
  have at2 : ∀ (i : Nat), i < ss.length → (L2.start N vs)[i]? = (vs[i]?).map some := fun i hi => by
    unfold L2.start
    rw [List.getElem?_append_left (by simpa [hl] using hi), List.getElem?_map]
  refine ⟨by unfold env0 L2.start; simp [hl], fun i s q => ?_, fun i j s t c e p h1 h2 h3 h4 h5 h6 => ?_, mt⟩
  · rcases at1 i s q with ⟨hi, q'⟩ | ⟨hi, rfl, hi2⟩
    · rw [at2 i hi]
      have hv : vs[i]? = some vs[i] := List.getElem?_eq_getElem (by omega)
      rw [hv]
      exact ⟨_, rfl, h i _ s hv q'⟩
    · have : i < (L2.start N vs).length := by unfold L2.start; simp [hl]; omega
      exact ⟨_, List.getElem?_eq_getElem this, trivial⟩
  · rcases at1 i s h1 with ⟨hi, q1⟩ | ⟨hi, rfl, _⟩
    · rcases at1 j t h2 with ⟨hj, q2⟩ | ⟨hj, rfl, _⟩
      · rw [at2 i hi] at h5
        rw [at2 j hj] at h6
        cases e5 : vs[i]? with
        | none => rw [e5] at h5; cases h5
        | some v =>
          rw [e5] at h5
          cases e6 : vs[j]? with
          | none => rw [e6] at h6; cases h6
          | some v' =>
            rw [e6] at h6
            cases h5; cases h6
            exact sep i j s t c e p q1 q2 h3 h4 e5 e6
      · cases h4
    · cases h3
theorem RpAll.env0 {K : PySem.W.Frag} {H : Hp} {N : List Str} {vs : List V} {ds : List PyData} (h : RpAll K H vs ds) : EnvOk K H (fun _ => False) (env0 N.length (ds.map .fz)) (L2.start N vs) := by
  refine env0_ok (by rw [List.length_map]; exact h.length) (fun i v s h1 h2 => ?_) (fun i j s t c e p h1 h2 h3 => ?_) fun p z => z.elim
  · obtain ⟨d, e, rp⟩ := h.get h1
    rw [List.getElem?_map, e] at h2
    cases h2
    exact ⟨v, rfl, rp⟩
  · rw [List.getElem?_map] at h1
    cases e : ds[i]? with
    | none => rw [e] at h1; cases h1
    | some d => rw [e] at h1; cases h1; cases h3
/-- the end of a body -/
theorem ret_read {K : PySem.W.Frag} {io : Bool} {Q : VK} {O : Addr → Prop} {r : Nms} {σ : L2.St} {H : Hp} {o : Out} {z : R} {r' : Nms} (ho : ret o = some (z, r'))
    (k : ∀ H' O' σ' v, Stp H O H' O' → EnvOk K H' O' r' σ' → KeepS io r σ r' σ' → ROk K H' O' r' σ' v z → Q v H') : Post K io { nx := fun _ H' => Q .non H', rt := Q } O r σ H o := by
  cases o with
  | nx r1 => cases ho; exact fun H' O' σ' a b c => k H' O' σ' .non a b c .non
  | bk r1 => cases ho
  | ct r1 => cases ho
  | rt x r1 =>
    cases x with
    | val d => cases ho; exact fun H' O' σ' v a b c d => k H' O' σ' v a b c d
    | tmp c => cases ho; exact fun H' O' σ' v a b c d => k H' O' σ' v a b c d
    | slot i =>
      have ho : (match r1[i]? with
        | some (.own c) => some (R.tmp c, r1.set i .un)
        | some (.fz d) => some (R.val d, r1)
        | _ => none) = some (z, r') := ho
      split at ho
      · rename_i c qi
        cases ho
        intro H' O' σ' v st E kp hv
        have hv : σ'[i]? = some (some v) := hv
        obtain ⟨v', e1, p, e2, ob, op⟩ := E.ok i _ qi
        rw [hv] at e1; cases e1; cases e2
        refine k H' O' σ' _ st (E.set (fun _ _ => trivial) rfl) (kp.trans (KeepS.of (Keep.set fun c' z => by rw [qi] at z; cases z))) ⟨p, rfl, ob, op, fun j t e h1 h2 h3 => ?_⟩
        have hl : i < r1.length := (List.getElem?_eq_some_iff.mp qi).1
        by_cases hj : i = j
        · subst hj
          rw [List.getElem?_set_self hl] at h1
          cases h1; cases h2
        · rw [List.getElem?_set_ne hj] at h1
          exact hj (E.sep i j _ _ c e p qi h1 rfl h2 hv h3)
      · rename_i d qi
        cases ho
        intro H' O' σ' v st E kp hv
        have hv : σ'[i]? = some (some v) := hv
        obtain ⟨v', e1, x, e2, rp⟩ := E.ok i _ qi
        rw [hv] at e1; cases e1; cases e2
        exact k H' O' σ' _ st E kp rp
      · cases ho
end
section
variable {P : Program} {w : World} {K : PySem.W.Frag} {mg : Str → Option Value} {base : Heap}
theorem fn_P {x qual : Str} {st : Stmt} {f : Addr} {fd : FuncData} {N ps : List Str} {k : Nat} {F : List PyData → Option R} (hF : Fun K x qual st f fd) (S : FnScope N ps (defScope st))
    (hbody : ∀ (cdv : Value) (A : Around) (outer : List Env) (s : Shared) (H : Hp), Room k (A.deeper (envOfC qual (defScope st) s.heap.objs.size f cdv)) →
      ∃ g, Bx false (cxOf CX0 P w K mg base N qual (defScope st) f cdv A outer s H E0).nox (defBody st) g ∧ ∀ ds z, F ds = some z → runP N.length g ds = some z) : FnOk P w K mg base CX0 (k + 1) f fd ps (spP K ps.length F) := by
  refine hF.ok S (fun vs H Q E h => ?_) (fun cdv A outer s H vs Q E hr h => ?_)
  · obtain ⟨ds, z, ra, hl, _⟩ := h
    rw [ra.length, hl]
  · obtain ⟨g, hg, hz⟩ := hbody cdv A outer s H hr
    obtain ⟨ds, z, ra, hl, hF, k⟩ := h
    refine ⟨_, hg, ?_⟩
    have q := hz ds z hF
    unfold runP at q
    obtain ⟨⟨z', r'⟩, q1, e⟩ := Option.map_eq_some_iff.mp q
    cases e
    obtain ⟨o, q2, q3⟩ := Option.bind_eq_some_iff.mp q1
    refine ⟨fun _ => False, _, o, ra.env0, q2, ret_read q3 fun H' O' σ' v st1 E1 _ ro => k H' v ?_⟩
    have sm : Same H H' := fun b o e => st1.keep b o e fun z => z
    cases z' with
    | val d => exact ⟨sm, ro⟩
    | tmp c =>
      obtain ⟨p, rfl, ob, op, _⟩ := ro
      exact ⟨sm, p, rfl, (st1.own p op).elim (fun z => z.elim) id, ob⟩
    | slot i =>
      exfalso
      cases o with
      | nx r1 => cases q3
      | bk r1 => cases q3
      | ct r1 => cases q3
      | rt x r1 =>
        cases x with
        | val d => cases q3
        | tmp c => cases q3
        | slot i =>
          have q3 : (match r1[i]? with
            | some (.own c) => some (R.tmp c, r1.set i .un)
            | some (.fz d) => some (R.val d, r1)
            | _ => none) = some _ := q3
          split at q3 <;> cases q3
end
end KV

/-! KV, part 4: loops and comprehensions. -/
namespace KV
open PySem PySem.Spec PyProof.Rows L2

/-! ### what is walked -/
/-- J goes over ds, whatever is done with the names (but the locked ones) -/
def JOk (K : PySem.W.Frag) (J : It) (ds : List PyData) (H0 : Hp) (r0 : Nms) (σ0 : L2.St) : Prop :=
  ∀ (H : Hp) (O : Addr → Prop) (r : Nms) (σ : L2.St), Fx H0 H → EnvOk K H O r σ → Keep r0 r → (∀ (i : Nat) (c : Ob), r0[i]? = some (.lck c) → σ[i]? = σ0[i]?) →
    ∀ i : Nat, (∀ d, ds[i]? = some d → J.go i H ∧ ∀ x H', J.yld i H x H' → Same H H' ∧ Rp K H' x d) ∧ (ds[i]? = none → J.stop i H)
abbrev DenI := Nms → Option (List PyData × Nms × Option Nat)
def tI (K : PySem.W.Frag) (f : DenI) : TI := fun σ H Q => ∃ O r ds r' u, EnvOk K H O r σ ∧ f r = some (ds, r', u) ∧
  ∀ H' O' J, Stp H O H' O' → EnvOk K H' O' r' σ → Keep r r' → ds.length ≤ sizeLine → (∀ i, u = some i → ∀ c, r[i]? ≠ some (.lck c)) → JOk K J ds H' r' σ → Q J H'
abbrev Ix (X : Cx) (tg iter : Expr) (f : DenI) : Prop := PI X tg iter (tI X.K f)
def unlck (u : Option Nat) (r : Nms) : Nms := match u with
  | none => r
  | some i => match r[i]? with
    | some (.lck c) => r.set i (.own c)
    | _ => r
theorem EnvOk.swap {K : PySem.W.Frag} {H : Hp} {O : Addr → Prop} {r : Nms} {σ : L2.St} {i : Nat} {s s' : Sl} {c : Ob} (E : EnvOk K H O r σ) (h : r[i]? = some s) (hs : s.ob = some c) (hs' : s'.ob = some c) : EnvOk K H O (r.set i s') σ := by
  have hl : i < r.length := (List.getElem?_eq_some_iff.mp h).1
  refine ⟨by rw [List.length_set]; exact E.len, fun j t q => ?_, fun a b s1 t1 c1 e1 p h1 h2 h3 h4 h5 h6 => ?_, E.mt⟩
  · by_cases hj : i = j
    · subst hj
      rw [List.getElem?_set_self hl] at q
      cases q
      obtain ⟨v, e1, z⟩ := E.ok i s h
      refine ⟨v, e1, ?_⟩
      have z' : ∃ p, v = some (.ref p) ∧ ObOk K H p c ∧ O p := by
        cases s with
        | un => cases hs
        | fz d => cases hs
        | own c' => cases hs; exact z
        | lck c' => cases hs; exact z
      cases s' with
      | un => cases hs'
      | fz d => cases hs'
      | own c' => cases hs'; exact z'
      | lck c' => cases hs'; exact z'
    · rw [List.getElem?_set_ne hj] at q
      exact E.ok j t q
  · have back : ∀ (a : Nat) (s1 : Sl) (c1 : Ob), (r.set i s')[a]? = some s1 → s1.ob = some c1 → ∃ s2, r[a]? = some s2 ∧ s2.ob = some c1 := fun a s1 c1 h1 h3 => by
      by_cases ha : i = a
      · subst ha
        rw [List.getElem?_set_self hl] at h1
        cases h1
        rw [hs'] at h3
        cases h3
        exact ⟨s, h, hs⟩
      · rw [List.getElem?_set_ne ha] at h1
        exact ⟨s1, h1, h3⟩
    obtain ⟨s2, q1, q2⟩ := back a s1 c1 h1 h3
    obtain ⟨t2, q3, q4⟩ := back b t1 e1 h2 h4
    exact E.sep a b s2 t2 c1 e1 p q1 q3 q2 q4 h5 h6
theorem EnvOk.unlck {K : PySem.W.Frag} {H : Hp} {O : Addr → Prop} {r : Nms} {σ : L2.St} (E : EnvOk K H O r σ) (u : Option Nat) : EnvOk K H O (unlck u r) σ := by
  cases u with
  | none => exact E
  | some i =>
    show EnvOk K H O (match r[i]? with
      | some (.lck c) => r.set i (.own c)
      | _ => r) σ
    split
    · rename_i c q
      exact E.swap q rfl rfl
    · exact E
theorem Keep.unlck {r r1 : Nms} {u : Option Nat} (k : Keep r r1) (hu : ∀ i, u = some i → ∀ c, r[i]? ≠ some (.lck c)) : Keep r (unlck u r1) := fun j c h => by
  cases u with
  | none => exact k j c h
  | some i =>
    show (match r1[i]? with
      | some (.lck c) => r1.set i (.own c)
      | _ => r1)[j]? = _
    split
    · rw [List.getElem?_set_ne (fun z => hu i rfl c (by rw [z]; exact h))]
      exact k j c h
    · exact k j c h
theorem ROk.unlck {K : PySem.W.Frag} {H : Hp} {O : Addr → Prop} {r : Nms} {σ : L2.St} {v : V} {x : R} (h : ROk K H O r σ v x) (u : Option Nat) : ROk K H O (unlck u r) σ v x := by
  cases x with
  | val d => exact h
  | slot i => exact h
  | tmp c =>
    obtain ⟨p, e, ob, o, hn⟩ := h
    refine ⟨p, e, ob, o, fun j s c' h1 h2 => ?_⟩
    cases u with
    | none => exact hn j s c' h1 h2
    | some i =>
      have h1 : (match r[i]? with
        | some (.lck c) => r.set i (.own c)
        | _ => r)[j]? = some s := h1
      split at h1
      · rename_i c0 q
        by_cases hj : i = j
        · subst hj
          have hl : i < r.length := (List.getElem?_eq_some_iff.mp q).1
          rw [List.getElem?_set_self hl] at h1
          cases h1
          exact hn i _ c0 q rfl
        · rw [List.getElem?_set_ne hj] at h1
          exact hn j s c' h1 h2
      · exact hn j s c' h1 h2
def Out.map (g : Nms → Nms) : Out → Out
  | .nx r => .nx (g r)
  | .rt x r => .rt x (g r)
  | .bk r => .bk (g r)
  | .ct r => .ct (g r)
def loopD (g : DenG) (body : DenS) : List PyData → DenS
  | [], r => some (.nx r)
  | d :: ds, r => (g d r).bind fun r1 => (body r1).bind fun o => match o with
    | .nx r2 => loopD g body ds r2
    | .ct r2 => loopD g body ds r2
    | .bk r2 => some (.nx r2)
    | .rt x r2 => some (.rt x r2)
def dFor (f : DenI) (g : DenG) (body : DenS) : DenS := fun r => (f r).bind fun (ds, r1, u) => (loopD g body ds r1).map (Out.map (unlck u))

section
variable {io : Bool} {is : List Nat} {X : Cx} {tg iter : Expr} {fi : DenI} {g : DenG} {u : DenS} {pos : Pos}
theorem sx_for {body : List Stmt} (hp : PassesOwn (model X.prog X.w) X.A X.env X.xe) (hc : X.calm = true) (hi : Ix X tg iter fi) (hg : Gx io is X tg g) (hb : Bx io X body u)
    (hs : ∀ x, foldedSetIterable iter X.env x = pure x := by intro _; rfl) : Sx io X (.For tg iter body [] pos) (dFor fi g u) := by
  refine ⟨fun pins s σ H D I hw => (ps_for hp hc hi hg hb hs).run pins s σ H D I ?_⟩
  obtain ⟨O, r, o, E, hf, k⟩ := hw
  unfold dFor at hf
  obtain ⟨⟨ds, r1, un⟩, q1, hf⟩ := Option.bind_eq_some_iff.mp hf
  obtain ⟨ob, q2, e⟩ := Option.map_eq_some_iff.mp hf
  subst e
  refine ⟨O, r, ds, r1, un, E, q1, fun H1 O1 J st1 E1 kp1 hlen hun jok => ?_⟩
  refine ⟨fun i m σi Hi => m = ds.length - i ∧ i ≤ ds.length ∧ ∃ Oi ri, Stp H1 O1 Hi Oi ∧ EnvOk X.K Hi Oi ri σi ∧ KeepS io r1 σ ri σi ∧ loopD g u (ds.drop i) ri = some ob, ⟨ds.length, by simp, Nat.zero_le _, O1, r1, Stp.refl _ _, E1, KeepS.refl _ _ _, q2⟩, ?_⟩
  rintro i m σi Hi ⟨rfl, hi, Oi, ri, sti, Ei, ki, hl⟩
  -- the way out by the loop's end
  have out : ∀ {Hj : Hp} {Oj : Addr → Prop} {rj : Nms} {σj : L2.St}, Stp H1 O1 Hj Oj → EnvOk X.K Hj Oj rj σj → KeepS io r1 σ rj σj → ob = .nx rj → D.nx σj Hj := fun {Hj Oj rj σj} a b c e => by
    subst e
    exact k Hj Oj σj (st1.trans a) (b.unlck un) ⟨(kp1.trans c.lk).unlck hun, fun j c' h => c.lks j c' (kp1 j c' h), c.first⟩
  have jk := jok Hi Oi ri σi (E1.fxOf sti) Ei ki.lk ki.lks i
  cases hd : ds[i]? with
  | none =>
    refine .inl ⟨jk.2 hd, ?_⟩
    rw [List.drop_eq_nil_of_le (List.getElem?_eq_none_iff.mp hd)] at hl
    cases hl
    exact out sti Ei ki rfl
  | some d =>
    obtain ⟨go, yl⟩ := jk.1 d hd
    have hlt : i < ds.length := (List.getElem?_eq_some_iff.mp hd).1
    have hdr : ds.drop i = d :: ds.drop (i + 1) := by
      rw [List.drop_eq_getElem_cons hlt]
      have : ds[i] = d := by rw [List.getElem?_eq_getElem hlt] at hd; exact Option.some.inj hd
      rw [this]
    rw [hdr] at hl
    unfold loopD at hl
    obtain ⟨r2, q3, hl⟩ := Option.bind_eq_some_iff.mp hl
    obtain ⟨o2, q4, hl⟩ := Option.bind_eq_some_iff.mp hl
    refine .inr ⟨go, fun σ' H' => ∃ O' r', Stp H1 O1 H' O' ∧ EnvOk X.K H' O' r' σ' ∧ KeepS io r1 σ r' σ' ∧ loopD g u (ds.drop (i + 1)) r' = some ob, fun σ' H' ⟨O', r', a, b, c, e⟩ => ⟨ds.length - (i + 1), by omega, rfl, hlt, O', r', a, b, c, e⟩, fun x H' y => ?_⟩
    obtain ⟨sm, rp⟩ := yl x H' y
    have st' : Stp H1 O1 H' Oi := sti.trans (Stp.of_same sm)
    refine ⟨Oi, ri, d, r2, Ei.same sm, rp, q3, fun σ2 E2 k2 _ => ⟨Oi, r2, o2, E2, q4, ?_⟩⟩
    have k12 : KeepS io r1 σ r2 σ2 := ki.trans k2
    cases o2 with
    | nx r3 => exact fun H3 O3 σ3 a b c => ⟨O3, r3, st'.trans a, b, k12.trans c, hl⟩
    | ct r3 => exact fun H3 O3 σ3 a b c => ⟨O3, r3, st'.trans a, b, k12.trans c, hl⟩
    | bk r3 => exact fun H3 O3 σ3 a b c => out (st'.trans a) b (k12.trans c) (Option.some.inj hl).symm
    | rt x r3 =>
      have e := (Option.some.inj hl).symm
      subst e
      exact fun H3 O3 σ3 v a b c ro => k H3 O3 σ3 v (st1.trans (st'.trans a)) (b.unlck un) (by
        have kk := k12.trans c
        exact ⟨(kp1.trans kk.lk).unlck hun, fun j c' h => kk.lks j c' (kp1 j c' h), kk.first⟩) (ro.unlck un)

/-! ### comprehensions -/
def wipeE : List Nat → Nms → Nms
  | [], r => r
  | v :: vs, r => (wipeE vs r).set v .un
def restE : List Nat → Nms → Nms → Nms
  | [], _, r => r
  | v :: vs, r0, r => (restE vs r0 r).set v (r0.getD v .un)
def noOb (vs : List Nat) (r : Nms) : Bool := vs.all fun v => ((r.getD v .un).ob).isNone
def compD (vs : List Nat) (g : DenG) (t : DenT) (f : Den) : List PyData → Nms → Option (List PyData × Nms)
  | [], r => some ([], r)
  | d :: ds, r => (g d r).bind fun r1 => (t r1).bind fun (c, r2) => if c = true then ((dFrz f r2).bind vOf).bind fun (x, r3) => (compD vs g t f ds (wipeE vs r3)).map fun (xs, r4) => (x :: xs, r4) else compD vs g t f ds (wipeE vs r2)
def dLc (vs : List Nat) (fi : DenI) (g : DenG) (t : DenT) (f : Den) : Den := fun r => (fi r).bind fun (ds, r1, u) => if noOb vs r1 = true then (compD vs g t f ds (wipeE vs r1)).map fun (xs, r2) => (.tmp (.lst xs), unlck u (restE vs r1 r2)) else none

theorem wipeE_length (r : Nms) : ∀ vs : List Nat, (wipeE vs r).length = r.length
  | [] => rfl
  | v :: vs => by unfold wipeE; rw [List.length_set, wipeE_length r vs]
theorem wipeE_ne {r : Nms} {j : Nat} : ∀ {vs : List Nat}, j ∉ vs → (wipeE vs r)[j]? = r[j]?
  | [], _ => rfl
  | v :: vs, h => by
    unfold wipeE
    simp only [List.mem_cons, not_or] at h
    rw [List.getElem?_set_ne (Ne.symm h.1)]
    exact wipeE_ne h.2
theorem wipeE_mem {r : Nms} {j : Nat} : ∀ {vs : List Nat}, j ∈ vs → j < r.length → (wipeE vs r)[j]? = some .un
  | v :: vs, h, hl => by
    unfold wipeE
    by_cases hv : v = j
    · subst hv
      rw [List.getElem?_set_self (by rw [wipeE_length]; exact hl)]
    · rw [List.getElem?_set_ne hv]
      rcases List.mem_cons.mp h with e | h
      · exact absurd e.symm hv
      · exact wipeE_mem h hl
theorem wipe_ne {σ : L2.St} {j : Nat} : ∀ {vs : List Nat}, j ∉ vs → (wipe σ vs)[j]? = σ[j]?
  | [], _ => rfl
  | v :: vs, h => by
    unfold wipe
    simp only [List.mem_cons, not_or] at h
    rw [List.getElem?_set_ne (Ne.symm h.1)]
    exact wipe_ne h.2
theorem wipe_mem {σ : L2.St} {j : Nat} : ∀ {vs : List Nat}, j ∈ vs → j < σ.length → (wipe σ vs)[j]? = some none
  | v :: vs, h, hl => by
    unfold wipe
    by_cases hv : v = j
    · subst hv
      rw [List.getElem?_set_self (by rw [wipe_length]; exact hl)]
    · rw [List.getElem?_set_ne hv]
      rcases List.mem_cons.mp h with e | h
      · exact absurd e.symm hv
      · exact wipe_mem h hl
theorem restE_length (r0 r : Nms) : ∀ vs : List Nat, (restE vs r0 r).length = r.length
  | [] => rfl
  | v :: vs => by unfold restE; rw [List.length_set, restE_length r0 r vs]
theorem restE_ne {r0 r : Nms} {j : Nat} : ∀ {vs : List Nat}, j ∉ vs → (restE vs r0 r)[j]? = r[j]?
  | [], _ => rfl
  | v :: vs, h => by
    unfold restE
    simp only [List.mem_cons, not_or] at h
    rw [List.getElem?_set_ne (Ne.symm h.1)]
    exact restE_ne h.2
theorem restE_mem {r0 r : Nms} {j : Nat} : ∀ {vs : List Nat}, j ∈ vs → j < r.length → (restE vs r0 r)[j]? = some (r0.getD j .un)
  | v :: vs, h, hl => by
    unfold restE
    by_cases hv : v = j
    · subst hv
      rw [List.getElem?_set_self (by rw [restE_length]; exact hl)]
    · rw [List.getElem?_set_ne hv]
      rcases List.mem_cons.mp h with e | h
      · exact absurd e.symm hv
      · exact restE_mem h hl
theorem wipe_but {σ σ' : L2.St} {is vs : List Nat} (hs : ∀ i ∈ is, i ∈ vs) (b : But is σ σ') : wipe σ' vs = wipe σ vs := by
  refine List.ext_getElem? fun j => ?_
  by_cases hj : j ∈ vs
  · by_cases hb : j < σ.length
    · rw [wipe_mem hj hb, wipe_mem hj (by rw [b.len]; exact hb)]
    · rw [List.getElem?_eq_none (by rw [wipe_length, b.len]; omega), List.getElem?_eq_none (by rw [wipe_length]; omega)]
  · rw [wipe_ne hj, wipe_ne hj]
    exact b.eq j fun z => hj (hs j z)
theorem wipe_wipe {σ : L2.St} {vs : List Nat} : wipe (wipe σ vs) vs = wipe σ vs := by
  refine List.ext_getElem? fun j => ?_
  by_cases hj : j ∈ vs
  · by_cases hb : j < σ.length
    · rw [wipe_mem hj hb, wipe_mem hj (by rw [wipe_length]; exact hb)]
    · rw [List.getElem?_eq_none (by rw [wipe_length, wipe_length]; omega), List.getElem?_eq_none (by rw [wipe_length]; omega)]
  · rw [wipe_ne hj]
/-- names forgotten -/
theorem EnvOk.wipes {K : PySem.W.Frag} {H : Hp} {O : Addr → Prop} {r : Nms} {σ σ' : L2.St} {vs : List Nat} (E : EnvOk K H O r σ) (hl : σ'.length = σ.length) (h : ∀ j, j ∉ vs → σ'[j]? = σ[j]?) : EnvOk K H O (wipeE vs r) σ' := by
  have back : ∀ (i : Nat) (s : Sl), (wipeE vs r)[i]? = some s → (i ∉ vs ∧ r[i]? = some s) ∨ s = .un := fun i s q => by
    by_cases hi : i ∈ vs
    · have hb : i < r.length := by
        have := (List.getElem?_eq_some_iff.mp q).1
        rwa [wipeE_length] at this
      rw [wipeE_mem hi hb] at q
      cases q
      exact .inr rfl
    · rw [wipeE_ne hi] at q
      exact .inl ⟨hi, q⟩
  refine ⟨by rw [wipeE_length, hl]; exact E.len, fun i s q => ?_, fun a b s t c e p h1 h2 h3 h4 h5 h6 => ?_, E.mt⟩
  · rcases back i s q with ⟨hi, q'⟩ | rfl
    · rw [h i hi]
      exact E.ok i s q'
    · have hb : i < σ'.length := by
        have := (List.getElem?_eq_some_iff.mp q).1
        rw [wipeE_length, E.len, ← hl] at this
        exact this
      exact ⟨_, List.getElem?_eq_getElem hb, trivial⟩
  · rcases back a s h1 with ⟨ha, q1⟩ | rfl
    · rcases back b t h2 with ⟨hb, q2⟩ | rfl
      · rw [h a ha] at h5
        rw [h b hb] at h6
        exact E.sep a b s t c e p q1 q2 h3 h4 h5 h6
      · cases h4
    · cases h3
/-- the forgotten names are there again -/
theorem EnvOk.rest {K : PySem.W.Frag} {H0 H : Hp} {O0 O : Addr → Prop} {r0 r : Nms} {σ0 σ : L2.St} {vs : List Nat} (E0 : EnvOk K H0 O0 r0 σ0) (fx : Fx H0 H) (no : noOb vs r0 = true) (E : EnvOk K H O r σ) (hl : σ.length = σ0.length) (h : ∀ j, j ∉ vs → σ[j]? = σ0[j]?) : EnvOk K H O (restE vs r0 r) σ0 := by
  have back : ∀ (i : Nat) (s : Sl), (restE vs r0 r)[i]? = some s → (i ∉ vs ∧ r[i]? = some s) ∨ (i ∈ vs ∧ r0[i]? = some s ∧ s.ob = none) := fun i s q => by
    by_cases hi : i ∈ vs
    · have hb : i < r.length := by
        have := (List.getElem?_eq_some_iff.mp q).1
        rwa [restE_length] at this
      rw [restE_mem hi hb] at q
      have hb0 : i < r0.length := by rw [E0.len, ← hl, ← E.len]; exact hb
      have e : r0.getD i .un = r0[i] := by rw [List.getD_eq_getElem?_getD, List.getElem?_eq_getElem hb0]; rfl
      have n := List.all_eq_true.mp no i hi
      rw [e] at n q
      cases q
      exact .inr ⟨hi, List.getElem?_eq_getElem hb0, by simpa using n⟩
    · rw [restE_ne hi] at q
      exact .inl ⟨hi, q⟩
  refine ⟨by rw [restE_length, E.len, hl], fun i s q => ?_, fun a b s t c e p h1 h2 h3 h4 h5 h6 => ?_, E.mt⟩
  · rcases back i s q with ⟨hi, q'⟩ | ⟨hi, q', n⟩
    · obtain ⟨v, e1, z⟩ := E.ok i s q'
      rw [h i hi] at e1
      exact ⟨v, e1, z⟩
    · obtain ⟨v, e1, z⟩ := E0.ok i s q'
      refine ⟨v, e1, ?_⟩
      cases s with
      | un => trivial
      | fz d => obtain ⟨x, e2, rp⟩ := z; exact ⟨x, e2, rp.fx fx⟩
      | own c => cases n
      | lck c => cases n
  · rcases back a s h1 with ⟨ha, q1⟩ | ⟨_, _, n⟩
    · rcases back b t h2 with ⟨hb, q2⟩ | ⟨_, _, n⟩
      · rw [← h a ha] at h5
        rw [← h b hb] at h6
        exact E.sep a b s t c e p q1 q2 h3 h4 h5 h6
      · rw [h4] at n; cases n
    · rw [h3] at n; cases n
theorem Keep.wipes {r r1 : Nms} {vs : List Nat} (k : Keep r r1) (no : noOb vs r = true) : Keep r (wipeE vs r1) := fun i c h => by
  by_cases hi : i ∈ vs
  · have n := List.all_eq_true.mp no i hi
    rw [List.getD_eq_getElem?_getD, h] at n
    cases n
  · rw [wipeE_ne hi]; exact k i c h
theorem Keep.rests {r r1 : Nms} {vs : List Nat} (k : Keep r r1) (no : noOb vs r = true) : Keep r (restE vs r r1) := fun i c h => by
  by_cases hi : i ∈ vs
  · have n := List.all_eq_true.mp no i hi
    rw [List.getD_eq_getElem?_getD, h] at n
    cases n
  · rw [restE_ne hi]; exact k i c h
theorem noOb_lock {r : Nms} {vs : List Nat} (no : noOb vs r = true) {i : Nat} {c : Ob} (h : r[i]? = some (.lck c)) : i ∉ vs := fun hi => by
  have n := List.all_eq_true.mp no i hi
  rw [List.getD_eq_getElem?_getD, h] at n
  cases n
theorem noOb_all {r : Nms} {vs : List Nat} (h : ∀ j ∈ vs, ((r[j]?.getD .un).ob) = none) : noOb vs r = true := by
  refine List.all_eq_true.mpr fun v hv => ?_
  rw [List.getD_eq_getElem?_getD, h v hv] <;> rfl

theorem noOb_wipe (r : Nms) (vs : List Nat) : noOb vs (wipeE vs r) = true := noOb_all fun v hv => by
  by_cases hb : v < r.length
  · rw [wipeE_mem hv hb] <;> rfl
  · rw [List.getElem?_eq_none (by rw [wipeE_length]; omega)] <;> rfl
theorem EnvOk.off {K : PySem.W.Frag} {H : Hp} {O : Addr → Prop} {r : Nms} {σ : L2.St} {D : Addr} {xs ys : List V} (E : EnvOk K H O r σ) (hD : H D = some (.lst xs)) (nD : ¬ O D) : Fx H (upd H D (.lst ys)) ∧ EnvOk K (upd H D (.lst ys)) O r σ := by
  have fx : Fx H (upd H D (.lst ys)) := by
    refine ⟨fun b o w e => ?_, fun b zs e => ?_⟩
    · rw [upd_ne (fun z => by rw [z, hD] at e; cases e)]; exact e
    · rw [upd_ne (fun z => by rw [z, hD] at e; cases e)]; exact e
  have e : ∀ p, O p → upd H D (.lst ys) p = H p := fun p o => upd_ne (fun z => nD (by rw [← z]; exact o))
  exact ⟨fx, E.len, fun i s q => let ⟨v, e1, z⟩ := E.ok i s q; ⟨v, e1, z.same fx e⟩, E.sep, fun p o => by rw [e p o]; exact E.mt p o⟩
/-- [elt for target in iter if ..] -/
theorem lc_read {vs : List Nat} {t : DenT} {f : Den} {σ : L2.St} {H : Hp} {Q : VK} (his : ∀ i ∈ is, i ∈ vs) (hw : tX X.K (dLc vs fi g t f) σ H Q) : tLc (tI X.K fi) (tG X.K false is g) (tT X.K t) (tX X.K (dFrz f)) vs σ H Q := by
  obtain ⟨O, r, z, r', E, hf, k⟩ := hw
  unfold dLc at hf
  obtain ⟨⟨ds, r1, un⟩, q1, hf⟩ := Option.bind_eq_some_iff.mp hf
  dsimp only at hf
  by_cases hno : noOb vs r1 = true
  · rw [if_pos hno] at hf
    obtain ⟨⟨xs, r2⟩, q2, e⟩ := Option.map_eq_some_iff.mp hf
    cases e
    refine ⟨O, r, ds, r1, un, E, q1, fun H1 O1 J st1 E1 kp1 hlen hun jok D hD => ?_⟩
    -- the new list comes to what stands
    have sm0 : Same H1 (upd H1 D (.lst [])) := same_upd hD
    have E1w : EnvOk X.K (upd H1 D (.lst [])) O1 (wipeE vs r1) (wipe σ vs) := (E1.same sm0).wipes (wipe_length _ _) fun j hj => wipe_ne hj
    have nD : ¬ O1 D := fun z => by have := E1.mt D z; rw [hD] at this; exact this
    refine ⟨fun i m Hi => m = ds.length - i ∧ i ≤ ds.length ∧ ∃ Oi ri acc ys vys, Stp H1 O1 Hi Oi ∧ ¬ Oi D ∧ EnvOk X.K Hi Oi ri (wipe σ vs) ∧ Keep (wipeE vs r1) ri ∧ Hi D = some (.lst vys) ∧ RpAll X.K Hi vys ys ∧ vys.length ≤ i ∧ compD vs g t f (ds.drop i) ri = some (acc, r2) ∧ ys ++ acc = xs, ⟨ds.length, by simp, Nat.zero_le _, O1, wipeE vs r1, xs, [], [], Stp.of_same sm0, nD, E1w, Keep.refl _, upd_same, .nil, Nat.le_refl _, q2, rfl⟩, ?_⟩
    rintro i m Hi ⟨rfl, hi, Oi, ri, acc, ys, vys, sti, nDi, Ei, ki, hDi, rpi, lei, hcd, hxs⟩
    have kr1 : Keep r1 ri := ((Keep.refl r1).wipes hno).trans ki
    have jk := jok Hi Oi ri (wipe σ vs) (E1.fxOf sti) Ei kr1 (fun j c h => wipe_ne (noOb_lock hno h)) i
    cases hd : ds[i]? with
    | none =>
      refine .inl ⟨jk.2 hd, ?_⟩
      rw [List.drop_eq_nil_of_le (List.getElem?_eq_none_iff.mp hd)] at hcd
      obtain ⟨e1, e2⟩ := Prod.mk.inj (Option.some.inj hcd)
      subst e1
      subst e2
      rw [List.append_nil] at hxs
      subst hxs
      have Er : EnvOk X.K Hi Oi (unlck un (restE vs r1 ri)) σ := (E1.rest (E1.fxOf sti) hno Ei (wipe_length _ _) fun j hj => wipe_ne hj).unlck un
      have mD : Mut (Hi D) := by rw [hDi]; trivial
      refine k Hi (fun b => Oi b ∨ b = D) (.ref D) (st1.trans ⟨sti.keep, fun b z => ?_⟩) (Er.add (Same.refl _) mD) ((kp1.trans (kr1.rests hno)).unlck hun) ⟨D, rfl, ⟨vys, hDi, rpi⟩, .inr rfl, fun j s e h1 h2 h3 => ?_⟩
      · rcases z with z | rfl
        · exact sti.own b z
        · exact .inr hD
      · obtain ⟨v, e1, z⟩ := Er.ok j s h1
        rw [h3] at e1; cases e1
        cases s with
        | un => cases h2
        | fz d => cases h2
        | own c => obtain ⟨p, e2, _, o⟩ := z; cases e2; exact nDi o
        | lck c => obtain ⟨p, e2, _, o⟩ := z; cases e2; exact nDi o
    | some d =>
      obtain ⟨go, yl⟩ := jk.1 d hd
      have hlt : i < ds.length := (List.getElem?_eq_some_iff.mp hd).1
      have hdr : ds.drop i = d :: ds.drop (i + 1) := by
        rw [List.drop_eq_getElem_cons hlt]
        have : ds[i] = d := by rw [List.getElem?_eq_getElem hlt] at hd; exact Option.some.inj hd
        rw [this]
      rw [hdr] at hcd
      unfold compD at hcd
      obtain ⟨rg, q3, hcd⟩ := Option.bind_eq_some_iff.mp hcd
      obtain ⟨⟨c, rt⟩, q4, hcd⟩ := Option.bind_eq_some_iff.mp hcd
      dsimp only at hcd
      refine .inr ⟨go, fun H' => ∃ Oj rj acc ys vys, Stp H1 O1 H' Oj ∧ ¬ Oj D ∧ EnvOk X.K H' Oj rj (wipe σ vs) ∧ Keep (wipeE vs r1) rj ∧ H' D = some (.lst vys) ∧ RpAll X.K H' vys ys ∧ vys.length ≤ i + 1 ∧ compD vs g t f (ds.drop (i + 1)) rj = some (acc, r2) ∧ ys ++ acc = xs, fun H' ⟨Oj, rj, acc', ys', vys', a⟩ => ⟨ds.length - (i + 1), by omega, rfl, hlt, Oj, rj, acc', ys', vys', a⟩, fun x H' y => ?_⟩
      obtain ⟨sm, rp⟩ := yl x H' y
      have hD' : H' D = some (.lst vys) := sm _ _ hDi
      have st' : Stp H1 O1 H' Oi := sti.trans (Stp.of_same sm)
      refine ⟨Oi, ri, d, rg, Ei.same sm, rp, q3, fun σ2 E2 k2 b2 => ⟨(wipe_but his b2).trans wipe_wipe, Oi, rg, c, rt, E2, q4, fun H3 O3 st3 E3 kp3 => ?_⟩⟩
      have hD3 : H3 D = some (.lst vys) := st3.keep D _ hD' nDi
      have nD3 : ¬ O3 D := fun z => (st3.own D z).elim nDi fun q => by rw [hD'] at q; cases q
      have hσ : ∀ j, j ∉ vs → (wipe σ vs)[j]? = σ2[j]? := fun j hj => (b2.eq j fun z => hj (his j z)).symm
      cases c with
      | false =>
        simp only [Bool.false_eq_true, if_false] at hcd ⊢
        refine ⟨O3, wipeE vs rt, acc, ys, vys, st'.trans st3, nD3, E3.wipes b2.len.symm hσ, ?_, hD3, rpi.fx ((Fx.of_same sm).trans ((Ei.same sm).fxOf st3)), by omega, hcd, hxs⟩
        exact (ki.trans (k2.lk.trans kp3)).wipes (noOb_wipe _ _)
      | true =>
        simp only [if_true] at hcd ⊢
        obtain ⟨⟨xv, r4⟩, q5, hcd⟩ := Option.bind_eq_some_iff.mp hcd
        obtain ⟨w, q6, q7⟩ := Option.bind_eq_some_iff.mp q5
        have := vOf_some q7
        subst this
        obtain ⟨⟨xs', r5⟩, q8, e8⟩ := Option.map_eq_some_iff.mp hcd
        cases e8
        refine ⟨O3, rt, .val xv, r4, E3, q6, fun H4 O4 v st4 E4 kp4 ro4 => ?_⟩
        have hD4 : H4 D = some (.lst vys) := st4.keep D _ hD3 nD3
        have nD4 : ¬ O4 D := fun z => (st4.own D z).elim nD3 fun q => by rw [hD3] at q; cases q
        obtain ⟨fx, E5⟩ := E4.off (ys := vys ++ [v]) hD4 nD4
        have fx4 : Fx Hi (upd H4 D (.lst (vys ++ [v]))) := (Fx.of_same sm).trans (((Ei.same sm).fxOf st3).trans ((E3.fxOf st4).trans fx))
        have st5 : Stp H1 O1 H4 O4 := st'.trans (st3.trans st4)
        refine ⟨vys, hD4, by omega, O4, wipeE vs r4, xs', ys ++ [xv], vys ++ [v], ⟨fun b o e n => ?_, st5.own⟩, nD4, E5.wipes b2.len.symm hσ, ?_, upd_same, (rpi.fx fx4).append (.cons (Rp.fx fx ro4) .nil), by simp; omega, q8, by rw [List.append_assoc]; exact hxs⟩
        · rw [upd_ne (fun z => by rw [z, hD] at e; cases e)]
          exact st5.keep b o e n
        · exact (ki.trans (k2.lk.trans (kp3.trans kp4))).wipes (noOb_wipe _ _)
  · rw [if_neg hno] at hf; cases hf
theorem ex_lc {elt : Expr} {ifs : List Expr} {scope : Scope} {own : List (Str × Nat)} {t : DenT} {f : Den} (hc : X.calm = true) (hN : X.N.Nodup) (hi : Ix X tg iter fi) (ok : BlkOk X.N X.env.scope scope own) (his : ∀ i ∈ is, i ∈ own.map (·.2))
    (hg : ∀ (s : Shared) (H : Hp) (C : Addr) (cl : List (Str × Addr)) (fp : List Addr), Gx false is (X.blk s H scope (compEnvC scope cl C X.env) fp) tg g) (ht : ∀ (s : Shared) (H : Hp) (C : Addr) (cl : List (Str × Addr)) (fp : List Addr), PTs (X.blk s H scope (compEnvC scope cl C X.env) fp) ifs (tT X.K t))
    (he : ∀ (s : Shared) (H : Hp) (C : Addr) (cl : List (Str × Addr)) (fp : List Addr), Ex (X.blk s H scope (compEnvC scope cl C X.env) fp) elt f) (hs : ∀ x, foldedSetIterable iter X.env x = pure x := by intro _; rfl) :
    Ex X (.ListComp elt [⟨tg, iter, ifs, 0⟩] scope pos) (dLc (own.map (·.2)) fi g t f) :=
  ⟨fun pins s σ H Q I hw => (pe_lc hc hN hi ok hg ht (fun s H C cl fp => ex_frz (he s H C cl fp)) hs).run pins s σ H Q I (lc_read his hw)⟩
/-- name = [..] on one line, the name a local -/
theorem sx_setLc {i : Nat} {y : Str} {py spos : Pos} {elt : Expr} {ifs : List Expr} {scope : Scope} {own : List (Str × Nat)} {t : DenT} {f : Den} (hc : X.calm = true) (hN : X.N.Nodup) (hy : X.N[i]? = some y) (hyl : X.env.scope.names.lookup y = some .local)
    (hsw : swapsWith (.ListComp elt [⟨tg, iter, ifs, 0⟩] scope pos) (some (.Name y py)) spos.line X.env = pure true) (hi : Ix X tg iter fi) (ok : BlkOk X.N X.env.scope scope own) (his : ∀ i ∈ is, i ∈ own.map (·.2))
    (hg : ∀ (s : Shared) (H : Hp) (C : Addr) (cl : List (Str × Addr)) (fp : List Addr), Gx false is (X.blk s H scope (compEnvC scope cl C X.env) fp) tg g) (ht : ∀ (s : Shared) (H : Hp) (C : Addr) (cl : List (Str × Addr)) (fp : List Addr), PTs (X.blk s H scope (compEnvC scope cl C X.env) fp) ifs (tT X.K t))
    (he : ∀ (s : Shared) (H : Hp) (C : Addr) (cl : List (Str × Addr)) (fp : List Addr), Ex (X.blk s H scope (compEnvC scope cl C X.env) fp) elt f) (h0 : io = true → i ≠ 0 := by decide) (hs : ∀ x, foldedSetIterable iter X.env x = pure x := by intro _; rfl) :
    Sx io X (.Assign [.Name y py] (.ListComp elt [⟨tg, iter, ifs, 0⟩] scope pos) spos) (dSet i (dLc (own.map (·.2)) fi g t f)) := by
  refine ⟨fun pins s σ H D I hw => (ps_setLc (wi := tI X.K fi) (g := tG X.K false is g) (tt := tT X.K t) (te := tX X.K (dFrz f)) hc hN hy hyl hsw hi ok hg ht (fun s H C cl fp => ex_frz (he s H C cl fp)) hs).run pins s σ H D I ?_⟩
  exact lc_read his (set_read h0 hw)
def tYesD : DenT := fun r => some (true, r)
theorem pts0 : PTs X [] (tT X.K tYesD) := by
  refine ⟨fun pins s σ H Q I hw => pts_nil.run pins s σ H Q I ?_⟩
  obtain ⟨O, r, x, r', E, hf, k⟩ := hw
  cases hf
  exact k H O (Stp.refl _ _) E (Keep.refl _)

/-! ### sources -/
def seqOf : PyData → Option (List PyData)
  | .list ds => some ds
  | .tuple ds => some ds
  | _ => none
/-- a list or a tuple: a name's own list is locked meanwhile -/
def iSeq (f : Den) : DenI := fun r => (dStl f r).bind fun y => match y with
  | (.val d, r1) => (seqOf d).map fun ds => (ds, r1, none)
  | (.slot i, r1) => match r1[i]? with
    | some (.own (.lst ds)) => some (ds, r1.set i (.lck (.lst ds)), some i)
    | some (.lck (.lst ds)) => some (ds, r1, none)
    | some (.fz d) => (seqOf d).map fun ds => (ds, r1, none)
    | _ => none
  | (.tmp _, _) => none
theorem jok_list' {K : PySem.W.Frag} {a : Addr} {vs : List V} {ds : List PyData} {H0 : Hp} {r0 : Nms} {σ0 : L2.St} (h : FzL K H0 a vs) (ra : RpAll K H0 vs ds) : JOk K (Itl K a) ds H0 r0 σ0 := by
  intro H O r σ fx E kp lk i
  have h' := h.fx fx
  have ra' := ra.fx fx
  refine ⟨fun d hd => ?_, fun hd => ⟨vs, h'.sq, by rw [ra.length]; exact List.getElem?_eq_none_iff.mp hd⟩⟩
  obtain ⟨v, hv, rp⟩ := ra'.get' hd
  refine ⟨⟨vs, v, h'.sq, hv⟩, fun x H' y => ?_⟩
  obtain ⟨e, y⟩ := y
  subst e
  have := y vs h'.sq
  rw [hv] at this
  cases this
  exact ⟨Same.refl _, rp⟩
theorem jok_tup {K : PySem.W.Frag} {a : Addr} {vs : List V} {ds : List PyData} {H0 : Hp} {r0 : Nms} {σ0 : L2.St} (h : SqT K H0 a vs) (ra : RpAll K H0 vs ds) : JOk K (Itt K a) ds H0 r0 σ0 := by
  intro H O r σ fx E kp lk i
  have h' := SqT.fx fx h
  have ra' := ra.fx fx
  refine ⟨fun d hd => ?_, fun hd => ⟨vs, h', by rw [ra.length]; exact List.getElem?_eq_none_iff.mp hd⟩⟩
  obtain ⟨v, hv, rp⟩ := ra'.get' hd
  refine ⟨⟨vs, v, h', hv⟩, fun x H' y => ?_⟩
  obtain ⟨e, y⟩ := y
  subst e
  have := y vs h'
  rw [hv] at this
  cases this
  exact ⟨Same.refl _, rp⟩
/-- a locked name's list -/
theorem jok_lck {K : PySem.W.Frag} {a : Addr} {ds : List PyData} {H0 : Hp} {r0 : Nms} {σ0 : L2.St} {n : Nat} (h : r0[n]? = some (.lck (.lst ds))) (hσ : σ0[n]? = some (some (.ref a))) : JOk K (Itl K a) ds H0 r0 σ0 := by
  intro H O r σ fx E kp lk i
  obtain ⟨v, e1, p, e2, ⟨vs, hp, ra⟩, op⟩ := E.ok n _ (kp n _ h)
  rw [lk n _ h, hσ] at e1
  cases e1; cases e2
  refine ⟨fun d hd => ?_, fun hd => ⟨vs, SqL.of hp, by rw [ra.length]; exact List.getElem?_eq_none_iff.mp hd⟩⟩
  obtain ⟨v, hv, rp⟩ := ra.get' hd
  refine ⟨⟨vs, v, SqL.of hp, hv⟩, fun x H' y => ?_⟩
  obtain ⟨e, y⟩ := y
  subst e
  have := y vs (SqL.of hp)
  rw [hv] at this
  cases this
  exact ⟨Same.refl _, rp⟩
/-- the walk over a list or a tuple, whatever it is -/
def iLT (K : PySem.W.Frag) (tl : TE) : TI := fun σ H R => tl σ H fun x H1 => ∃ a, x = .ref a ∧ ((∃ xs, SqL K H1 a xs ∧ (xs.length ≤ sizeLine → R (Itl K a) H1)) ∨ (∃ xs, SqT K H1 a xs ∧ (xs.length ≤ sizeLine → R (Itt K a) H1)))
theorem pi_lt {l : Expr} {tl : TE} (hl : PE X l tl) : PI X tg l (iLT X.K tl) := by
  refine ⟨fun pins s σ H R I h => ?_⟩
  refine thn (hl.run pins s σ H _ I h) fun v s1 ⟨x, H1, I1, r1, q1⟩ => ?_
  obtain ⟨a, e, q⟩ := q1
  subst e
  cases r1
  rcases q with ⟨xs, hq, q⟩ | ⟨xs, hq, q⟩
  · obtain ⟨its, rv, p, hz⟩ := I1.list hq
    refine wpAny_pyIter_list p.isList ?_
    refine ⟨s1.heap.objs.size, [s1.heap.objs.size], _, _, H1, rfl, I1.kept (t' := s1.toks) fun b o e => Heap.get?_push_of_some _ e, turn_list a _, ⟨_, Heap.get?_push_size _ rfl, rfl, rfl⟩, fun b hb => ?_, q hz⟩
    have e : b = s1.heap.objs.size := by simpa using hb
    subst e
    exact I1.fpOk (Nat.le_refl _) (I1.hok.fresh (Nat.le_refl _))
  · obtain ⟨its, rv, p, hz⟩ := I1.tuple hq
    refine wpAny_pyIter_tuple (show s1.heap.IsTuple a its.toArray from p) ?_
    refine ⟨s1.heap.objs.size, [s1.heap.objs.size], _, _, H1, rfl, I1.kept (t' := s1.toks) fun b o e => Heap.get?_push_of_some _ e, turn_tuple a _, ⟨_, Heap.get?_push_size _ rfl, rfl, rfl⟩, fun b hb => ?_, q hz⟩
    have e : b = s1.heap.objs.size := by simpa using hb
    subst e
    exact I1.fpOk (Nat.le_refl _) (I1.hok.fresh (Nat.le_refl _))
theorem seq_jok {K : PySem.W.Frag} {H : Hp} {r : Nms} {σ : L2.St} {v : V} {d : PyData} {ds : List PyData} {Q : It → Hp → Prop} (rp : Rp K H v d) (hd : seqOf d = some ds) (k : ∀ J, ds.length ≤ sizeLine → JOk K J ds H r σ → Q J H) :
    ∃ a, v = .ref a ∧ ((∃ xs, SqL K H a xs ∧ (xs.length ≤ sizeLine → Q (Itl K a) H)) ∨ (∃ xs, SqT K H a xs ∧ (xs.length ≤ sizeLine → Q (Itt K a) H))) := by
  cases rp with
  | non => cases hd
  | bl b => cases hd
  | int i => cases hd
  | str x => cases hd
  | @lst a vs _ h1 h2 =>
    cases hd
    exact ⟨a, rfl, .inl ⟨vs, h1.sq, fun hz => k _ (by rw [← h2.length]; exact hz) (jok_list' h1 h2)⟩⟩
  | @tup a vs _ h1 h2 =>
    cases hd
    exact ⟨a, rfl, .inr ⟨vs, h1, fun hz => k _ (by rw [← h2.length]; exact hz) (jok_tup h1 h2)⟩⟩
theorem ix_seq {e : Expr} {f : Den} (he : Ex X e f) : Ix X tg e (iSeq f) := by
  refine ⟨fun pins s σ H Q I hw => (pi_lt (ex_stl he)).run pins s σ H Q I ?_⟩
  obtain ⟨O, r, ds, r', u, E, hf, k⟩ := hw
  unfold iSeq at hf
  obtain ⟨⟨y, r1⟩, q1, hf⟩ := Option.bind_eq_some_iff.mp hf
  cases y with
  | tmp c => cases hf
  | val d =>
    obtain ⟨ds', q2, e⟩ := Option.map_eq_some_iff.mp hf
    cases e
    exact ⟨O, r, .val d, r', E, q1, fun H1 O1 v st1 E1 kp1 ro1 => seq_jok ro1 q2 fun J hz jk => k H1 O1 J st1 E1 kp1 hz (fun _ z => nomatch z) jk⟩
  | slot i =>
    have hf : (match r1[i]? with
      | some (.own (.lst ds)) => some (ds, r1.set i (.lck (.lst ds)), some i)
      | some (.lck (.lst ds)) => some (ds, r1, none)
      | some (.fz d) => (seqOf d).map fun ds => (ds, r1, none)
      | _ => none) = some (ds, r', u) := hf
    split at hf
    · rename_i ds' qi
      cases hf
      refine ⟨O, r, .slot i, r1, E, q1, fun H1 O1 v st1 E1 kp1 ro1 => ?_⟩
      have hv : σ[i]? = some (some v) := ro1
      obtain ⟨v', e1, p, e2, ⟨vs, hp, ra⟩, op⟩ := E1.ok i _ qi
      rw [hv] at e1; cases e1; cases e2
      have hl : i < r1.length := (List.getElem?_eq_some_iff.mp qi).1
      refine ⟨p, rfl, .inl ⟨vs, SqL.of hp, fun hz => k H1 O1 _ st1 (E1.swap qi rfl rfl) (kp1.trans (Keep.set fun c z => by rw [qi] at z; cases z)) (by rw [← ra.length]; exact hz) (fun j z c h => ?_) (jok_lck (List.getElem?_set_self hl) hv)⟩⟩
      cases z
      have := kp1 i c h
      rw [qi] at this
      cases this
    · rename_i ds' qi
      cases hf
      refine ⟨O, r, .slot i, r', E, q1, fun H1 O1 v st1 E1 kp1 ro1 => ?_⟩
      have hv : σ[i]? = some (some v) := ro1
      obtain ⟨v', e1, p, e2, ⟨vs, hp, ra⟩, op⟩ := E1.ok i _ qi
      rw [hv] at e1; cases e1; cases e2
      exact ⟨p, rfl, .inl ⟨vs, SqL.of hp, fun hz => k H1 O1 _ st1 E1 kp1 (by rw [← ra.length]; exact hz) (fun _ z => nomatch z) (jok_lck qi hv)⟩⟩
    · rename_i d qi
      obtain ⟨ds', q2, e⟩ := Option.map_eq_some_iff.mp hf
      cases e
      refine ⟨O, r, .slot i, r', E, q1, fun H1 O1 v st1 E1 kp1 ro1 => ?_⟩
      have hv : σ[i]? = some (some v) := ro1
      obtain ⟨v', e1, x, e2, rp⟩ := E1.ok i _ qi
      rw [hv] at e1; cases e1; cases e2
      exact seq_jok rp q2 fun J hz jk => k H1 O1 J st1 E1 kp1 hz (fun _ z => nomatch z) jk
    · cases hf
/-- range(n), range(a, b) -/
def rangeD (lo : Int) (n : Nat) : List PyData := (List.range n).map fun (k : Nat) => PyData.int (lo + (k : Int))
def iR1 (fs : Dens) : DenI := fun r => (fs r).bind fun (xs, r1) => (derefs r1 xs).bind fun ds => match ds with
  | [.int j] => if -(2 ^ 62) ≤ j ∧ j < 2 ^ 62 ∧ j.toNat ≤ sizeLine then some (rangeD 0 j.toNat, r1, none) else none
  | _ => none
def iR2 (fs : Dens) : DenI := fun r => (fs r).bind fun (xs, r1) => (derefs r1 xs).bind fun ds => match ds with
  | [.int i, .int j] => if (-(2 ^ 62) ≤ i ∧ i < 2 ^ 62 ∧ -(2 ^ 62) ≤ j ∧ j < 2 ^ 62) ∧ (j - i).toNat ≤ sizeLine then some (rangeD i (j - i).toNat, r1, none) else none
  | _ => none
theorem rangeD_get {lo : Int} {n i : Nat} : (rangeD lo n)[i]? = if i < n then some (PyData.int (lo + (i : Int))) else none := by
  unfold rangeD
  rw [List.getElem?_map]
  by_cases h : i < n
  · rw [if_pos h, List.getElem?_range h]; rfl
  · rw [if_neg h, List.getElem?_eq_none (by simpa using Nat.le_of_not_lt h)]; rfl
theorem rangeD_length {lo : Int} {n : Nat} : (rangeD lo n).length = n := by simp [rangeD]
theorem jok_range {K : PySem.W.Frag} {lo : Int} {n : Nat} {H0 : Hp} {r0 : Nms} {σ0 : L2.St} : JOk K (Itr lo n) (rangeD lo n) H0 r0 σ0 := by
  intro H O r σ fx E kp lk i
  rw [rangeD_get]
  by_cases h : i < n
  · rw [if_pos h]
    refine ⟨fun d hd => ⟨h, fun x H' y => ?_⟩, fun hd => nomatch hd⟩
    cases hd
    obtain ⟨e, y⟩ := y
    subst e; subst y
    exact ⟨Same.refl _, .int _⟩
  · rw [if_neg h]
    exact ⟨fun d hd => (nomatch hd), fun _ => Nat.le_of_not_lt h⟩
theorem ix_range1 {a : Expr} {fs : Dens} {p : Pos} (hg : Gl X "range") (hm : X.mg "range" = none) (ha : Exs X [a] fs) (hs : starEach [a] X.env = [(false, eval a X.env)] := by rfl) : Ix X tg (.Call (.Name "range" p) [a] [] pos) (iR1 fs) := by
  refine ⟨fun pins s σ H Q I hw => (pi_range1 hg hm ha hs).run pins s σ H Q I ?_⟩
  obtain ⟨O, r, ds, r', u, E, hf, k⟩ := hw
  unfold iR1 at hf
  obtain ⟨⟨xs, r1⟩, q1, hf⟩ := Option.bind_eq_some_iff.mp hf
  obtain ⟨es, q2, hf⟩ := Option.bind_eq_some_iff.mp hf
  split at hf
  · rename_i j
    split at hf
    · rename_i hb
      cases hf
      refine ⟨O, r, xs, r', E, q1, fun H1 O1 vs st1 E1 kp1 ro1 => ?_⟩
      have bp := ro1.derefs E1 q2
      cases bp with
      | cons b1 b2 =>
        cases b2
        refine ⟨j, by rw [b1.int], hb.1, hb.2.1, k H1 O1 _ st1 E1 kp1 (by rw [rangeD_length]; exact hb.2.2) (fun _ z => nomatch z) jok_range⟩
    · cases hf
  · cases hf
theorem ix_range2 {a b : Expr} {fs : Dens} {p : Pos} (hg : Gl X "range") (hm : X.mg "range" = none) (ha : Exs X [a, b] fs) (hs : starEach [a, b] X.env = [(false, eval a X.env), (false, eval b X.env)] := by rfl) (hs2 : starEach [b] X.env = [(false, eval b X.env)] := by rfl) : Ix X tg (.Call (.Name "range" p) [a, b] [] pos) (iR2 fs) := by
  refine ⟨fun pins s σ H Q I hw => (pi_range2 hg hm ha hs hs2).run pins s σ H Q I ?_⟩
  obtain ⟨O, r, ds, r', u, E, hf, k⟩ := hw
  unfold iR2 at hf
  obtain ⟨⟨xs, r1⟩, q1, hf⟩ := Option.bind_eq_some_iff.mp hf
  obtain ⟨es, q2, hf⟩ := Option.bind_eq_some_iff.mp hf
  split at hf
  · rename_i i j
    split at hf
    · rename_i hb
      cases hf
      refine ⟨O, r, xs, r', E, q1, fun H1 O1 vs st1 E1 kp1 ro1 => ?_⟩
      have bp := ro1.derefs E1 q2
      cases bp with
      | cons b1 b2 =>
        cases b2 with
        | cons b2 b3 =>
          cases b3
          exact ⟨i, j, by rw [b1.int, b2.int], hb.1, k H1 O1 _ st1 E1 kp1 (by rw [rangeD_length]; exact hb.2) (fun _ z => nomatch z) jok_range⟩
    · cases hf
  · cases hf
end
end KV

/-! KV, part 5: the operations. -/
namespace KV
open PySem PySem.Spec PyProof.Rows L2

mutual
theorem dp_plain {K : PySem.W.Frag} {H : Hp} : ∀ {v : V} {d : PyData}, Dp K H v d → d.plain = true
  | _, _, .non => rfl
  | _, _, .bl _ => rfl
  | _, _, .int _ => rfl
  | _, _, .str _ => rfl
  | _, _, .lst _ h => by rw [PyData.plain]; exact dpAll_plain h
  | _, _, .tup _ h => by rw [PyData.plain]; exact dpAll_plain h
theorem dpAll_plain {K : PySem.W.Frag} {H : Hp} : ∀ {vs : List V} {ds : List PyData}, DpAll K H vs ds → PyData.plainAll ds = true
  | _, _, .nil => rfl
  | _, _, .cons h t => by rw [PyData.plainAll, dp_plain h, dpAll_plain t]; rfl
end
theorem new_val {K : PySem.W.Frag} {H : Hp} {v : V} {d : PyData} (r : Rp K H v d) : NewR K H H v (.val d) := ⟨Same.refl _, r⟩
theorem new_int {K : PySem.W.Frag} {H : Hp} (i : Int) : NewR K H H (.int i) (.val (.int i)) := new_val (.int i)
theorem new_bl {K : PySem.W.Frag} {H : Hp} (i : Bool) : NewR K H H (.bl i) (.val (.bool i)) := new_val (.bl i)

section
variable {X : Cx}
/-! ### arithmetic -/
def opI (f : Int → Int → Option Int) : Op2 := fun x y => match x, y with
  | .int i, .int j => (f i j).map fun k => .val (.int k)
  | _, _ => none
theorem opI_inv {f : Int → Int → Option Int} {x y : PyData} {z : R} (h : opI f x y = some z) : ∃ i j k, x = .int i ∧ y = .int j ∧ f i j = some k ∧ z = .val (.int k) := by
  unfold opI at h
  split at h
  · obtain ⟨k, q, e⟩ := Option.map_eq_some_iff.mp h
    exact ⟨_, _, k, rfl, rfl, q, e.symm⟩
  · cases h
theorem opI_ok {o : Value → Value → Sem Value} {f : Int → Int → Option Int} {C : Int → Int → Prop} {g : Int → Int → Int} (h : OpR X o (rI C fun i j => .int (g i j))) (hf : ∀ i j k, f i j = some k → C i j ∧ k = g i j) : OpR X o (rD2 X.K (opI f)) := by
  intro pins s σ H x y v u Q I rx ry hw
  obtain ⟨dx, dy, z, bx, b, ho, k⟩ := hw
  obtain ⟨i, j, m, rfl, rfl, q, rfl⟩ := opI_inv ho
  obtain ⟨c, rfl⟩ := hf i j m q
  exact h pins s σ H x y v u Q I rx ry ⟨i, j, bx.int, b.int, c, k H _ (new_int _)⟩
theorem opI_ok0 {o : Value → Value → Sem Value} {g : Int → Int → Int} (h : OpR X o (rI0 fun i j => .int (g i j))) : OpR X o (rD2 X.K (opI fun i j => some (g i j))) := by
  intro pins s σ H x y v u Q I rx ry hw
  obtain ⟨dx, dy, z, bx, b, ho, k⟩ := hw
  obtain ⟨i, j, m, rfl, rfl, q, rfl⟩ := opI_inv ho
  cases q
  exact h pins s σ H x y v u Q I rx ry ⟨i, j, bx.int, b.int, k H _ (new_int _)⟩
def opSub : Op2 := opI fun i j => some (i - j)
def opMod : Op2 := opI fun i j => if j ≠ 0 then some (i.fmod j) else none
def opDiv : Op2 := opI fun i j => if j ≠ 0 ∧ j.natAbs < 1073741824 then some (i.fdiv j) else none
def opPow : Op2 := opI fun i j => if 0 ≤ j ∧ j ≤ 1000000 ∧ i.natAbs < 2 ^ 64 then some (i ^ j.toNat) else none
theorem o_sub : OpR X (binaryOp .Sub) (rD2 X.K opSub) := opI_ok0 op_sub
theorem o_mod : OpR X (binaryOp .Mod) (rD2 X.K opMod) := opI_ok op_modN fun i j k h => by
  split at h
  · rename_i c; cases h; exact ⟨c, rfl⟩
  · cases h
theorem o_div : OpR X (binaryOp .FloorDiv) (rD2 X.K opDiv) := opI_ok op_fdivN fun i j k h => by
  split at h
  · rename_i c; cases h; exact ⟨c, rfl⟩
  · cases h
theorem o_pow : OpR X (binaryOp .Pow) (rD2 X.K opPow) := opI_ok op_pow fun i j k h => by
  split at h
  · rename_i c; cases h; exact ⟨c, rfl⟩
  · cases h
def opAdd : Op2 := fun x y => match x, y with
  | .int i, .int j => some (.val (.int (i + j)))
  | .list xs, .list ys => if xs.length + ys.length ≤ sizeLine then some (.tmp (.lst (xs ++ ys))) else none
  | .tuple xs, .tuple ys => if xs.length + ys.length ≤ sizeLine then some (.val (.tuple (xs ++ ys))) else none
  | .str x, .str y => if x.length + y.length ≤ sizeLine then some (.val (.str (x ++ y))) else none
  | _, _ => none
theorem list_addS (l : Addr) (items : Array Value) (n : Nat) (b : Addr) (items2 : Array Value) (n2 : Nat) (sl sl2 : Array (Option Value)) (hc0 : items.size + items2.size ≤ sizeLine) :
    Meets (Builtin.«list.__add__» ⟨[.ref l, .ref b], []⟩) (fun _ R s => s.heap.get? l = some { cls := .type "list", dict := none, data := .seq items n, slots := sl } ∧ s.heap.get? b = some { cls := .type "list", dict := none, data := .seq items2 n2, slots := sl2 } ∧ R (.ok (.ret (Value.ref s.heap.objs.size))) { s with heap := s.heap.push { cls := Value.type "list", data := Data.seq (items ++ items2) } }) :=
  .of_wp fun prog w A R s h => by
    obtain ⟨hp, g, d, tk, os⟩ := s
    obtain ⟨hl, hb, h⟩ := h
    have f1 := AutoSeq1.idx_int
    have f2 := AutoSeq1.sub_tuple_tuple
    have f3 := AutoSeq1.sub_list_list
    have f4 := AutoSeq1.sub_tuple_list
    have f5 := AutoSeq1.sub_list_tuple
    wp_walk using AutoSeq1.wpAny_loadPart' hl, AutoSeq1.wpAny_loadPart' hb
    exact ⟨_, rfl, h⟩
theorem add_lists {pins : List (Addr × Obj)} {s : Shared} {σ : L2.St} {H : Hp} {a b : Addr} {xs ys : List V} {Q : VK} (I : Inv X pins σ H s) (ha : SqL X.K H a xs) (hb : SqL X.K H b ys) (hz : xs.length + ys.length ≤ sizeLine) (q : ∀ p, H p = none → Q (.ref p) (upd H p (.lst (xs ++ ys)))) :
    wpAny (model X.prog X.w) X.A (binaryOp .Add (.ref a) (.ref b)) (EP X pins σ Q) X.xe s := by
  obtain ⟨its, r, ⟨⟨c1, d1, dt1, sl1⟩, n, e, hc, hd, ht⟩, _⟩ := I.list ha
  obtain ⟨its2, r2, ⟨⟨c2, d2, dt2, sl2⟩, n2, e2, hc2, hd2, ht2⟩, _⟩ := I.list hb
  simp only at hc hd ht hc2 hd2 ht2
  subst hc hd ht hc2 hd2 ht2
  refine PySem.concat_meets ⟨_, e, rfl⟩ ⟨_, e2, rfl⟩ PySem.noFill_list_add PySem.seq_list_add PySem.F.slot_list_add PySem.F.entry_list_add (PySem.F.args_list_add_2 _ _) (list_addS a its.toArray n b its2.toArray n2 sl1 sl2 (by rw [List.size_toArray, List.size_toArray, ← r.length, ← r2.length]; exact hz)) ⟨e, e2, ?_⟩
  have ea : its.toArray ++ its2.toArray = (its ++ its2).toArray := by simp
  rw [ea]
  refine ⟨.ref _, _, I.laid (t' := s.toks) (o := .lst (xs ++ ys)) (fun b ob q => Heap.get?_push_of_some _ q) (Nat.le_refl _) ?_, rfl, q _ (I.hok.fresh (Nat.le_refl _))⟩
  exact ⟨by rw [List.length_append]; exact hz, _, 0, r.append r2, Heap.get?_push_size _ rfl⟩
theorem o_add : OpR X (binaryOp .Add) (rD2 X.K opAdd) := by
  intro pins s σ H x y v u Q I rx ry hw
  obtain ⟨dx, dy, z, bx, b, ho, k⟩ := hw
  unfold opAdd at ho
  split at ho
  · cases ho
    exact op_add pins s σ H x y v u Q I rx ry ⟨_, _, bx.int, b.int, k H _ (new_int _)⟩
  · split at ho
    · rename_i hz
      cases ho
      obtain ⟨a, vs, rfl, h1, r1⟩ := bx.list
      obtain ⟨c, ws, rfl, h2, r2⟩ := b.list
      cases rx
      cases ry
      exact add_lists I h1 h2 (by rw [r1.length, r2.length]; exact hz) fun p hp => k _ _ (new_lst hp (r1.append r2))
    · cases ho
  · split at ho
    · rename_i hz
      cases ho
      obtain ⟨a, vs, rfl, h1, r1⟩ := bx.tuple
      obtain ⟨c, ws, rfl, h2, r2⟩ := b.tuple
      refine op_catA pins s σ H _ _ v u Q I rx ry ⟨a, c, vs, ws, rfl, rfl, h1, h2, by rw [r1.length, r2.length]; exact hz, fun e => ?_, fun e1 e2 => ?_, fun e1 e2 p hp => k _ _ (new_tup hp (r1.append r2))⟩
      · subst e
        cases r1
        exact k _ _ (new_val (.tup h2 r2))
      · subst e2
        cases r2
        rw [List.append_nil] at k
        exact k _ _ (new_val (.tup h1 r1))
    · cases ho
  · split at ho
    · rename_i hz
      cases ho
      exact op_add_str pins s σ H x y v u Q I rx ry ⟨_, _, bx.str, b.str, hz, k H _ (new_val (.str _))⟩
    · cases ho
  · cases ho
def opMul : Op2 := fun x y => match x, y with
  | .int i, .int j => if (-(2 ^ 64) < i ∧ i < 2 ^ 64) ∨ (-(2 ^ 64) < j ∧ j < 2 ^ 64) then some (.val (.int (i * j))) else none
  | _, _ => none
theorem o_mul : OpR X (binaryOp .Mult) (rD2 X.K opMul) := by
  intro pins s σ H x y v u Q I rx ry hw
  obtain ⟨dx, dy, z, bx, b, ho, k⟩ := hw
  unfold opMul at ho
  split at ho
  · split at ho
    · rename_i hc
      cases ho
      exact op_mul pins s σ H x y v u Q I rx ry ⟨_, _, bx.int, b.int, hc, k H _ (new_int _)⟩
    · cases ho
  · cases ho
def opNeg : PyData → Option R := fun x => match x with
  | .int i => some (.val (.int (-i)))
  | _ => none
theorem o_neg : UnR X (unaryOp .USub) (rD1 X.K opNeg) := by
  intro pins s σ H x v Q I rx hw
  obtain ⟨d, z, bx, ho, k⟩ := hw
  unfold opNeg at ho
  split at ho
  · cases ho
    exact un_neg pins s σ H x v Q I rx ⟨_, bx.int, k H _ (new_int _)⟩
  · cases ho

/-! ### comparisons -/
def opC (f : Int → Int → Bool) : Op2 := fun x y => match x, y with
  | .int i, .int j => some (.val (.bool (f i j)))
  | _, _ => none
theorem opC_ok {o : Value → Value → Sem Value} {f : Int → Int → Bool} (h : OpR X o (rI0 fun i j => .bl (f i j))) : OpR X o (rD2 X.K (opC f)) := by
  intro pins s σ H x y v u Q I rx ry hw
  obtain ⟨dx, dy, z, bx, b, ho, k⟩ := hw
  unfold opC at ho
  split at ho
  · cases ho
    exact h pins s σ H x y v u Q I rx ry ⟨_, _, bx.int, b.int, k H _ (new_bl _)⟩
  · cases ho
abbrev opLt : Op2 := opC fun i j => decide (i < j)
abbrev opLe : Op2 := opC fun i j => decide (i ≤ j)
abbrev opGt : Op2 := opC fun i j => decide (j < i)
abbrev opGe : Op2 := opC fun i j => decide (j ≤ i)
theorem o_lt : OpR X (compareOp .Lt) (rD2 X.K opLt) := opC_ok op_lt
theorem o_le : OpR X (compareOp .LtE) (rD2 X.K opLe) := opC_ok op_le
theorem o_gt : OpR X (compareOp .Gt) (rD2 X.K opGt) := opC_ok op_gt
theorem o_ge : OpR X (compareOp .GtE) (rD2 X.K opGe) := opC_ok op_ge
/-- x is None, x is not None -/
def isNon : PyData → Bool
  | .none => true
  | _ => false
def opIsN : Op2 := fun x y => match y with
  | .none => some (.val (.bool (isNon x)))
  | _ => none
def opNotN : Op2 := fun x y => match y with
  | .none => some (.val (.bool (!isNon x)))
  | _ => none
theorem Bp.isN {K : PySem.W.Frag} {H : Hp} {v : V} {d : PyData} (h : Bp K H v d) : decide (v = .non) = isNon d := by
  cases h with
  | rp h => cases h <;> simp [isNon]
  | @ob p c h => cases c; simp [Ob.data, isNon]
theorem o_isN : OpR X (compareOp .Is) (rD2 X.K opIsN) := by
  intro pins s σ H x y v u Q I rx ry hw
  obtain ⟨dx, dy, z, bx, b, ho, k⟩ := hw
  unfold opIsN at ho
  split at ho
  · cases ho
    exact op_isN pins s σ H x y v u Q I rx ry ⟨b.non, by rw [bx.isN]; exact k H _ (new_bl _)⟩
  · cases ho
theorem o_notN : OpR X (compareOp .IsNot) (rD2 X.K opNotN) := by
  intro pins s σ H x y v u Q I rx ry hw
  obtain ⟨dx, dy, z, bx, b, ho, k⟩ := hw
  unfold opNotN at ho
  split at ho
  · cases ho
    exact op_notN pins s σ H x y v u Q I rx ry ⟨b.non, by rw [bx.isN]; exact k H _ (new_bl _)⟩
  · cases ho
/-- == of data -/
def opEq : Op2 := fun x y => if min x.depth y.depth ≤ 60 then some (.val (.bool (PyData.eqv x y))) else none
def opNe : Op2 := fun x y => if min x.depth y.depth ≤ 60 then some (.val (.bool (!PyData.eqv x y))) else none
theorem o_eq (hu : X.A.units + 64 < cLine) : OpR X (compareOp .Eq) (rD2 X.K opEq) := by
  intro pins s σ H x y v u Q I rx ry hw
  obtain ⟨dx, dy, z, bx, b, ho, k⟩ := hw
  unfold opEq at ho
  split at ho
  · rename_i hd
    cases ho
    obtain ⟨as, r1⟩ := Dp.reads I dx x v bx.dp rx
    obtain ⟨bs, r2⟩ := Dp.reads I dy y u b.dp ry
    exact SeqAt.eq_plain r1 r2 (dp_plain bx.dp) (dp_plain b.dp) (by omega) ⟨.bl _, H, I, rfl, k H _ (new_bl _)⟩
  · cases ho
theorem o_ne (hu : X.A.units + 64 < cLine) : OpR X (compareOp .NotEq) (rD2 X.K opNe) := by
  intro pins s σ H x y v u Q I rx ry hw
  obtain ⟨dx, dy, z, bx, b, ho, k⟩ := hw
  unfold opNe at ho
  split at ho
  · rename_i hd
    cases ho
    obtain ⟨as, r1⟩ := Dp.reads I dx x v bx.dp rx
    obtain ⟨bs, r2⟩ := Dp.reads I dy y u b.dp ry
    exact SeqAt.ne_plain r1 r2 (dp_plain bx.dp) (dp_plain b.dp) (by omega) ⟨.bl _, H, I, rfl, k H _ (new_bl _)⟩
  · cases ho
/-- x in c, x not in c -/
def opIn : Op2 := fun x c => (seqOf c).bind fun xs => if min (PyData.depthAll xs) x.depth ≤ 60 then some (.val (.bool (xs.any fun y => PyData.eqv y x))) else none
def opNotIn : Op2 := fun x c => (seqOf c).bind fun xs => if min (PyData.depthAll xs) x.depth ≤ 60 then some (.val (.bool (!xs.any fun y => PyData.eqv y x))) else none
theorem seqOf_some {d : PyData} {xs : List PyData} (h : seqOf d = some xs) : d = .list xs ∨ d = .tuple xs := by
  cases d with
  | list ys => cases h; exact .inl rfl
  | tuple ys => cases h; exact .inr rfl
  | _ => cases h
theorem o_in (hu : X.A.units + 64 < cLine) : OpR X (compareOp .In) (rD2 X.K opIn) := by
  intro pins s σ H x y v u Q I rx ry hw
  obtain ⟨dx, dy, z, bx, b, ho, k⟩ := hw
  obtain ⟨xs, hs, ho⟩ := Option.bind_eq_some_iff.mp ho
  split at ho
  · rename_i hd
    cases ho
    obtain ⟨as, r1⟩ := Dp.reads I dx x v bx.dp rx
    obtain ⟨bs, r2⟩ := Dp.reads I dy y u b.dp ry
    have pl := (dp_plain b.dp)
    rcases seqOf_some hs with e | e
    · subst e
      rw [PyData.plain] at pl
      exact SeqAt.in_list_data r2 r1 pl (dp_plain bx.dp) (by omega) ⟨.bl _, H, I, rfl, k H _ (new_bl _)⟩
    · subst e
      rw [PyData.plain] at pl
      exact SeqAt.in_tuple_data r2 r1 pl (dp_plain bx.dp) (by omega) ⟨.bl _, H, I, rfl, k H _ (new_bl _)⟩
  · cases ho
theorem o_notIn (hu : X.A.units + 64 < cLine) : OpR X (compareOp .NotIn) (rD2 X.K opNotIn) := by
  intro pins s σ H x y v u Q I rx ry hw
  obtain ⟨dx, dy, z, bx, b, ho, k⟩ := hw
  obtain ⟨xs, hs, ho⟩ := Option.bind_eq_some_iff.mp ho
  split at ho
  · rename_i hd
    cases ho
    obtain ⟨as, r1⟩ := Dp.reads I dx x v bx.dp rx
    obtain ⟨bs, r2⟩ := Dp.reads I dy y u b.dp ry
    have pl := (dp_plain b.dp)
    rcases seqOf_some hs with e | e
    · subst e
      rw [PyData.plain] at pl
      exact SeqAt.notIn_list_data r2 r1 pl (dp_plain bx.dp) (by omega) ⟨.bl _, H, I, rfl, k H _ (new_bl _)⟩
    · subst e
      rw [PyData.plain] at pl
      exact SeqAt.notIn_tuple_data r2 r1 pl (dp_plain bx.dp) (by omega) ⟨.bl _, H, I, rfl, k H _ (new_bl _)⟩
  · cases ho

/-! ### built-in functions -/
theorem BpAll.one {K : PySem.W.Frag} {H : Hp} {vs : List V} {d : PyData} (h : BpAll K H vs [d]) : ∃ v, vs = [v] ∧ Bp K H v d := by
  cases h with
  | cons a t => cases t; exact ⟨_, rfl, a⟩
theorem BpAll.two {K : PySem.W.Frag} {H : Hp} {vs : List V} {d e : PyData} (h : BpAll K H vs [d, e]) : ∃ v w, vs = [v, w] ∧ Bp K H v d ∧ Bp K H w e := by
  cases h with
  | cons a t => cases t with
    | cons b t => cases t; exact ⟨_, _, rfl, a, b⟩
def opLen : OpN := fun ds => match ds with
  | [.list xs] => some (.val (.int xs.length))
  | [.tuple xs] => some (.val (.int xs.length))
  | [.str x] => if x.length ≤ sizeLine then some (.val (.int x.length)) else none
  | _ => none
theorem c_len : CallR X (.builtin "len") (rDN X.K opLen) := by
  intro pins s σ H vs us Q I rv hw
  obtain ⟨ds, z, bs, ho, k⟩ := hw
  unfold opLen at ho
  split at ho
  · cases ho
    obtain ⟨v, rfl, b⟩ := bs.one
    obtain ⟨a, ws, rfl, h1, r1⟩ := b.list
    refine call_len_seq pins s σ H _ us Q I rv ⟨a, ws, rfl, .inl h1, ?_⟩
    rw [r1.length]
    exact k H _ (new_int _)
  · cases ho
    obtain ⟨v, rfl, b⟩ := bs.one
    obtain ⟨a, ws, rfl, h1, r1⟩ := b.tuple
    refine call_len_seq pins s σ H _ us Q I rv ⟨a, ws, rfl, .inr h1, ?_⟩
    rw [r1.length]
    exact k H _ (new_int _)
  · split at ho
    · rename_i hz
      cases ho
      obtain ⟨v, rfl, b⟩ := bs.one
      exact call_len_str pins s σ H _ us Q I rv ⟨_, by rw [b.str], hz, k H _ (new_int _)⟩
    · cases ho
  · cases ho
def opAbs : OpN := fun ds => match ds with
  | [.int i] => some (.val (.int (if i < 0 then -i else i)))
  | _ => none
theorem c_abs : CallR X (.builtin "abs") (rDN X.K opAbs) := by
  intro pins s σ H vs us Q I rv hw
  obtain ⟨ds, z, bs, ho, k⟩ := hw
  unfold opAbs at ho
  split at ho
  · cases ho
    obtain ⟨v, rfl, b⟩ := bs.one
    exact call_abs pins s σ H _ us Q I rv ⟨_, by rw [b.int], k H _ (new_int _)⟩
  · cases ho
def opInt : OpN := fun ds => match ds with
  | [.int i] => some (.val (.int i))
  | [.bool b] => some (.val (.int (if b then 1 else 0)))
  | _ => none
theorem c_int : CallR X (.type "int") (rDN X.K opInt) := by
  intro pins s σ H vs us Q I rv hw
  obtain ⟨ds, z, bs, ho, k⟩ := hw
  unfold opInt at ho
  split at ho
  · cases ho
    obtain ⟨v, rfl, b⟩ := bs.one
    exact call_int1 pins s σ H _ us Q I rv (.inl ⟨_, by rw [b.int], k H _ (new_int _)⟩)
  · cases ho
    obtain ⟨v, rfl, b⟩ := bs.one
    exact call_int1 pins s σ H _ us Q I rv (.inr ⟨_, by rw [b.bool], k H _ (new_int _)⟩)
  · cases ho
def boolsOf : List PyData → Option (List Bool)
  | [] => some []
  | .bool b :: r => (boolsOf r).map (b :: ·)
  | _ :: _ => none
theorem boolsOf_some : ∀ {ds : List PyData} {bs : List Bool}, boolsOf ds = some bs → ds = bs.map .bool
  | [], bs, h => by cases h; rfl
  | .bool b :: r, bs, h => by
    obtain ⟨cs, q, e⟩ := Option.map_eq_some_iff.mp h
    subst e
    rw [boolsOf_some q]; rfl
  | .none :: _, _, h => nomatch h
  | .int _ :: _, _, h => nomatch h
  | .str _ :: _, _, h => nomatch h
  | .list _ :: _, _, h => nomatch h
  | .tuple _ :: _, _, h => nomatch h
  | .dict _ :: _, _, h => nomatch h
theorem boolsOf_map (bs : List Bool) : boolsOf (bs.map .bool) = some bs := by
  induction bs with
  | nil => rfl
  | cons b r ih => show (boolsOf (r.map .bool)).map _ = _; rw [ih]; rfl
theorem RpAll.bools {K : PySem.W.Frag} {H : Hp} : ∀ {vs : List V} {bs : List Bool}, RpAll K H vs (bs.map .bool) → vs = bs.map V.bl
  | _, [], h => by cases h; rfl
  | _, b :: r, h => by
    cases h with
    | cons a t => cases a; rw [RpAll.bools t]; rfl
def opAll : OpN := fun ds => match ds with
  | [.list xs] => (boolsOf xs).map fun bs => .val (.bool (bs.all id))
  | _ => none
def opAny : OpN := fun ds => match ds with
  | [.list xs] => (boolsOf xs).map fun bs => .val (.bool (bs.any id))
  | _ => none
theorem c_all (hc : X.calm = true) : CallR X (.builtin "all") (rDN X.K opAll) := by
  intro pins s σ H vs us Q I rv hw
  obtain ⟨ds, z, bs, ho, k⟩ := hw
  unfold opAll at ho
  split at ho
  · obtain ⟨cs, q, e⟩ := Option.map_eq_some_iff.mp ho
    subst e
    obtain ⟨v, rfl, b⟩ := bs.one
    obtain ⟨a, ws, rfl, h1, r1⟩ := b.list
    rw [boolsOf_some q] at r1
    have := r1.bools
    subst this
    exact cr_all hc pins s σ H _ us Q I rv ⟨a, cs, rfl, h1, k H _ (new_bl _)⟩
  · cases ho
theorem c_any (hc : X.calm = true) : CallR X (.builtin "any") (rDN X.K opAny) := by
  intro pins s σ H vs us Q I rv hw
  obtain ⟨ds, z, bs, ho, k⟩ := hw
  unfold opAny at ho
  split at ho
  · obtain ⟨cs, q, e⟩ := Option.map_eq_some_iff.mp ho
    subst e
    obtain ⟨v, rfl, b⟩ := bs.one
    obtain ⟨a, ws, rfl, h1, r1⟩ := b.list
    rw [boolsOf_some q] at r1
    have := r1.bools
    subst this
    exact cr_any hc pins s σ H _ us Q I rv ⟨a, cs, rfl, h1, k H _ (new_bl _)⟩
  · cases ho
def opMin2 : OpN := fun ds => match ds with
  | [.int i, .int j] => some (.val (.int (if j < i then j else i)))
  | _ => none
def opMax2 : OpN := fun ds => match ds with
  | [.int i, .int j] => some (.val (.int (if j > i then j else i)))
  | _ => none
theorem c_min2 (hc : X.calm = true) : CallR X (.builtin "min") (rDN X.K opMin2) := by
  intro pins s σ H vs us Q I rv hw
  obtain ⟨ds, z, bs, ho, k⟩ := hw
  unfold opMin2 at ho
  split at ho
  · cases ho
    obtain ⟨v, w, rfl, b1, b2⟩ := bs.two
    exact call_min2 hc pins s σ H _ us Q I rv ⟨_, _, by rw [b1.int, b2.int], k H _ (new_int _)⟩
  · cases ho
theorem c_max2 (hc : X.calm = true) : CallR X (.builtin "max") (rDN X.K opMax2) := by
  intro pins s σ H vs us Q I rv hw
  obtain ⟨ds, z, bs, ho, k⟩ := hw
  unfold opMax2 at ho
  split at ho
  · cases ho
    obtain ⟨v, w, rfl, b1, b2⟩ := bs.two
    exact call_max2 hc pins s σ H _ us Q I rv ⟨_, _, by rw [b1.int, b2.int], k H _ (new_int _)⟩
  · cases ho
def opTuple : OpN := fun ds => match ds with
  | [.list xs] => some (.val (.tuple xs))
  | [.tuple xs] => some (.val (.tuple xs))
  | _ => none
def opList : OpN := fun ds => match ds with
  | [.list xs] => some (.tmp (.lst xs))
  | [.tuple xs] => some (.tmp (.lst xs))
  | _ => none
theorem c_tuple : CallR X (.type "tuple") (rDN X.K opTuple) := by
  intro pins s σ H vs us Q I rv hw
  obtain ⟨ds, z, bs, ho, k⟩ := hw
  unfold opTuple at ho
  split at ho
  · cases ho
    obtain ⟨v, rfl, b⟩ := bs.one
    obtain ⟨a, ws, rfl, h1, r1⟩ := b.list
    exact call_tuple_of pins s σ H _ us Q I rv ⟨a, ws, rfl, .inl ⟨h1, fun l hl => k _ _ (new_tup hl r1)⟩⟩
  · cases ho
    obtain ⟨v, rfl, b⟩ := bs.one
    obtain ⟨a, ws, rfl, h1, r1⟩ := b.tuple
    exact call_tuple_of pins s σ H _ us Q I rv ⟨a, ws, rfl, .inr ⟨h1, k _ _ (new_val (.tup h1 r1))⟩⟩
  · cases ho
theorem c_list : CallR X (.type "list") (rDN X.K opList) := by
  intro pins s σ H vs us Q I rv hw
  obtain ⟨ds, z, bs, ho, k⟩ := hw
  unfold opList at ho
  split at ho
  · cases ho
    obtain ⟨v, rfl, b⟩ := bs.one
    obtain ⟨a, ws, rfl, h1, r1⟩ := b.list
    exact call_list_of pins s σ H _ us Q I rv ⟨a, ws, rfl, .inl h1, fun l hl => k _ _ (new_lst hl r1)⟩
  · cases ho
    obtain ⟨v, rfl, b⟩ := bs.one
    obtain ⟨a, ws, rfl, h1, r1⟩ := b.tuple
    exact call_list_of pins s σ H _ us Q I rv ⟨a, ws, rfl, .inr h1, fun l hl => k _ _ (new_lst hl r1)⟩
  · cases ho

/-! ### places, slices -/
theorem RpAll.atI {K : PySem.W.Frag} {H : Hp} {vs : List V} {ds : List PyData} {i : Int} {d : PyData} (r : RpAll K H vs ds) (h : atI ds i = some d) : ∃ v, L2.atI vs i = some v ∧ Rp K H v d := by
  unfold L2.atI at h ⊢
  rw [r.length]
  obtain ⟨j, q, e⟩ := Option.bind_eq_some_iff.mp h
  obtain ⟨v, hv, rp⟩ := r.get' e
  exact ⟨v, by rw [q]; exact hv, rp⟩
def opIx : Op2 := fun x y => match y with
  | .int i => (seqOf x).bind fun xs => (atI xs i).map .val
  | _ => none
theorem i_ix : IxR X (rD2 X.K opIx) := by
  intro value slice pins s σ H x y v u Q I rx ry hw hs
  obtain ⟨dx, dy, z, bx, b, ho, k⟩ := hw
  unfold opIx at ho
  split at ho
  · obtain ⟨xs, hq, ho⟩ := Option.bind_eq_some_iff.mp ho
    obtain ⟨d, hd, e⟩ := Option.map_eq_some_iff.mp ho
    subst e
    rcases seqOf_some hq with e | e
    · subst e
      obtain ⟨a, ws, rfl, h1, r1⟩ := bx.list
      obtain ⟨w, hw, rp⟩ := r1.atI hd
      exact L2.ix_seq value slice pins s σ H _ y v u Q I rx ry (.inl ⟨a, ws, _, w, rfl, b.int, h1, hw, k _ _ (new_val rp)⟩) hs
    · subst e
      obtain ⟨a, ws, rfl, h1, r1⟩ := bx.tuple
      obtain ⟨w, hw, rp⟩ := r1.atI hd
      exact L2.ix_seq value slice pins s σ H _ y v u Q I rx ry (.inr (.inl ⟨a, ws, _, w, rfl, b.int, h1, hw, k _ _ (new_val rp)⟩)) hs
  · cases ho
variable {a b e : Expr} {f g : Den} {pos : Pos}
theorem ex_ix (ha : Ex X a f) (hb : Ex X b g) (hs : PlainIx b) : Ex X (.Subscript a b pos) (dBin f g opIx) :=
  ⟨fun pins s σ H Q I hw => (pe_ix i_ix (ex_stl ha) hb hs).run pins s σ H Q I (bin_read hw)⟩
end
end KV

/-! KV, part 6: defs (with nothing on the repr guard's pile) and their calls; what changes a list. -/
namespace KV
open PySem PySem.Spec PyProof.Rows L2

/-- a def's promise, where no repr is under way -/
structure FnG (P : Program) (w : World) (K : PySem.W.Frag) (mg : Str → Option Value) (base : Heap) (CX : CXT) (k : Nat) (f : Addr) (fd : FuncData) (ps : List Str) (sp : Sp) : Prop where
  len : ∀ vs H Q E, sp vs H Q E → vs.length = ps.length
  run : ∀ (A : Around) (outer : List Env) (s : Shared) (H : Hp) (args : Args) (us : List Value) (vs : List V) (Q : VK) (E : XK), A.guards = some [] → Room k A → Env0 P w K mg base A outer s H → BindsTo s fd args (ps.zip us) → Vals vs us → sp vs H Q E →
    codeAny (model P w) A (.call (.ref f) args) (CR CX outer P w H s Q E) s
theorem FnG.mono {P : Program} {w : World} {K : PySem.W.Frag} {mg : Str → Option Value} {base : Heap} {CX : CXT} {j k : Nat} {f : Addr} {fd : FuncData} {ps : List Str} {sp : Sp} (F : FnG P w K mg base CX j f fd ps sp) (h : j ≤ k) :
    FnG P w K mg base CX k f fd ps sp := ⟨F.len, fun A outer s H args us vs Q E hg hr => F.run A outer s H args us vs Q E hg (hr.mono h)⟩
theorem deeper_guards {A : Around} {qual : Str} {scope : Scope} {L f : Addr} {cd : Value} (h : A.guards = some []) : (A.deeper (envOfC qual scope L f cd)).guards = some [] := h

theorem fn_G {CX : CXT} {P : Program} {w : World} {K : PySem.W.Frag} {mg : Str → Option Value} {base : Heap} {k : Nat} {f : Addr} {name qual : Str} {params : Arguments} {body : List Stmt} {scope : Scope} {dV kV doc pm cdv ct oc : Value} {an od : Option Addr}
    {osl : Array (Option Value)} {N ps : List Str} {sp : Sp} (lk : K.lookup f = some ⟨oc, od, .func (PySem.W.fnOf name qual params body scope dV kV doc pm an cdv ct), osl⟩) (hcd : PySem.W.codeIn K cdv qual = true) (S : FnScope N ps scope)
    (len : ∀ vs H Q E, sp vs H Q E → vs.length = ps.length)
    (hbody : ∀ (A : Around) (outer : List Env) (s : Shared) (H : Hp) (vs : List V) (Q : VK) (E : XK), (A.deeper (envOfC qual scope s.heap.objs.size f cdv)).guards = some [] → Room k (A.deeper (envOfC qual scope s.heap.objs.size f cdv)) → sp vs H Q E →
      ∃ t, PSs (cxOf CX P w K mg base N qual scope f cdv A outer s H E) body t ∧ t { nx := fun _ H' => Q .non H', rt := Q } (L2.start N vs) H) :
    FnG P w K mg base CX (k + 1) f (PySem.W.fnOf name qual params body scope dV kV doc pm an cdv ct) ps sp := by
  refine ⟨len, fun A outer s H args us vs Q E hg hr e0 hb r hsp => ?_⟩
  have hl := len _ _ _ _ hsp
  have KX : K.In s.heap := e0.mod.kin.keeps fun b o e => (e0.bs b o e).1
  have lim : s.heap.NoLimit := e0.mod.nolimit.keeps fun b o e => (e0.bs b o e).1
  have hkind : ∀ y ∈ ps.zip us, scope.names.lookup y.1 = some .local ∨ (scope.names.lookup y.1 = some .cell ∧ ((cellsFrom (s.heap.objs.size + 1) scope.names []).lookup y.1).isSome = true) := fun ⟨n, v⟩ hy => by
    rcases S.par n (List.of_mem_zip hy).1 with q | q
    · exact .inl q
    · exact .inr ⟨q, PySem.W.cellsFrom_some _ _ _ (.inl q)⟩
  refine codeAny_call_function hr.depth (KX _ _ lk) rfl S.co S.gen rfl (PySem.W.codeRec_of KX hcd) (hb _ _ _ _ ?_)
  refine wpAny_newFunctionEnv_cells S.kind hkind fun env he s1 x => ?_
  subst he
  refine ⟨lim.keeps x.toInCall.keep, codeAny_func ?_⟩
  obtain ⟨t, ht, hq⟩ := hbody A outer s H vs Q E (deeper_guards hg) (hr.deeper _) hsp
  have I : Inv (cxOf CX P w K mg base N qual scope f cdv A outer s H E) [] (L2.start N vs) H s1 := inv_start S hr.hd e0 hl r x
  refine wpAny_mono (ht.run [] s1 (L2.start N vs) H _ I hq) (fun fl s' hs => ?_) fun e s' hs => hs
  have fin : ∀ {σ' : L2.St} {H' : Hp} {v : V} {u : Value}, Inv (cxOf CX P w K mg base N qual scope f cdv A outer s H E) [] σ' H' s' → L2.RelV v u → Q v H' → CE outer P w H s Q u s' :=
    fun {σ' H' v u} J rv q => ⟨v, H', J.os, J.bare, J.base, J.hok, rv, q⟩
  cases fl with
  | ret u =>
    obtain ⟨v, σ', H', J, rv, q⟩ := hs
    exact fin J rv q
  | next =>
    obtain ⟨σ', H', J, q⟩ := hs
    exact fin (v := V.non) (u := Value.none) J rfl q
  | brk =>
    obtain ⟨_, _, _, q⟩ := hs
    exact False.elim q
  | cont =>
    obtain ⟨_, _, _, q⟩ := hs
    exact False.elim q

section
variable {X : Cx} {CX : CXT} {k : Nat} {f : Addr} {fd : FuncData} {ps ks : List Str} {sp : Sp} {dvs : List V} {ds : List Value} {E : XK} {x : Str} {p pos : Pos} {e : Expr} {es : List Expr} {t tk : TA} {kws : List Keyword}
theorem run_fnG {pins : List (Addr × Obj)} {σ : L2.St} {H : Hp} {s : Shared} {Q : VK} {us : List Value} {vs : List V} (F : FnG X.prog X.w X.K X.mg X.base CX k f fd ps sp) (hg : X.A.guards = some []) (hr : Room k X.A) (hb : Binds X.K fd ps ds) (hd : Vals dvs ds) (hx : Passes CX X E)
    (I : Inv X pins σ H s) (r : Vals vs us) (h : sp (vs ++ dvs) H Q E) : wpAny (model X.prog X.w) X.A (call (.ref f) us) (EP X pins σ Q) X.xe s := by
  have r2 : Vals (vs ++ dvs) (us ++ ds) := r.append hd
  have hl : (us ++ ds).length = ps.length := by rw [← r2.length]; exact F.len _ _ _ _ h
  refine wpAny_call (codeAny_mono (F.run X.A X.stack s H ⟨us, []⟩ (us ++ ds) (vs ++ dvs) Q E hg hr I.env0 (hb s us I.kIn hl) r2 h) fun r s' hq => ?_)
  cases r with
  | error e => exact hx pins σ H s e s' I hq
  | ok fl =>
    cases fl with
    | ret u => exact I.after hq
    | next => exact False.elim hq
    | brk => exact False.elim hq
    | cont => exact False.elim hq
theorem pe_callG (F : FnG X.prog X.w X.K X.mg X.base CX k f fd ps sp) (hgd : X.A.guards = some []) (hr : Room k X.A) (hg : Gl X x) (hm : X.mg x = some (.ref f)) (hk : PySem.W.keepIn X.K (.ref f) = true) (hb : Binds X.K fd ps ds) (hd : Vals dvs ds) (hx : Passes CX X E)
    (ha : PA X (e :: es) t) (hdb : (x == ("__debug__" : Str)) = false := by decide) (he : starEach (e :: es) X.env = (false, eval e X.env) :: starEach es X.env := by rfl) (hpl : (backTo pos (starEach es X.env)).any (·.1) = false := by rfl) :
    PE X (.Call (.Name x p) (e :: es) [] pos) (tCall sp dvs E t) := by
  refine ⟨fun pins s σ H Q I h => ?_⟩
  refine wpAny_Call_Name_kw (ld_glob I hg hm ?_ hdb)
  refine PySem.W.callWith_K (h₀ := X.base) I.ok.mod.kin hk (thn (ha.run pos pins s σ H _ I h) fun us s1 ⟨vs, H1, I1, r, q⟩ => ⟨I1.kIn, ?_⟩) he hpl
  exact run_fnG F hgd hr hb hd hx I1 r q
variable {g : List Value → List Value → List Value} {gV : List V → List V → List V}
theorem run_fnkG {pins : List (Addr × Obj)} {σ : L2.St} {H : Hp} {s : Shared} {Q : VK} {us ws : List Value} {vs zs : List V} (F : FnG X.prog X.w X.K X.mg X.base CX k f fd ps sp) (hgd : X.A.guards = some []) (hr : Room k X.A) (hb : KBinds X.K fd ps ks g gV) (hx : Passes CX X E)
    (I : Inv X pins σ H s) (r : Vals vs us) (rz : Vals zs ws) (h : sp (gV vs zs) H Q E) : wpAny (model X.prog X.w) X.A (call (.ref f) us (ks.zip ws)) (EP X pins σ Q) X.xe s := by
  have r2 := hb.rel r rz
  have hl : (g us ws).length = ps.length := by rw [← r2.length]; exact F.len _ _ _ _ h
  refine wpAny_call (codeAny_mono (F.run X.A X.stack s H ⟨us, ks.zip ws⟩ (g us ws) (gV vs zs) Q E hgd hr I.env0 (hb.to s us ws I.kIn hl) r2 h) fun r s' hq => ?_)
  cases r with
  | error e => exact hx pins σ H s e s' I hq
  | ok fl =>
    cases fl with
    | ret u => exact I.after hq
    | next => exact False.elim hq
    | brk => exact False.elim hq
    | cont => exact False.elim hq
/-- f(k = v, ..) -/
theorem pe_callK0 (F : FnG X.prog X.w X.K X.mg X.base CX k f fd ps sp) (hgd : X.A.guards = some []) (hr : Room k X.A) (hg : Gl X x) (hm : X.mg x = some (.ref f)) (hk : PySem.W.keepIn X.K (.ref f) = true) (hb : KBinds X.K fd ps ks g gV) (hx : Passes CX X E)
    (hkw : PK X kws tk) (hall : (backToKw pos (keywordEach kws X.env)).all (·.1.isSome) = true := by rfl) (hks : (backToKw pos (keywordEach kws X.env)).filterMap (·.1) = ks := by rfl)
    (hdb : (x == ("__debug__" : Str)) = false := by decide) (hpl : ((backTo pos (starEach [] X.env)).any (·.1) || (backToKw pos (keywordEach kws X.env)).any (·.1.isNone)) = false := by rfl) :
    PE X (.Call (.Name x p) [] kws pos) (fun σ H Q => tk σ H fun zs H2 => sp (gV [] zs) H2 Q E) := by
  refine ⟨fun pins s σ H Q I h => ?_⟩
  refine wpAny_Call_Name_kw (ld_glob I hg hm ?_ hdb)
  refine PySem.W.callWith_KW0 (h₀ := X.base) I.ok.mod.kin hk hall ?_ hpl
  refine thn (hkw.run pos pins s σ H _ I h) fun ws s2 ⟨zs, H2, I2, rz, q2⟩ => ⟨I2.kIn, ?_⟩
  rw [hks]
  exact run_fnkG F hgd hr hb hx I2 .nil rz q2
theorem pe_callKG (F : FnG X.prog X.w X.K X.mg X.base CX k f fd ps sp) (hgd : X.A.guards = some []) (hr : Room k X.A) (hg : Gl X x) (hm : X.mg x = some (.ref f)) (hk : PySem.W.keepIn X.K (.ref f) = true) (hb : KBinds X.K fd ps ks g gV) (hx : Passes CX X E)
    (ha : PA X (e :: es) t) (hkw : PK X kws tk) (hall : (backToKw pos (keywordEach kws X.env)).all (·.1.isSome) = true := by rfl) (hks : (backToKw pos (keywordEach kws X.env)).filterMap (·.1) = ks := by rfl)
    (hdb : (x == ("__debug__" : Str)) = false := by decide) (he : starEach (e :: es) X.env = (false, eval e X.env) :: starEach es X.env := by rfl)
    (hpl : ((backTo pos (starEach (e :: es) X.env)).any (·.1) || (backToKw pos (keywordEach kws X.env)).any (·.1.isNone)) = false := by rfl) :
    PE X (.Call (.Name x p) (e :: es) kws pos) (tCallK sp gV E t tk) := by
  refine ⟨fun pins s σ H Q I h => ?_⟩
  refine wpAny_Call_Name_kw (ld_glob I hg hm ?_ hdb)
  refine PySem.W.callWith_KW (h₀ := X.base) I.ok.mod.kin hk hall (thn (ha.run pos pins s σ H _ I h) fun us s1 ⟨vs, H1, I1, r, q⟩ => ?_) hpl he
  refine thn (hkw.run pos pins s1 σ H1 _ I1 q) fun ws s2 ⟨zs, H2, I2, rz, q2⟩ => ⟨I2.kIn, ?_⟩
  rw [hks]
  exact run_fnkG F hgd hr hb hx I2 r rz q2
end

/-! ### pure defs -/
abbrev FnP (P : Program) (w : World) (K : PySem.W.Frag) (mg : Str → Option Value) (base : Heap) (k : Nat) (f : Addr) (fd : FuncData) (ps : List Str) (F : List PyData → Option R) : Prop := FnG P w K mg base CX0 k f fd ps (spP K ps.length F)
def NewB (K : PySem.W.Frag) (H H' : Hp) (w : V) : R → Prop
  | .val d => Rp K H' w d
  | .tmp e => ∃ q, w = .ref q ∧ H q = none ∧ ObOk K H' q e
  | .slot _ => False
/-- a def whose first argument is a list of its caller's (the draws' box), which it changes -/
def spB (K : PySem.W.Frag) (n : Nat) (G : Ob → List PyData → Option (R × Ob)) : Sp := fun vs H Q _ => ∃ p c vs' ds z c', vs = .ref p :: vs' ∧ ObOk K H p c ∧ RpAll K H vs' ds ∧ ds.length + 1 = n ∧ G c ds = some (z, c') ∧
  ∀ H' w, (∀ b o, b ≠ p → H b = some o → H' b = some o) → ObOk K H' p c' → NewB K H H' w z → Q w H'
abbrev FnB (P : Program) (w : World) (K : PySem.W.Frag) (mg : Str → Option Value) (base : Heap) (k : Nat) (f : Addr) (fd : FuncData) (ps : List Str) (G : Ob → List PyData → Option (R × Ob)) : Prop := FnG P w K mg base CX0 k f fd ps (spB K ps.length G)
def runB (N : Nat) (f : DenS) (c : Ob) (ds : List PyData) : Option (R × Ob) := ((f (env0 N (.own c :: ds.map .fz))).bind ret).bind fun y => match y.2[0]? with
  | some (Sl.own c') => some (y.1, c')
  | _ => none
section
variable {P : Program} {w : World} {K : PySem.W.Frag} {mg : Str → Option Value} {base : Heap}
theorem ret_noslot {o : Out} {r' : Nms} {i : Nat} (q3 : ret o = some (.slot i, r')) : False := by
  cases o with
  | nx r1 => cases q3
  | bk r1 => cases q3
  | ct r1 => cases q3
  | rt x r1 =>
    cases x with
    | val d => cases q3
    | tmp c => cases q3
    | slot i =>
      have q3 : (match r1[i]? with
        | some (.own c) => some (R.tmp c, r1.set i .un)
        | some (.fz d) => some (R.val d, r1)
        | _ => none) = some _ := q3
      split at q3 <;> cases q3
theorem fnP_of {x qual : Str} {st : Stmt} {f : Addr} {fd : FuncData} {N ps : List Str} {k : Nat} {F : List PyData → Option R} (hF : Fun K x qual st f fd) (S : FnScope N ps (defScope st))
    (hbody : ∀ (cdv : Value) (A : Around) (outer : List Env) (s : Shared) (H : Hp), (A.deeper (envOfC qual (defScope st) s.heap.objs.size f cdv)).guards = some [] → Room k (A.deeper (envOfC qual (defScope st) s.heap.objs.size f cdv)) →
      ∃ g, Bx false (cxOf CX0 P w K mg base N qual (defScope st) f cdv A outer s H E0).nox (defBody st) g ∧ ∀ ds z, F ds = some z → runP N.length g ds = some z) : FnP P w K mg base (k + 1) f fd ps F := by
  obtain ⟨oc, od, kV, doc, pm, an, cdv, ct, osl, rfl, lk, hcd⟩ := hF.ex
  refine fn_G lk hcd S (fun vs H Q E h => ?_) (fun A outer s H vs Q E hgd hr h => ?_)
  · obtain ⟨ds, z, ra, hl, _⟩ := h
    rw [ra.length, hl]
  · obtain ⟨g, hg, hz⟩ := hbody cdv A outer s H hgd hr
    obtain ⟨ds, z, ra, hl, hF, k⟩ := h
    refine ⟨_, hg.nox, ?_⟩
    have q := hz ds z hF
    unfold runP at q
    obtain ⟨⟨z', r'⟩, q1, e⟩ := Option.map_eq_some_iff.mp q
    cases e
    obtain ⟨o, q2, q3⟩ := Option.bind_eq_some_iff.mp q1
    refine ⟨fun _ => False, _, o, ra.env0, q2, ret_read q3 fun H' O' σ' v st1 E1 _ ro => k H' v ?_⟩
    have sm : Same H H' := fun b o e => st1.keep b o e fun z => z
    cases z' with
    | val d => exact ⟨sm, ro⟩
    | tmp c =>
      obtain ⟨p, rfl, ob, op, _⟩ := ro
      exact ⟨sm, p, rfl, (st1.own p op).elim (fun z => z.elim) id, ob⟩
    | slot i => exact (ret_noslot q3).elim
theorem fnB_of {x qual : Str} {st : Stmt} {f : Addr} {fd : FuncData} {N ps : List Str} {k : Nat} {G : Ob → List PyData → Option (R × Ob)} (hF : Fun K x qual st f fd) (S : FnScope N ps (defScope st))
    (hbody : ∀ (cdv : Value) (A : Around) (outer : List Env) (s : Shared) (H : Hp), (A.deeper (envOfC qual (defScope st) s.heap.objs.size f cdv)).guards = some [] → Room k (A.deeper (envOfC qual (defScope st) s.heap.objs.size f cdv)) →
      ∃ g, Bx true (cxOf CX0 P w K mg base N qual (defScope st) f cdv A outer s H E0).nox (defBody st) g ∧ ∀ c ds z, G c ds = some z → runB N.length g c ds = some z) : FnB P w K mg base (k + 1) f fd ps G := by
  obtain ⟨oc, od, kV, doc, pm, an, cdv, ct, osl, rfl, lk, hcd⟩ := hF.ex
  refine fn_G lk hcd S (fun vs H Q E h => ?_) (fun A outer s H vs Q E hgd hr h => ?_)
  · obtain ⟨p, c, vs', ds, z, c', rfl, ob, ra, hl, _⟩ := h
    rw [List.length_cons, ra.length, hl]
  · obtain ⟨g, hg, hz⟩ := hbody cdv A outer s H hgd hr
    obtain ⟨p, c, vs', ds, z, c', rfl, ob, ra, hl, hG, k⟩ := h
    refine ⟨_, hg.nox, ?_⟩
    have q := hz c ds _ hG
    unfold runB at q
    obtain ⟨⟨z', r'⟩, q1, q4⟩ := Option.bind_eq_some_iff.mp q
    obtain ⟨o, q2, q3⟩ := Option.bind_eq_some_iff.mp q1
    have q4 : (match r'[0]? with
      | some (Sl.own c') => some (z', c')
      | _ => none) = some (z, c') := q4
    split at q4
    · rename_i c'' q5
      cases q4
      have E0' : EnvOk K H (fun b => b = p) (env0 N.length (.own c :: ds.map .fz)) (L2.start N (.ref p :: vs')) := by
        refine env0_ok (by rw [List.length_cons, List.length_cons, List.length_map, ra.length]) (fun i v s h1 h2 => ?_) (fun i j s t c1 e1 p1 h1 h2 h3 h4 h5 h6 => ?_) (fun b z => by rw [z]; exact ob.mut)
        · cases i with
          | zero => cases h1; cases h2; exact ⟨p, rfl, ob, rfl⟩
          | succ i =>
            rw [List.getElem?_cons_succ] at h1 h2
            obtain ⟨d, e, rp⟩ := ra.get h1
            rw [List.getElem?_map, e] at h2
            cases h2
            exact ⟨v, rfl, rp⟩
        · have no : ∀ (i : Nat) (s : Sl) (c1 : Ob), (Sl.own c :: ds.map Sl.fz)[i]? = some s → s.ob = some c1 → i = 0 := fun i s c1 h1 h3 => by
            cases i with
            | zero => rfl
            | succ i =>
              rw [List.getElem?_cons_succ, List.getElem?_map] at h1
              cases e : ds[i]? with
              | none => rw [e] at h1; cases h1
              | some d => rw [e] at h1; cases h1; cases h3
          rw [no i s c1 h1 h3, no j t e1 h2 h4]
      refine ⟨fun b => b = p, _, o, E0', q2, ret_read q3 fun H' O' σ' v st1 E1 kp ro => ?_⟩
      -- the box is at its place
      have hσ0 : σ'[0]? = some (some (.ref p)) := by rw [kp.first rfl]; rfl
      obtain ⟨v0, e1, p0, e2, ob', op'⟩ := E1.ok 0 _ q5
      rw [hσ0] at e1; cases e1; cases e2
      refine k H' v (fun b o hb e => st1.keep b o e hb) ob' ?_
      cases z with
      | val d => exact ro
      | tmp c1 =>
        obtain ⟨p1, rfl, ob1, op1, hn⟩ := ro
        refine ⟨p1, rfl, ?_, ob1⟩
        rcases st1.own p1 op1 with z | z
        · exact absurd (show σ'[0]? = some (some (.ref p1)) by rw [z]; exact hσ0) (hn 0 _ _ q5 rfl)
        · exact z
      | slot i => exact (ret_noslot q3).elim
    · cases q4
end

/-! ### calls of defs -/
section
variable {X : Cx} {k : Nat} {f : Addr} {fd : FuncData} {ps : List Str} {x : Str} {p pos : Pos} {e : Expr} {es : List Expr}
def dCall (F : List PyData → Option R) (fs : Denv) : Den := fun r => (fs r).bind fun (ds, r1) => (F ds).bind fun z => some (z, r1)
theorem call_read {K : PySem.W.Frag} {F : List PyData → Option R} {fs : Denv} {n : Nat} {σ : L2.St} {H : Hp} {Q : VK} (hl : ∀ r ds r', fs r = some (ds, r') → ds.length = n) (hw : tX K (dCall F fs) σ H Q) : tXv K fs σ H fun vs H1 => spP K n F vs H1 Q E0 := by
  obtain ⟨O, r, z, r', E, hf, k⟩ := hw
  unfold dCall at hf
  obtain ⟨⟨ds, r1⟩, q1, hf⟩ := Option.bind_eq_some_iff.mp hf
  obtain ⟨z', q2, hf⟩ := Option.bind_eq_some_iff.mp hf
  cases hf
  exact ⟨O, r, ds, r', E, q1, fun H1 O1 vs st1 E1 kp1 ra => ⟨ds, z, ra, hl _ _ _ q1, q2, fun H2 w n => by
    obtain ⟨O3, st3, E3, ro3⟩ := n.done E1
    exact k H2 O3 w (st1.trans st3) E3 kp1 ro3⟩⟩
theorem vNil_len (r : Nms) (ds : List PyData) (r' : Nms) (h : vNil r = some (ds, r')) : ds.length = 0 := by cases h; rfl
theorem vCons_len {g : Den} {gs : Denv} {n : Nat} (hl : ∀ r ds r', gs r = some (ds, r') → ds.length = n) (r : Nms) (ds : List PyData) (r' : Nms) (h : vCons g gs r = some (ds, r')) : ds.length = n + 1 := by
  unfold vCons at h
  obtain ⟨⟨d, r1⟩, _, h⟩ := Option.bind_eq_some_iff.mp h
  obtain ⟨⟨es, r2⟩, q2, h⟩ := Option.bind_eq_some_iff.mp h
  cases h
  rw [List.length_cons, hl _ _ _ q2]
/-- f(e, ..) of a pure def -/
theorem ex_call {F : List PyData → Option R} {fs : Denv} (hF : FnP X.prog X.w X.K X.mg X.base k f fd ps F) (hgd : X.A.guards = some []) (hr : Room k X.A) (hm : X.mg x = some (.ref f)) (hk : PySem.W.keepIn X.K (.ref f) = true) (hb : Binds X.K fd ps [])
    (ha : Exv X (e :: es) fs) (hl : ∀ r ds r', fs r = some (ds, r') → ds.length = ps.length) (hg : Gl X x := by rfl) (hdb : (x == ("__debug__" : Str)) = false := by decide) (he : starEach (e :: es) X.env = (false, eval e X.env) :: starEach es X.env := by rfl) (hpl : (backTo pos (starEach es X.env)).any (·.1) = false := by rfl) :
    Ex X (.Call (.Name x p) (e :: es) [] pos) (dCall F fs) := by
  refine ⟨fun pins s σ H Q I hw => (pe_callG hF hgd hr hg hm hk hb .nil pass0 ha hdb he hpl).run pins s σ H Q I ?_⟩
  obtain ⟨O, r, ds, r', E, q, k⟩ := call_read hl hw
  exact ⟨O, r, ds, r', E, q, fun H1 O1 vs st1 E1 kp1 ra => by
    have := k H1 O1 vs st1 E1 kp1 ra
    show spP X.K ps.length F (vs ++ []) H1 Q E0
    rw [List.append_nil]
    exact this⟩
/-- keywords -/
abbrev Kxv (X : Cx) (kws : List Keyword) (f : Denv) : Prop := PK X kws (tXv X.K f)
theorem kxv_nil : Kxv X [] vNil := by
  refine ⟨fun pos pins s σ H Q I hw => ?_⟩
  obtain ⟨O, r, x, r', E, hf, k⟩ := hw
  cases hf
  exact pk_nil.run pos pins s σ H Q I (k H O [] (Stp.refl _ _) E (Keep.refl _) .nil)
theorem kxv_cons {g : Den} {gs : Denv} {nm : Option Str} {kpos : Pos} {kws : List Keyword} (ha : Ex X e g) (hr : Kxv X kws gs) : Kxv X (⟨nm, e, kpos⟩ :: kws) (vCons g gs) := by
  refine ⟨fun pos pins s σ H Q I hw => (pk_cons (ex_frz ha) hr).run pos pins s σ H Q I ?_⟩
  obtain ⟨O, r, x, r', E, hf, k⟩ := hw
  unfold vCons at hf
  obtain ⟨⟨y, r1⟩, q1, hf⟩ := Option.bind_eq_some_iff.mp hf
  obtain ⟨⟨ys, r2⟩, q2, hf⟩ := Option.bind_eq_some_iff.mp hf
  cases hf
  obtain ⟨w, q3, q4⟩ := Option.bind_eq_some_iff.mp q1
  have := vOf_some q4
  subst this
  exact ⟨O, r, .val y, r1, E, q3, fun H1 O1 v st1 E1 kp1 ro1 => ⟨O1, r1, ys, r', E1, q2, fun H2 O2 vs st2 E2 kp2 ro2 => k H2 O2 _ (st1.trans st2) E2 (kp1.trans kp2) (.cons (Rp.fx (E1.fxOf st2) ro1) ro2)⟩⟩
/-- the keywords' values in the parameters' order: is, the place of each parameter's value -/
def pick {α : Type} (is : List Nat) (xs : List α) : List α := is.filterMap fun i => xs[i]?
theorem RpAll.pick {K : PySem.W.Frag} {H : Hp} {vs : List V} {ds : List PyData} (r : RpAll K H vs ds) : ∀ is : List Nat, RpAll K H (pick is vs) (pick is ds)
  | [] => .nil
  | i :: is => by
    unfold KV.pick
    rw [List.filterMap_cons, List.filterMap_cons]
    cases e : vs[i]? with
    | none =>
      have : ds[i]? = none := by
        rw [List.getElem?_eq_none_iff] at e ⊢
        rw [← r.length]; exact e
      rw [this]
      exact RpAll.pick r is
    | some v =>
      obtain ⟨d, e2, rp⟩ := r.get e
      rw [e2]
      exact .cons rp (RpAll.pick r is)
theorem Vals.pick {vs : List V} {us : List Value} (r : Vals vs us) : ∀ is : List Nat, Vals (pick is vs) (pick is us)
  | [] => .nil
  | i :: is => by
    unfold KV.pick
    rw [List.filterMap_cons, List.filterMap_cons]
    cases e : vs[i]? with
    | none =>
      rw [r.none_of e]
      exact Vals.pick r is
    | some v =>
      obtain ⟨u, e2, rp⟩ := r.get e
      rw [e2]
      exact .cons rp (Vals.pick r is)
def pickK {α : Type} (is : List Nat) (m n : Nat) (us ws : List α) : List α := if us.length = m ∧ ws.length = n then pick is (us ++ ws) else []
theorem kb_of {K : PySem.W.Frag} {qual : Str} {params : Arguments} {body : List Stmt} {scope : Scope} {is : List Nat} {m n : Nat} {ks : List Str} (F : FunD K x qual params body scope [] [] f fd) (hp : ps ≠ [])
    (h : ∀ (kV doc pm : Value) (an : Option Addr) (cdv ct : Value) (us ws : List Value), us.length = m → ws.length = n → bindArgs (PySem.W.fnOf x qual params body scope .none kV doc pm an cdv ct) ⟨us, ks.zip ws⟩ = pure (ps.zip (pick is (us ++ ws)))) :
    KBinds K fd ps ks (pickK is m n) (pickK is m n) := by
  obtain ⟨oc, od, dV, kV, doc, pm, an, cdv, ct, osl, rfl, lk, hcd, hD, hK⟩ := F.ex
  rcases hD with ⟨_, rfl⟩ | ⟨e, _⟩
  · refine ⟨fun s us ws _ hl => ?_, fun {vs us zs ws} r1 r2 => ?_⟩
    · unfold pickK at hl ⊢
      by_cases c : us.length = m ∧ ws.length = n
      · rw [if_pos c]
        exact .of_eq (h kV doc pm an cdv ct us ws c.1 c.2)
      · rw [if_neg c] at hl
        exact absurd (List.eq_nil_of_length_eq_zero hl.symm) hp
    · unfold pickK
      rw [r1.length, r2.length]
      by_cases c : us.length = m ∧ ws.length = n
      · rw [if_pos c, if_pos c]
        exact Vals.pick (r1.append r2) is
      · rw [if_neg c, if_neg c]
        exact .nil
  · exact absurd rfl e
def dCallK (F : List PyData → Option R) (is : List Nat) (gs fs : Denv) : Den := fun r => (gs r).bind fun (cs, r1) => (fs r1).bind fun (ds, r2) => (F (pick is (cs ++ ds))).bind fun z => some (z, r2)
theorem callK_read {K : PySem.W.Frag} {F : List PyData → Option R} {gs fs : Denv} {is : List Nat} {m n l : Nat} {σ : L2.St} {H : Hp} {Q : VK} (hm : ∀ r ds r', gs r = some (ds, r') → ds.length = m) (hn : ∀ r ds r', fs r = some (ds, r') → ds.length = n)
    (hl : ∀ cs ds : List PyData, cs.length = m → ds.length = n → (pick is (cs ++ ds)).length = l) (hw : tX K (dCallK F is gs fs) σ H Q) : tXv K gs σ H fun vs H1 => tXv K fs σ H1 fun zs H2 => spP K l F (pickK is m n vs zs) H2 Q E0 := by
  obtain ⟨O, r, z, r', E, hf, k⟩ := hw
  unfold dCallK at hf
  obtain ⟨⟨cs, r1⟩, q1, hf⟩ := Option.bind_eq_some_iff.mp hf
  obtain ⟨⟨ds, r2⟩, q2, hf⟩ := Option.bind_eq_some_iff.mp hf
  obtain ⟨z', q3, hf⟩ := Option.bind_eq_some_iff.mp hf
  cases hf
  refine ⟨O, r, cs, r1, E, q1, fun H1 O1 vs st1 E1 kp1 ra => ⟨O1, r1, ds, r', E1, q2, fun H2 O2 zs st2 E2 kp2 rb => ?_⟩⟩
  have ra2 := ra.fx (E1.fxOf st2)
  show spP K l F (pickK is m n vs zs) H2 Q E0
  unfold pickK
  rw [if_pos ⟨ra.length.trans (hm _ _ _ q1), rb.length.trans (hn _ _ _ q2)⟩]
  exact ⟨_, z, (ra2.append rb).pick is, hl _ _ (hm _ _ _ q1) (hn _ _ _ q2), q3, fun H3 w n => by
    obtain ⟨O3, st3, E3, ro3⟩ := n.done E2
    exact k H3 O3 w (st1.trans (st2.trans st3)) E3 (kp1.trans kp2) ro3⟩
theorem ex_callK0 {F : List PyData → Option R} {fs : Denv} {is : List Nat} {n : Nat} {ks : List Str} {kws : List Keyword} (hF : FnP X.prog X.w X.K X.mg X.base k f fd ps F) (hgd : X.A.guards = some []) (hr : Room k X.A) (hm : X.mg x = some (.ref f)) (hk : PySem.W.keepIn X.K (.ref f) = true)
    (hb : KBinds X.K fd ps ks (pickK is 0 n) (pickK is 0 n)) (hkw : Kxv X kws fs) (hn : ∀ r ds r', fs r = some (ds, r') → ds.length = n) (hl : ∀ cs ds : List PyData, cs.length = 0 → ds.length = n → (pick is (cs ++ ds)).length = ps.length) (hg : Gl X x := by rfl)
    (hall : (backToKw pos (keywordEach kws X.env)).all (·.1.isSome) = true := by rfl) (hks : (backToKw pos (keywordEach kws X.env)).filterMap (·.1) = ks := by rfl)
    (hdb : (x == ("__debug__" : Str)) = false := by decide) (hpl : ((backTo pos (starEach [] X.env)).any (·.1) || (backToKw pos (keywordEach kws X.env)).any (·.1.isNone)) = false := by rfl) :
    Ex X (.Call (.Name x p) [] kws pos) (dCallK F is vNil fs) :=
  ⟨fun pins s σ H Q I hw => (pe_callK0 hF hgd hr hg hm hk hb pass0 hkw hall hks hdb hpl).run pins s σ H Q I (by
    obtain ⟨O, r, cs, r1, E, q1, h⟩ := callK_read vNil_len hn hl hw
    cases q1
    exact h H O [] (Stp.refl _ _) E (Keep.refl _) .nil)⟩
theorem ex_callKM {F : List PyData → Option R} {gs fs : Denv} {is : List Nat} {m n : Nat} {ks : List Str} {kws : List Keyword} (hF : FnP X.prog X.w X.K X.mg X.base k f fd ps F) (hgd : X.A.guards = some []) (hr : Room k X.A) (hm : X.mg x = some (.ref f)) (hk : PySem.W.keepIn X.K (.ref f) = true)
    (hb : KBinds X.K fd ps ks (pickK is m n) (pickK is m n)) (ha : Exv X (e :: es) gs) (hkw : Kxv X kws fs) (hm2 : ∀ r ds r', gs r = some (ds, r') → ds.length = m) (hn : ∀ r ds r', fs r = some (ds, r') → ds.length = n) (hl : ∀ cs ds : List PyData, cs.length = m → ds.length = n → (pick is (cs ++ ds)).length = ps.length) (hg : Gl X x := by rfl)
    (hall : (backToKw pos (keywordEach kws X.env)).all (·.1.isSome) = true := by rfl) (hks : (backToKw pos (keywordEach kws X.env)).filterMap (·.1) = ks := by rfl)
    (hdb : (x == ("__debug__" : Str)) = false := by decide) (he : starEach (e :: es) X.env = (false, eval e X.env) :: starEach es X.env := by rfl)
    (hpl : ((backTo pos (starEach (e :: es) X.env)).any (·.1) || (backToKw pos (keywordEach kws X.env)).any (·.1.isNone)) = false := by rfl) :
    Ex X (.Call (.Name x p) (e :: es) kws pos) (dCallK F is gs fs) :=
  ⟨fun pins s σ H Q I hw => (pe_callKG hF hgd hr hg hm hk hb pass0 ha hkw hall hks hdb he hpl).run pins s σ H Q I (callK_read hm2 hn hl hw)⟩

/-- f(box, e, ..): the box is a name's own list -/
def dCallB (G : Ob → List PyData → Option (R × Ob)) (i : Nat) (fs : Denv) : Den := fun r => match r[i]? with
  | some (.own _) => (fs r).bind fun (ds, r1) => match r1[i]? with
    | some (.own c) => (G c ds).bind fun (z, c') => some (z, r1.set i (.own c'))
    | _ => none
  | _ => none
theorem callB_done {K : PySem.W.Frag} {H H' : Hp} {O : Addr → Prop} {r : Nms} {σ : L2.St} {p : Addr} {i : Nat} {c c' : Ob} {w : V} {z : R} (E : EnvOk K H O r σ) (hi : r[i]? = some (.own c)) (hσ : σ[i]? = some (some (.ref p)))
    (hk : ∀ b o, b ≠ p → H b = some o → H' b = some o) (ob' : ObOk K H' p c') (hz : NewB K H H' w z) : ∃ O', Stp H O H' O' ∧ EnvOk K H' O' (r.set i (.own c')) σ ∧ ROk K H' O' (r.set i (.own c')) σ w z := by
  obtain ⟨v, e1, p0, e2, ob, op⟩ := E.ok i _ hi
  rw [hσ] at e1; cases e1; cases e2
  have hl : i < r.length := (List.getElem?_eq_some_iff.mp hi).1
  have mp := ob.mut
  have fx : Fx H H' := ⟨fun b o u e => hk b _ (fun z => by rw [z] at e; rw [e] at mp; exact mp) e, fun b xs e => hk b _ (fun z => by rw [z] at e; rw [e] at mp; exact mp) e⟩
  have st : Stp H O H' O := ⟨fun b o e n => hk b o (fun z => n (by rw [z]; exact op)) e, fun _ z => .inl z⟩
  have keep : ∀ q, O q → q ≠ p → H' q = H q := fun q o ne => by
    have := E.mt q o
    cases e : H q with
    | none => rw [e] at this; exact this.elim
    | some u => exact hk q u ne e
  have E' : EnvOk K H' O (r.set i (.own c')) σ := by
    refine ⟨by rw [List.length_set]; exact E.len, fun j t q => ?_, fun a b s t c1 e1 p1 h1 h2 h3 h4 h5 h6 => ?_, fun q o => ?_⟩
    · by_cases hj : i = j
      · subst hj
        rw [List.getElem?_set_self hl] at q
        cases q
        exact ⟨_, hσ, p, rfl, ob', op⟩
      · rw [List.getElem?_set_ne hj] at q
        obtain ⟨v, e1, z⟩ := E.ok j t q
        refine ⟨v, e1, ?_⟩
        have ne : ∀ c1 p1, t.ob = some c1 → v = some (.ref p1) → p1 ≠ p := fun c1 p1 h1 h2 h3 => hj (E.sep i j _ t c c1 p hi q rfl h1 hσ (by rw [e1, h2, h3]))
        cases t with
        | un => trivial
        | fz d => obtain ⟨x, e2, rp⟩ := z; exact ⟨x, e2, rp.fx fx⟩
        | own c1 => obtain ⟨p1, e2, ob1, o1⟩ := z; exact ⟨p1, e2, ob1.fx fx (keep p1 o1 (ne c1 p1 rfl e2)), o1⟩
        | lck c1 => obtain ⟨p1, e2, ob1, o1⟩ := z; exact ⟨p1, e2, ob1.fx fx (keep p1 o1 (ne c1 p1 rfl e2)), o1⟩
    · have back : ∀ (a : Nat) (s : Sl) (c1 : Ob), (r.set i (.own c'))[a]? = some s → s.ob = some c1 → ∃ s2 c2, r[a]? = some s2 ∧ s2.ob = some c2 := fun a s c1 h1 h3 => by
        by_cases ha : i = a
        · subst ha
          exact ⟨_, c, hi, rfl⟩
        · rw [List.getElem?_set_ne ha] at h1
          exact ⟨s, c1, h1, h3⟩
      obtain ⟨s2, c2, q1, q2⟩ := back a s c1 h1 h3
      obtain ⟨t2, d2, q3, q4⟩ := back b t e1 h2 h4
      exact E.sep a b s2 t2 c2 d2 p1 q1 q3 q2 q4 h5 h6
    · by_cases hq : q = p
      · rw [hq]; exact ob'.mut
      · rw [keep q o hq]; exact E.mt q o
  cases z with
  | val d => exact ⟨O, st, E', hz⟩
  | slot j => exact hz.elim
  | tmp e =>
    obtain ⟨q, rfl, hq, obq⟩ := hz
    refine ⟨fun b => O b ∨ b = q, ⟨st.keep, fun b z => by
      rcases z with z | rfl
      · exact .inl z
      · exact .inr hq⟩, E'.add (Same.refl _) obq.mut, q, rfl, obq, .inr rfl, fun j s e h1 h2 h3 => ?_⟩
    obtain ⟨v, e1, z⟩ := E'.ok j s h1
    rw [h3] at e1; cases e1
    have : O q := by
      cases s with
      | un => cases h2
      | fz d => cases h2
      | own c1 => obtain ⟨p1, e2, _, o1⟩ := z; cases e2; exact o1
      | lck c1 => obtain ⟨p1, e2, _, o1⟩ := z; cases e2; exact o1
    have := E.mt q this
    rw [hq] at this
    exact this
theorem ex_callBx {G : Ob → List PyData → Option (R × Ob)} {fs : Denv} {i : Nat} {bx : Str} {bp : Pos} (hF : FnB X.prog X.w X.K X.mg X.base k f fd ps G) (hgd : X.A.guards = some []) (hr : Room k X.A) (hm : X.mg x = some (.ref f)) (hk : PySem.W.keepIn X.K (.ref f) = true) (hb : Binds X.K fd ps [])
    (hv : PE X (.Name bx bp) (tVar i)) (ha : Exv X es fs) (hl : ∀ r ds r', fs r = some (ds, r') → ds.length + 1 = ps.length) (hg : Gl X x := by rfl) (hdb : (x == ("__debug__" : Str)) = false := by decide)
    (he : starEach (.Name bx bp :: es) X.env = (false, eval (.Name bx bp) X.env) :: starEach es X.env := by rfl) (hpl : (backTo pos (starEach es X.env)).any (·.1) = false := by rfl) :
    Ex X (.Call (.Name x p) (.Name bx bp :: es) [] pos) (dCallB G i fs) := by
  refine ⟨fun pins s σ H Q I hw => (pe_callG hF hgd hr hg hm hk hb .nil pass0 (pa_cons hv ha he) hdb he hpl).run pins s σ H Q I ?_⟩
  obtain ⟨O, r, z, r', E, hf, k⟩ := hw
  unfold dCallB at hf
  split at hf
  · rename_i c0 q0
    obtain ⟨⟨ds, r1⟩, q1, hf⟩ := Option.bind_eq_some_iff.mp hf
    have hf : (match r1[i]? with
      | some (.own c) => (G c ds).bind fun (z, c') => some (z, r1.set i (.own c'))
      | _ => none) = some (z, r') := hf
    split at hf
    · rename_i c q2
      obtain ⟨⟨z', c'⟩, q3, hf⟩ := Option.bind_eq_some_iff.mp hf
      cases hf
      obtain ⟨v, e1, p0, e2, _, _⟩ := E.ok i _ q0
      subst e2
      refine ⟨.ref p0, e1, O, r, ds, r1, E, q1, fun H1 O1 vs st1 E1 kp1 ra => ?_⟩
      obtain ⟨v1, e3, p1, e4, ob, op⟩ := E1.ok i _ q2
      rw [e1] at e3; cases e3; cases e4
      rw [List.append_nil]
      refine ⟨p0, c, vs, ds, z, c', rfl, ob, ra, hl _ _ _ q1, q3, fun H2 w hk2 ob2 hz2 => ?_⟩
      obtain ⟨O3, st3, E3, ro3⟩ := callB_done E1 q2 e1 hk2 ob2 hz2
      exact k H2 O3 w (st1.trans st3) E3 (kp1.trans (Keep.set fun c1 z => by rw [q2] at z; cases z)) ro3
    · cases hf
  · cases hf
/-- f(g(..)): the box is just made -/
def dCallT (G : Ob → List PyData → Option (R × Ob)) (g : Den) : Den := fun r => (g r).bind fun y => match y with
  | (.tmp c, r1) => (G c []).bind fun (z, _) => some (z, r1)
  | _ => none
theorem ex_callT {G : Ob → List PyData → Option (R × Ob)} {g : Den} (hF : FnB X.prog X.w X.K X.mg X.base k f fd ps G) (hgd : X.A.guards = some []) (hr : Room k X.A) (hm : X.mg x = some (.ref f)) (hk : PySem.W.keepIn X.K (.ref f) = true) (hb : Binds X.K fd ps [])
    (ha : Ex X e g) (hl : ps.length = 1) (hg : Gl X x := by rfl) (hdb : (x == ("__debug__" : Str)) = false := by decide)
    (he : starEach [e] X.env = (false, eval e X.env) :: starEach [] X.env := by rfl) (hpl : (backTo pos (starEach [] X.env)).any (·.1) = false := by rfl) :
    Ex X (.Call (.Name x p) [e] [] pos) (dCallT G g) := by
  refine ⟨fun pins s σ H Q I hw => (pe_callG hF hgd hr hg hm hk hb .nil pass0 (pa_cons ha pa_nil he) hdb he hpl).run pins s σ H Q I ?_⟩
  obtain ⟨O, r, z, r', E, hf, k⟩ := hw
  unfold dCallT at hf
  obtain ⟨⟨y, r1⟩, q1, hf⟩ := Option.bind_eq_some_iff.mp hf
  cases y with
  | val d => cases hf
  | slot i => cases hf
  | tmp c =>
    obtain ⟨⟨z', c'⟩, q2, hf⟩ := Option.bind_eq_some_iff.mp hf
    cases hf
    refine ⟨O, r, .tmp c, r', E, q1, fun H1 O1 v st1 E1 kp1 ro1 => ?_⟩
    obtain ⟨p0, rfl, ob, op, hn⟩ := ro1
    refine ⟨p0, c, [], [], z, c', rfl, ob, .nil, by rw [hl]; rfl, q2, fun H2 w hk2 ob2 hz2 => ?_⟩
    -- p0 is nobody's: the names stand
    have mp := ob.mut
    have fx : Fx H1 H2 := ⟨fun b o u e => hk2 b _ (fun z => by rw [z] at e; rw [e] at mp; exact mp) e, fun b xs e => hk2 b _ (fun z => by rw [z] at e; rw [e] at mp; exact mp) e⟩
    have st : Stp H1 O1 H2 O1 := ⟨fun b o e n => hk2 b o (fun z => n (by rw [z]; exact op)) e, fun _ z => .inl z⟩
    have keep : ∀ q, O1 q → q ≠ p0 → H2 q = H1 q := fun q o ne => by
      have := E1.mt q o
      cases e : H1 q with
      | none => rw [e] at this; exact this.elim
      | some u => exact hk2 q u ne e
    have E2 : EnvOk X.K H2 O1 r' σ := by
      refine ⟨E1.len, fun j t q => ?_, E1.sep, fun q o => ?_⟩
      · obtain ⟨v, e1, z⟩ := E1.ok j t q
        refine ⟨v, e1, ?_⟩
        have ne : ∀ c1 p1, t.ob = some c1 → v = some (.ref p1) → p1 ≠ p0 := fun c1 p1 h1 h2 h3 => hn j t c1 q h1 (by rw [e1, h2, h3])
        cases t with
        | un => trivial
        | fz d => obtain ⟨x, e2, rp⟩ := z; exact ⟨x, e2, rp.fx fx⟩
        | own c1 => obtain ⟨p1, e2, ob1, o1⟩ := z; exact ⟨p1, e2, ob1.fx fx (keep p1 o1 (ne c1 p1 rfl e2)), o1⟩
        | lck c1 => obtain ⟨p1, e2, ob1, o1⟩ := z; exact ⟨p1, e2, ob1.fx fx (keep p1 o1 (ne c1 p1 rfl e2)), o1⟩
      · by_cases hq : q = p0
        · rw [hq]; exact ob2.mut
        · rw [keep q o hq]; exact E1.mt q o
    cases z with
    | val d => exact k H2 O1 w (st1.trans st) E2 kp1 hz2
    | slot j => exact hz2.elim
    | tmp e =>
      obtain ⟨q, rfl, hq, obq⟩ := hz2
      refine k H2 (fun b => O1 b ∨ b = q) _ (st1.trans ⟨st.keep, fun b z => by
        rcases z with z | rfl
        · exact .inl z
        · exact .inr hq⟩) (E2.add (Same.refl _) obq.mut) kp1 ⟨q, rfl, obq, .inr rfl, fun j s e h1 h2 h3 => ?_⟩
      obtain ⟨v, e1, z⟩ := E2.ok j s h1
      rw [h3] at e1; cases e1
      have : O1 q := by
        cases s with
        | un => cases h2
        | fz d => cases h2
        | own c1 => obtain ⟨p1, e2, _, o1⟩ := z; cases e2; exact o1
        | lck c1 => obtain ⟨p1, e2, _, o1⟩ := z; cases e2; exact o1
      have := E1.mt q this
      rw [hq] at this
      exact this
end
end KV

/-! KV, part 7: slices, stores into lists, isinstance, repr, a module's constants; the law's end. -/
namespace KV
open PySem PySem.Spec PyProof.Rows L2

section
variable {io : Bool} {X : Cx} {a b e : Expr} {f g : Den} {pos : Pos}
/-! ### slices -/
def part (o : Option Den) (r : Nms) : Option (Option Int × Nms) := match o with
  | none => some (none, r)
  | some g => (g r).bind fun y => match y with
    | (.val (.int i), r1) => some (some i, r1)
    | _ => none
def tO (K : PySem.W.Frag) (o : Option Den) : TO := fun σ H Q => ∃ O r x r', EnvOk K H O r σ ∧ part o r = some (x, r') ∧ ∀ H' O', Stp H O H' O' → EnvOk K H' O' r' σ → Keep r r' → Q x H'
theorem po0 : PO X none (tO X.K none) := by
  refine ⟨fun pins s σ H Q I hw => po_none.run pins s σ H Q I ?_⟩
  obtain ⟨O, r, x, r', E, hf, k⟩ := hw
  cases hf
  exact k H O (Stp.refl _ _) E (Keep.refl _)
theorem po1 (he : Ex X e f) : PO X (some e) (tO X.K (some f)) := by
  refine ⟨fun pins s σ H Q I hw => (po_some he).run pins s σ H Q I ?_⟩
  obtain ⟨O, r, x, r', E, hf, k⟩ := hw
  obtain ⟨⟨y, r1⟩, q1, hf⟩ := Option.bind_eq_some_iff.mp hf
  cases y with
  | val d =>
    cases d with
    | int i =>
      cases hf
      refine ⟨O, r, _, r', E, q1, fun H1 O1 v st1 E1 kp1 ro1 => ⟨i, ?_, k H1 O1 st1 E1 kp1⟩⟩
      have ro1 : Rp X.K H1 v (.int i) := ro1
      cases ro1
      rfl
    | _ => cases hf
  | slot i => cases hf
  | tmp c => cases hf
def cutD (xs : List PyData) (lo hi : Option Int) : List PyData := (xs.drop (HT.sIx xs.length 0 lo)).take (HT.sIx xs.length xs.length hi - HT.sIx xs.length 0 lo)
theorem RpAll.cut {K : PySem.W.Frag} {H : Hp} {vs : List V} {ds : List PyData} (r : RpAll K H vs ds) (lo hi : Option Int) : RpAll K H (cutV vs lo hi) (cutD ds lo hi) := by
  unfold cutV cutD
  rw [r.length]
  exact (r.drop _).take _
def opSlice (x : PyData) (lo hi : Option Int) : Option R := match x with
  | .list xs => some (.tmp (.lst (cutD xs lo hi)))
  | .tuple xs => some (.val (.tuple (cutD xs lo hi)))
  | _ => none
def rSl (K : PySem.W.Frag) : V → Option Int → Option Int → Hp → VK → Prop := fun x lo hi H Q => ∃ dx z, Bp K H x dx ∧ opSlice dx lo hi = some z ∧ ∀ H' w, NewR K H H' w z → Q w H'
theorem whole_cut {xs : List PyData} {lo hi : Option Int} (h : HT.sIx xs.length 0 lo = 0 ∧ HT.sIx xs.length xs.length hi = xs.length) : cutD xs lo hi = xs := by
  unfold cutD
  rw [h.1, h.2]
  simp
theorem s_slice : SlR X (rSl X.K) := by
  intro pins s σ H x v vl vu lo hi sl Q I rx hs pl pu hw
  obtain ⟨dx, z, bx, ho, k⟩ := hw
  unfold opSlice at ho
  split at ho
  · cases ho
    obtain ⟨a, ws, rfl, h1, r1⟩ := bx.list
    exact sl_list pins s σ H _ v vl vu lo hi sl Q I rx hs pl pu ⟨a, ws, rfl, h1, fun p hp => k _ _ (new_lst hp (r1.cut lo hi))⟩
  · cases ho
    obtain ⟨a, ws, rfl, h1, r1⟩ := bx.tuple
    refine sl_tupA pins s σ H _ v vl vu lo hi sl Q I rx hs pl pu ⟨a, ws, rfl, h1, fun hh => ?_, fun _ p hp => k _ _ (new_tup hp (r1.cut lo hi))⟩
    rw [r1.length] at hh
    rw [whole_cut hh] at k
    exact k _ _ (new_val (.tup h1 r1))
  · cases ho
def dSlice (f : Den) (lo hi : Option Den) : Den := fun r => (dStl f r).bind fun (x, r1) => (part lo r1).bind fun (l, r2) => (part hi r2).bind fun (h, r3) => (deref r3 x).bind fun dx => (opSlice dx l h).bind fun z => some (z, r3)
theorem ex_slice {lo hi : Option Expr} {dl dh : Option Den} {p2 : Pos} (ha : Ex X a f) (hl : PO X lo (tO X.K dl)) (hh : PO X hi (tO X.K dh)) : Ex X (.Subscript a (.Slice lo hi none p2) pos) (dSlice f dl dh) := by
  refine ⟨fun pins s σ H Q I hw => (pe_slice s_slice (ex_stl ha) hl hh).run pins s σ H Q I ?_⟩
  obtain ⟨O, r, z, r', E, hf, k⟩ := hw
  unfold dSlice at hf
  obtain ⟨⟨x, r1⟩, q1, hf⟩ := Option.bind_eq_some_iff.mp hf
  obtain ⟨⟨l, r2⟩, q2, hf⟩ := Option.bind_eq_some_iff.mp hf
  obtain ⟨⟨h, r3⟩, q3, hf⟩ := Option.bind_eq_some_iff.mp hf
  obtain ⟨dx, q4, hf⟩ := Option.bind_eq_some_iff.mp hf
  obtain ⟨z', q5, hf⟩ := Option.bind_eq_some_iff.mp hf
  cases hf
  refine ⟨O, r, x, r1, E, q1, fun H1 O1 v st1 E1 kp1 ro1 => ⟨O1, r1, l, r2, E1, q2, fun H2 O2 st2 E2 kp2 => ⟨O2, r2, h, r', E2, q3, fun H3 O3 st3 E3 kp3 => ?_⟩⟩⟩
  have fx : Fx H1 H3 := (E1.fxOf st2).trans (E2.fxOf st3)
  refine ⟨dx, z, (ro1.go (O' := O3) (r' := r') fx (dStl_late q1)).deref E3 q4, q5, fun H4 w n => ?_⟩
  obtain ⟨O4, st4, E4, ro4⟩ := n.done E3
  exact k H4 O4 w (st1.trans (st2.trans (st3.trans st4))) E4 (kp1.trans (kp2.trans kp3)) ro4

/-! ### stores into a name's list -/
theorem own_write {K : PySem.W.Frag} {H : Hp} {O : Addr → Prop} {r : Nms} {σ : L2.St} {p : Addr} {i : Nat} {c c' : Ob} {o : HO} (E : EnvOk K H O r σ) (hi : r[i]? = some (.own c)) (hσ : σ[i]? = some (some (.ref p))) (ob' : ObOk K (upd H p o) p c') :
    Stp H O (upd H p o) O ∧ EnvOk K (upd H p o) O (r.set i (.own c')) σ := by
  obtain ⟨v, e1, p0, e2, ob, op⟩ := E.ok i _ hi
  rw [hσ] at e1; cases e1; cases e2
  refine ⟨⟨fun b u e n => by rw [upd_ne (fun z => n (by rw [z]; exact op))]; exact e, fun _ z => .inl z⟩, ?_⟩
  have hl : i < r.length := (List.getElem?_eq_some_iff.mp hi).1
  have mp := ob.mut
  have fx : Fx H (upd H p o) := ⟨fun b o' u e => by rw [upd_ne (fun z => by rw [z] at e; rw [e] at mp; exact mp)]; exact e, fun b xs e => by rw [upd_ne (fun z => by rw [z] at e; rw [e] at mp; exact mp)]; exact e⟩
  refine ⟨by rw [List.length_set]; exact E.len, fun j t q => ?_, fun a b s t c1 e1 p1 h1 h2 h3 h4 h5 h6 => ?_, fun q oq => ?_⟩
  · by_cases hj : i = j
    · subst hj
      rw [List.getElem?_set_self hl] at q
      cases q
      exact ⟨_, hσ, p, rfl, ob', op⟩
    · rw [List.getElem?_set_ne hj] at q
      obtain ⟨v, e1, z⟩ := E.ok j t q
      refine ⟨v, e1, ?_⟩
      have ne : ∀ c1 p1, t.ob = some c1 → v = some (.ref p1) → p1 ≠ p := fun c1 p1 h1 h2 h3 => hj (E.sep i j _ t c c1 p hi q rfl h1 hσ (by rw [e1, h2, h3]))
      cases t with
      | un => trivial
      | fz d => obtain ⟨x, e2, rp⟩ := z; exact ⟨x, e2, rp.fx fx⟩
      | own c1 => obtain ⟨p1, e2, ob1, o1⟩ := z; exact ⟨p1, e2, ob1.fx fx (upd_ne (ne c1 p1 rfl e2)), o1⟩
      | lck c1 => obtain ⟨p1, e2, ob1, o1⟩ := z; exact ⟨p1, e2, ob1.fx fx (upd_ne (ne c1 p1 rfl e2)), o1⟩
  · have back : ∀ (a : Nat) (s : Sl) (c1 : Ob), (r.set i (.own c'))[a]? = some s → s.ob = some c1 → ∃ s2 c2, r[a]? = some s2 ∧ s2.ob = some c2 := fun a s c1 h1 h3 => by
      by_cases ha : i = a
      · subst ha
        exact ⟨_, c, hi, rfl⟩
      · rw [List.getElem?_set_ne ha] at h1
        exact ⟨s, c1, h1, h3⟩
    obtain ⟨s2, c2, q1, q2⟩ := back a s c1 h1 h3
    obtain ⟨t2, d2, q3, q4⟩ := back b t e1 h2 h4
    exact E.sep a b s2 t2 c2 d2 p1 q1 q3 q2 q4 h5 h6
  · by_cases hq : q = p
    · rw [hq]; exact ob'.mut
    · rw [upd_ne hq]; exact E.mt q oq
def intOf : R → Option Int
  | .val (.int k) => some k
  | _ => none
theorem intOf_some {x : R} {k : Int} (h : intOf x = some k) : x = .val (.int k) := by
  cases x with
  | val d => cases d <;> cases h; rfl
  | slot i => cases h
  | tmp c => cases h
def ownL (r : Nms) (i : Nat) : Option (List PyData) := match r[i]? with
  | some (.own (.lst ds)) => some ds
  | _ => none
theorem ownL_some {r : Nms} {i : Nat} {ds : List PyData} (h : ownL r i = some ds) : r[i]? = some (.own (.lst ds)) := by
  unfold ownL at h
  split at h
  · rename_i e q
    cases h
    exact q
  · cases h
/-- xs.append(e), as a value (None) -/
def dApp (i : Nat) (g : Den) : Den := fun r => (ownL r i).bind fun _ => ((dFrz g r).bind vOf).bind fun (d, r1) => (ownL r1 i).bind fun ds => if ds.length < sizeLine then some (.val .none, r1.set i (.own (.lst (ds ++ [d])))) else none
theorem ex_app {i : Nat} {x : Str} {px apos cpos : Pos} (hv : PE X (.Name x px) (tVar i)) (he : Ex X e g) (hbase : attributeBase (.Name x px) ("append" : Str) X.env (eval (.Name x px) X.env) = eval (.Name x px) X.env := by rfl)
    (hfew : ((backTo cpos (starEach [e] X.env)).all (fun x => !x.1) && (backToKw cpos (keywordEach [] X.env)).all (fun x => x.1.isSome)
      && decide ([e].length + ([] : List Keyword).length + (if ([] : List Keyword).isEmpty then 0 else 1) < 30)) = true := by rfl)
    (hline : (apos.endLine == cpos.line) = true := by rfl) (hs : starEach [e] X.env = (false, eval e X.env) :: starEach [] X.env := by rfl) (hplain : (backTo cpos (starEach [] X.env)).any (·.1) = false := by rfl) :
    Ex X (.Call (.Attribute (.Name x px) ("append" : Str) apos) [e] [] cpos) (dApp i g) := by
  refine ⟨fun pins s σ H Q I hw => (pe_bm PySem.F.plainAttrs_list PySem.F.slot_list_append PySem.F.type_list_append mt_append hv (pa_cons (ex_frz he) pa_nil hs) hbase hfew hline hs hplain).run pins s σ H Q I ?_⟩
  obtain ⟨O, r, z, r', E, hf, k⟩ := hw
  unfold dApp at hf
  obtain ⟨ds0, q0, hf⟩ := Option.bind_eq_some_iff.mp hf
  obtain ⟨⟨d, r1⟩, q1, hf⟩ := Option.bind_eq_some_iff.mp hf
  obtain ⟨y, q2, q3⟩ := Option.bind_eq_some_iff.mp q1
  have := vOf_some q3
  subst this
  obtain ⟨ds, q4, hf⟩ := Option.bind_eq_some_iff.mp hf
  have q0 := ownL_some q0
  have q4 := ownL_some q4
  split at hf
  · rename_i hz
    cases hf
    obtain ⟨v, e1, p0, e2, ⟨vs0, hp0, _⟩, _⟩ := E.ok i _ q0
    subst e2
    refine ⟨.ref p0, e1, .inl ⟨rfl, vs0, SqL.of hp0⟩, O, r, .val d, r1, E, q2, fun H1 O1 w st1 E1 kp1 ro1 => ?_⟩
    obtain ⟨v1, e3, p1, e4, ⟨vs, hp, ra⟩, op⟩ := E1.ok i _ q4
    rw [e1] at e3; cases e3; cases e4
    refine ⟨p0, vs, w, rfl, rfl, hp, by rw [ra.length]; exact hz, ?_⟩
    have fx : Fx H1 (upd H1 p0 (.lst (vs ++ [w]))) := ⟨fun b o' u e => by rw [upd_ne (fun z => by rw [z, hp] at e; cases e)]; exact e, fun b xs e => by rw [upd_ne (fun z => by rw [z, hp] at e; cases e)]; exact e⟩
    obtain ⟨st2, E2⟩ := own_write (c' := .lst (ds ++ [d])) E1 q4 e1 ⟨vs ++ [w], upd_same, (ra.fx fx).append (.cons (Rp.fx fx ro1) .nil)⟩
    exact k _ O1 .non (st1.trans st2) E2 (kp1.trans (Keep.set fun c1 z => by rw [q4] at z; cases z)) .non
  · cases hf
/-- xs[h] = e -/
def dSetIx (i : Nat) (g h : Den) : DenS := fun r => ((dFrz g r).bind vOf).bind fun (d, r1) => (ownL r1 i).bind fun _ => (h r1).bind fun (y, r2) => (intOf y).bind fun k => (ownL r2 i).bind fun ds => (ixN ds.length k).bind fun j => some (.nx (r2.set i (.own (.lst (ds.set j d)))))
theorem sx_setIx {i : Nat} {x : Str} {px tpos : Pos} {h : Den} (hv : PE X (.Name x px) (tVar i)) (he : Ex X e g) (hi : Ex X a h)
    (ha : ∀ v, assign (.Subscript (.Name x px) a tpos) X.env v = (do
      let ov ← holding [v] (eval (.Name x px) X.env)
      let iv ← holding [v, ov] (eval a X.env)
      standAt tpos
      holding [v, ov, iv] (setItem ov iv v)
      release [v, ov, iv] []) := by intro _; rfl)
    (hs : swapsWithSole [.Subscript (.Name x px) a tpos] e pos.line X.env = pure false := by rfl) (hw : swappedStores [.Subscript (.Name x px) a tpos] e X.env = pure none := by rfl)
    (h1 : (assignEach [.Subscript (.Name x px) a tpos] X.env).map (·.2) = [assign (.Subscript (.Name x px) a tpos) X.env] := by rfl) : Sx io X (.Assign [.Subscript (.Name x px) a tpos] e pos) (dSetIx i g h) := by
  refine ⟨fun pins s σ H D I hh => (ps_asg (ex_frz he) (pg_sub hv hi set_list ha) hs hw h1).run pins s σ H D I ?_⟩
  obtain ⟨O, r, o, E, hf, k⟩ := hh
  unfold dSetIx at hf
  obtain ⟨⟨d, r1⟩, q1, hf⟩ := Option.bind_eq_some_iff.mp hf
  obtain ⟨y, q2, q3⟩ := Option.bind_eq_some_iff.mp q1
  have := vOf_some q3
  subst this
  obtain ⟨ds0, q0, hf⟩ := Option.bind_eq_some_iff.mp hf
  obtain ⟨⟨y, r2⟩, q4, hf⟩ := Option.bind_eq_some_iff.mp hf
  obtain ⟨kk, q5, hf⟩ := Option.bind_eq_some_iff.mp hf
  obtain ⟨ds, q6, hf⟩ := Option.bind_eq_some_iff.mp hf
  obtain ⟨j, q7, hf⟩ := Option.bind_eq_some_iff.mp hf
  cases hf
  have := intOf_some q5
  subst this
  have q0 := ownL_some q0
  have q6 := ownL_some q6
  refine ⟨O, r, .val d, r1, E, q2, fun H1 O1 w st1 E1 kp1 ro1 => ?_⟩
  obtain ⟨v, e1, p0, e2, _, _⟩ := E1.ok i _ q0
  subst e2
  refine ⟨.ref p0, e1, O1, r1, .val (.int kk), r2, E1, q4, fun H2 O2 u st2 E2 kp2 ro2 => ?_⟩
  have ro2 : Rp X.K H2 u (.int kk) := ro2
  cases ro2
  obtain ⟨v1, e3, p1, e4, ⟨vs, hp, ra⟩, op⟩ := E2.ok i _ q6
  rw [e1] at e3; cases e3; cases e4
  refine ⟨p0, vs, kk, j, rfl, rfl, hp, by rw [ra.length]; exact q7, ?_⟩
  have fx : Fx H2 (upd H2 p0 (.lst (vs.set j w))) := ⟨fun b o' u e => by rw [upd_ne (fun z => by rw [z, hp] at e; cases e)]; exact e, fun b xs e => by rw [upd_ne (fun z => by rw [z, hp] at e; cases e)]; exact e⟩
  obtain ⟨st3, E3⟩ := own_write (c' := .lst (ds.set j d)) E2 q6 e1 ⟨vs.set j w, upd_same, (ra.fx fx).set j (Rp.fx fx (Rp.fx (E1.fxOf st2) ro1))⟩
  exact k _ O2 σ (st1.trans (st2.trans st3)) E3 (KeepS.of (kp1.trans (kp2.trans (Keep.set fun c1 z => by rw [q6] at z; cases z))))

/-! ### isinstance -/
def tyN : PyData → String
  | .none => "NoneType"
  | .bool _ => "bool"
  | .int _ => "int"
  | .str _ => "str"
  | .list _ => "list"
  | .tuple _ => "tuple"
  | .dict _ => "dict"
theorem Bp.ty {K : PySem.W.Frag} {H : Hp} {v : V} {d : PyData} (h : Bp K H v d) : TyX K H v (.type (tyN d)) := by
  cases h with
  | rp h =>
    cases h with
    | non => exact .base .non
    | bl b => exact .base (.bl b)
    | int i => exact .base (.int i)
    | str x => exact .base (.str x)
    | lst h1 h2 =>
      rcases h1 with ⟨o, h1⟩ | ⟨o, its, n, h1, hc, _⟩
      · exact .base (.frz h1)
      · exact .kList h1 hc
    | tup h1 h2 =>
      rcases h1 with (h1 | ⟨o, h1⟩) | ⟨o, its, n, h1, hc, _⟩
      · exact .base (.tup h1)
      · exact .fTuple h1
      · exact .kTuple h1 hc
  | @ob p c h =>
    cases c with
    | lst ds => obtain ⟨vs, e, _⟩ := h; exact .base (.lst e)
def isT (T : String) (d : PyData) : Option Bool := kitB (tyN d) T
def dIsi (f : Den) (T : String) : Den := fun r => (dStl f r).bind fun (x, r1) => (deref r1 x).bind fun d => (isT T d).map fun b => (.val (.bool b), r1)
theorem ex_isi {T : String} {TN : Str} {p p2 : Pos} (ha : Ex X e f) (hg : Gl X "isinstance") (hm : X.mg "isinstance" = none) (hg2 : Gl X TN) (hm2 : X.mg TN = none) (hv : bootBuiltins TN = some (.type T)) (hn : TN ≠ "__name__" := by decide) (hd : (TN == ("__debug__" : Str)) = false := by decide)
    (hs : starEach [e, .Name TN p2] X.env = (false, eval e X.env) :: starEach [.Name TN p2] X.env := by rfl) (hs2 : starEach [.Name TN p2] X.env = (false, eval (.Name TN p2) X.env) :: starEach [] X.env := by rfl) (hpl : (backTo pos (starEach [.Name TN p2] X.env)).any (·.1) = false := by rfl) :
    Ex X (.Call (.Name "isinstance" p) [e, .Name TN p2] [] pos) (dIsi f T) := by
  refine ⟨fun pins s σ H Q I hw => (pe_callB call_isi hg hm (by decide +kernel) (pa_cons (ex_stl ha) (pa_cons (pe_bltn hg2 hm2 hv (v := .ty T) rfl hn hd) pa_nil hs2) hs) (he := hs) (hpl := hpl)).run pins s σ H Q I ?_⟩
  obtain ⟨O, r, z, r', E, hf, k⟩ := hw
  unfold dIsi at hf
  obtain ⟨⟨x, r1⟩, q1, hf⟩ := Option.bind_eq_some_iff.mp hf
  obtain ⟨d, q2, hf⟩ := Option.bind_eq_some_iff.mp hf
  obtain ⟨b, q3, e⟩ := Option.map_eq_some_iff.mp hf
  cases e
  exact ⟨O, r, x, r', E, q1, fun H1 O1 v st1 E1 kp1 ro1 => ⟨v, .ty T, _, .type T, b, rfl, .ty T, (ro1.deref E1 q2).ty, kit_ty q3, k H1 O1 _ st1 E1 kp1 (.bl b)⟩⟩
def isT2 (T U : String) (d : PyData) : Option Bool := (isT T d).bind fun b => if b = true then some true else isT U d
def dIsi2 (f : Den) (T U : String) : Den := fun r => (dStl f r).bind fun (x, r1) => (deref r1 x).bind fun d => (isT2 T U d).map fun b => (.val (.bool b), r1)
theorem kit2 {K : PySem.W.Frag} {T U : String} {d : PyData} {b : Bool} (h : isT2 T U d = some b) : PySem.W.kitAny K (.type (tyN d)) [.type T, .type U] = some b := by
  obtain ⟨c, q, h⟩ := Option.bind_eq_some_iff.mp h
  refine kitAny_cons (kit_ty q) (fun e => ?_) (fun e => ?_)
  · subst e
    rw [if_neg Bool.false_ne_true] at h
    exact kitAny_cons (kit_ty h) (fun e => by subst e; rfl) (fun e => e)
  · subst e
    rw [if_pos rfl] at h
    exact (Option.some.inj h).symm
theorem ex_isi2 {T U : String} {TN UN : Str} {p p2 p3 tp : Pos} {kk : Nat} (ha : Ex X e f) (hg : Gl X "isinstance") (hm : X.mg "isinstance" = none) (hg2 : Gl X TN) (hm2 : X.mg TN = none) (hv : bootBuiltins TN = some (.type T)) (hg3 : Gl X UN) (hm3 : X.mg UN = none) (hv3 : bootBuiltins UN = some (.type U))
    (hn : TN ≠ "__name__" := by decide) (hd : (TN == ("__debug__" : Str)) = false := by decide) (hn3 : UN ≠ "__name__" := by decide) (hd3 : (UN == ("__debug__" : Str)) = false := by decide)
    (hs : starEach [e, .Tuple [.Name TN p2, .Name UN p3] kk tp] X.env = (false, eval e X.env) :: starEach [.Tuple [.Name TN p2, .Name UN p3] kk tp] X.env := by rfl) (hpl : (backTo pos (starEach [.Tuple [.Name TN p2, .Name UN p3] kk tp] X.env)).any (·.1) = false := by rfl) :
    Ex X (.Call (.Name "isinstance" p) [e, .Tuple [.Name TN p2, .Name UN p3] kk tp] [] pos) (dIsi2 f T U) := by
  refine ⟨fun pins s σ H Q I hw => (pe_callB call_isiT hg hm (by decide +kernel) (pa_cons (ex_stl ha) (pa_cons (pe_tup (pa_cons (pe_bltn hg2 hm2 hv (v := .ty T) rfl hn hd) (pa_cons (pe_bltn hg3 hm3 hv3 (v := .ty U) rfl hn3 hd3) pa_nil))) pa_nil) hs) (he := hs) (hpl := hpl)).run pins s σ H Q I ?_⟩
  obtain ⟨O, r, z, r', E, hf, k⟩ := hw
  unfold dIsi2 at hf
  obtain ⟨⟨x, r1⟩, q1, hf⟩ := Option.bind_eq_some_iff.mp hf
  obtain ⟨d, q2, hf⟩ := Option.bind_eq_some_iff.mp hf
  obtain ⟨b, q3, e⟩ := Option.map_eq_some_iff.mp hf
  cases e
  refine ⟨O, r, x, r', E, q1, fun H1 O1 v st1 E1 kp1 ro1 => ⟨by rw [sizeLine_eq]; show 2 ≤ 16777216; decide, fun q hq => ?_⟩⟩
  have sm : Same H1 (upd H1 q (.tup [.ty T, .ty U])) := same_upd hq
  have E2 := E1.same sm
  have ro2 : ROk X.K (upd H1 q (.tup [.ty T, .ty U])) O1 r' σ v x := ro1.go (Fx.of_same sm) (dStl_late q1)
  exact ⟨v, q, [.ty T, .ty U], _, [.type T, .type U], b, rfl, upd_same, .cons (.ty T) (.cons (.ty U) .nil), (ro2.deref E2 q2).ty, kit2 q3, k _ O1 _ (st1.trans (Stp.of_same sm)) E2 kp1 (.bl b)⟩

/-! ### repr -/
def opRepr : OpN := fun ds => match ds with
  | [d] => if d.showable = true ∧ d.shown.length ≤ sizeLine ∧ d.depth ≤ 60 then some (.val (.str d.shown)) else none
  | _ => none
mutual
theorem no_dict : ∀ d : PyData, d.plain = true → d.hasDict = false
  | .none, _ => rfl
  | .bool _, _ => rfl
  | .int _, _ => rfl
  | .str _, _ => rfl
  | .list xs, h => by rw [PyData.plain] at h; rw [PyData.hasDict]; exact no_dictAll xs h
  | .tuple xs, h => by rw [PyData.plain] at h; rw [PyData.hasDict]; exact no_dictAll xs h
  | .dict _, h => nomatch h
theorem no_dictAll : ∀ xs : List PyData, PyData.plainAll xs = true → PyData.hasDictAll xs = false
  | [], _ => rfl
  | x :: xs, h => by
    rw [PyData.plainAll, Bool.and_eq_true] at h
    rw [PyData.hasDictAll, no_dict x h.1, no_dictAll xs h.2]; rfl
end
theorem c_repr (hg : X.A.guards = some []) (hu : X.A.units + 64 < cLine) : CallR X (.builtin "repr") (rDN X.K opRepr) := by
  intro pins s σ H vs us Q I rv hw
  obtain ⟨ds, z, bs, ho, k⟩ := hw
  unfold opRepr at ho
  split at ho
  · rename_i d
    split at ho
    · rename_i hc
      cases ho
      obtain ⟨v, rfl, b⟩ := bs.one
      obtain ⟨u, rfl, ru⟩ := vals1 rv
      obtain ⟨as, r1⟩ := Dp.reads I d v u b.dp ru
      have nd := no_dict d (dp_plain b.dp)
      have fin : ∀ (h' : Heap) (u : Tok) (tk : Nat), (∀ b o, s.heap.get? b = some o → h'.get? b = some o) → EP X pins σ Q (.str d.shown u) { s with heap := h', toks := tk } :=
        fun h' u tk hk => ⟨.str d.shown, H, I.kept hk, ⟨u, rfl⟩, k H _ (new_val (.str _))⟩
      have big : ∀ a, u = .ref a → wpAny (model X.prog X.w) X.A (call (.builtin "repr") [u]) (EP X pins σ Q) X.xe s := fun a e => by
        subst e
        exact repr_of_reads' r1 hc.1 (fun h => by rw [nd] at h; cases h) hg (by omega) (fun _ _ e => e) fin hc.2.1
      cases r1 with
      | none => exact PySem.P.repr_of_none (fin s.heap _ _ fun _ _ e => e)
      | bool b => exact PySem.P.repr_of_bool (by
          have := fin s.heap s.toks (s.toks + 1) fun _ _ e => e
          rw [PyData.shown] at this
          exact this)
      | int i t => exact PySem.P.repr_of_int (by have := hc.1; rw [PyData.showable] at this; exact of_decide_eq_true this) (by
          have := fin s.heap s.toks (s.toks + 1) fun _ _ e => e
          rw [PyData.shown] at this
          exact this)
      | str x t => exact PySem.P.repr_of_str (by
          have := fin s.heap s.toks (s.toks + 1) fun _ _ e => e
          rw [PyData.shown] at this
          exact this) (by have := hc.2.1; rw [PyData.shown] at this; exact this)
      | list h1 h2 h3 h4 => exact big _ rfl
      | tuple h1 h2 h3 h4 => exact big _ rfl
      | dict h1 h2 h3 h4 h5 => exact big _ rfl
    · cases ho
  · cases ho

/-! ### a module's constant -/
theorem ex_glob {x : Str} {v : V} {d : PyData} {u : Value} (hm : X.mg x = some u) (r : L2.RelV v u) (hr : ∀ H, Rp X.K H v d) (hg : Gl X x := by rfl) (hd : (x == ("__debug__" : Str)) = false := by decide) : Ex X (.Name x pos) (dC d) := ex_c (pe_glob hg hm r hd) hr
end

/-! ### the law's end -/
theorem law_callG {P : Program} {w : World} {K : PySem.W.Frag} {mg mb : Str → Option Value} {k : Nat} {fa a : Addr} {fd : FuncData} {x : Str} {F : List PyData → Option R} {s₁ : Shared} {vs : List Value} {ns : List Int}
    (KX : K.In s₁.heap) (hns : s₁.heap.Ns mainGlobals mg) (hb : s₁.heap.Ns builtinsNs mb) (hbb : ∀ x : Str, x ≠ "__name__" → mb x = bootBuiltins x) (hlim : s₁.heap.NoLimit) (hg : s₁.gens = #[])
    (ha : s₁.heap.get? a = some { cls := .type "list", data := .seq vs.toArray }) (hi : IntsAre vs ns) (hl : ns.length ≤ sizeLine) (hr : Room k callerA)
    (hF : ∀ base : Heap, K.In base → base.Ns mainGlobals mg → FnP P w K mg base k fa fd [x] F) (hbind : ∀ (s : Shared) (u : Value), BindsTo s fd ⟨[u], []⟩ [(x, u)])
    (hsp : F [.list (ns.map .int)] = some (.val (.bool true))) :
    codeAny (model P w) callerA (.call (.ref fa) ⟨[.ref a], []⟩) (fun r s' => r = .ok (.ret (.bool true)) ∧ OldK s₁.heap s'.heap ∧ s'.os = s₁.os ∧ AllBare s'.gens) s₁ := by
  have rv := vals_ints hi
  have lenV := hi.length
  have core : ∀ H : Hp, Only H → FzL K H a (ns.map V.int) → HOk P w H s₁.heap → (∀ b, H b ≠ none → b = a) → (H a ≠ none → K.lookup a = none) →
      codeAny (model P w) callerA (.call (.ref fa) ⟨[.ref a], []⟩) (fun r s' => r = .ok (.ret (.bool true)) ∧ OldK s₁.heap s'.heap ∧ s'.os = s₁.os ∧ AllBare s'.gens) s₁ := by
    intro H hO hS hok hA hK
    have base_of : ∀ {b : Addr} {o : Obj}, s₁.heap.get? b = some o → H b = none → (hidT s₁.heap H).get? b = some o := fun e n => hidT_get e n
    have noA : ∀ {b : Addr} {o : Obj} {es : Array DictEntry} {ep : Nat}, s₁.heap.get? b = some o → o.data = .dict es ep → H b = none := fun {b o es ep} e d => by
      cases q : H b with
      | none => rfl
      | some u =>
        have e' : b = a := hA b (by rw [q]; simp)
        subst e'
        rw [ha] at e; cases e
        have d' : Data.seq vs.toArray _ = Data.dict es ep := d
        cases d'
    have nsK : ∀ {b : Addr} {m : Str → Option Value}, s₁.heap.Ns b m → (hidT s₁.heap H).Ns b m := fun {b m} ⟨o, es, ep, e, d, r⟩ => ⟨o, es, ep, base_of e (noA e d), d, r⟩
    have hKb : K.In (hidT s₁.heap H) := fun b o e => base_of (KX b o e) (by
      cases q : H b with
      | none => rfl
      | some u =>
        have e' : b = a := hA b (by rw [q]; simp)
        subst e'
        rw [hK (by rw [q]; simp)] at e; cases e)
    have hM : Mod K mg (hidT s₁.heap H) := ⟨hKb, nsK hns, ⟨mb, nsK hb, hbb⟩, let ⟨mc, h1, h2⟩ := hlim; ⟨mc, nsK h1, h2⟩⟩
    have e0 : Env0 P w K mg (hidT s₁.heap H) callerA [] s₁ H := ⟨rfl, hM, fun b o e => of_hidT e, Nat.le_of_eq (hidT_size _ _), trivial, fun b hb => absurd (show b ∈ ([] : List Addr) from hb) (by simp), hok, .of_eq hg⟩
    have hsp' : spP K 1 F [.ref a] H (fun v _ => v = .bl true) fun _ _ _ => False := ⟨[.list (ns.map .int)], _, .cons (.lst hS (RpAll.ints ns)) .nil, rfl, hsp, fun H' w n => by
      obtain ⟨_, n⟩ := n
      cases n
      rfl⟩
    refine codeAny_mono ((hF _ hKb (nsK hns)).run callerA [] s₁ H ⟨[.ref a], []⟩ [.ref a] [.ref a] _ _ rfl hr e0 (hbind s₁ (.ref a)) (.cons rfl .nil) hsp') fun r s' h => ?_
    cases r with
    | error e => exact False.elim h
    | ok fl =>
      cases fl with
      | next => exact False.elim h
      | brk => exact False.elim h
      | cont => exact False.elim h
      | ret u =>
        obtain ⟨v, H', os, bare, un, hok', r', q⟩ := h
        have q' : v = .bl true := q
        subst q'
        obtain rfl : u = Value.bool true := r'
        refine ⟨rfl, OldK.of_keep fun b o e => ?_, os, bare⟩
        cases q : H b with
        | none => exact un.keep b o e q (by intro z; exact absurd (show b ∈ ([] : List Addr) from z) (by simp)) (by simp)
        | some u =>
          rcases hO b with z | ⟨ob, xs, z⟩
          · rw [q] at z; cases z
          · have z2 := un.frzs b ob _ z
            obtain ⟨e1, _⟩ := hok b _ z
            obtain ⟨e2, _⟩ := hok' b _ z2
            rw [e] at e1; cases e1
            exact e2
  cases hk : K.lookup a with
  | some o =>
    have e := KX a o hk
    rw [ha] at e
    cases e
    refine core (fun _ => none) (fun _ => .inl rfl) (.inr ⟨_, vs.toArray, _, hk, rfl, rfl, rfl, by rw [List.size_toArray, lenV]; exact hl, by simpa using rv⟩) (fun b u z => by have z' : (none : Option HO) = some u := z; cases z') (fun b z => absurd rfl z) fun z => absurd rfl z
  | none =>
    refine core (fun b => if b = a then some (.frz { cls := .type "list", data := .seq vs.toArray } (.lst (ns.map V.int))) else none) (fun b => ?_) (.inl ⟨{ cls := .type "list", data := .seq vs.toArray }, if_pos rfl⟩) (fun b u z => ?_) (fun b z => ?_) fun _ => hk
    · by_cases hb : b = a
      · exact .inr ⟨_, _, if_pos hb⟩
      · exact .inl (if_neg hb)
    · by_cases hb : b = a
      · have z' := (if_pos hb).symm.trans z
        cases z'
        subst hb
        exact ⟨ha, by rw [List.length_map]; exact hl, vs, _, rv, ha⟩
      · have z' := (if_neg hb).symm.trans z
        cases z'
    · by_cases hb : b = a
      · exact hb
      · exact absurd (if_neg hb) z
/-- the goal that a head leaves, from the law's meaning F -/
theorem walk_G {l : PySem.W.OpenLaw} {n k : Nat} {q : Program} {loose : List Str} {XP : (Str → Option Value) → Heap → Prop} {YP : World → Heap → Prop} {d : DefRec} {x : Str}
    (hn : l.most = some n) (hn2 : n ≤ sizeLine) (hdf : d.params.defaults = []) (hr : Room k callerA)
    (hF : ∀ (w : World) (mg : Str → Option Value) (fa : Addr) (h : Heap), YP w h → h.Ns mainGlobals mg → mg d.name = some (.ref fa) →
      ∃ (K : PySem.W.Frag) (fd : FuncData) (F : List PyData → Option R), K.In h ∧ (∀ (s : Shared) (u : Value), BindsTo s fd ⟨[u], []⟩ [(x, u)]) ∧
        (∀ ns : List Int, ns.length ≤ n → F [.list (ns.map .int)] = some (.val (.bool true))) ∧
        ∀ base : Heap, K.In base → base.Ns mainGlobals mg → FnP l.prog w K mg base k fa fd [x] F) :
    PySem.W.WalkO q loose XP YP l.row.toRowW d [] (fun f vs => PySem.call f vs) := by
  refine Att.attach_call hn hdf fun w s₀ s₁ mg mb fa o pm cd doc a vs ns G Y ho hd hcd hmg hobj hints hlen hg => ?_
  obtain ⟨K, fd, F, KX, hb, hsp, hF⟩ := hF w mg fa _ Y G.T.g hmg
  exact law_callG KX G.T.g G.T.b G.T.builtins G.T.nolimit hg hobj hints (Nat.le_trans hlen hn2) hr hF hb (hsp ns hlen)
end KV

/-! KV, part 8: what was added law by law. -/
namespace KV
open PySem PySem.Spec PyProof.Rows L2
section
variable {X : Cx} {a b c e : Expr} {io : Bool} {pos : Pos} {f g : Den}
/-- x, y, z = a, b, c with plain local names -/
def dPar3 (i j l : Nat) (fs : Denv) : DenS := fun r => (fs r).bind fun (ds, r1) => match ds with
  | [d, e, h] => (((setSl i (.fz d) r1).bind (setSl j (.fz e))).bind (setSl l (.fz h))).map Out.nx
  | _ => none
theorem sx_par3 {i j l : Nat} {x y z : Str} {fs : Denv} {px py pz pt : Pos} {kt k2 pt2} (hc : X.calm = true) (hN : X.N.Nodup) (hi : X.N[i]? = some x) (hj : X.N[j]? = some y) (hl : X.N[l]? = some z) (hij : i ≠ j) (hil : i ≠ l) (hjl : j ≠ l)
    (hx : X.env.scope.names.lookup x = some .local) (hy : X.env.scope.names.lookup y = some .local) (hz : X.env.scope.names.lookup z = some .local) (ha : Exv X [a, b, c] fs)
    (hw : swappedStores [.Tuple [.Name x px, .Name y py, .Name z pz] kt pt] (.Tuple [a, b, c] k2 pt2) X.env = pure (some [x, y, z])) (h0 : io = true → i ≠ 0 := by decide) (h1 : io = true → j ≠ 0 := by decide) (h2 : io = true → l ≠ 0 := by decide)
    (hs : swapsWithSole [.Tuple [.Name x px, .Name y py, .Name z pz] kt pt] (.Tuple [a, b, c] k2 pt2) pos.line X.env = pure false := by rfl) :
    Sx io X (.Assign [.Tuple [.Name x px, .Name y py, .Name z pz] kt pt] (.Tuple [a, b, c] k2 pt2) pos) (dPar3 i j l fs) := by
  refine ⟨fun pins s σ H D I hh => (ps_par3 hc hN hi hj hl hij hil hjl hx hy hz ha hw hs).run pins s σ H D I ?_⟩
  obtain ⟨O, r, o, E, hf, k⟩ := hh
  unfold dPar3 at hf
  obtain ⟨⟨ds, r1⟩, q1, hf⟩ := Option.bind_eq_some_iff.mp hf
  match ds, hf, q1 with
  | [d, e, h], hf, q1 =>
    obtain ⟨r4, q2, z⟩ := Option.map_eq_some_iff.mp hf
    subst z
    obtain ⟨r3, q2, q5⟩ := Option.bind_eq_some_iff.mp q2
    obtain ⟨r2, q3, q4⟩ := Option.bind_eq_some_iff.mp q2
    refine ⟨O, r, [d, e, h], r1, E, q1, fun H1 O1 vs st1 E1 kp1 ro1 => ?_⟩
    cases ro1 with
    | @cons v vs' _ _ rp1 ro2 =>
      cases ro2 with
      | @cons w ws' _ _ rp2 ro3 =>
        cases ro3 with
        | @cons u us' _ _ rp3 ro4 =>
          cases ro4
          obtain ⟨e1, hl, hk⟩ := setSl_some q3
          subst e1
          obtain ⟨e2, hl2, hk2⟩ := setSl_some q4
          subst e2
          obtain ⟨e3, hl3, hk3⟩ := setSl_some q5
          subst e3
          have E2 := E1.store (i := i) (s := .fz d) ⟨v, rfl, rp1⟩ fun c z => by cases z
          have E3 := E2.store (i := j) (s := .fz e) ⟨w, rfl, rp2⟩ fun c z => by cases z
          have E4 := E3.store (i := l) (s := .fz h) ⟨u, rfl, rp3⟩ fun c z => by cases z
          exact ⟨v, w, u, rfl, k H1 O1 _ st1 E4 ((KeepS.of kp1).trans ((KeepS.store hk h0).trans ((KeepS.store hk2 h1).trans (KeepS.store hk3 h2))))⟩
  | [], hf, _ => cases hf
  | [_], hf, _ => cases hf
  | [_, _], hf, _ => cases hf
  | _ :: _ :: _ :: _ :: _, hf, _ => cases hf
end
end KV

/-! Ev: how denotations are evaluated. -/
namespace KV
open PySem PySem.Spec PyProof.Rows L2
theorem comp_steady {vs : List Nat} {g : DenG} {t : DenT} {f : Den} {r0 : Nms} {keep : PyData → Bool} {val : PyData → PyData} : ∀ ds : List PyData,
    (∀ d ∈ ds, ∃ r1, g d r0 = some r1 ∧ t r1 = some (keep d, r1) ∧ wipeE vs r1 = r0 ∧ (keep d = true → (dFrz f r1).bind vOf = some (val d, r1))) → compD vs g t f ds r0 = some ((ds.filter keep).map val, r0)
  | [], _ => rfl
  | d :: ds, h => by
    obtain ⟨r1, h1, h2, h3, h4⟩ := h d (List.mem_cons_self ..)
    have ih := comp_steady ds fun e he => h e (List.mem_cons_of_mem _ he)
    unfold compD
    rw [h1, Option.bind_some, h2, Option.bind_some]
    show (if keep d = true then _ else _) = _
    by_cases c : keep d = true
    · rw [if_pos c, h4 c, Option.bind_some]
      show Option.map _ (compD vs g t f ds (wipeE vs r1)) = _
      rw [h3, ih, List.filter_cons_of_pos c]
      rfl
    · rw [if_neg c, h3, ih, List.filter_cons_of_neg c]
theorem lc_steady {vs : List Nat} {fi : DenI} {g : DenG} {t : DenT} {f : Den} {r r1 r2 : Nms} {u : Option Nat} {ds : List PyData} {keep : PyData → Bool} {val : PyData → PyData} (hi : fi r = some (ds, r1, u)) (no : noOb vs r1 = true)
    (h : ∀ d ∈ ds, ∃ r3, g d (wipeE vs r1) = some r3 ∧ t r3 = some (keep d, r3) ∧ wipeE vs r3 = wipeE vs r1 ∧ (keep d = true → (dFrz f r3).bind vOf = some (val d, r3))) (hr : unlck u (restE vs r1 (wipeE vs r1)) = r2) :
    dLc vs fi g t f r = some (.tmp (.lst ((ds.filter keep).map val)), r2) := by
  unfold dLc
  rw [hi, Option.bind_some]
  show (if noOb vs r1 = true then _ else _) = _
  rw [if_pos no, comp_steady ds h, ← hr]
  rfl
theorem lc_map {vs : List Nat} {fi : DenI} {g : DenG} {f : Den} {r r1 r2 : Nms} {u : Option Nat} {ds : List PyData} {val : PyData → PyData} (hi : fi r = some (ds, r1, u)) (no : noOb vs r1 = true)
    (h : ∀ d ∈ ds, ∃ r3, g d (wipeE vs r1) = some r3 ∧ wipeE vs r3 = wipeE vs r1 ∧ (dFrz f r3).bind vOf = some (val d, r3)) (hr : unlck u (restE vs r1 (wipeE vs r1)) = r2) :
    dLc vs fi g tYesD f r = some (.tmp (.lst (ds.map val)), r2) := by
  have := lc_steady (t := tYesD) (keep := fun _ => true) hi no (fun d hd => by
    obtain ⟨r3, h1, h2, h3⟩ := h d hd
    exact ⟨r3, h1, rfl, h2, fun _ => h3⟩) hr
  rw [List.filter_eq_self.mpr fun _ _ => rfl] at this
  exact this
theorem ev_seq {f g : DenS} {r r1 : Nms} (h : f r = some (.nx r1)) : dSeq f g r = g r1 := by unfold dSeq; rw [h]; rfl
theorem ev_seqR {f g : DenS} {r r1 : Nms} {x : R} (h : f r = some (.rt x r1)) : dSeq f g r = some (.rt x r1) := by unfold dSeq; rw [h]; rfl
theorem ev_if {t : DenT} {u w : DenS} {r r1 : Nms} {b : Bool} (h : t r = some (b, r1)) : dIf t u w r = if b = true then u r1 else w r1 := by unfold dIf; rw [h]; rfl
theorem ev_ret {f : Den} {r r1 : Nms} {x : R} (h : f r = some (x, r1)) : dRet f r = some (.rt x r1) := by unfold dRet; rw [h]; rfl
theorem ev_cb {fs : Dens} {op : OpN} {r r1 : Nms} {xs : List R} {ds : List PyData} {z : R} (h : fs r = some (xs, r1)) (h1 : derefs r1 xs = some ds) (h2 : op ds = some z) : dCB fs op r = some (z, r1) := by
  unfold dCB; rw [h, Option.bind_some]
  show (derefs r1 xs).bind _ = _
  rw [h1, Option.bind_some, h2]; rfl
theorem ev_cons {f : Den} {g : Dens} {r r1 r2 : Nms} {x : R} {xs : List R} (h : dStl f r = some (x, r1)) (h1 : g r1 = some (xs, r2)) : dCons f g r = some (x :: xs, r2) := by
  unfold dCons; rw [h, Option.bind_some]
  show (g r1).bind _ = _
  rw [h1]; rfl
theorem ev_stl {f : Den} {r : Nms} {y : R × Nms} (h : f r = some y) : dStl f r = some (stl y) := by unfold dStl; rw [h]; rfl
theorem ev_run {N : Nat} {f : DenS} {ds : List PyData} {x z : R} {r r1 : Nms} (h : f (env0 N (ds.map .fz)) = some (.rt x r)) (h1 : ret (.rt x r) = some (z, r1)) : runP N f ds = some z := by
  unfold runP; rw [h, Option.bind_some, h1]; rfl
theorem ev_set {i : Nat} {f : Den} {r r1 r2 : Nms} {d : PyData} (h : f r = some (.val d, r1)) (h1 : setSl i (.fz d) r1 = some r2) : dSet i f r = some (.nx r2) := by unfold dSet; rw [h, Option.bind_some]; show Option.map _ _ = _; rw [h1]; rfl
theorem ev_setT {i : Nat} {f : Den} {r r1 r2 : Nms} {c : Ob} (h : f r = some (.tmp c, r1)) (h1 : setSl i (.own c) r1 = some r2) : dSet i f r = some (.nx r2) := by unfold dSet; rw [h, Option.bind_some]; show Option.map _ _ = _; rw [h1]; rfl
theorem ev_call {F : List PyData → Option R} {fs : Denv} {r r1 : Nms} {ds : List PyData} {z : R} (h : fs r = some (ds, r1)) (h1 : F ds = some z) : dCall F fs r = some (z, r1) := by unfold dCall; rw [h, Option.bind_some]; show (F ds).bind _ = _; rw [h1]; rfl
theorem ev_asg {f : Den} {g : DenG} {r r1 r2 : Nms} {d : PyData} (h : f r = some (.val d, r1)) (h1 : g d r1 = some r2) : dAsg f g r = some (.nx r2) := by
  unfold dAsg dFrz; rw [h]
  show (g d r1).map _ = _
  rw [h1]; rfl
theorem ev_bin {f g : Den} {op : Op2} {r r1 r2 : Nms} {x y z : R} {dx dy : PyData} (h : f r = some (x, r1)) (h1 : g (stl (x, r1)).2 = some (y, r2)) (h2 : deref r2 (stl (x, r1)).1 = some dx) (h3 : deref r2 y = some dy) (h4 : op dx dy = some z) : dBin f g op r = some (z, r2) := by
  unfold dBin dStl; rw [h]
  show (g (stl (x, r1)).2).bind _ = _
  rw [h1]
  show (deref r2 (stl (x, r1)).1).bind _ = _
  rw [h2, Option.bind_some, h3, Option.bind_some, h4]; rfl
theorem ev_b {f : Den} {r r1 : Nms} {c : Bool} (h : f r = some (.val (.bool c), r1)) : dB f r = some (c, r1) := by unfold dB; rw [h]; rfl
theorem ev_and {t u : DenT} {r r1 : Nms} {a b : Bool} (h : t r = some (a, r1)) (h1 : u r1 = some (b, r1)) : dAnd t u r = some (a && b, r1) := by
  unfold dAnd; rw [h, Option.bind_some]
  show (if a = true then u r1 else some (false, r1)) = _
  cases a
  · rfl
  · rw [if_pos rfl, h1]; rfl
theorem ev_or {t u : DenT} {r r1 : Nms} {a b : Bool} (h : t r = some (a, r1)) (h1 : u r1 = some (b, r1)) : dOr t u r = some (a || b, r1) := by
  unfold dOr; rw [h, Option.bind_some]
  show (if a = true then some (true, r1) else u r1) = _
  cases a
  · rw [if_neg Bool.false_ne_true, h1]; rfl
  · rfl
theorem ev_not {t : DenT} {r r1 : Nms} {a : Bool} (h : t r = some (a, r1)) : dNot t r = some (!a, r1) := by unfold dNot; rw [h]; rfl
theorem ev_v {t : DenT} {r r1 : Nms} {a : Bool} (h : t r = some (a, r1)) : dV t r = some (.val (.bool a), r1) := by unfold dV; rw [h]; rfl
theorem ev_vc {f : Den} {g : Denv} {r r1 r2 : Nms} {d : PyData} {ds : List PyData} (h : f r = some (.val d, r1)) (h1 : g r1 = some (ds, r2)) : vCons f g r = some (d :: ds, r2) := by
  unfold vCons dFrz; rw [h]
  show (g r1).bind _ = _
  rw [h1]; rfl
theorem ev_vc' {f : Den} {g : Denv} {r r1 r2 : Nms} {d : PyData} {ds : List PyData} (h : (dFrz f r).bind vOf = some (d, r1)) (h1 : g r1 = some (ds, r2)) : vCons f g r = some (d :: ds, r2) := by
  unfold vCons; rw [h]
  show (g r1).bind _ = _
  rw [h1]; rfl
theorem ev_vn {r : Nms} : vNil r = some ([], r) := rfl
theorem ev_tup {fs : Denv} {r r1 : Nms} {ds : List PyData} (h : fs r = some (ds, r1)) (hl : ds.length ≤ 16777216) : dTup fs r = some (.val (.tuple ds), r1) := by
  unfold dTup; rw [h]
  exact if_pos (by rw [sizeLine_eq]; exact hl)
theorem ev_lst {fs : Denv} {r r1 : Nms} {ds : List PyData} (h : fs r = some (ds, r1)) (hl : ds.length ≤ 16777216) : dLst fs r = some (.tmp (.lst ds), r1) := by
  unfold dLst; rw [h]
  exact if_pos (by rw [sizeLine_eq]; exact hl)
theorem ev_fz {f : Den} {r r1 : Nms} {d : PyData} (h : f r = some (.val d, r1)) : (dFrz f r).bind vOf = some (d, r1) := by unfold dFrz; rw [h]; rfl
end KV

/-! the walk, printed by gen.py over the KV layer -/
namespace KL
open PySem PySem.Spec PyProof.Rows L2 KV
def top (i : Nat) : Stmt := PySem.Challenge.pw_keyturns_k06_believing_beside_an_own_loo.main.body.getD i (.Pass ⟨0, 0, 0, 0⟩)

theorem pts1 {X : Cx} {c : Expr} {t : DenT} (h : Tx X c t) : PTs X [c] (tT X.K t) := pts_one h
theorem fnP_none {P : Program} {w : World} {K : PySem.W.Frag} {mg : Str → Option Value} {base : Heap} {k : Nat} {f : Addr} {fd : FuncData} {ps : List Str} : FnP P w K mg base k f fd ps (fun _ => none) :=
  ⟨fun _ _ _ _ h => (by obtain ⟨_, _, _, _, z, _⟩ := h; cases z), fun _ _ _ _ _ _ _ _ _ _ _ _ _ _ h => (by obtain ⟨_, _, _, _, z, _⟩ := h; cases z)⟩
def blkB (N : List Str) (sn : List (Str × NameKind)) (names : List (Str × NameKind)) (own : List (Str × Nat)) : Bool :=
  names.all (fun y => decide (names.lookup y.1 = some y.2)) && own.all (fun p => decide (N[p.2]? = some p.1)) && names.all (fun y => !decide (y.2 = .free) || decide (sn.lookup y.1 = some .cell) || decide (sn.lookup y.1 = some .free))
  && names.all (fun y => !(decide (y.2 = .local) || decide (y.2 = .cell)) || decide (y.1 ∈ own.map (·.1)) || !decide (y.1 ∈ N))
theorem blk_of {N : List Str} {sc scope : Scope} {own : List (Str × Nat)} (h0 : scope.kind = .function) (h : blkB N sc.names scope.names own = true) : BlkOk N sc scope own := by
  unfold blkB at h
  simp only [Bool.and_eq_true, List.all_eq_true, Bool.or_eq_true, Bool.not_eq_true', decide_eq_true_eq, decide_eq_false_iff_not, Bool.or_eq_false_iff] at h
  obtain ⟨⟨⟨h1, h2⟩, h3⟩, h4⟩ := h
  refine ⟨h0, h1, h2, fun y hy e => ?_, fun y hy e => ?_⟩
  · rcases h3 y hy with (z | z) | z
    · exact absurd e z
    · exact .inl z
    · exact .inr z
  · rcases h4 y hy with (z | z) | z
    · rcases e with e | e
      · exact absurd e z.1
      · exact absurd e z.2
    · exact .inl z
    · exact .inr z
structure Ok (P : Program) (w : World) (K : PySem.W.Frag) (mg : Str → Option Value) (base : Heap) (k : Nat) (x : Str) (ps : List Str) (st : Stmt) (f : Addr) (fd : FuncData) (F : List PyData → Option KV.R) : Prop where
  m : mg x = some (.ref f)
  kp : PySem.W.keepIn K (.ref f) = true
  b : Binds K fd ps []
  D : FunD K x x (defArgs st) (defBody st) (defScope st) [] [] f fd
  run : FnP P w K mg base k f fd ps F
structure OkB (P : Program) (w : World) (K : PySem.W.Frag) (mg : Str → Option Value) (base : Heap) (k : Nat) (x : Str) (ps : List Str) (st : Stmt) (f : Addr) (fd : FuncData) (G : Ob → List PyData → Option (KV.R × Ob)) : Prop where
  m : mg x = some (.ref f)
  kp : PySem.W.keepIn K (.ref f) = true
  b : Binds K fd ps []
  D : FunD K x x (defArgs st) (defBody st) (defScope st) [] [] f fd
  run : FnB P w K mg base k f fd ps G

abbrev s_frozen : Stmt := top 2
theorem sc_frozen : FnScope ["thing", "part"] ["thing"] (defScope s_frozen) := ⟨rfl, rfl, rfl, by decide +kernel, rfl, by decide +kernel, by decide +kernel⟩
def g_frozen (F : List PyData → Option KV.R) : DenS := dSeq (dIf (dB (dIsi2 (dVar 0) "list" "tuple")) (dRet (dCB (dCons (dLc [1] (iSeq (dVar 0)) (gN 1) (tYesD) (dCall F (vCons (dVar 1) (vNil)))) (dNil)) opTuple)) (dNext)) (dRet (dVar 0))
def Fz_frozen : Nat → List PyData → Option KV.R
  | 0 => fun _ => none
  | n + 1 => runP 2 (g_frozen (Fz_frozen n))
abbrev F_frozen : List PyData → Option KV.R := Fz_frozen 12
abbrev s_are_enough : Stmt := top 4
theorem sc_are_enough : FnScope ["ways", "trust", "rule", "key"] ["ways", "trust", "rule"] (defScope s_are_enough) := ⟨rfl, rfl, rfl, by decide +kernel, rfl, by decide +kernel, by decide +kernel⟩
def g_are_enough : DenS := dSeq (dIf (dB (dBin (dVar 2) (dC (.str ("any" : Str))) opEq)) (dRet (dBin (dCB (dCons (dVar 0) (dNil)) opLen) (dC (.int 0)) opGt)) (dNext)) (dRet (dCB (dCons (dLc [3] (iSeq (dVar 1)) (gN 3) (tYesD) (dBin (dBin (dVar 3) (dC (.int 1)) opIx) (dVar 0) opIn)) (dNil)) opAll))
def F_are_enough : List PyData → Option KV.R := runP 4 g_are_enough
abbrev s_keys_believed : Stmt := top 5
theorem sc_keys_believed : FnScope ["version", "trust", "rule", "keys", "heads", "rest", "marks", "gone", "some", "ways", "key"] ["version", "trust", "rule"] (defScope s_keys_believed) := ⟨rfl, rfl, rfl, by decide +kernel, rfl, by decide +kernel, by decide +kernel⟩
def g_keys_believed : DenS := dSeq (dAsg (dCall F_frozen (vCons (dVar 0) (vNil))) (gT (gsCons (gN 3) (gsCons (gN 4) (gsCons (gN 5) (gsCons (gN 6) (gsCons (gN 7) (gsNil)))))))) (dSeq (dSet 8 (dCall F_frozen (vCons (dVar 1) (vNil)))) (dSeq (dSet 9 (dLc [10] (iSeq (dVar 8)) (gN 10) (dAnd (dB (dBin (dVar 10) (dVar 3) opIn)) (dAnd (dB (dBin (dBin (dVar 10) (dC (.int 0)) opIx) (dVar 4) opIn)) (dB (dBin (dBin (dVar 10) (dC (.int 0)) opIx) (dVar 7) opNotIn)))) (dBin (dVar 10) (dC (.int 1)) opIx))) (dRet (dCall F_are_enough (vCons (dVar 9) (vCons (dVar 8) (vCons (dVar 2) (vNil))))))))
def F_keys_believed : List PyData → Option KV.R := runP 11 g_keys_believed
abbrev s_rest_believed : Stmt := top 6
theorem sc_rest_believed : FnScope ["version", "keyed", "trust", "rule", "marks", "keys", "gone", "ways", "key"] ["version", "keyed", "trust", "rule"] (defScope s_rest_believed) := ⟨rfl, rfl, rfl, by decide +kernel, rfl, by decide +kernel, by decide +kernel⟩
def g_rest_believed : DenS := dSeq (dAsg (dTup (vCons (dBin (dCall F_frozen (vCons (dVar 0) (vNil))) (dC (.int 3)) opIx) (vCons (dBin (dCall F_frozen (vCons (dVar 1) (vNil))) (dC (.int 0)) opIx) (vCons (dBin (dCall F_frozen (vCons (dVar 1) (vNil))) (dC (.int 4)) opIx) (vNil))))) (gT (gsCons (gN 4) (gsCons (gN 5) (gsCons (gN 6) (gsNil)))))) (dSeq (dSet 7 (dLc [8] (iSeq (dVar 5)) (gN 8) (dAnd (dB (dBin (dBin (dVar 8) (dC (.int 0)) opIx) (dVar 4) opIn)) (dB (dBin (dBin (dVar 8) (dC (.int 0)) opIx) (dVar 6) opNotIn))) (dBin (dVar 8) (dC (.int 1)) opIx))) (dRet (dCall F_are_enough (vCons (dVar 7) (vCons (dCall F_frozen (vCons (dVar 2) (vNil))) (vCons (dVar 3) (vNil)))))))
def F_rest_believed : List PyData → Option KV.R := runP 9 g_rest_believed
abbrev s__law_box : Stmt := top 8
theorem sc__law_box : FnScope ["_law_script", "_law_k", "_law_cell"] ["_law_script", "_law_k"] (defScope s__law_box) := ⟨rfl, rfl, rfl, by decide +kernel, rfl, by decide +kernel, by decide +kernel⟩
def g__law_box : DenS := dSeq (dSet 2 (dIfE (dB (dBin (dVar 1) (dCB (dCons (dVar 0) (dNil)) opLen) opLt)) (dBin (dVar 0) (dVar 1) opIx) (dC (.int 0)))) (dRet (dLst (vCons (dBin (dCB (dCons (dVar 2) (dNil)) opAbs) (dCB (dCons (dBin (dCB (dCons (dVar 2) (dNil)) opAbs) (dBin (dC (.int 10)) (dC (.int 18)) opPow) opGe) (dNil)) opInt) opMul) (vCons (dBin (dBin (dBin (dCB (dCons (dVar 2) (dNil)) opInt) (dC (.int 2305843009213693951)) opMod) (dBin (dC (.int 15013)) (dVar 1) opMul) opAdd) (dC (.int 61)) opAdd) (vCons (dC (.int 0)) (vNil))))))
def F__law_box : List PyData → Option KV.R := runP 3 g__law_box
abbrev s__law_take : Stmt := top 9
theorem sc__law_take : FnScope ["_law_box_here", "_law_below", "_law_found", "_law_once", "_law_twice"] ["_law_box_here", "_law_below"] (defScope s__law_take) := ⟨rfl, rfl, rfl, by decide +kernel, rfl, by decide +kernel, by decide +kernel⟩
def g__law_take : DenS := dSeq (dIf (dB (dBin (dBin (dVar 0) (dC (.int 0)) opIx) (dC (.int 0)) opGt)) (dSeq (dSet 2 (dBin (dCB (dCons (dBin (dVar 0) (dC (.int 0)) opIx) (dNil)) opInt) (dVar 1) opMod)) (dSeq (dSetIx 0 (dBin (dBin (dVar 0) (dC (.int 0)) opIx) (dVar 1) opDiv) (dC (.int 0))) (dRet (dVar 2)))) (dNext)) (dSeq (dSetIx 0 (dBin (dBin (dVar 0) (dC (.int 2)) opIx) (dC (.int 1)) opAdd) (dC (.int 2))) (dSeq (dSet 3 (dBin (dCB (dCons (dBin (dBin (dBin (dVar 0) (dC (.int 1)) opIx) (dBin (dC (.int 52051)) (dBin (dVar 0) (dC (.int 2)) opIx) opMul) opAdd) (dC (.int 3)) opPow) (dNil)) opInt) (dC (.int 2147483563)) opMod)) (dSeq (dSet 4 (dBin (dCB (dCons (dBin (dBin (dVar 3) (dBin (dBin (dVar 0) (dC (.int 2)) opIx) (dC (.int 6473)) opMul) opAdd) (dBin (dBin (dCB (dCons (dVar 3) (dNil)) opInt) (dC (.int 30059)) opMod) (dC (.int 23)) opAdd) opMul) (dNil)) opInt) (dC (.int 2147483587)) opMod)) (dRet (dBin (dCB (dCons (dBin (dBin (dCB (dCons (dBin (dBin (dVar 4) (dC (.int 48271)) opMul) (dVar 3) opAdd) (dNil)) opInt) (dC (.int 2147483629)) opMod) (dC (.int 64)) opDiv) (dNil)) opInt) (dVar 1) opMod)))))
def G__law_take : Ob → List PyData → Option (KV.R × Ob) := runB 5 g__law_take
abbrev s__law_pick : Stmt := top 10
theorem sc__law_pick : FnScope ["_law_box_here", "_law_some"] ["_law_box_here", "_law_some"] (defScope s__law_pick) := ⟨rfl, rfl, rfl, by decide +kernel, rfl, by decide +kernel, by decide +kernel⟩
def g__law_pick : DenS := dRet (dBin (dVar 1) (dCallB G__law_take 0 (vCons (dCB (dCons (dVar 1) (dNil)) opLen) (vNil))) opIx)
def G__law_pick : Ob → List PyData → Option (KV.R × Ob) := runB 2 g__law_pick
abbrev s__law_same : Stmt := top 11
theorem sc__law_same : FnScope ["_law_found", "_law_due"] ["_law_found", "_law_due"] (defScope s__law_same) := ⟨rfl, rfl, rfl, by decide +kernel, rfl, by decide +kernel, by decide +kernel⟩
def g__law_same : DenS := dRet (dBin (dCB (dCons (dVar 0) (dNil)) opRepr) (dCB (dCons (dVar 1) (dNil)) opRepr) opEq)
def F__law_same : List PyData → Option KV.R := runP 2 g__law_same
abbrev s__law_covers : Stmt := top 12
theorem sc__law_covers : FnScope ["_law_ways", "_law_trust_so", "_law_rule_so", "_law_key"] ["_law_ways", "_law_trust_so", "_law_rule_so"] (defScope s__law_covers) := ⟨rfl, rfl, rfl, by decide +kernel, rfl, by decide +kernel, by decide +kernel⟩
def g__law_covers : DenS := dSeq (dIf (dB (dBin (dVar 2) (dC (.str ("any" : Str))) opEq)) (dRet (dBin (dVar 0) (dLst (vNil)) opNe)) (dNext)) (dRet (dCB (dCons (dLc [3] (iSeq (dVar 1)) (gN 3) (tYesD) (dBin (dBin (dVar 3) (dC (.int 1)) opIx) (dVar 0) opIn)) (dNil)) opAll))
def F__law_covers : List PyData → Option KV.R := runP 4 g__law_covers
abbrev s__law_keys_ok : Stmt := top 13
theorem sc__law_keys_ok : FnScope ["_law_told_so", "_law_trust_so", "_law_rule_so", "_law_keys_so", "_law_heads", "_law_rest", "_law_marks", "_law_gone", "_law_ways", "_law_key"] ["_law_told_so", "_law_trust_so", "_law_rule_so"] (defScope s__law_keys_ok) := ⟨rfl, rfl, rfl, by decide +kernel, rfl, by decide +kernel, by decide +kernel⟩
def g__law_keys_ok : DenS := dSeq (dAsg (dVar 0) (gT (gsCons (gN 3) (gsCons (gN 4) (gsCons (gN 5) (gsCons (gN 6) (gsCons (gN 7) (gsNil)))))))) (dSeq (dSet 8 (dLc [9] (iSeq (dVar 1)) (gN 9) (dAnd (dB (dBin (dVar 9) (dVar 3) opIn)) (dAnd (dB (dBin (dBin (dVar 9) (dC (.int 0)) opIx) (dVar 4) opIn)) (dB (dBin (dBin (dVar 9) (dC (.int 0)) opIx) (dVar 7) opNotIn)))) (dBin (dVar 9) (dC (.int 1)) opIx))) (dRet (dCall F__law_covers (vCons (dVar 8) (vCons (dVar 1) (vCons (dVar 2) (vNil)))))))
def F__law_keys_ok : List PyData → Option KV.R := runP 10 g__law_keys_ok
abbrev s__law_rest_ok : Stmt := top 14
theorem sc__law_rest_ok : FnScope ["_law_told_so", "_law_mine", "_law_trust_so", "_law_rule_so", "_law_ways", "_law_key"] ["_law_told_so", "_law_mine", "_law_trust_so", "_law_rule_so"] (defScope s__law_rest_ok) := ⟨rfl, rfl, rfl, by decide +kernel, rfl, by decide +kernel, by decide +kernel⟩
def g__law_rest_ok : DenS := dSeq (dSet 4 (dLc [5] (iSeq (dBin (dVar 1) (dC (.int 0)) opIx)) (gN 5) (dAnd (dB (dBin (dBin (dVar 5) (dC (.int 0)) opIx) (dBin (dVar 1) (dC (.int 4)) opIx) opNotIn)) (dB (dBin (dBin (dVar 5) (dC (.int 0)) opIx) (dBin (dVar 0) (dC (.int 3)) opIx) opIn))) (dBin (dVar 5) (dC (.int 1)) opIx))) (dRet (dCall F__law_covers (vCons (dVar 4) (vCons (dVar 2) (vCons (dVar 3) (vNil))))))
def F__law_rest_ok : List PyData → Option KV.R := runP 6 g__law_rest_ok
abbrev s__law_some_keys : Stmt := top 15
theorem sc__law_some_keys : FnScope ["_law_box_here", "_law_most", "_law_found", "_law_number", "_law_key"] ["_law_box_here", "_law_most"] (defScope s__law_some_keys) := ⟨rfl, rfl, rfl, by decide +kernel, rfl, by decide +kernel, by decide +kernel⟩
def g__law_some_keys : DenS := dSeq (dSet 2 (dLc [3] (iR1 (dCons (dC (.int 6)) (dNil))) (gN 3) (tYesD) (dTup (vCons (dVar 3) (vCons (dCallB G__law_take 0 (vCons (dC (.int 2)) (vNil))) (vNil)))))) (dRet (dCB (dCons (dLc [4] (iSeq (dVar 2)) (gN 4) (dB (dBin (dCallB G__law_take 0 (vCons (dVar 1) (vNil))) (dC (.int 0)) opEq)) (dVar 4)) (dNil)) opTuple))
def G__law_some_keys : Ob → List PyData → Option (KV.R × Ob) := runB 5 g__law_some_keys
abbrev s__law_numbers : Stmt := top 16
theorem sc__law_numbers : FnScope ["_law_box_here", "_law_number"] ["_law_box_here"] (defScope s__law_numbers) := ⟨rfl, rfl, rfl, by decide +kernel, rfl, by decide +kernel, by decide +kernel⟩
def g__law_numbers : DenS := dRet (dCB (dCons (dLc [1] (iR2 (dCons (dUn (dC (.int 2)) opNeg) (dCons (dC (.int 7)) (dNil)))) (gN 1) (dB (dBin (dCallB G__law_take 0 (vCons (dC (.int 2)) (vNil))) (dC (.int 0)) opEq)) (dVar 1)) (dNil)) opTuple)
def G__law_numbers : Ob → List PyData → Option (KV.R × Ob) := runB 2 g__law_numbers
abbrev s__law_version : Stmt := top 17
theorem sc__law_version : FnScope ["_law_box_here", "_law_keys_so", "_law_gone", "_law_key"] ["_law_box_here"] (defScope s__law_version) := ⟨rfl, rfl, rfl, by decide +kernel, rfl, by decide +kernel, by decide +kernel⟩
def g__law_version : DenS := dSeq (dSet 1 (dCallB G__law_some_keys 0 (vCons (dC (.int 2)) (vNil)))) (dSeq (dSet 2 (dCB (dCons (dLc [3] (iSeq (dVar 1)) (gN 3) (dB (dBin (dCallB G__law_take 0 (vCons (dC (.int 4)) (vNil))) (dC (.int 0)) opEq)) (dBin (dVar 3) (dC (.int 0)) opIx)) (dNil)) opTuple)) (dRet (dTup (vCons (dVar 1) (vCons (dCallB G__law_numbers 0 (vNil)) (vCons (dCallB G__law_pick 0 (vCons (dLst (vCons (dC .none) (vCons (dTup (vNil)) (vCons (dTup (vCons (dTup (vCons (dC (.int 1)) (vCons (dC (.int 0)) (vNil)))) (vNil))) (vNil))))) (vNil))) (vCons (dCallB G__law_numbers 0 (vNil)) (vCons (dVar 2) (vNil)))))))))
def G__law_version : Ob → List PyData → Option (KV.R × Ob) := runB 4 g__law_version
abbrev s__law_right : Stmt := top 18
theorem sc__law_right : FnScope ["_law_box_here", "_law_some", "_law_trusts", "_law_kept", "_law_trust_so", "_law_rule_so", "_law_mine", "_law_other", "_law_due", "_law_turn"] ["_law_box_here"] (defScope s__law_right) := ⟨rfl, rfl, rfl, by decide +kernel, rfl, by decide +kernel, by decide +kernel⟩
def g__law_right : DenS := dSeq (dSet 1 (dLc [9] (iR1 (dCons (dC (.int 15)) (dNil))) (gN 9) (tYesD) (dCallB G__law_version 0 (vNil)))) (dSeq (dSet 2 (dLc [9] (iR1 (dCons (dC (.int 8)) (dNil))) (gN 9) (tYesD) (dCallB G__law_some_keys 0 (vCons (dC (.int 3)) (vNil))))) (dSeq (dSet 2 (dBin (dLc [4] (iSeq (dVar 2)) (gN 4) (dB (dBin (dVar 4) (dTup (vNil)) opNe)) (dVar 4)) (dLst (vCons (dTup (vCons (dTup (vCons (dC (.int 2)) (vCons (dC (.int 0)) (vNil)))) (vNil))) (vNil))) opAdd)) (dSeq (dSet 3 (dCB (dCons (dLst (vCons (dVar 1) (vCons (dVar 2) (vNil)))) (dNil)) opRepr)) (dSeq (dFor (iSeq (dVar 2)) (gN 4) (dFor (iSeq (dTup (vCons (dC (.str ("any" : Str))) (vCons (dC (.str ("each" : Str))) (vNil))))) (gN 5) (dFor (iSeq (dVar 1)) (gN 6) (dSeq (dIf (dNot (dB (dCall F__law_same (vCons (dCall F_keys_believed (vCons (dVar 6) (vCons (dVar 4) (vCons (dVar 5) (vNil))))) (vCons (dCall F__law_keys_ok (vCons (dVar 6) (vCons (dVar 4) (vCons (dVar 5) (vNil))))) (vNil)))))) (dRet (dC (.bool false))) (dNext)) (dSeq (dSet 7 (dCallB G__law_pick 0 (vCons (dVar 1) (vNil)))) (dSeq (dSet 8 (dCall F__law_rest_ok (vCons (dVar 7) (vCons (dVar 6) (vCons (dVar 4) (vCons (dVar 5) (vNil))))))) (dIf (dNot (dB (dCall F__law_same (vCons (dCall F_rest_believed (vCons (dVar 7) (vCons (dVar 6) (vCons (dVar 4) (vCons (dVar 5) (vNil)))))) (vCons (dVar 8) (vNil)))))) (dRet (dC (.bool false))) (dNext)))))))) (dRet (dBin (dCB (dCons (dLst (vCons (dVar 1) (vCons (dVar 2) (vNil)))) (dNil)) opRepr) (dVar 3) opEq))))))
def G__law_right : Ob → List PyData → Option (KV.R × Ob) := runB 10 g__law_right
abbrev s_law : Stmt := top 19
theorem sc_law : FnScope ["_law_script", "_law_k"] ["_law_script"] (defScope s_law) := ⟨rfl, rfl, rfl, by decide +kernel, rfl, by decide +kernel, by decide +kernel⟩
def g_law : DenS := dRet (dCB (dCons (dLc [1] (iR1 (dCons (dBin (dC (.int 1)) (dCB (dCons (dC (.int 2)) (dCons (dCB (dCons (dVar 0) (dNil)) opLen) (dNil))) opMin2) opAdd) (dNil))) (gN 1) (tYesD) (dCallT G__law_right (dCall F__law_box (vCons (dVar 0) (vCons (dVar 1) (vNil)))))) (dNil)) opAll)
def F_law : List PyData → Option KV.R := runP 2 g_law
structure Facts (K : PySem.W.Frag) (mg : Str → Option Value) : Prop where
  f_abs : mg "abs" = none
  f_all : mg "all" = none
  f_int : mg "int" = none
  f_isinstance : mg "isinstance" = none
  f_len : mg "len" = none
  f_list : mg "list" = none
  f_min : mg "min" = none
  f_range : mg "range" = none
  f_repr : mg "repr" = none
  f_tuple : mg "tuple" = none
  c_ANY : ∃ t, mg "ANY" = some (.str ("any" : Str) t)
  d_frozen : ∃ f fd, mg "frozen" = some (.ref f) ∧ FunD K "frozen" "frozen" (defArgs s_frozen) (defBody s_frozen) (defScope s_frozen) [] [] f fd
  d_are_enough : ∃ f fd, mg "are_enough" = some (.ref f) ∧ FunD K "are_enough" "are_enough" (defArgs s_are_enough) (defBody s_are_enough) (defScope s_are_enough) [] [] f fd
  d_keys_believed : ∃ f fd, mg "keys_believed" = some (.ref f) ∧ FunD K "keys_believed" "keys_believed" (defArgs s_keys_believed) (defBody s_keys_believed) (defScope s_keys_believed) [] [] f fd
  d_rest_believed : ∃ f fd, mg "rest_believed" = some (.ref f) ∧ FunD K "rest_believed" "rest_believed" (defArgs s_rest_believed) (defBody s_rest_believed) (defScope s_rest_believed) [] [] f fd
  d__law_box : ∃ f fd, mg "_law_box" = some (.ref f) ∧ FunD K "_law_box" "_law_box" (defArgs s__law_box) (defBody s__law_box) (defScope s__law_box) [] [] f fd
  d__law_take : ∃ f fd, mg "_law_take" = some (.ref f) ∧ FunD K "_law_take" "_law_take" (defArgs s__law_take) (defBody s__law_take) (defScope s__law_take) [] [] f fd
  d__law_pick : ∃ f fd, mg "_law_pick" = some (.ref f) ∧ FunD K "_law_pick" "_law_pick" (defArgs s__law_pick) (defBody s__law_pick) (defScope s__law_pick) [] [] f fd
  d__law_same : ∃ f fd, mg "_law_same" = some (.ref f) ∧ FunD K "_law_same" "_law_same" (defArgs s__law_same) (defBody s__law_same) (defScope s__law_same) [] [] f fd
  d__law_covers : ∃ f fd, mg "_law_covers" = some (.ref f) ∧ FunD K "_law_covers" "_law_covers" (defArgs s__law_covers) (defBody s__law_covers) (defScope s__law_covers) [] [] f fd
  d__law_keys_ok : ∃ f fd, mg "_law_keys_ok" = some (.ref f) ∧ FunD K "_law_keys_ok" "_law_keys_ok" (defArgs s__law_keys_ok) (defBody s__law_keys_ok) (defScope s__law_keys_ok) [] [] f fd
  d__law_rest_ok : ∃ f fd, mg "_law_rest_ok" = some (.ref f) ∧ FunD K "_law_rest_ok" "_law_rest_ok" (defArgs s__law_rest_ok) (defBody s__law_rest_ok) (defScope s__law_rest_ok) [] [] f fd
  d__law_some_keys : ∃ f fd, mg "_law_some_keys" = some (.ref f) ∧ FunD K "_law_some_keys" "_law_some_keys" (defArgs s__law_some_keys) (defBody s__law_some_keys) (defScope s__law_some_keys) [] [] f fd
  d__law_numbers : ∃ f fd, mg "_law_numbers" = some (.ref f) ∧ FunD K "_law_numbers" "_law_numbers" (defArgs s__law_numbers) (defBody s__law_numbers) (defScope s__law_numbers) [] [] f fd
  d__law_version : ∃ f fd, mg "_law_version" = some (.ref f) ∧ FunD K "_law_version" "_law_version" (defArgs s__law_version) (defBody s__law_version) (defScope s__law_version) [] [] f fd
  d__law_right : ∃ f fd, mg "_law_right" = some (.ref f) ∧ FunD K "_law_right" "_law_right" (defArgs s__law_right) (defBody s__law_right) (defScope s__law_right) [] [] f fd
  d_law : ∃ f fd, mg "law" = some (.ref f) ∧ FunD K "law" "law" (defArgs s_law) (defBody s_law) (defScope s_law) [] [] f fd
theorem bb_abs : bootBuiltins ("abs" : Str) = some (.builtin "abs") := by decide +kernel
theorem bb_all : bootBuiltins ("all" : Str) = some (.builtin "all") := by decide +kernel
theorem bt_int : bootBuiltins ("int" : Str) = some (.type "int") := by decide +kernel
theorem bb_len : bootBuiltins ("len" : Str) = some (.builtin "len") := by decide +kernel
theorem bt_list : bootBuiltins ("list" : Str) = some (.type "list") := by decide +kernel
theorem bb_min : bootBuiltins ("min" : Str) = some (.builtin "min") := by decide +kernel
theorem bb_repr : bootBuiltins ("repr" : Str) = some (.builtin "repr") := by decide +kernel
theorem bt_tuple : bootBuiltins ("tuple" : Str) = some (.type "tuple") := by decide +kernel
theorem ok_frozen {P : Program} {w : World} {K : PySem.W.Frag} {mg : Str → Option Value} {base : Heap} (Z : Facts K mg) : ∃ f fd, Ok P w K mg base 12 "frozen" ["thing"] s_frozen f fd F_frozen := by
  obtain ⟨f, fd, hm, FD⟩ := Z.d_frozen
  have hk := FD.kp
  have hb : Binds K fd ["thing"] [] := FD.bindsN (fun _ _ _ _ _ _ us hl => match us, hl with | [_], _ => rfl)
  refine ⟨f, fd, hm, hk, hb, FD, ?_⟩
  have all : ∀ n : Nat, FnP P w K mg base (n + 0) f fd ["thing"] (Fz_frozen n) := fun n => by
    induction n with
    | zero => exact fnP_none
    | succ n hF =>
      refine FnG.mono (fnP_of (k := n + 0) (He5.fun_of FD) sc_frozen fun cdv A outer s H hgd hr => ⟨_, ?_, fun _ _ h => h⟩) (by omega)
      have hu := hr.units
      exact bx_cons (sx_if (tx_val (ex_isi2 (ex_var (pv 0)) rfl Z.f_isinstance rfl Z.f_list bt_list rfl Z.f_tuple bt_tuple)) (bx_one (sx_ret (ex_callTy c_tuple rfl Z.f_tuple bt_tuple (exs_cons (ex_lc rfl sc_frozen.nd (KV.ix_seq (ex_var (pv 0))) (own := [(("part" : Str), 1)]) (blk_of rfl rfl) (by decide) (fun _ _ _ _ _ => gx_name (pg_name sc_frozen.nd rfl (.inl rfl))) (fun _ _ _ _ _ => pts0) (fun _ _ _ _ _ => ex_call hF hgd hr hm hk hb (exv_cons (ex_var (pv 1)) (exv_nil)) (vCons_len vNil_len))) (exs_nil))))) (bx_nil)) (bx_one (sx_ret (ex_var (pv 0))))
  exact all 12
theorem ok_are_enough {P : Program} {w : World} {K : PySem.W.Frag} {mg : Str → Option Value} {base : Heap} (Z : Facts K mg) : ∃ f fd, Ok P w K mg base 1 "are_enough" ["ways", "trust", "rule"] s_are_enough f fd F_are_enough := by
  obtain ⟨f, fd, hm, FD⟩ := Z.d_are_enough
  obtain ⟨t_ANY, c_ANY⟩ := Z.c_ANY
  refine ⟨f, fd, hm, FD.kp, FD.bindsN (fun _ _ _ _ _ _ us hl => match us, hl with | [_, _, _], _ => rfl), FD, fnP_of (k := 0) (He5.fun_of FD) sc_are_enough fun cdv A outer s H hgd hr0 => ⟨_, ?_, fun _ _ h => h⟩⟩
  have hr := hr0
  have hu := hr.units
  exact bx_cons (sx_if (tx_cmp (o_eq hu) (ex_var (pv 2)) (ex_glob c_ANY (v := .str ("any" : Str)) ⟨_, rfl⟩ (fun _ => .str _)) (by rfl)) (bx_one (sx_ret (ex_cmp o_gt (ex_callB c_len rfl Z.f_len bb_len (exs_cons (ex_var (pv 0)) (exs_nil))) (ex_int) (by rfl)))) (bx_nil)) (bx_one (sx_ret (ex_callB (c_all rfl) rfl Z.f_all bb_all (exs_cons (ex_lc rfl sc_are_enough.nd (KV.ix_seq (ex_var (pv 1))) (own := [(("key" : Str), 3)]) (blk_of rfl rfl) (by decide) (fun _ _ _ _ _ => gx_name (pg_name sc_are_enough.nd rfl (.inl rfl))) (fun _ _ _ _ _ => pts0) (fun _ _ _ _ _ => ex_cmp (o_in hu) (ex_ix (ex_var (pv 3)) (ex_int) (fun _ _ => rfl)) (ex_var (pv 0)) (by rfl))) (exs_nil)))))
theorem ok_keys_believed {P : Program} {w : World} {K : PySem.W.Frag} {mg : Str → Option Value} {base : Heap} (Z : Facts K mg) : ∃ f fd, Ok P w K mg base 13 "keys_believed" ["version", "trust", "rule"] s_keys_believed f fd F_keys_believed := by
  obtain ⟨f, fd, hm, FD⟩ := Z.d_keys_believed
  obtain ⟨f_are_enough, d_are_enough, F_are_enough⟩ := ok_are_enough (P := P) (w := w) (base := base) Z
  obtain ⟨f_frozen, d_frozen, F_frozen⟩ := ok_frozen (P := P) (w := w) (base := base) Z
  refine ⟨f, fd, hm, FD.kp, FD.bindsN (fun _ _ _ _ _ _ us hl => match us, hl with | [_, _, _], _ => rfl), FD, fnP_of (k := 12) (He5.fun_of FD) sc_keys_believed fun cdv A outer s H hgd hr0 => ⟨_, ?_, fun _ _ h => h⟩⟩
  have hr := hr0
  have hu := hr.units
  exact bx_cons (sx_asg (ex_call (FnG.mono F_frozen.run (by decide)) hgd hr F_frozen.m F_frozen.kp F_frozen.b (exv_cons (ex_var (pv 0)) (exv_nil)) (vCons_len vNil_len)) (gx_tup 5 rfl (gxs_cons (gx_name (pg_name sc_keys_believed.nd rfl (.inr rfl))) (gxs_cons (gx_name (pg_name sc_keys_believed.nd rfl (.inr rfl))) (gxs_cons (gx_name (pg_name sc_keys_believed.nd rfl (.inl rfl))) (gxs_cons (gx_name (pg_name sc_keys_believed.nd rfl (.inl rfl))) (gxs_cons (gx_name (pg_name sc_keys_believed.nd rfl (.inr rfl))) (gxs_nil)))))) (gsCons_len (gsCons_len (gsCons_len (gsCons_len (gsCons_len gsNil_len))))))) (bx_cons (sx_set sc_keys_believed.nd rfl (.inl rfl) (ex_call (FnG.mono F_frozen.run (by decide)) hgd hr F_frozen.m F_frozen.kp F_frozen.b (exv_cons (ex_var (pv 1)) (exv_nil)) (vCons_len vNil_len))) (bx_cons (sx_setLc rfl sc_keys_believed.nd rfl rfl rfl (KV.ix_seq (ex_var (pv 8))) (own := [(("key" : Str), 10)]) (blk_of rfl rfl) (by decide) (fun _ _ _ _ _ => gx_name (pg_name sc_keys_believed.nd rfl (.inl rfl))) (fun _ _ _ _ _ => pts1 (tx_of_wx (wx_and (tx_cmp (o_in hu) (ex_var (pv 10)) (ex_var (pv 3)) (by rfl)) (wx_and (tx_cmp (o_in hu) (ex_ix (ex_var (pv 10)) (ex_int) (fun _ _ => rfl)) (ex_var (pv 4)) (by rfl)) (wx_and1 (tx_cmp (o_notIn hu) (ex_ix (ex_var (pv 10)) (ex_int) (fun _ _ => rfl)) (ex_var (pv 7)) (by rfl))))))) (fun _ _ _ _ _ => ex_ix (ex_var (pv 10)) (ex_int) (fun _ _ => rfl))) (bx_one (sx_ret (ex_call (FnG.mono F_are_enough.run (by decide)) hgd hr F_are_enough.m F_are_enough.kp F_are_enough.b (exv_cons (ex_var (pv 9)) (exv_cons (ex_var (pv 8)) (exv_cons (ex_var (pv 2)) (exv_nil)))) (vCons_len (vCons_len (vCons_len vNil_len))))))))
theorem ok_rest_believed {P : Program} {w : World} {K : PySem.W.Frag} {mg : Str → Option Value} {base : Heap} (Z : Facts K mg) : ∃ f fd, Ok P w K mg base 13 "rest_believed" ["version", "keyed", "trust", "rule"] s_rest_believed f fd F_rest_believed := by
  obtain ⟨f, fd, hm, FD⟩ := Z.d_rest_believed
  obtain ⟨f_are_enough, d_are_enough, F_are_enough⟩ := ok_are_enough (P := P) (w := w) (base := base) Z
  obtain ⟨f_frozen, d_frozen, F_frozen⟩ := ok_frozen (P := P) (w := w) (base := base) Z
  refine ⟨f, fd, hm, FD.kp, FD.bindsN (fun _ _ _ _ _ _ us hl => match us, hl with | [_, _, _, _], _ => rfl), FD, fnP_of (k := 12) (He5.fun_of FD) sc_rest_believed fun cdv A outer s H hgd hr0 => ⟨_, ?_, fun _ _ h => h⟩⟩
  have hr := hr0
  have hu := hr.units
  exact bx_cons (sx_asg (ex_tup (exv_cons (ex_ix (ex_call (FnG.mono F_frozen.run (by decide)) hgd hr F_frozen.m F_frozen.kp F_frozen.b (exv_cons (ex_var (pv 0)) (exv_nil)) (vCons_len vNil_len)) (ex_int) (fun _ _ => rfl)) (exv_cons (ex_ix (ex_call (FnG.mono F_frozen.run (by decide)) hgd hr F_frozen.m F_frozen.kp F_frozen.b (exv_cons (ex_var (pv 1)) (exv_nil)) (vCons_len vNil_len)) (ex_int) (fun _ _ => rfl)) (exv_cons (ex_ix (ex_call (FnG.mono F_frozen.run (by decide)) hgd hr F_frozen.m F_frozen.kp F_frozen.b (exv_cons (ex_var (pv 1)) (exv_nil)) (vCons_len vNil_len)) (ex_int) (fun _ _ => rfl)) (exv_nil))))) (gx_tup 3 rfl (gxs_cons (gx_name (pg_name sc_rest_believed.nd rfl (.inr rfl))) (gxs_cons (gx_name (pg_name sc_rest_believed.nd rfl (.inl rfl))) (gxs_cons (gx_name (pg_name sc_rest_believed.nd rfl (.inr rfl))) (gxs_nil)))) (gsCons_len (gsCons_len (gsCons_len gsNil_len))))) (bx_cons (sx_setLc rfl sc_rest_believed.nd rfl rfl rfl (KV.ix_seq (ex_var (pv 5))) (own := [(("key" : Str), 8)]) (blk_of rfl rfl) (by decide) (fun _ _ _ _ _ => gx_name (pg_name sc_rest_believed.nd rfl (.inl rfl))) (fun _ _ _ _ _ => pts1 (tx_of_wx (wx_and (tx_cmp (o_in hu) (ex_ix (ex_var (pv 8)) (ex_int) (fun _ _ => rfl)) (ex_var (pv 4)) (by rfl)) (wx_and1 (tx_cmp (o_notIn hu) (ex_ix (ex_var (pv 8)) (ex_int) (fun _ _ => rfl)) (ex_var (pv 6)) (by rfl)))))) (fun _ _ _ _ _ => ex_ix (ex_var (pv 8)) (ex_int) (fun _ _ => rfl))) (bx_one (sx_ret (ex_call (FnG.mono F_are_enough.run (by decide)) hgd hr F_are_enough.m F_are_enough.kp F_are_enough.b (exv_cons (ex_var (pv 7)) (exv_cons (ex_call (FnG.mono F_frozen.run (by decide)) hgd hr F_frozen.m F_frozen.kp F_frozen.b (exv_cons (ex_var (pv 2)) (exv_nil)) (vCons_len vNil_len)) (exv_cons (ex_var (pv 3)) (exv_nil)))) (vCons_len (vCons_len (vCons_len vNil_len)))))))
theorem ok__law_box {P : Program} {w : World} {K : PySem.W.Frag} {mg : Str → Option Value} {base : Heap} (Z : Facts K mg) : ∃ f fd, Ok P w K mg base 1 "_law_box" ["_law_script", "_law_k"] s__law_box f fd F__law_box := by
  obtain ⟨f, fd, hm, FD⟩ := Z.d__law_box
  refine ⟨f, fd, hm, FD.kp, FD.bindsN (fun _ _ _ _ _ _ us hl => match us, hl with | [_, _], _ => rfl), FD, fnP_of (k := 0) (He5.fun_of FD) sc__law_box fun cdv A outer s H hgd hr0 => ⟨_, ?_, fun _ _ h => h⟩⟩
  have hr := hr0
  have hu := hr.units
  exact bx_cons (sx_set sc__law_box.nd rfl (.inl rfl) (ex_if (tx_cmp o_lt (ex_var (pv 1)) (ex_callB c_len rfl Z.f_len bb_len (exs_cons (ex_var (pv 0)) (exs_nil))) (by rfl)) (ex_ix (ex_var (pv 0)) (ex_var (pv 1)) (fun _ _ => rfl)) (ex_int))) (bx_one (sx_ret (ex_lst (exv_cons (ex_bin o_mul (ex_callB c_abs rfl Z.f_abs bb_abs (exs_cons (ex_var (pv 2)) (exs_nil))) (ex_callTy c_int rfl Z.f_int bt_int (exs_cons (ex_cmp o_ge (ex_callB c_abs rfl Z.f_abs bb_abs (exs_cons (ex_var (pv 2)) (exs_nil))) (ex_bin o_pow (ex_int) (ex_int)) (by rfl)) (exs_nil)))) (exv_cons (ex_bin o_add (ex_bin o_add (ex_bin o_mod (ex_callTy c_int rfl Z.f_int bt_int (exs_cons (ex_var (pv 2)) (exs_nil))) (ex_int)) (ex_bin o_mul (ex_int) (ex_var (pv 1)))) (ex_int)) (exv_cons (ex_int) (exv_nil)))))))
theorem ok__law_take {P : Program} {w : World} {K : PySem.W.Frag} {mg : Str → Option Value} {base : Heap} (Z : Facts K mg) : ∃ f fd, OkB P w K mg base 1 "_law_take" ["_law_box_here", "_law_below"] s__law_take f fd G__law_take := by
  obtain ⟨f, fd, hm, FD⟩ := Z.d__law_take
  refine ⟨f, fd, hm, FD.kp, FD.bindsN (fun _ _ _ _ _ _ us hl => match us, hl with | [_, _], _ => rfl), FD, fnB_of (k := 0) (He5.fun_of FD) sc__law_take fun cdv A outer s H hgd hr0 => ⟨_, ?_, fun _ _ _ h => h⟩⟩
  have hr := hr0
  have hu := hr.units
  exact bx_cons (sx_if (tx_cmp o_gt (ex_ix (ex_var (pv 0)) (ex_int) (fun _ _ => rfl)) (ex_int) (by rfl)) (bx_cons (sx_set sc__law_take.nd rfl (.inl rfl) (ex_bin o_mod (ex_callTy c_int rfl Z.f_int bt_int (exs_cons (ex_ix (ex_var (pv 0)) (ex_int) (fun _ _ => rfl)) (exs_nil))) (ex_var (pv 1)))) (bx_cons (sx_setIx (pv 0) (ex_bin o_div (ex_ix (ex_var (pv 0)) (ex_int) (fun _ _ => rfl)) (ex_var (pv 1))) (ex_int)) (bx_one (sx_ret (ex_var (pv 2)))))) (bx_nil)) (bx_cons (sx_setIx (pv 0) (ex_bin o_add (ex_ix (ex_var (pv 0)) (ex_int) (fun _ _ => rfl)) (ex_int)) (ex_int)) (bx_cons (sx_set sc__law_take.nd rfl (.inl rfl) (ex_bin o_mod (ex_callTy c_int rfl Z.f_int bt_int (exs_cons (ex_bin o_pow (ex_bin o_add (ex_ix (ex_var (pv 0)) (ex_int) (fun _ _ => rfl)) (ex_bin o_mul (ex_int) (ex_ix (ex_var (pv 0)) (ex_int) (fun _ _ => rfl)))) (ex_int)) (exs_nil))) (ex_int))) (bx_cons (sx_set sc__law_take.nd rfl (.inl rfl) (ex_bin o_mod (ex_callTy c_int rfl Z.f_int bt_int (exs_cons (ex_bin o_mul (ex_bin o_add (ex_var (pv 3)) (ex_bin o_mul (ex_ix (ex_var (pv 0)) (ex_int) (fun _ _ => rfl)) (ex_int))) (ex_bin o_add (ex_bin o_mod (ex_callTy c_int rfl Z.f_int bt_int (exs_cons (ex_var (pv 3)) (exs_nil))) (ex_int)) (ex_int))) (exs_nil))) (ex_int))) (bx_one (sx_ret (ex_bin o_mod (ex_callTy c_int rfl Z.f_int bt_int (exs_cons (ex_bin o_div (ex_bin o_mod (ex_callTy c_int rfl Z.f_int bt_int (exs_cons (ex_bin o_add (ex_bin o_mul (ex_var (pv 4)) (ex_int)) (ex_var (pv 3))) (exs_nil))) (ex_int)) (ex_int)) (exs_nil))) (ex_var (pv 1))))))))
theorem ok__law_pick {P : Program} {w : World} {K : PySem.W.Frag} {mg : Str → Option Value} {base : Heap} (Z : Facts K mg) : ∃ f fd, OkB P w K mg base 2 "_law_pick" ["_law_box_here", "_law_some"] s__law_pick f fd G__law_pick := by
  obtain ⟨f, fd, hm, FD⟩ := Z.d__law_pick
  obtain ⟨f__law_take, d__law_take, F__law_take⟩ := ok__law_take (P := P) (w := w) (base := base) Z
  refine ⟨f, fd, hm, FD.kp, FD.bindsN (fun _ _ _ _ _ _ us hl => match us, hl with | [_, _], _ => rfl), FD, fnB_of (k := 1) (He5.fun_of FD) sc__law_pick fun cdv A outer s H hgd hr0 => ⟨_, ?_, fun _ _ _ h => h⟩⟩
  have hr := hr0
  have hu := hr.units
  exact bx_one (sx_ret (ex_ix (ex_var (pv 1)) (ex_callBx (FnG.mono F__law_take.run (by decide)) hgd hr F__law_take.m F__law_take.kp F__law_take.b (pv 0) (exv_cons (ex_callB c_len rfl Z.f_len bb_len (exs_cons (ex_var (pv 1)) (exs_nil))) (exv_nil)) (fun r ds r' h => by have := (vCons_len vNil_len) r ds r' h; show ds.length + 1 = 2; omega)) (fun _ _ => rfl)))
theorem ok__law_same {P : Program} {w : World} {K : PySem.W.Frag} {mg : Str → Option Value} {base : Heap} (Z : Facts K mg) : ∃ f fd, Ok P w K mg base 1 "_law_same" ["_law_found", "_law_due"] s__law_same f fd F__law_same := by
  obtain ⟨f, fd, hm, FD⟩ := Z.d__law_same
  refine ⟨f, fd, hm, FD.kp, FD.bindsN (fun _ _ _ _ _ _ us hl => match us, hl with | [_, _], _ => rfl), FD, fnP_of (k := 0) (He5.fun_of FD) sc__law_same fun cdv A outer s H hgd hr0 => ⟨_, ?_, fun _ _ h => h⟩⟩
  have hr := hr0
  have hu := hr.units
  exact bx_one (sx_ret (ex_cmp (o_eq hu) (ex_callB (c_repr hgd hu) rfl Z.f_repr bb_repr (exs_cons (ex_var (pv 0)) (exs_nil))) (ex_callB (c_repr hgd hu) rfl Z.f_repr bb_repr (exs_cons (ex_var (pv 1)) (exs_nil))) (by rfl)))
theorem ok__law_covers {P : Program} {w : World} {K : PySem.W.Frag} {mg : Str → Option Value} {base : Heap} (Z : Facts K mg) : ∃ f fd, Ok P w K mg base 1 "_law_covers" ["_law_ways", "_law_trust_so", "_law_rule_so"] s__law_covers f fd F__law_covers := by
  obtain ⟨f, fd, hm, FD⟩ := Z.d__law_covers
  refine ⟨f, fd, hm, FD.kp, FD.bindsN (fun _ _ _ _ _ _ us hl => match us, hl with | [_, _, _], _ => rfl), FD, fnP_of (k := 0) (He5.fun_of FD) sc__law_covers fun cdv A outer s H hgd hr0 => ⟨_, ?_, fun _ _ h => h⟩⟩
  have hr := hr0
  have hu := hr.units
  exact bx_cons (sx_if (tx_cmp (o_eq hu) (ex_var (pv 2)) (ex_str) (by rfl)) (bx_one (sx_ret (ex_cmp (o_ne hu) (ex_var (pv 0)) (ex_lst (exv_nil)) (by rfl)))) (bx_nil)) (bx_one (sx_ret (ex_callB (c_all rfl) rfl Z.f_all bb_all (exs_cons (ex_lc rfl sc__law_covers.nd (KV.ix_seq (ex_var (pv 1))) (own := [(("_law_key" : Str), 3)]) (blk_of rfl rfl) (by decide) (fun _ _ _ _ _ => gx_name (pg_name sc__law_covers.nd rfl (.inl rfl))) (fun _ _ _ _ _ => pts0) (fun _ _ _ _ _ => ex_cmp (o_in hu) (ex_ix (ex_var (pv 3)) (ex_int) (fun _ _ => rfl)) (ex_var (pv 0)) (by rfl))) (exs_nil)))))
theorem ok__law_keys_ok {P : Program} {w : World} {K : PySem.W.Frag} {mg : Str → Option Value} {base : Heap} (Z : Facts K mg) : ∃ f fd, Ok P w K mg base 2 "_law_keys_ok" ["_law_told_so", "_law_trust_so", "_law_rule_so"] s__law_keys_ok f fd F__law_keys_ok := by
  obtain ⟨f, fd, hm, FD⟩ := Z.d__law_keys_ok
  obtain ⟨f__law_covers, d__law_covers, F__law_covers⟩ := ok__law_covers (P := P) (w := w) (base := base) Z
  refine ⟨f, fd, hm, FD.kp, FD.bindsN (fun _ _ _ _ _ _ us hl => match us, hl with | [_, _, _], _ => rfl), FD, fnP_of (k := 1) (He5.fun_of FD) sc__law_keys_ok fun cdv A outer s H hgd hr0 => ⟨_, ?_, fun _ _ h => h⟩⟩
  have hr := hr0
  have hu := hr.units
  exact bx_cons (sx_asg (ex_var (pv 0)) (gx_tup 5 rfl (gxs_cons (gx_name (pg_name sc__law_keys_ok.nd rfl (.inr rfl))) (gxs_cons (gx_name (pg_name sc__law_keys_ok.nd rfl (.inr rfl))) (gxs_cons (gx_name (pg_name sc__law_keys_ok.nd rfl (.inl rfl))) (gxs_cons (gx_name (pg_name sc__law_keys_ok.nd rfl (.inl rfl))) (gxs_cons (gx_name (pg_name sc__law_keys_ok.nd rfl (.inr rfl))) (gxs_nil)))))) (gsCons_len (gsCons_len (gsCons_len (gsCons_len (gsCons_len gsNil_len))))))) (bx_cons (sx_setLc rfl sc__law_keys_ok.nd rfl rfl rfl (KV.ix_seq (ex_var (pv 1))) (own := [(("_law_key" : Str), 9)]) (blk_of rfl rfl) (by decide) (fun _ _ _ _ _ => gx_name (pg_name sc__law_keys_ok.nd rfl (.inl rfl))) (fun _ _ _ _ _ => pts1 (tx_of_wx (wx_and (tx_cmp (o_in hu) (ex_var (pv 9)) (ex_var (pv 3)) (by rfl)) (wx_and (tx_cmp (o_in hu) (ex_ix (ex_var (pv 9)) (ex_int) (fun _ _ => rfl)) (ex_var (pv 4)) (by rfl)) (wx_and1 (tx_cmp (o_notIn hu) (ex_ix (ex_var (pv 9)) (ex_int) (fun _ _ => rfl)) (ex_var (pv 7)) (by rfl))))))) (fun _ _ _ _ _ => ex_ix (ex_var (pv 9)) (ex_int) (fun _ _ => rfl))) (bx_one (sx_ret (ex_call (FnG.mono F__law_covers.run (by decide)) hgd hr F__law_covers.m F__law_covers.kp F__law_covers.b (exv_cons (ex_var (pv 8)) (exv_cons (ex_var (pv 1)) (exv_cons (ex_var (pv 2)) (exv_nil)))) (vCons_len (vCons_len (vCons_len vNil_len)))))))
theorem ok__law_rest_ok {P : Program} {w : World} {K : PySem.W.Frag} {mg : Str → Option Value} {base : Heap} (Z : Facts K mg) : ∃ f fd, Ok P w K mg base 2 "_law_rest_ok" ["_law_told_so", "_law_mine", "_law_trust_so", "_law_rule_so"] s__law_rest_ok f fd F__law_rest_ok := by
  obtain ⟨f, fd, hm, FD⟩ := Z.d__law_rest_ok
  obtain ⟨f__law_covers, d__law_covers, F__law_covers⟩ := ok__law_covers (P := P) (w := w) (base := base) Z
  refine ⟨f, fd, hm, FD.kp, FD.bindsN (fun _ _ _ _ _ _ us hl => match us, hl with | [_, _, _, _], _ => rfl), FD, fnP_of (k := 1) (He5.fun_of FD) sc__law_rest_ok fun cdv A outer s H hgd hr0 => ⟨_, ?_, fun _ _ h => h⟩⟩
  have hr := hr0
  have hu := hr.units
  exact bx_cons (sx_setLc rfl sc__law_rest_ok.nd rfl rfl rfl (KV.ix_seq (ex_ix (ex_var (pv 1)) (ex_int) (fun _ _ => rfl))) (own := [(("_law_key" : Str), 5)]) (blk_of rfl rfl) (by decide) (fun _ _ _ _ _ => gx_name (pg_name sc__law_rest_ok.nd rfl (.inl rfl))) (fun _ _ _ _ _ => pts1 (tx_of_wx (wx_and (tx_cmp (o_notIn hu) (ex_ix (ex_var (pv 5)) (ex_int) (fun _ _ => rfl)) (ex_ix (ex_var (pv 1)) (ex_int) (fun _ _ => rfl)) (by rfl)) (wx_and1 (tx_cmp (o_in hu) (ex_ix (ex_var (pv 5)) (ex_int) (fun _ _ => rfl)) (ex_ix (ex_var (pv 0)) (ex_int) (fun _ _ => rfl)) (by rfl)))))) (fun _ _ _ _ _ => ex_ix (ex_var (pv 5)) (ex_int) (fun _ _ => rfl))) (bx_one (sx_ret (ex_call (FnG.mono F__law_covers.run (by decide)) hgd hr F__law_covers.m F__law_covers.kp F__law_covers.b (exv_cons (ex_var (pv 4)) (exv_cons (ex_var (pv 2)) (exv_cons (ex_var (pv 3)) (exv_nil)))) (vCons_len (vCons_len (vCons_len vNil_len))))))
theorem ok__law_some_keys {P : Program} {w : World} {K : PySem.W.Frag} {mg : Str → Option Value} {base : Heap} (Z : Facts K mg) : ∃ f fd, OkB P w K mg base 2 "_law_some_keys" ["_law_box_here", "_law_most"] s__law_some_keys f fd G__law_some_keys := by
  obtain ⟨f, fd, hm, FD⟩ := Z.d__law_some_keys
  obtain ⟨f__law_take, d__law_take, F__law_take⟩ := ok__law_take (P := P) (w := w) (base := base) Z
  refine ⟨f, fd, hm, FD.kp, FD.bindsN (fun _ _ _ _ _ _ us hl => match us, hl with | [_, _], _ => rfl), FD, fnB_of (k := 1) (He5.fun_of FD) sc__law_some_keys fun cdv A outer s H hgd hr0 => ⟨_, ?_, fun _ _ _ h => h⟩⟩
  have hr := hr0
  have hu := hr.units
  exact bx_cons (sx_setLc rfl sc__law_some_keys.nd rfl rfl rfl (ix_range1 rfl Z.f_range (exs_cons (ex_int) (exs_nil))) (own := [(("_law_number" : Str), 3)]) (blk_of rfl rfl) (by decide) (fun _ _ _ _ _ => gx_name (pg_name sc__law_some_keys.nd rfl (.inl rfl))) (fun _ _ _ _ _ => pts0) (fun _ _ _ _ _ => ex_tup (exv_cons (ex_var (pv 3)) (exv_cons (ex_callBx (FnG.mono F__law_take.run (by decide)) hgd hr F__law_take.m F__law_take.kp F__law_take.b (pv 0) (exv_cons (ex_int) (exv_nil)) (fun r ds r' h => by have := (vCons_len vNil_len) r ds r' h; show ds.length + 1 = 2; omega)) (exv_nil))))) (bx_one (sx_ret (ex_callTy c_tuple rfl Z.f_tuple bt_tuple (exs_cons (ex_lc rfl sc__law_some_keys.nd (KV.ix_seq (ex_var (pv 2))) (own := [(("_law_key" : Str), 4)]) (blk_of rfl rfl) (by decide) (fun _ _ _ _ _ => gx_name (pg_name sc__law_some_keys.nd rfl (.inl rfl))) (fun _ _ _ _ _ => pts1 (tx_cmp (o_eq hu) (ex_callBx (FnG.mono F__law_take.run (by decide)) hgd hr F__law_take.m F__law_take.kp F__law_take.b (pv 0) (exv_cons (ex_var (pv 1)) (exv_nil)) (fun r ds r' h => by have := (vCons_len vNil_len) r ds r' h; show ds.length + 1 = 2; omega)) (ex_int) (by rfl))) (fun _ _ _ _ _ => ex_var (pv 4))) (exs_nil)))))
theorem ok__law_numbers {P : Program} {w : World} {K : PySem.W.Frag} {mg : Str → Option Value} {base : Heap} (Z : Facts K mg) : ∃ f fd, OkB P w K mg base 2 "_law_numbers" ["_law_box_here"] s__law_numbers f fd G__law_numbers := by
  obtain ⟨f, fd, hm, FD⟩ := Z.d__law_numbers
  obtain ⟨f__law_take, d__law_take, F__law_take⟩ := ok__law_take (P := P) (w := w) (base := base) Z
  refine ⟨f, fd, hm, FD.kp, FD.bindsN (fun _ _ _ _ _ _ us hl => match us, hl with | [_], _ => rfl), FD, fnB_of (k := 1) (He5.fun_of FD) sc__law_numbers fun cdv A outer s H hgd hr0 => ⟨_, ?_, fun _ _ _ h => h⟩⟩
  have hr := hr0
  have hu := hr.units
  exact bx_one (sx_ret (ex_callTy c_tuple rfl Z.f_tuple bt_tuple (exs_cons (ex_lc rfl sc__law_numbers.nd (ix_range2 rfl Z.f_range (exs_cons (ex_un o_neg (ex_int)) (exs_cons (ex_int) (exs_nil)))) (own := [(("_law_number" : Str), 1)]) (blk_of rfl rfl) (by decide) (fun _ _ _ _ _ => gx_name (pg_name sc__law_numbers.nd rfl (.inl rfl))) (fun _ _ _ _ _ => pts1 (tx_cmp (o_eq hu) (ex_callBx (FnG.mono F__law_take.run (by decide)) hgd hr F__law_take.m F__law_take.kp F__law_take.b (pv 0) (exv_cons (ex_int) (exv_nil)) (fun r ds r' h => by have := (vCons_len vNil_len) r ds r' h; show ds.length + 1 = 2; omega)) (ex_int) (by rfl))) (fun _ _ _ _ _ => ex_var (pv 1))) (exs_nil))))
theorem ok__law_version {P : Program} {w : World} {K : PySem.W.Frag} {mg : Str → Option Value} {base : Heap} (Z : Facts K mg) : ∃ f fd, OkB P w K mg base 3 "_law_version" ["_law_box_here"] s__law_version f fd G__law_version := by
  obtain ⟨f, fd, hm, FD⟩ := Z.d__law_version
  obtain ⟨f__law_numbers, d__law_numbers, F__law_numbers⟩ := ok__law_numbers (P := P) (w := w) (base := base) Z
  obtain ⟨f__law_pick, d__law_pick, F__law_pick⟩ := ok__law_pick (P := P) (w := w) (base := base) Z
  obtain ⟨f__law_some_keys, d__law_some_keys, F__law_some_keys⟩ := ok__law_some_keys (P := P) (w := w) (base := base) Z
  obtain ⟨f__law_take, d__law_take, F__law_take⟩ := ok__law_take (P := P) (w := w) (base := base) Z
  refine ⟨f, fd, hm, FD.kp, FD.bindsN (fun _ _ _ _ _ _ us hl => match us, hl with | [_], _ => rfl), FD, fnB_of (k := 2) (He5.fun_of FD) sc__law_version fun cdv A outer s H hgd hr0 => ⟨_, ?_, fun _ _ _ h => h⟩⟩
  have hr := hr0
  have hu := hr.units
  exact bx_cons (sx_set sc__law_version.nd rfl (.inl rfl) (ex_callBx (FnG.mono F__law_some_keys.run (by decide)) hgd hr F__law_some_keys.m F__law_some_keys.kp F__law_some_keys.b (pv 0) (exv_cons (ex_int) (exv_nil)) (fun r ds r' h => by have := (vCons_len vNil_len) r ds r' h; show ds.length + 1 = 2; omega))) (bx_cons (sx_set sc__law_version.nd rfl (.inl rfl) (ex_callTy c_tuple rfl Z.f_tuple bt_tuple (exs_cons (ex_lc rfl sc__law_version.nd (KV.ix_seq (ex_var (pv 1))) (own := [(("_law_key" : Str), 3)]) (blk_of rfl rfl) (by decide) (fun _ _ _ _ _ => gx_name (pg_name sc__law_version.nd rfl (.inl rfl))) (fun _ _ _ _ _ => pts1 (tx_cmp (o_eq hu) (ex_callBx (FnG.mono F__law_take.run (by decide)) hgd hr F__law_take.m F__law_take.kp F__law_take.b (pv 0) (exv_cons (ex_int) (exv_nil)) (fun r ds r' h => by have := (vCons_len vNil_len) r ds r' h; show ds.length + 1 = 2; omega)) (ex_int) (by rfl))) (fun _ _ _ _ _ => ex_ix (ex_var (pv 3)) (ex_int) (fun _ _ => rfl))) (exs_nil)))) (bx_one (sx_ret (ex_tup (exv_cons (ex_var (pv 1)) (exv_cons (ex_callBx (FnG.mono F__law_numbers.run (by decide)) hgd hr F__law_numbers.m F__law_numbers.kp F__law_numbers.b (pv 0) (exv_nil) (fun r ds r' h => by have := vNil_len r ds r' h; show ds.length + 1 = 1; omega)) (exv_cons (ex_callBx (FnG.mono F__law_pick.run (by decide)) hgd hr F__law_pick.m F__law_pick.kp F__law_pick.b (pv 0) (exv_cons (ex_lst (exv_cons (ex_non) (exv_cons (ex_tup (exv_nil)) (exv_cons (ex_tup (exv_cons (ex_tup (exv_cons (ex_int) (exv_cons (ex_int) (exv_nil)))) (exv_nil))) (exv_nil))))) (exv_nil)) (fun r ds r' h => by have := (vCons_len vNil_len) r ds r' h; show ds.length + 1 = 2; omega)) (exv_cons (ex_callBx (FnG.mono F__law_numbers.run (by decide)) hgd hr F__law_numbers.m F__law_numbers.kp F__law_numbers.b (pv 0) (exv_nil) (fun r ds r' h => by have := vNil_len r ds r' h; show ds.length + 1 = 1; omega)) (exv_cons (ex_var (pv 2)) (exv_nil))))))))))
theorem ok__law_right {P : Program} {w : World} {K : PySem.W.Frag} {mg : Str → Option Value} {base : Heap} (Z : Facts K mg) : ∃ f fd, OkB P w K mg base 14 "_law_right" ["_law_box_here"] s__law_right f fd G__law_right := by
  obtain ⟨f, fd, hm, FD⟩ := Z.d__law_right
  obtain ⟨f__law_keys_ok, d__law_keys_ok, F__law_keys_ok⟩ := ok__law_keys_ok (P := P) (w := w) (base := base) Z
  obtain ⟨f__law_pick, d__law_pick, F__law_pick⟩ := ok__law_pick (P := P) (w := w) (base := base) Z
  obtain ⟨f__law_rest_ok, d__law_rest_ok, F__law_rest_ok⟩ := ok__law_rest_ok (P := P) (w := w) (base := base) Z
  obtain ⟨f__law_same, d__law_same, F__law_same⟩ := ok__law_same (P := P) (w := w) (base := base) Z
  obtain ⟨f__law_some_keys, d__law_some_keys, F__law_some_keys⟩ := ok__law_some_keys (P := P) (w := w) (base := base) Z
  obtain ⟨f__law_version, d__law_version, F__law_version⟩ := ok__law_version (P := P) (w := w) (base := base) Z
  obtain ⟨f_keys_believed, d_keys_believed, F_keys_believed⟩ := ok_keys_believed (P := P) (w := w) (base := base) Z
  obtain ⟨f_rest_believed, d_rest_believed, F_rest_believed⟩ := ok_rest_believed (P := P) (w := w) (base := base) Z
  refine ⟨f, fd, hm, FD.kp, FD.bindsN (fun _ _ _ _ _ _ us hl => match us, hl with | [_], _ => rfl), FD, fnB_of (k := 13) (He5.fun_of FD) sc__law_right fun cdv A outer s H hgd hr0 => ⟨_, ?_, fun _ _ _ h => h⟩⟩
  have hr := hr0
  have hu := hr.units
  exact bx_cons (sx_setLc rfl sc__law_right.nd rfl rfl rfl (ix_range1 rfl Z.f_range (exs_cons (ex_int) (exs_nil))) (own := [(("_law_turn" : Str), 9)]) (blk_of rfl rfl) (by decide) (fun _ _ _ _ _ => gx_name (pg_name sc__law_right.nd rfl (.inl rfl))) (fun _ _ _ _ _ => pts0) (fun _ _ _ _ _ => ex_callBx (FnG.mono F__law_version.run (by decide)) hgd hr F__law_version.m F__law_version.kp F__law_version.b (pv 0) (exv_nil) (fun r ds r' h => by have := vNil_len r ds r' h; show ds.length + 1 = 1; omega))) (bx_cons (sx_setLc rfl sc__law_right.nd rfl rfl rfl (ix_range1 rfl Z.f_range (exs_cons (ex_int) (exs_nil))) (own := [(("_law_turn" : Str), 9)]) (blk_of rfl rfl) (by decide) (fun _ _ _ _ _ => gx_name (pg_name sc__law_right.nd rfl (.inl rfl))) (fun _ _ _ _ _ => pts0) (fun _ _ _ _ _ => ex_callBx (FnG.mono F__law_some_keys.run (by decide)) hgd hr F__law_some_keys.m F__law_some_keys.kp F__law_some_keys.b (pv 0) (exv_cons (ex_int) (exv_nil)) (fun r ds r' h => by have := (vCons_len vNil_len) r ds r' h; show ds.length + 1 = 2; omega))) (bx_cons (sx_set sc__law_right.nd rfl (.inl rfl) (ex_bin o_add (ex_lc rfl sc__law_right.nd (KV.ix_seq (ex_var (pv 2))) (own := [(("_law_trust_so" : Str), 4)]) (blk_of rfl rfl) (by decide) (fun _ _ _ _ _ => gx_name (pg_name sc__law_right.nd rfl (.inl rfl))) (fun _ _ _ _ _ => pts1 (tx_cmp (o_ne hu) (ex_var (pv 4)) (ex_tup (exv_nil)) (by rfl))) (fun _ _ _ _ _ => ex_var (pv 4))) (ex_lst (exv_cons (ex_tup (exv_cons (ex_tup (exv_cons (ex_int) (exv_cons (ex_int) (exv_nil)))) (exv_nil))) (exv_nil))))) (bx_cons (sx_set sc__law_right.nd rfl (.inl rfl) (ex_callB (c_repr hgd hu) rfl Z.f_repr bb_repr (exs_cons (ex_lst (exv_cons (ex_var (pv 1)) (exv_cons (ex_var (pv 2)) (exv_nil)))) (exs_nil)))) (bx_cons (sx_for PassesOwn.never rfl (KV.ix_seq (ex_var (pv 2))) (gx_name (pg_name sc__law_right.nd rfl (.inl rfl))) (bx_one (sx_for PassesOwn.never rfl (KV.ix_seq (ex_tup (exv_cons (ex_str) (exv_cons (ex_str) (exv_nil))))) (gx_name (pg_name sc__law_right.nd rfl (.inl rfl))) (bx_one (sx_for PassesOwn.never rfl (KV.ix_seq (ex_var (pv 1))) (gx_name (pg_name sc__law_right.nd rfl (.inl rfl))) (bx_cons (sx_if (tx_not (tx_val (ex_call (FnG.mono F__law_same.run (by decide)) hgd hr F__law_same.m F__law_same.kp F__law_same.b (exv_cons (ex_call (FnG.mono F_keys_believed.run (by decide)) hgd hr F_keys_believed.m F_keys_believed.kp F_keys_believed.b (exv_cons (ex_var (pv 6)) (exv_cons (ex_var (pv 4)) (exv_cons (ex_var (pv 5)) (exv_nil)))) (vCons_len (vCons_len (vCons_len vNil_len)))) (exv_cons (ex_call (FnG.mono F__law_keys_ok.run (by decide)) hgd hr F__law_keys_ok.m F__law_keys_ok.kp F__law_keys_ok.b (exv_cons (ex_var (pv 6)) (exv_cons (ex_var (pv 4)) (exv_cons (ex_var (pv 5)) (exv_nil)))) (vCons_len (vCons_len (vCons_len vNil_len)))) (exv_nil))) (vCons_len (vCons_len vNil_len))))) (bx_one (sx_ret (ex_bl))) (bx_nil)) (bx_cons (sx_set sc__law_right.nd rfl (.inl rfl) (ex_callBx (FnG.mono F__law_pick.run (by decide)) hgd hr F__law_pick.m F__law_pick.kp F__law_pick.b (pv 0) (exv_cons (ex_var (pv 1)) (exv_nil)) (fun r ds r' h => by have := (vCons_len vNil_len) r ds r' h; show ds.length + 1 = 2; omega))) (bx_cons (sx_set sc__law_right.nd rfl (.inl rfl) (ex_call (FnG.mono F__law_rest_ok.run (by decide)) hgd hr F__law_rest_ok.m F__law_rest_ok.kp F__law_rest_ok.b (exv_cons (ex_var (pv 7)) (exv_cons (ex_var (pv 6)) (exv_cons (ex_var (pv 4)) (exv_cons (ex_var (pv 5)) (exv_nil))))) (vCons_len (vCons_len (vCons_len (vCons_len vNil_len)))))) (bx_one (sx_if (tx_not (tx_val (ex_call (FnG.mono F__law_same.run (by decide)) hgd hr F__law_same.m F__law_same.kp F__law_same.b (exv_cons (ex_call (FnG.mono F_rest_believed.run (by decide)) hgd hr F_rest_believed.m F_rest_believed.kp F_rest_believed.b (exv_cons (ex_var (pv 7)) (exv_cons (ex_var (pv 6)) (exv_cons (ex_var (pv 4)) (exv_cons (ex_var (pv 5)) (exv_nil))))) (vCons_len (vCons_len (vCons_len (vCons_len vNil_len))))) (exv_cons (ex_var (pv 8)) (exv_nil))) (vCons_len (vCons_len vNil_len))))) (bx_one (sx_ret (ex_bl))) (bx_nil))))))))))) (bx_one (sx_ret (ex_cmp (o_eq hu) (ex_callB (c_repr hgd hu) rfl Z.f_repr bb_repr (exs_cons (ex_lst (exv_cons (ex_var (pv 1)) (exv_cons (ex_var (pv 2)) (exv_nil)))) (exs_nil))) (ex_var (pv 3)) (by rfl))))))))
theorem ok_law {P : Program} {w : World} {K : PySem.W.Frag} {mg : Str → Option Value} {base : Heap} (Z : Facts K mg) : ∃ f fd, Ok P w K mg base 15 "law" ["_law_script"] s_law f fd F_law := by
  obtain ⟨f, fd, hm, FD⟩ := Z.d_law
  obtain ⟨f__law_box, d__law_box, F__law_box⟩ := ok__law_box (P := P) (w := w) (base := base) Z
  obtain ⟨f__law_right, d__law_right, F__law_right⟩ := ok__law_right (P := P) (w := w) (base := base) Z
  refine ⟨f, fd, hm, FD.kp, FD.bindsN (fun _ _ _ _ _ _ us hl => match us, hl with | [_], _ => rfl), FD, fnP_of (k := 14) (He5.fun_of FD) sc_law fun cdv A outer s H hgd hr0 => ⟨_, ?_, fun _ _ h => h⟩⟩
  have hr := hr0
  have hu := hr.units
  exact bx_one (sx_ret (ex_callB (c_all rfl) rfl Z.f_all bb_all (exs_cons (ex_lc rfl sc_law.nd (ix_range1 rfl Z.f_range (exs_cons (ex_bin o_add (ex_int) (ex_callB (c_min2 rfl) rfl Z.f_min bb_min (exs_cons (ex_int) (exs_cons (ex_callB c_len rfl Z.f_len bb_len (exs_cons (ex_var (pv 0)) (exs_nil))) (exs_nil))))) (exs_nil))) (own := [(("_law_k" : Str), 1)]) (blk_of rfl rfl) (by decide) (fun _ _ _ _ _ => gx_name (pg_name sc_law.nd rfl (.inl rfl))) (fun _ _ _ _ _ => pts0) (fun _ _ _ _ _ => ex_callT (FnG.mono F__law_right.run (by decide)) hgd hr F__law_right.m F__law_right.kp F__law_right.b (ex_call (FnG.mono F__law_box.run (by decide)) hgd hr F__law_box.m F__law_box.kp F__law_box.b (exv_cons (ex_var (pv 0)) (exv_cons (ex_var (pv 1)) (exv_nil))) (vCons_len (vCons_len vNil_len))) rfl)) (exs_nil))))
theorem fd_eq {K : PySem.W.Frag} {x qual : Str} {params : Arguments} {body : List Stmt} {scope : Scope} {f : Addr} {fd fd2 : FuncData} (a : FunD K x qual params body scope [] [] f fd) (b : FunD K x qual params body scope [] [] f fd2) : fd = fd2 := by
  obtain ⟨_, _, _, _, _, _, _, _, _, _, e1, l1, _⟩ := a.ex
  obtain ⟨_, _, _, _, _, _, _, _, _, _, e2, l2, _⟩ := b.ex
  rw [l1] at l2
  injection l2 with l2
  injection l2 with _ _ l2
  injection l2
end KL

namespace KL
open PySem PySem.Spec PyProof.Rows L2 KV
mutual
def fzd : PyData → PyData
  | .list ds => .tuple (fzdAll ds)
  | .tuple ds => .tuple (fzdAll ds)
  | d => d
def fzdAll : List PyData → List PyData
  | [] => []
  | d :: ds => fzd d :: fzdAll ds
end
mutual
def dp : PyData → Nat
  | .list ds => dpAll ds + 1
  | .tuple ds => dpAll ds + 1
  | _ => 0
def dpAll : List PyData → Nat
  | [] => 0
  | d :: ds => max (dp d) (dpAll ds)
end
theorem fzdAll_map : ∀ ds : List PyData, fzdAll ds = ds.map fzd
  | [] => rfl
  | d :: ds => by rw [fzdAll, fzdAll_map ds]; rfl
theorem dpAll_le : ∀ {ds : List PyData} {d : PyData}, d ∈ ds → dp d ≤ dpAll ds
  | e :: ds, d, h => by
    rw [dpAll]
    rcases List.mem_cons.mp h with h | h
    · rw [h]; exact Nat.le_max_left ..
    · exact Nat.le_trans (dpAll_le h) (Nat.le_max_right ..)
theorem plain_mem : ∀ {ds : List PyData} {d : PyData}, PyData.plainAll ds = true → d ∈ ds → d.plain = true
  | e :: ds, d, h, hd => by
    rw [PyData.plainAll, Bool.and_eq_true] at h
    rcases List.mem_cons.mp hd with z | z
    · rw [z]; exact h.1
    · exact plain_mem h.2 z
theorem fz_seq {n : Nat} {s : PyData} {ds : List PyData} (hs : seqOf s = some ds) (ht : isT2 "list" "tuple" s = some true) (ih : ∀ d ∈ ds, Fz_frozen n [d] = some (.val (fzd d))) : Fz_frozen (n + 1) [s] = some (.val (.tuple (ds.map fzd))) := by
  have e : dLc [1] (iSeq (dVar 0)) (gN 1) (tYesD) (dCall (Fz_frozen n) (vCons (dVar 1) (vNil))) [.fz s, .un] = some (.tmp (.lst (ds.map fzd)), [.fz s, .un]) := by
    refine lc_map (r1 := [.fz s, .un]) (u := none) (ds := ds) (val := fzd) ?_ rfl (fun d hd => ⟨[.fz s, .fz d], rfl, rfl, ?_⟩) rfl
    · show (seqOf s).map _ = _
      rw [hs]; rfl
    · have q : dCall (Fz_frozen n) (vCons (dVar 1) vNil) [.fz s, .fz d] = some (.val (fzd d), [.fz s, .fz d]) := ev_call (ds := [d]) rfl (ih d hd)
      unfold dFrz; rw [q]; rfl
  refine ev_run (r := [.fz s, .un]) (x := .val (.tuple (ds.map fzd))) ?_ rfl
  refine ev_seqR ?_
  refine (ev_if (b := true) (r1 := [.fz s, .un]) ?_).trans ?_
  · show ((((isT2 "list" "tuple" s).map _)).bind bOf) = _
    rw [ht]; rfl
  · rw [if_pos rfl]
    refine ev_ret ?_
    exact ev_cb (ev_cons (ev_stl e) rfl) (ds := [.list (ds.map fzd)]) rfl rfl
theorem fz_ok : ∀ (n : Nat) (d : PyData), dp d ≤ n → d.plain = true → Fz_frozen (n + 1) [d] = some (.val (fzd d))
  | n, .none, _, _ => rfl
  | n, .bool _, _, _ => rfl
  | n, .int _, _, _ => rfl
  | n, .str _, _, _ => rfl
  | 0, .list ds, h, _ => by rw [dp] at h; omega
  | 0, .tuple ds, h, _ => by rw [dp] at h; omega
  | n + 1, .list ds, h, p => by
    rw [dp] at h
    rw [PyData.plain] at p
    rw [fzd, fzdAll_map]
    exact fz_seq rfl rfl fun d hd => fz_ok n d (by have := dpAll_le hd; omega) (plain_mem p hd)
  | n + 1, .tuple ds, h, p => by
    rw [dp] at h
    rw [PyData.plain] at p
    rw [fzd, fzdAll_map]
    exact fz_seq rfl rfl fun d hd => fz_ok n d (by have := dpAll_le hd; omega) (plain_mem p hd)
  | n, .dict _, _, p => nomatch p
theorem frozen_ok (d : PyData) (h : dp d ≤ 11) (p : d.plain = true) : F_frozen [d] = some (.val (fzd d)) := fz_ok 11 d h p
/-- a pair of ints, a row of them, a row of ints -/
def pr (p : Int × Int) : PyData := .tuple [.int p.1, .int p.2]
def prs (l : List (Int × Int)) : PyData := .tuple (l.map pr)
def ns (l : List Int) : PyData := .tuple (l.map .int)
theorem fzd_pr (p : Int × Int) : fzd (pr p) = pr p := rfl
theorem fzdAll_id : ∀ {l : List PyData}, (∀ d ∈ l, fzd d = d) → fzdAll l = l
  | [], _ => rfl
  | d :: l, h => by rw [fzdAll, h d (List.mem_cons_self ..), fzdAll_id fun e he => h e (List.mem_cons_of_mem _ he)]
theorem fzd_prs (l : List (Int × Int)) : fzd (prs l) = prs l := by
  unfold prs; rw [fzd, fzdAll_id]
  intro d hd
  obtain ⟨p, _, rfl⟩ := List.mem_map.mp hd
  rfl
theorem fzd_ns (l : List Int) : fzd (ns l) = ns l := by
  unfold ns; rw [fzd, fzdAll_id]
  intro d hd
  obtain ⟨p, _, rfl⟩ := List.mem_map.mp hd
  rfl
theorem dpAll_b {k : Nat} : ∀ {l : List PyData}, (∀ d ∈ l, dp d ≤ k) → dpAll l ≤ k
  | [], _ => Nat.zero_le _
  | d :: l, h => by rw [dpAll]; exact Nat.max_le.mpr ⟨h d (List.mem_cons_self ..), dpAll_b fun e he => h e (List.mem_cons_of_mem _ he)⟩
theorem dp_prs (l : List (Int × Int)) : dp (prs l) ≤ 2 := by
  unfold prs; rw [dp]
  have := dpAll_b (k := 1) (l := l.map pr) fun d hd => by obtain ⟨p, _, rfl⟩ := List.mem_map.mp hd; exact Nat.le_refl 1
  omega
theorem dp_ns (l : List Int) : dp (ns l) ≤ 1 := by
  unfold ns; rw [dp]
  have := dpAll_b (k := 0) (l := l.map .int) fun d hd => by obtain ⟨p, _, rfl⟩ := List.mem_map.mp hd; exact Nat.le_refl 0
  omega
theorem plain_b : ∀ {l : List PyData}, (∀ d ∈ l, d.plain = true) → PyData.plainAll l = true
  | [], _ => rfl
  | d :: l, h => by rw [PyData.plainAll, h d (List.mem_cons_self ..), plain_b fun e he => h e (List.mem_cons_of_mem _ he)]; rfl
theorem plain_prs (l : List (Int × Int)) : (prs l).plain = true := by
  unfold prs; rw [PyData.plain]
  exact plain_b fun d hd => by obtain ⟨p, _, rfl⟩ := List.mem_map.mp hd; rfl
theorem plain_ns (l : List Int) : (ns l).plain = true := by
  unfold ns; rw [PyData.plain]
  exact plain_b fun d hd => by obtain ⟨p, _, rfl⟩ := List.mem_map.mp hd; rfl
theorem frozen_prs (l : List (Int × Int)) : F_frozen [prs l] = some (.val (prs l)) := by
  have := frozen_ok (prs l) (by have := dp_prs l; omega) (plain_prs l)
  rwa [fzd_prs] at this
/-- a version -/
def ver (ks : List (Int × Int)) (hs : List Int) (a b : PyData) (gs : List Int) : PyData := .tuple [prs ks, ns hs, a, b, ns gs]
theorem frozen_ver (ks : List (Int × Int)) (hs : List Int) (a b : PyData) (gs : List Int) (ha : dp a ≤ 5) (hb : dp b ≤ 5) (pa : a.plain = true) (pb : b.plain = true) : F_frozen [ver ks hs a b gs] = some (.val (ver ks hs (fzd a) (fzd b) gs)) := by
  have := frozen_ok (ver ks hs a b gs) (by
    have := dp_prs ks
    have h2 := dp_ns hs
    have h3 := dp_ns gs
    unfold ver
    simp only [dp, dpAll]
    omega) (by
    unfold ver
    simp only [PyData.plain, PyData.plainAll, plain_prs, plain_ns, pa, pb, Bool.and_self])
  rw [this]
  unfold ver
  simp only [fzd, fzdAll, fzd_prs, fzd_ns]
theorem any_int (x : Int) (l : List Int) : ((l.map PyData.int).any fun y => PyData.eqv y (.int x)) = decide (x ∈ l) := by
  induction l with
  | nil => rfl
  | cons a l ih =>
    rw [List.map_cons, List.any_cons, ih]
    show (decide (a = x) || decide (x ∈ l)) = _
    by_cases h : x = a
    · simp [h]
    · simp [h, Ne.symm h]
theorem eqv_pr (p q : Int × Int) : PyData.eqv (pr p) (pr q) = decide (p = q) := by
  show (decide (p.1 = q.1) && (decide (p.2 = q.2) && true)) = _
  cases p; cases q
  simp [Prod.mk.injEq]
theorem any_pr (x : Int × Int) (l : List (Int × Int)) : ((l.map pr).any fun y => PyData.eqv y (pr x)) = decide (x ∈ l) := by
  induction l with
  | nil => rfl
  | cons a l ih =>
    rw [List.map_cons, List.any_cons, ih, eqv_pr]
    by_cases h : x = a
    · simp [h]
    · simp [h, Ne.symm h]
theorem in_ns (x : Int) (l : List Int) : opIn (.int x) (ns l) = some (.val (.bool (decide (x ∈ l)))) := by
  unfold opIn ns
  show (if min (PyData.depthAll (l.map .int)) (PyData.int x).depth ≤ 60 then _ else _) = _
  rw [if_pos (Nat.le_trans (Nat.min_le_right _ _) (show (PyData.int x).depth ≤ 60 by rw [PyData.depth]; decide)), any_int]
theorem in_list (x : Int) (l : List Int) : opIn (.int x) (.list (l.map .int)) = some (.val (.bool (decide (x ∈ l)))) := in_ns x l
theorem notin_ns (x : Int) (l : List Int) : opNotIn (.int x) (ns l) = some (.val (.bool (!decide (x ∈ l)))) := by
  unfold opNotIn ns
  show (if min (PyData.depthAll (l.map .int)) (PyData.int x).depth ≤ 60 then _ else _) = _
  rw [if_pos (Nat.le_trans (Nat.min_le_right _ _) (show (PyData.int x).depth ≤ 60 by rw [PyData.depth]; decide)), any_int]
theorem in_prs (x : Int × Int) (l : List (Int × Int)) : opIn (pr x) (prs l) = some (.val (.bool (decide (x ∈ l)))) := by
  unfold opIn prs
  show (if min (PyData.depthAll (l.map pr)) (pr x).depth ≤ 60 then _ else _) = _
  rw [if_pos (Nat.le_trans (Nat.min_le_right _ _) (show (pr x).depth ≤ 60 by unfold pr; simp [PyData.depth, PyData.depthAll])), any_pr]
/-- enough -/
def enough (ways : List Int) (trust : List (Int × Int)) (any : Bool) : Bool := if any then decide (0 < ways.length) else trust.all fun k => decide (k.2 ∈ ways)
def ruleD (any : Bool) : PyData := .str (if any then ("any" : Str) else ("each" : Str))
theorem bools_map {α : Type} (f : α → Bool) (l : List α) : boolsOf (l.map fun x => PyData.bool (f x)) = some (l.map f) := by
  have := boolsOf_map (l.map f)
  rwa [List.map_map] at this
theorem enough_ok (ways : List Int) (trust : List (Int × Int)) (any : Bool) : F_are_enough [.list (ways.map .int), prs trust, ruleD any] = some (.val (.bool (enough ways trust any))) := by
  cases any with
  | true =>
    refine ev_run (r := [.fz (.list (ways.map .int)), .fz (prs trust), .fz (ruleD true), .un]) (x := .val (.bool (enough ways trust true))) ?_ rfl
    refine ev_seqR ?_
    refine (ev_if (b := true) (r1 := [.fz (.list (ways.map .int)), .fz (prs trust), .fz (ruleD true), .un]) rfl).trans ?_
    rw [if_pos rfl]
    refine ev_ret ?_
    show some (R.val (.bool (decide ((0 : Int) < ((ways.map PyData.int).length : Int)))), _) = _
    rw [List.length_map]
    unfold enough
    rw [if_pos rfl]
    simp
  | false =>
    refine ev_run (r := [.fz (.list (ways.map .int)), .fz (prs trust), .fz (ruleD false), .un]) (x := .val (.bool (enough ways trust false))) ?_ rfl
    refine (ev_seq (r1 := [.fz (.list (ways.map .int)), .fz (prs trust), .fz (ruleD false), .un]) ((ev_if (b := false) (r1 := [.fz (.list (ways.map .int)), .fz (prs trust), .fz (ruleD false), .un]) rfl).trans (if_neg Bool.false_ne_true))).trans ?_
    refine ev_ret ?_
    have e := lc_map (vs := [3]) (fi := iSeq (dVar 1)) (g := gN 3) (f := dBin (dBin (dVar 3) (dC (.int 1)) opIx) (dVar 0) opIn) (r := [.fz (.list (ways.map .int)), .fz (prs trust), .fz (ruleD false), .un])
      (r1 := [.fz (.list (ways.map .int)), .fz (prs trust), .fz (ruleD false), .un]) (u := none) (ds := trust.map pr) (val := fun d => match d with
        | .tuple [_, .int x] => .bool (decide (x ∈ ways))
        | _ => .none) (r2 := [.fz (.list (ways.map .int)), .fz (prs trust), .fz (ruleD false), .un]) rfl rfl (fun d hd => by
        obtain ⟨p, _, rfl⟩ := List.mem_map.mp hd
        refine ⟨[.fz (.list (ways.map .int)), .fz (prs trust), .fz (ruleD false), .fz (pr p)], rfl, rfl, ?_⟩
        show (((opIn (.int p.2) (.list (ways.map .int))).bind fun z => some (z, _)).bind frz).bind vOf = _
        rw [in_list]; rfl) rfl
    rw [List.map_map] at e
    exact ev_cb (ev_cons (ev_stl e) rfl) (ds := [.list (trust.map fun p => .bool (decide (p.2 ∈ ways)))]) rfl (by
      show (boolsOf _).map _ = _
      rw [bools_map]
      unfold enough
      simp)
end KL

namespace KL
open PySem PySem.Spec PyProof.Rows L2 KV
def keysB (ks : List (Int × Int)) (hs gs : List Int) (trust : List (Int × Int)) (any : Bool) : Bool := enough ((trust.filter fun k => decide (k ∈ ks) && (decide (k.1 ∈ hs) && !decide (k.1 ∈ gs))).map (·.2)) trust any
def restB (ms : List Int) (ks : List (Int × Int)) (gs : List Int) (trust : List (Int × Int)) (any : Bool) : Bool := enough ((ks.filter fun k => decide (k.1 ∈ ms) && !decide (k.1 ∈ gs)).map (·.2)) trust any
theorem filt_map (keep : PyData → Bool) (val : PyData → PyData) (k : Int × Int → Bool) (l : List (Int × Int)) (h1 : ∀ p, keep (pr p) = k p) (h2 : ∀ p, val (pr p) = .int p.2) : ((l.map pr).filter keep).map val = ((l.filter k).map (·.2)).map PyData.int := by
  induction l with
  | nil => rfl
  | cons a l ih =>
    rw [List.map_cons]
    by_cases c : k a = true
    · rw [List.filter_cons_of_pos (by rw [h1]; exact c), List.filter_cons_of_pos c, List.map_cons, List.map_cons, List.map_cons, ih, h2]
    · rw [List.filter_cons_of_neg (by rw [h1]; exact c), List.filter_cons_of_neg c, ih]
theorem keys_ok (V T a b : PyData) (ks : List (Int × Int)) (hs gs : List Int) (trust : List (Int × Int)) (any : Bool) (hv : F_frozen [V] = some (.val (ver ks hs a b gs))) (ht : F_frozen [T] = some (.val (prs trust))) :
    F_keys_believed [V, T, ruleD any] = some (.val (.bool (keysB ks hs gs trust any))) := by
  have hv' : F_frozen [V] = some (.val (.tuple [prs ks, ns hs, a, b, ns gs])) := hv
  refine ev_run (x := .val (.bool (keysB ks hs gs trust any))) (r := [.fz V, .fz T, .fz (ruleD any), .fz (prs ks), .fz (ns hs), .fz a, .fz b, .fz (ns gs), .fz (prs trust), .fz (.list (((trust.filter fun k => decide (k ∈ ks) && (decide (k.1 ∈ hs) && !decide (k.1 ∈ gs))).map (·.2)).map PyData.int)), .un]) ?_ rfl
  refine (ev_seq (r1 := [.fz V, .fz T, .fz (ruleD any), .fz (prs ks), .fz (ns hs), .fz a, .fz b, .fz (ns gs), .un, .un, .un]) (ev_asg (ev_call (ds := [V]) rfl hv') rfl)).trans ?_
  refine (ev_seq (r1 := [.fz V, .fz T, .fz (ruleD any), .fz (prs ks), .fz (ns hs), .fz a, .fz b, .fz (ns gs), .fz (prs trust), .un, .un]) (ev_set (ev_call (ds := [T]) rfl ht) rfl)).trans ?_
  have e := lc_steady (vs := [10]) (fi := iSeq (dVar 8)) (g := gN 10) (t := dAnd (dB (dBin (dVar 10) (dVar 3) opIn)) (dAnd (dB (dBin (dBin (dVar 10) (dC (.int 0)) opIx) (dVar 4) opIn)) (dB (dBin (dBin (dVar 10) (dC (.int 0)) opIx) (dVar 7) opNotIn)))) (f := dBin (dVar 10) (dC (.int 1)) opIx)
    (r := [.fz V, .fz T, .fz (ruleD any), .fz (prs ks), .fz (ns hs), .fz a, .fz b, .fz (ns gs), .fz (prs trust), .un, .un]) (r1 := [.fz V, .fz T, .fz (ruleD any), .fz (prs ks), .fz (ns hs), .fz a, .fz b, .fz (ns gs), .fz (prs trust), .un, .un]) (u := none) (ds := trust.map pr)
    (keep := fun d => match d with
        | .tuple [.int x, .int y] => decide ((x, y) ∈ ks) && (decide (x ∈ hs) && !decide (x ∈ gs))
        | _ => false) (val := fun d => match d with
        | .tuple [_, x] => x
        | _ => .none) (r2 := [.fz V, .fz T, .fz (ruleD any), .fz (prs ks), .fz (ns hs), .fz a, .fz b, .fz (ns gs), .fz (prs trust), .un, .un]) rfl rfl (fun d hd => by
        obtain ⟨p, _, rfl⟩ := List.mem_map.mp hd
        refine ⟨[.fz V, .fz T, .fz (ruleD any), .fz (prs ks), .fz (ns hs), .fz a, .fz b, .fz (ns gs), .fz (prs trust), .un, .fz (pr p)], rfl, ?_, rfl, fun _ => rfl⟩
        exact ev_and (ev_b (ev_bin rfl rfl rfl rfl (in_prs p ks))) (ev_and (ev_b (ev_bin (ev_bin rfl rfl rfl rfl (z := .val (.int p.1)) rfl) rfl rfl rfl (in_ns p.1 hs))) (ev_b (ev_bin (ev_bin rfl rfl rfl rfl (z := .val (.int p.1)) rfl) rfl rfl rfl (notin_ns p.1 gs))))) rfl
  rw [filt_map _ _ (fun k => decide (k ∈ ks) && (decide (k.1 ∈ hs) && !decide (k.1 ∈ gs))) _ (fun p => rfl) (fun p => rfl)] at e
  refine (ev_seq (r1 := [.fz V, .fz T, .fz (ruleD any), .fz (prs ks), .fz (ns hs), .fz a, .fz b, .fz (ns gs), .fz (prs trust), .own (.lst (((trust.filter fun k => decide (k ∈ ks) && (decide (k.1 ∈ hs) && !decide (k.1 ∈ gs))).map (·.2)).map PyData.int)), .un]) (ev_setT e rfl)).trans ?_
  exact ev_ret (ev_call (ds := [.list (((trust.filter fun k => decide (k ∈ ks) && (decide (k.1 ∈ hs) && !decide (k.1 ∈ gs))).map (·.2)).map PyData.int), prs trust, ruleD any]) rfl (enough_ok _ _ _))
theorem rest_ok (V W T : PyData) (k0 : List (Int × Int)) (h0 : List Int) (a0 : PyData) (g0 : List Int) (h1 : List Int) (a1 b1 : PyData) (ms : List Int) (ks : List (Int × Int)) (gs : List Int) (trust : List (Int × Int)) (any : Bool) (hv : F_frozen [V] = some (.val (ver k0 h0 a0 (ns ms) g0))) (hw : F_frozen [W] = some (.val (ver ks h1 a1 b1 gs))) (ht : F_frozen [T] = some (.val (prs trust))) :
    F_rest_believed [V, W, T, ruleD any] = some (.val (.bool (restB ms ks gs trust any))) := by
  refine ev_run (x := .val (.bool (restB ms ks gs trust any))) (r := [.fz V, .fz W, .fz T, .fz (ruleD any), .fz (ns ms), .fz (prs ks), .fz (ns gs), .fz (.list (((ks.filter fun k => decide (k.1 ∈ ms) && !decide (k.1 ∈ gs)).map (·.2)).map PyData.int)), .un]) ?_ rfl
  have c1 : ∀ r : Nms, r[0]? = some (.fz V) → dCall F_frozen (vCons (dVar 0) vNil) r = some (.val (ver k0 h0 a0 (ns ms) g0), r) := fun r h => ev_call (ds := [V]) (by unfold vCons dFrz dVar; rw [h]; rfl) hv
  have c2 : ∀ r : Nms, r[1]? = some (.fz W) → dCall F_frozen (vCons (dVar 1) vNil) r = some (.val (ver ks h1 a1 b1 gs), r) := fun r h => ev_call (ds := [W]) (by unfold vCons dFrz dVar; rw [h]; rfl) hw
  refine (ev_seq (r1 := [.fz V, .fz W, .fz T, .fz (ruleD any), .fz (ns ms), .fz (prs ks), .fz (ns gs), .un, .un]) (ev_asg (d := .tuple [ns ms, prs ks, ns gs]) (r1 := [.fz V, .fz W, .fz T, .fz (ruleD any), .un, .un, .un, .un, .un]) ?_ rfl)).trans ?_
  · exact ev_tup (ev_vc (ev_bin (c1 _ rfl) rfl rfl rfl (z := .val (ns ms)) rfl) (ev_vc (ev_bin (c2 _ rfl) rfl rfl rfl (z := .val (prs ks)) rfl) (ev_vc (ev_bin (c2 _ rfl) rfl rfl rfl (z := .val (ns gs)) rfl) ev_vn))) (by show 3 ≤ 16777216; decide)
  have e := lc_steady (vs := [8]) (fi := iSeq (dVar 5)) (g := gN 8) (t := dAnd (dB (dBin (dBin (dVar 8) (dC (.int 0)) opIx) (dVar 4) opIn)) (dB (dBin (dBin (dVar 8) (dC (.int 0)) opIx) (dVar 6) opNotIn))) (f := dBin (dVar 8) (dC (.int 1)) opIx)
    (r := [.fz V, .fz W, .fz T, .fz (ruleD any), .fz (ns ms), .fz (prs ks), .fz (ns gs), .un, .un]) (r1 := [.fz V, .fz W, .fz T, .fz (ruleD any), .fz (ns ms), .fz (prs ks), .fz (ns gs), .un, .un]) (u := none) (ds := ks.map pr)
    (keep := fun d => match d with
        | .tuple [.int x, .int y] => decide (x ∈ ms) && !decide (x ∈ gs)
        | _ => false) (val := fun d => match d with
        | .tuple [_, x] => x
        | _ => .none) (r2 := [.fz V, .fz W, .fz T, .fz (ruleD any), .fz (ns ms), .fz (prs ks), .fz (ns gs), .un, .un]) rfl rfl (fun d hd => by
        obtain ⟨p, _, rfl⟩ := List.mem_map.mp hd
        refine ⟨[.fz V, .fz W, .fz T, .fz (ruleD any), .fz (ns ms), .fz (prs ks), .fz (ns gs), .un, .fz (pr p)], rfl, ?_, rfl, fun _ => rfl⟩
        exact ev_and (ev_b (ev_bin (ev_bin rfl rfl rfl rfl (z := .val (.int p.1)) rfl) rfl rfl rfl (in_ns p.1 ms))) (ev_b (ev_bin (ev_bin rfl rfl rfl rfl (z := .val (.int p.1)) rfl) rfl rfl rfl (notin_ns p.1 gs)))) rfl
  rw [filt_map _ _ (fun k => decide (k.1 ∈ ms) && !decide (k.1 ∈ gs)) _ (fun p => rfl) (fun p => rfl)] at e
  refine (ev_seq (r1 := [.fz V, .fz W, .fz T, .fz (ruleD any), .fz (ns ms), .fz (prs ks), .fz (ns gs), .own (.lst (((ks.filter fun k => decide (k.1 ∈ ms) && !decide (k.1 ∈ gs)).map (·.2)).map PyData.int)), .un]) (ev_setT e rfl)).trans ?_
  exact ev_ret (ev_call (ev_vc' (d := .list (((ks.filter fun k => decide (k.1 ∈ ms) && !decide (k.1 ∈ gs)).map (·.2)).map PyData.int)) (r1 := [.fz V, .fz W, .fz T, .fz (ruleD any), .fz (ns ms), .fz (prs ks), .fz (ns gs), .fz (.list (((ks.filter fun k => decide (k.1 ∈ ms) && !decide (k.1 ∈ gs)).map (·.2)).map PyData.int)), .un]) rfl
    (ev_vc (ev_call (ds := [T]) rfl ht) rfl)) (enough_ok _ _ _))
end KL

namespace KL
open PySem PySem.Spec PyProof.Rows L2 KV
theorem mul_r {i j : Int} (h : -18446744073709551616 < j ∧ j < 18446744073709551616) : opMul (.int i) (.int j) = some (.val (.int (i * j))) := by
  unfold opMul; exact if_pos (.inr h)
theorem mul_m {i j k c : Int} (h : 0 < k ∧ 0 ≤ c ∧ k + c < 18446744073709551616) : opMul (.int i) (.int (j % k + c)) = some (.val (.int (i * (j % k + c)))) := by
  have h1 := Int.emod_nonneg j (show k ≠ 0 by omega)
  have h2 := Int.emod_lt_of_pos j h.1
  unfold opMul; exact if_pos (.inr (by omega))
theorem mod_p {i j : Int} (h : 0 < j) : opMod (.int i) (.int j) = some (.val (.int (i % j))) := by
  unfold opMod KV.opI; simp [show j ≠ 0 by omega]; exact Int.fmod_eq_emod_of_nonneg _ (by omega)
theorem div_p {i j : Int} (h : 0 < j ∧ j < 1073741824) : opDiv (.int i) (.int j) = some (.val (.int (i / j))) := by
  unfold opDiv KV.opI; simp [show j ≠ 0 by omega, show j.natAbs < 1073741824 by omega]; exact Int.fdiv_eq_ediv_of_nonneg _ (by omega)
theorem pow_p {i : Int} (h : i.natAbs < 18446744073709551616) : opPow (.int i) (.int 3) = some (.val (.int (i ^ 3))) := by
  unfold opPow KV.opI; simp [h]
theorem take_ok (x y i m : Int) (hx : 0 ≤ x) (hy : 0 ≤ y ∧ y < 2^62) (hi : 0 ≤ i ∧ i < 1000000000) (hm : 0 < m ∧ m < 1000000000) :
    ∃ d x' i', G__law_take (.lst [.int x, .int y, .int i]) [.int m] = some (.val (.int d), .lst [.int x', .int y, .int i']) ∧ 0 ≤ d ∧ d < m ∧ 0 ≤ x' ∧ i ≤ i' ∧ i' ≤ i+1 := by
  have hm1 := hm.1
  have hm2 : m < 1073741824 := by omega
  by_cases h : 0 < x
  · refine ⟨x % m, x / m, i, ?_, Int.emod_nonneg _ (by omega), Int.emod_lt_of_pos _ hm.1, Int.ediv_nonneg hx (by omega), by omega, by omega⟩
    simp [G__law_take, runB, g__law_take, dSeq, dIf, dB, dBin, dVar, dC, dStl, dFrz, dSet, dSetIx, dRet, dCB, dCons, dNil, derefs, deref, env0, opIx, opC, opInt, mod_p, div_p, stl, KV.ret, KV.frz, vOf, bOf, ownL, intOf, ixN, setSl, seqOf, L2.atI, Ob.data, dNext, h, hm1, hm2]
  · have p0 : -18446744073709551616 < i + 1 := by omega
    have p1 : i + 1 < 18446744073709551616 := by omega
    have p2 : (y + 52051 * (i + 1)).natAbs < 18446744073709551616 := by omega
    have key : ∃ t : Int, G__law_take (.lst [.int x, .int y, .int i]) [.int m] = some (.val (.int (t % m)), .lst [.int x, .int y, .int (i+1)]) := by
      simp [G__law_take, runB, g__law_take, dSeq, dIf, dB, dBin, dVar, dC, dStl, dFrz, dSet, dSetIx, dRet, dCB, dCons, dNil, derefs, deref, env0, opIx, opC, opInt, mul_r, mul_m, opAdd, mod_p, div_p, pow_p, stl, KV.ret, KV.frz, vOf, bOf, ownL, intOf, ixN, setSl, seqOf, L2.atI, Ob.data, dNext, h, hm1, hm2, p0, p1, p2]
      exact ⟨_, rfl⟩
    obtain ⟨t, key⟩ := key
    exact ⟨_, x, i+1, key, Int.emod_nonneg _ (by omega), Int.emod_lt_of_pos _ hm.1, hx, by omega, by omega⟩
theorem pow18 : opPow (.int 10) (.int 18) = some (.val (.int 1000000000000000000)) := by
  unfold opPow KV.opI; simp
theorem abs_ok (c : Int) : opAbs [.int c] = some (.val (.int (c.natAbs : Int))) := by
  unfold opAbs
  have e : (if c < 0 then -c else c) = (c.natAbs : Int) := by split <;> omega
  show some (KV.R.val (PyData.int (if c < 0 then -c else c))) = _
  rw [e]
theorem box_ok (l : List Int) (k : Nat) (hk : k < 64) : ∃ x y, F__law_box [.list (l.map .int), .int k] = some (.tmp (.lst [.int x, .int y, .int 0])) ∧ 0 ≤ x ∧ 0 ≤ y ∧ y < 2^62 := by
  have key : ∀ c : Int, (dIfE (dB (dBin (dVar 1) (dCB (dCons (dVar 0) (dNil)) opLen) opLt)) (dBin (dVar 0) (dVar 1) opIx) (dC (.int 0))) [.fz (.list (l.map .int)), .fz (.int k), .un] = some (.val (.int c), [.fz (.list (l.map .int)), .fz (.int k), .un]) →
      ∃ x y, F__law_box [.list (l.map .int), .int k] = some (.tmp (.lst [.int x, .int y, .int 0])) ∧ 0 ≤ x ∧ 0 ≤ y ∧ y < 2^62 := by
    intro c h
    have h1 := Int.emod_nonneg c (show (2305843009213693951 : Int) ≠ 0 by decide)
    have h2 := Int.emod_lt_of_pos c (show (0 : Int) < 2305843009213693951 by decide)
    have km := mul_r (i := 15013) (j := (k : Int)) ⟨by omega, by omega⟩
    have fin : ∀ (b : Bool) (j : Int), decide ((1000000000000000000 : Int) ≤ (c.natAbs : Int)) = b → opInt [.bool b] = some (.val (.int j)) → (j = 0 ∨ j = 1) → F__law_box [.list (l.map .int), .int k] = some (.tmp (.lst [.int ((c.natAbs : Int) * j), .int (c % 2305843009213693951 + 15013 * k + 61), .int 0])) := by
      intro b j hb hj hj2
      have eA : dBin (dCB (dCons (dVar 2) (dNil)) opAbs) (dCB (dCons (dBin (dCB (dCons (dVar 2) (dNil)) opAbs) (dBin (dC (.int 10)) (dC (.int 18)) opPow) opGe) (dNil)) opInt) opMul [.fz (.list (l.map .int)), .fz (.int k), .fz (.int c)] = some (.val (.int ((c.natAbs : Int) * j)), [.fz (.list (l.map .int)), .fz (.int k), .fz (.int c)]) :=
        ev_bin (ev_cb (ds := [.int c]) rfl rfl (abs_ok c)) (ev_cb (ds := [.bool b]) (ev_cons (ev_stl (ev_bin (ev_cb (ds := [.int c]) rfl rfl (abs_ok c)) (ev_bin rfl rfl rfl rfl pow18) rfl rfl (by show some (KV.R.val (.bool (decide _))) = _; rw [hb]))) rfl) rfl hj) rfl rfl (mul_r (by omega))
      have eB : dBin (dBin (dBin (dCB (dCons (dVar 2) (dNil)) opInt) (dC (.int 2305843009213693951)) opMod) (dBin (dC (.int 15013)) (dVar 1) opMul) opAdd) (dC (.int 61)) opAdd [.fz (.list (l.map .int)), .fz (.int k), .fz (.int c)] = some (.val (.int (c % 2305843009213693951 + 15013 * k + 61)), [.fz (.list (l.map .int)), .fz (.int k), .fz (.int c)]) :=
        ev_bin (ev_bin (ev_bin (ev_cb (ds := [.int c]) rfl rfl (z := .val (.int c)) rfl) rfl rfl rfl (mod_p (by decide))) (ev_bin rfl rfl rfl rfl km) rfl rfl (z := .val (.int (c % 2305843009213693951 + 15013 * k))) rfl) rfl rfl rfl rfl
      exact ev_run (N := 3) (f := g__law_box) (x := .tmp (.lst [.int ((c.natAbs : Int) * j), .int (c % 2305843009213693951 + 15013 * k + 61), .int 0])) (r := [.fz (.list (l.map .int)), .fz (.int k), .fz (.int c)]) ((ev_seq (r1 := [.fz (.list (l.map .int)), .fz (.int k), .fz (.int c)]) (ev_set h rfl)).trans (ev_ret (ev_lst (ev_vc eA (ev_vc eB rfl)) (Nat.le_of_ble_eq_true rfl)))) rfl
    by_cases hc : (1000000000000000000 : Int) ≤ (c.natAbs : Int)
    · exact ⟨_, _, fin true 1 (decide_eq_true hc) rfl (.inr rfl), by omega, by omega, by omega⟩
    · exact ⟨_, _, fin false 0 (decide_eq_false hc) rfl (.inl rfl), by omega, by omega, by omega⟩
  by_cases hk2 : k < l.length
  · refine key (l[k]) ?_
    simp [dIfE, dB, dBin, dVar, dCB, dCons, dNil, dC, dStl, stl, derefs, deref, opLen, opC, bOf, hk2, opIx, seqOf, L2.atI, ixN]
  · refine key 0 ?_
    simp [dIfE, dB, dBin, dVar, dCB, dCons, dNil, dC, dStl, stl, derefs, deref, opLen, opC, bOf, hk2]
theorem ev_callB {G : Ob → List PyData → Option (KV.R × Ob)} {i : Nat} {fs : Denv} {r r1 r2 : Nms} {c0 c c' : Ob} {ds : List PyData} {z : KV.R} (h0 : r[i]? = some (.own c0)) (h : fs r = some (ds, r1)) (h1 : r1[i]? = some (.own c)) (h2 : G c ds = some (z, c')) (h3 : r1.set i (.own c') = r2) : dCallB G i fs r = some (z, r2) := by
  subst h3
  unfold dCallB
  rw [h0]
  show (fs r).bind _ = _
  rw [h]
  show (match r1[i]? with
    | some (.own c) => (G c ds).bind fun (z, c') => some (z, r1.set i (.own c'))
    | _ => none) = _
  rw [h1]
  show (G c ds).bind _ = _
  rw [h2]; rfl
theorem ev_callT {G : Ob → List PyData → Option (KV.R × Ob)} {g : Den} {r r1 : Nms} {c c' : Ob} {z : KV.R} (h : g r = some (.tmp c, r1)) (h1 : G c [] = some (z, c')) : dCallT G g r = some (z, r1) := by
  unfold dCallT
  rw [h]
  show (G c []).bind _ = _
  rw [h1]; rfl
/-- the law's box of draws after at most n of them -/
def BxI (n : Nat) (c : Ob) : Prop := ∃ x y i : Int, c = .lst [.int x, .int y, .int i] ∧ 0 ≤ x ∧ 0 ≤ y ∧ y < 2^62 ∧ 0 ≤ i ∧ i ≤ n
theorem BxI.mono {n m : Nat} {c : Ob} (h : BxI n c) (hm : n ≤ m) : BxI m c := by
  obtain ⟨x, y, i, e, a, b, d, f, g⟩ := h
  exact ⟨x, y, i, e, a, b, d, f, by omega⟩
theorem takeI {n : Nat} {c : Ob} (h : BxI n c) (hn : n ≤ 100000000) {m : Int} (hm : 0 < m ∧ m < 1000000000) : ∃ d c', G__law_take c [.int m] = some (.val (.int d), c') ∧ 0 ≤ d ∧ d < m ∧ BxI (n + 1) c' := by
  obtain ⟨x, y, i, rfl, hx, hy0, hy1, hi, hin⟩ := h
  obtain ⟨d, x', i', e, d0, d1, hx', l, u⟩ := take_ok x y i m hx ⟨hy0, hy1⟩ (by omega) hm
  exact ⟨d, _, e, d0, d1, x', y, i', rfl, hx', hy0, hy1, by omega, by omega⟩
theorem comp_box {vs : List Nat} {g : DenG} {t : DenT} {f : Den} {rest : Nms} {P : PyData → Prop} {K B : Nat} : ∀ (ds : List PyData) (n : Nat) (c : Ob), BxI n c → n + K * ds.length ≤ B →
    (∀ d ∈ ds, ∀ m c, BxI m c → m + K ≤ B → ∃ r1 b r2, g d (.own c :: rest) = some r1 ∧ t r1 = some (b, r2) ∧ (b = false → ∃ c', wipeE vs r2 = .own c' :: rest ∧ BxI (m + K) c') ∧
      (b = true → ∃ x r3 c', (dFrz f r2).bind vOf = some (x, r3) ∧ wipeE vs r3 = .own c' :: rest ∧ BxI (m + K) c' ∧ P x)) →
    ∃ xs c', compD vs g t f ds (.own c :: rest) = some (xs, .own c' :: rest) ∧ BxI (n + K * ds.length) c' ∧ (∀ x ∈ xs, P x) ∧ xs.length ≤ ds.length
  | [], n, c, h, _, _ => ⟨[], c, rfl, h.mono (by omega), fun x hx => (by cases hx), Nat.le_refl _⟩
  | d :: ds, n, c, h, hB, hs => by
    rw [List.length_cons, Nat.mul_succ] at hB
    obtain ⟨r1, b, r2, h1, h2, h3, h4⟩ := hs d (List.mem_cons_self ..) n c h (by omega)
    cases b with
    | false =>
      obtain ⟨c', e, i⟩ := h3 rfl
      obtain ⟨xs, c2, q1, q2, q3, q4⟩ := comp_box ds (n + K) c' i (by omega) fun e he => hs e (List.mem_cons_of_mem _ he)
      refine ⟨xs, c2, ?_, q2.mono (by rw [List.length_cons, Nat.mul_succ]; omega), q3, by rw [List.length_cons]; omega⟩
      unfold compD
      rw [h1, Option.bind_some, h2, Option.bind_some]
      show (if false = true then _ else compD vs g t f ds (wipeE vs r2)) = _
      rw [if_neg Bool.false_ne_true, e]
      exact q1
    | true =>
      obtain ⟨x, r3, c', e, e2, i, p⟩ := h4 rfl
      obtain ⟨xs, c2, q1, q2, q3, q4⟩ := comp_box ds (n + K) c' i (by omega) fun e he => hs e (List.mem_cons_of_mem _ he)
      refine ⟨x :: xs, c2, ?_, q2.mono (by rw [List.length_cons, Nat.mul_succ]; omega), fun z hz => ?_, by rw [List.length_cons, List.length_cons]; omega⟩
      · unfold compD
        rw [h1, Option.bind_some, h2, Option.bind_some]
        show (if true = true then _ else _) = _
        rw [if_pos rfl, e, Option.bind_some]
        show Option.map _ (compD vs g t f ds (wipeE vs r3)) = _
        rw [e2, q1]; rfl
      · rcases List.mem_cons.mp hz with k | k
        · rw [k]; exact p
        · exact q3 z k
theorem lc_box {vs : List Nat} {fi : DenI} {g : DenG} {t : DenT} {f : Den} {r rest rest1 r2 : Nms} {u : Option Nat} {P : PyData → Prop} {K B n : Nat} {ds : List PyData} {c : Ob} (hi : fi r = some (ds, .own c :: rest1, u)) (no : noOb vs (.own c :: rest1) = true)
    (hw : ∀ c', wipeE vs (.own c' :: rest1) = .own c' :: rest) (hc : BxI n c) (hB : n + K * ds.length ≤ B)
    (hs : ∀ d ∈ ds, ∀ m c, BxI m c → m + K ≤ B → ∃ r1 b r2, g d (.own c :: rest) = some r1 ∧ t r1 = some (b, r2) ∧ (b = false → ∃ c', wipeE vs r2 = .own c' :: rest ∧ BxI (m + K) c') ∧
      (b = true → ∃ x r3 c', (dFrz f r2).bind vOf = some (x, r3) ∧ wipeE vs r3 = .own c' :: rest ∧ BxI (m + K) c' ∧ P x))
    (hr : ∀ c', unlck u (restE vs (.own c :: rest1) (.own c' :: rest)) = .own c' :: r2) :
    ∃ xs c', dLc vs fi g t f r = some (.tmp (.lst xs), .own c' :: r2) ∧ BxI (n + K * ds.length) c' ∧ (∀ x ∈ xs, P x) ∧ xs.length ≤ ds.length := by
  obtain ⟨xs, c', q1, q2, q3, q4⟩ := comp_box ds n c hc hB hs
  refine ⟨xs, c', ?_, q2, q3, q4⟩
  unfold dLc
  rw [hi, Option.bind_some]
  show (if noOb vs (.own c :: rest1) = true then _ else _) = _
  rw [if_pos no, hw, q1, ← hr c']
  rfl
end KL

namespace KL
open PySem PySem.Spec PyProof.Rows L2 KV
theorem ne_nil (ways : List Int) : opNe (.list (ways.map .int)) (.list []) = some (.val (.bool (decide (0 < ways.length)))) := by
  unfold opNe
  rw [if_pos (Nat.le_trans (Nat.min_le_right _ _) (show (PyData.list []).depth ≤ 60 by rw [PyData.depth, PyData.depthAll]; decide))]
  cases ways with
  | nil => rfl
  | cons a l => simp [PyData.eqv]; first | done | rfl
theorem covers_ok (ways : List Int) (trust : List (Int × Int)) (any : Bool) : F__law_covers [.list (ways.map .int), prs trust, ruleD any] = some (.val (.bool (enough ways trust any))) := by
  cases any with
  | true =>
    refine ev_run (r := [.fz (.list (ways.map .int)), .fz (prs trust), .fz (ruleD true), .un]) (x := .val (.bool (enough ways trust true))) ?_ rfl
    refine ev_seqR ?_
    refine (ev_if (b := true) (r1 := [.fz (.list (ways.map .int)), .fz (prs trust), .fz (ruleD true), .un]) rfl).trans ?_
    rw [if_pos rfl]
    refine ev_ret ?_
    have e : enough ways trust true = decide (0 < ways.length) := by unfold enough; rw [if_pos rfl]
    rw [e]
    exact ev_bin rfl (ev_lst (ds := []) rfl (Nat.zero_le _)) rfl rfl (ne_nil ways)
  | false =>
    refine ev_run (r := [.fz (.list (ways.map .int)), .fz (prs trust), .fz (ruleD false), .un]) (x := .val (.bool (enough ways trust false))) ?_ rfl
    refine (ev_seq (r1 := [.fz (.list (ways.map .int)), .fz (prs trust), .fz (ruleD false), .un]) ((ev_if (b := false) (r1 := [.fz (.list (ways.map .int)), .fz (prs trust), .fz (ruleD false), .un]) rfl).trans (if_neg Bool.false_ne_true))).trans ?_
    refine ev_ret ?_
    have e := lc_map (vs := [3]) (fi := iSeq (dVar 1)) (g := gN 3) (f := dBin (dBin (dVar 3) (dC (.int 1)) opIx) (dVar 0) opIn) (r := [.fz (.list (ways.map .int)), .fz (prs trust), .fz (ruleD false), .un])
      (r1 := [.fz (.list (ways.map .int)), .fz (prs trust), .fz (ruleD false), .un]) (u := none) (ds := trust.map pr) (val := fun d => match d with
        | .tuple [_, .int x] => .bool (decide (x ∈ ways))
        | _ => .none) (r2 := [.fz (.list (ways.map .int)), .fz (prs trust), .fz (ruleD false), .un]) rfl rfl (fun d hd => by
        obtain ⟨p, _, rfl⟩ := List.mem_map.mp hd
        refine ⟨[.fz (.list (ways.map .int)), .fz (prs trust), .fz (ruleD false), .fz (pr p)], rfl, rfl, ?_⟩
        show (((opIn (.int p.2) (.list (ways.map .int))).bind fun z => some (z, _)).bind frz).bind vOf = _
        rw [in_list]; rfl) rfl
    rw [List.map_map] at e
    exact ev_cb (ev_cons (ev_stl e) rfl) (ds := [.list (trust.map fun p => .bool (decide (p.2 ∈ ways)))]) rfl (by
      show (boolsOf _).map _ = _
      rw [bools_map]
      unfold enough
      simp)
theorem keysown_ok (ks : List (Int × Int)) (hs gs : List Int) (a b : PyData) (trust : List (Int × Int)) (any : Bool) :
    F__law_keys_ok [ver ks hs a b gs, prs trust, ruleD any] = some (.val (.bool (keysB ks hs gs trust any))) := by
  refine ev_run (x := .val (.bool (keysB ks hs gs trust any))) (r := [.fz (ver ks hs a b gs), .fz (prs trust), .fz (ruleD any), .fz (prs ks), .fz (ns hs), .fz a, .fz b, .fz (ns gs), .fz (.list (((trust.filter fun k => decide (k ∈ ks) && (decide (k.1 ∈ hs) && !decide (k.1 ∈ gs))).map (·.2)).map PyData.int)), .un]) ?_ rfl
  refine (ev_seq (r1 := [.fz (ver ks hs a b gs), .fz (prs trust), .fz (ruleD any), .fz (prs ks), .fz (ns hs), .fz a, .fz b, .fz (ns gs), .un, .un]) rfl).trans ?_
  have e := lc_steady (vs := [9]) (fi := iSeq (dVar 1)) (g := gN 9) (t := dAnd (dB (dBin (dVar 9) (dVar 3) opIn)) (dAnd (dB (dBin (dBin (dVar 9) (dC (.int 0)) opIx) (dVar 4) opIn)) (dB (dBin (dBin (dVar 9) (dC (.int 0)) opIx) (dVar 7) opNotIn)))) (f := dBin (dVar 9) (dC (.int 1)) opIx)
    (r := [.fz (ver ks hs a b gs), .fz (prs trust), .fz (ruleD any), .fz (prs ks), .fz (ns hs), .fz a, .fz b, .fz (ns gs), .un, .un]) (r1 := [.fz (ver ks hs a b gs), .fz (prs trust), .fz (ruleD any), .fz (prs ks), .fz (ns hs), .fz a, .fz b, .fz (ns gs), .un, .un]) (u := none) (ds := trust.map pr)
    (keep := fun d => match d with
        | .tuple [.int x, .int y] => decide ((x, y) ∈ ks) && (decide (x ∈ hs) && !decide (x ∈ gs))
        | _ => false) (val := fun d => match d with
        | .tuple [_, x] => x
        | _ => .none) (r2 := [.fz (ver ks hs a b gs), .fz (prs trust), .fz (ruleD any), .fz (prs ks), .fz (ns hs), .fz a, .fz b, .fz (ns gs), .un, .un]) rfl rfl (fun d hd => by
        obtain ⟨p, _, rfl⟩ := List.mem_map.mp hd
        refine ⟨[.fz (ver ks hs a b gs), .fz (prs trust), .fz (ruleD any), .fz (prs ks), .fz (ns hs), .fz a, .fz b, .fz (ns gs), .un, .fz (pr p)], rfl, ?_, rfl, fun _ => rfl⟩
        exact ev_and (ev_b (ev_bin rfl rfl rfl rfl (in_prs p ks))) (ev_and (ev_b (ev_bin (ev_bin rfl rfl rfl rfl (z := .val (.int p.1)) rfl) rfl rfl rfl (in_ns p.1 hs))) (ev_b (ev_bin (ev_bin rfl rfl rfl rfl (z := .val (.int p.1)) rfl) rfl rfl rfl (notin_ns p.1 gs))))) rfl
  rw [filt_map _ _ (fun k => decide (k ∈ ks) && (decide (k.1 ∈ hs) && !decide (k.1 ∈ gs))) _ (fun p => rfl) (fun p => rfl)] at e
  refine (ev_seq (r1 := [.fz (ver ks hs a b gs), .fz (prs trust), .fz (ruleD any), .fz (prs ks), .fz (ns hs), .fz a, .fz b, .fz (ns gs), .own (.lst (((trust.filter fun k => decide (k ∈ ks) && (decide (k.1 ∈ hs) && !decide (k.1 ∈ gs))).map (·.2)).map PyData.int)), .un]) (ev_setT e rfl)).trans ?_
  exact ev_ret (ev_call (ds := [.list (((trust.filter fun k => decide (k ∈ ks) && (decide (k.1 ∈ hs) && !decide (k.1 ∈ gs))).map (·.2)).map PyData.int), prs trust, ruleD any]) rfl (covers_ok _ _ _))
theorem restown_ok (k0 : List (Int × Int)) (h0 : List Int) (a0 : PyData) (g0 : List Int) (h1 : List Int) (a1 b1 : PyData) (ms : List Int) (ks : List (Int × Int)) (gs : List Int) (trust : List (Int × Int)) (any : Bool) :
    F__law_rest_ok [ver k0 h0 a0 (ns ms) g0, ver ks h1 a1 b1 gs, prs trust, ruleD any] = some (.val (.bool (restB ms ks gs trust any))) := by
  have sw : (fun k : Int × Int => !decide (k.1 ∈ gs) && decide (k.1 ∈ ms)) = fun k => decide (k.1 ∈ ms) && !decide (k.1 ∈ gs) := funext fun k => Bool.and_comm ..
  refine ev_run (x := .val (.bool (restB ms ks gs trust any))) (r := [.fz (ver k0 h0 a0 (ns ms) g0), .fz (ver ks h1 a1 b1 gs), .fz (prs trust), .fz (ruleD any), .fz (.list (((ks.filter fun k => decide (k.1 ∈ ms) && !decide (k.1 ∈ gs)).map (·.2)).map PyData.int)), .un]) ?_ rfl
  have e := lc_steady (vs := [5]) (fi := iSeq (dBin (dVar 1) (dC (.int 0)) opIx)) (g := gN 5) (t := dAnd (dB (dBin (dBin (dVar 5) (dC (.int 0)) opIx) (dBin (dVar 1) (dC (.int 4)) opIx) opNotIn)) (dB (dBin (dBin (dVar 5) (dC (.int 0)) opIx) (dBin (dVar 0) (dC (.int 3)) opIx) opIn))) (f := dBin (dVar 5) (dC (.int 1)) opIx)
    (r := [.fz (ver k0 h0 a0 (ns ms) g0), .fz (ver ks h1 a1 b1 gs), .fz (prs trust), .fz (ruleD any), .un, .un]) (r1 := [.fz (ver k0 h0 a0 (ns ms) g0), .fz (ver ks h1 a1 b1 gs), .fz (prs trust), .fz (ruleD any), .un, .un]) (u := none) (ds := ks.map pr)
    (keep := fun d => match d with
        | .tuple [.int x, .int y] => !decide (x ∈ gs) && decide (x ∈ ms)
        | _ => false) (val := fun d => match d with
        | .tuple [_, x] => x
        | _ => .none) (r2 := [.fz (ver k0 h0 a0 (ns ms) g0), .fz (ver ks h1 a1 b1 gs), .fz (prs trust), .fz (ruleD any), .un, .un]) rfl rfl (fun d hd => by
        obtain ⟨p, _, rfl⟩ := List.mem_map.mp hd
        refine ⟨[.fz (ver k0 h0 a0 (ns ms) g0), .fz (ver ks h1 a1 b1 gs), .fz (prs trust), .fz (ruleD any), .un, .fz (pr p)], rfl, ?_, rfl, fun _ => rfl⟩
        exact ev_and (ev_b (ev_bin (ev_bin rfl rfl rfl rfl (z := .val (.int p.1)) rfl) (ev_bin rfl rfl rfl rfl (z := .val (ns gs)) rfl) rfl rfl (notin_ns p.1 gs))) (ev_b (ev_bin (ev_bin rfl rfl rfl rfl (z := .val (.int p.1)) rfl) (ev_bin rfl rfl rfl rfl (z := .val (ns ms)) rfl) rfl rfl (in_ns p.1 ms)))) rfl
  rw [filt_map _ _ (fun k => !decide (k.1 ∈ gs) && decide (k.1 ∈ ms)) _ (fun p => rfl) (fun p => rfl), sw] at e
  refine (ev_seq (r1 := [.fz (ver k0 h0 a0 (ns ms) g0), .fz (ver ks h1 a1 b1 gs), .fz (prs trust), .fz (ruleD any), .own (.lst (((ks.filter fun k => decide (k.1 ∈ ms) && !decide (k.1 ∈ gs)).map (·.2)).map PyData.int)), .un]) (ev_setT e rfl)).trans ?_
  exact ev_ret (ev_call (ds := [.list (((ks.filter fun k => decide (k.1 ∈ ms) && !decide (k.1 ∈ gs)).map (·.2)).map PyData.int), prs trust, ruleD any]) rfl (covers_ok _ _ _))
end KL

namespace KL
open PySem PySem.Spec PyProof.Rows L2 KV
theorem ev_runB {N : Nat} {f : DenS} {c c' : Ob} {ds : List PyData} {x z : KV.R} {r r1 : Nms} (h : f (env0 N (.own c :: ds.map .fz)) = some (.rt x r)) (h1 : KV.ret (.rt x r) = some (z, r1)) (h2 : r1[0]? = some (.own c')) : runB N f c ds = some (z, c') := by
  unfold runB
  rw [h, Option.bind_some, h1, Option.bind_some]
  show (match r1[0]? with
    | some (Sl.own c') => some (z, c')
    | _ => none) = _
  rw [h2]
theorem eq_int (i j : Int) : opEq (.int i) (.int j) = some (.val (.bool (decide (i = j)))) := by
  unfold opEq
  rw [if_pos (Nat.le_trans (Nat.min_le_right _ _) (show (PyData.int j).depth ≤ 60 by rw [PyData.depth]; decide))]
  rfl
def IsKey (d : PyData) : Prop := ∃ a b : Int, d = .tuple [.int a, .int b] ∧ 0 ≤ a ∧ a ≤ 5 ∧ 0 ≤ b ∧ b ≤ 1
def IsNum (d : PyData) : Prop := ∃ a : Int, d = .int a ∧ -2 ≤ a ∧ a ≤ 6
theorem somekeys_ok {n : Nat} {c : Ob} (h : BxI n c) (hn : n + 50 ≤ 100000000) {m : Int} (hm : 0 < m ∧ m < 1000000000) : ∃ ys c', G__law_some_keys c [.int m] = some (.val (.tuple ys), c') ∧ BxI (n + 12) c' ∧ (∀ y ∈ ys, IsKey y) ∧ ys.length ≤ 6 := by
  obtain ⟨xs, c1, e1, i1, p1, l1⟩ := lc_box (vs := [3]) (fi := iR1 (dCons (dC (.int 6)) (dNil))) (g := gN 3) (t := tYesD) (f := dTup (vCons (dVar 3) (vCons (dCallB G__law_take 0 (vCons (dC (.int 2)) (vNil))) (vNil)))) (r := [.own c, .fz (.int m), .un, .un, .un]) (rest := [.fz (.int m), .un, .un, .un]) (rest1 := [.fz (.int m), .un, .un, .un]) (r2 := [.fz (.int m), .un, .un, .un]) (u := none) (P := IsKey) (K := 1) (B := 100000000) (n := n) (ds := rangeD 0 6) (c := c)
    (by simp [iR1, dCons, dNil, dC, dStl, stl, derefs, deref, sizeLine_eq]) rfl (fun _ => rfl) h (by rw [rangeD_length]; omega) (fun d hd k c0 hc0 hk => by
      unfold rangeD at hd
      obtain ⟨j, hj, rfl⟩ := List.mem_map.mp hd
      have hj2 := List.mem_range.mp hj
      obtain ⟨v, c', t, v0, v1, ib⟩ := takeI hc0 (by omega) (m := 2) (by omega)
      refine ⟨[.own c0, .fz (.int m), .un, .fz (.int (0 + (j : Int))), .un], true, [.own c0, .fz (.int m), .un, .fz (.int (0 + (j : Int))), .un], rfl, rfl, fun z => (by cases z), fun _ => ⟨.tuple [.int (0 + (j : Int)), .int v], [.own c', .fz (.int m), .un, .fz (.int (0 + (j : Int))), .un], c', ?_, rfl, ib, _, _, rfl, by omega, by omega, v0, by omega⟩⟩
      exact ev_fz (ev_tup (ev_vc (d := .int (0 + (j : Int))) rfl (ev_vc (ev_callB rfl rfl rfl t rfl) rfl)) (Nat.le_of_ble_eq_true rfl))) (fun _ => rfl)
  obtain ⟨ys, c2, e2, i2, p2, l2⟩ := lc_box (vs := [4]) (fi := iSeq (dVar 2)) (g := gN 4) (t := dB (dBin (dCallB G__law_take 0 (vCons (dVar 1) (vNil))) (dC (.int 0)) opEq)) (f := dVar 4) (r := [.own c1, .fz (.int m), .own (.lst xs), .un, .un]) (rest := [.fz (.int m), .lck (.lst xs), .un, .un]) (rest1 := [.fz (.int m), .lck (.lst xs), .un, .un]) (r2 := [.fz (.int m), .own (.lst xs), .un, .un]) (u := some 2) (P := IsKey) (K := 1) (B := 100000000) (n := n + 1 * (rangeD 0 6).length) (ds := xs) (c := c1)
    rfl rfl (fun _ => rfl) i1 (by rw [rangeD_length] at l1 ⊢; omega) (fun d hd k c0 hc0 hk => by
      obtain ⟨v, c', t, v0, v1, ib⟩ := takeI hc0 (by omega) hm
      refine ⟨[.own c0, .fz (.int m), .lck (.lst xs), .un, .fz d], decide (v = 0), [.own c', .fz (.int m), .lck (.lst xs), .un, .fz d], rfl, ?_, fun _ => ⟨c', rfl, ib⟩, fun _ => ⟨d, [.own c', .fz (.int m), .lck (.lst xs), .un, .fz d], c', rfl, rfl, ib, p1 d hd⟩⟩
      exact ev_b (ev_bin (ev_callB rfl rfl rfl t rfl) rfl rfl rfl (eq_int v 0))) (fun _ => rfl)
  rw [rangeD_length] at l1 i2
  refine ⟨ys, c2, ?_, i2.mono (by omega), p2, by omega⟩
  refine ev_runB (x := .val (.tuple ys)) (r := [.own c2, .fz (.int m), .own (.lst xs), .un, .un]) ?_ rfl rfl
  refine (ev_seq (r1 := [.own c1, .fz (.int m), .own (.lst xs), .un, .un]) (ev_setT (r1 := [.own c1, .fz (.int m), .un, .un, .un]) e1 rfl)).trans ?_
  exact ev_ret (ev_cb (ds := [.list ys]) (ev_cons (ev_stl e2) rfl) rfl rfl)
theorem numbers_ok {n : Nat} {c : Ob} (h : BxI n c) (hn : n + 50 ≤ 100000000) : ∃ ys c', G__law_numbers c [] = some (.val (.tuple ys), c') ∧ BxI (n + 9) c' ∧ (∀ y ∈ ys, IsNum y) ∧ ys.length ≤ 9 := by
  obtain ⟨ys, c2, e2, i2, p2, l2⟩ := lc_box (vs := [1]) (fi := iR2 (dCons (dUn (dC (.int 2)) opNeg) (dCons (dC (.int 7)) (dNil)))) (g := gN 1) (t := dB (dBin (dCallB G__law_take 0 (vCons (dC (.int 2)) (vNil))) (dC (.int 0)) opEq)) (f := dVar 1) (r := [.own c, .un]) (rest := [.un]) (rest1 := [.un]) (r2 := [.un]) (u := none) (P := IsNum) (K := 1) (B := 100000000) (n := n) (ds := rangeD (-2) 9) (c := c)
    (by simp [iR2, dCons, dNil, dC, dUn, opNeg, dStl, stl, derefs, deref, sizeLine_eq]) rfl (fun _ => rfl) h (by rw [rangeD_length]; omega) (fun d hd k c0 hc0 hk => by
      unfold rangeD at hd
      obtain ⟨j, hj, rfl⟩ := List.mem_map.mp hd
      have hj2 := List.mem_range.mp hj
      obtain ⟨v, c', t, v0, v1, ib⟩ := takeI hc0 (by omega) (m := 2) (by omega)
      refine ⟨[.own c0, .fz (.int (-2 + (j : Int)))], decide (v = 0), [.own c', .fz (.int (-2 + (j : Int)))], rfl, ?_, fun _ => ⟨c', rfl, ib⟩, fun _ => ⟨.int (-2 + (j : Int)), [.own c', .fz (.int (-2 + (j : Int)))], c', rfl, rfl, ib, _, rfl, by omega, by omega⟩⟩
      exact ev_b (ev_bin (ev_callB rfl rfl rfl t rfl) rfl rfl rfl (eq_int v 0))) (fun _ => rfl)
  rw [rangeD_length] at l2 i2
  refine ⟨ys, c2, ?_, i2.mono (by omega), p2, l2⟩
  refine ev_runB (x := .val (.tuple ys)) (r := [.own c2, .un]) ?_ rfl rfl
  exact ev_ret (ev_cb (ds := [.list ys]) (ev_cons (ev_stl e2) rfl) rfl rfl)
theorem pick_ok {n : Nat} {c : Ob} (h : BxI n c) (hn : n + 50 ≤ 100000000) {xs : List PyData} (h0 : 0 < xs.length) (h1 : xs.length < 1000000) : ∃ x c', x ∈ xs ∧ G__law_pick c [.list xs] = some (.val x, c') ∧ BxI (n + 1) c' := by
  obtain ⟨v, c', t, v0, v1, ib⟩ := takeI h (by omega) (m := (xs.length : Int)) (by omega)
  have hv : v.toNat < xs.length := by omega
  refine ⟨xs[v.toNat], c', List.getElem_mem hv, ?_, ib⟩
  refine ev_runB (x := .val (xs[v.toNat])) (r := [.own c', .fz (.list xs)]) ?_ rfl rfl
  refine ev_ret (ev_bin (r1 := [.own c, .fz (.list xs)]) rfl (ev_callB (ds := [.int (xs.length : Int)]) rfl (ev_vc (ev_cb (ds := [.list xs]) rfl rfl rfl) rfl) rfl t rfl) rfl rfl ?_)
  show ((atI xs v).map KV.R.val) = _
  unfold L2.atI ixN
  rw [if_pos v0, if_pos v1, Option.bind_some, List.getElem?_eq_getElem hv]
  rfl
end KL

namespace KL
open PySem PySem.Spec PyProof.Rows L2 KV
theorem keys_prs : ∀ {ys : List PyData}, (∀ y ∈ ys, IsKey y) → ∃ l : List (Int × Int), ys = l.map pr ∧ ∀ p ∈ l, 0 ≤ p.1 ∧ p.1 ≤ 5 ∧ 0 ≤ p.2 ∧ p.2 ≤ 1
  | [], _ => ⟨[], rfl, fun p hp => by cases hp⟩
  | y :: ys, h => by
    obtain ⟨l, e, b⟩ := keys_prs fun z hz => h z (List.mem_cons_of_mem _ hz)
    obtain ⟨a, c, e2, b1, b2, b3, b4⟩ := h y (List.mem_cons_self ..)
    refine ⟨(a, c) :: l, by rw [e, e2]; rfl, fun p hp => ?_⟩
    rcases List.mem_cons.mp hp with z | z
    · rw [z]; exact ⟨b1, b2, b3, b4⟩
    · exact b p z
theorem nums_ns : ∀ {ys : List PyData}, (∀ y ∈ ys, IsNum y) → ∃ l : List Int, ys = l.map .int ∧ ∀ p ∈ l, -2 ≤ p ∧ p ≤ 6
  | [], _ => ⟨[], rfl, fun p hp => by cases hp⟩
  | y :: ys, h => by
    obtain ⟨l, e, b⟩ := nums_ns fun z hz => h z (List.mem_cons_of_mem _ hz)
    obtain ⟨a, e2, b1, b2⟩ := h y (List.mem_cons_self ..)
    refine ⟨a :: l, by rw [e, e2]; rfl, fun p hp => ?_⟩
    rcases List.mem_cons.mp hp with z | z
    · rw [z]; exact ⟨b1, b2⟩
    · exact b p z
def threeD : List PyData := [.none, .tuple [], .tuple [.tuple [.int 1, .int 0]]]
structure VerB (ks : List (Int × Int)) (hs ms gs : List Int) (a : PyData) : Prop where
  k : ∀ p ∈ ks, 0 ≤ p.1 ∧ p.1 ≤ 5 ∧ 0 ≤ p.2 ∧ p.2 ≤ 1
  h : ∀ p ∈ hs, -2 ≤ p ∧ p ≤ 6
  m : ∀ p ∈ ms, -2 ≤ p ∧ p ≤ 6
  g : ∀ p ∈ gs, -2 ≤ p ∧ p ≤ 6
  a : a ∈ threeD
  lk : ks.length ≤ 6
  lh : hs.length ≤ 9
  lm : ms.length ≤ 9
  lg : gs.length ≤ 6
def IsVer (d : PyData) : Prop := ∃ ks hs ms gs a, d = ver ks hs a (ns ms) gs ∧ VerB ks hs ms gs a
theorem version_ok {n : Nat} {c : Ob} (h : BxI n c) (hn : n + 100 ≤ 100000000) : ∃ x c', G__law_version c [] = some (.val x, c') ∧ BxI (n + 37) c' ∧ IsVer x := by
  obtain ⟨ks, c1, e1, i1, p1, l1⟩ := somekeys_ok h (by omega) (m := 2) (by omega)
  obtain ⟨gs, c2, e2, i2, p2, l2⟩ := lc_box (vs := [3]) (fi := iSeq (dVar 1)) (g := gN 3) (t := dB (dBin (dCallB G__law_take 0 (vCons (dC (.int 4)) (vNil))) (dC (.int 0)) opEq)) (f := dBin (dVar 3) (dC (.int 0)) opIx) (r := [.own c1, .fz (.tuple ks), .un, .un]) (rest := [.fz (.tuple ks), .un, .un]) (rest1 := [.fz (.tuple ks), .un, .un]) (r2 := [.fz (.tuple ks), .un, .un]) (u := none) (P := IsNum) (K := 1) (B := 100000000) (n := n + 12) (ds := ks) (c := c1)
    rfl rfl (fun _ => rfl) i1 (by omega) (fun d hd k c0 hc0 hk => by
      obtain ⟨v, c', t, v0, v1, ib⟩ := takeI hc0 (by omega) (m := 4) (by omega)
      obtain ⟨a, b, rfl, b1, b2, b3, b4⟩ := p1 d hd
      refine ⟨[.own c0, .fz (.tuple ks), .un, .fz (.tuple [.int a, .int b])], decide (v = 0), [.own c', .fz (.tuple ks), .un, .fz (.tuple [.int a, .int b])], rfl, ?_, fun _ => ⟨c', rfl, ib⟩, fun _ => ⟨.int a, [.own c', .fz (.tuple ks), .un, .fz (.tuple [.int a, .int b])], c', rfl, rfl, ib, a, rfl, by omega, by omega⟩⟩
      exact ev_b (ev_bin (ev_callB rfl rfl rfl t rfl) rfl rfl rfl (eq_int v 0))) (fun _ => rfl)
  obtain ⟨hs, c3, e3, i3, p3, l3⟩ := numbers_ok i2 (by omega)
  obtain ⟨a, c4, ha, e4, i4⟩ := pick_ok i3 (by omega) (xs := threeD) (by decide) (by decide)
  obtain ⟨ms, c5, e5, i5, p5, l5⟩ := numbers_ok i4 (by omega)
  obtain ⟨kl, k1, k2⟩ := keys_prs p1
  obtain ⟨hl, h1, h2⟩ := nums_ns p3
  obtain ⟨ml, m1, m2⟩ := nums_ns p5
  obtain ⟨gl, g1, g2⟩ := nums_ns p2
  refine ⟨.tuple [.tuple ks, .tuple hs, a, .tuple ms, .tuple gs], c5, ?_, i5.mono (by omega), kl, hl, ml, gl, a, by rw [k1, h1, m1, g1]; rfl, k2, h2, m2, g2, ha, by rw [k1, List.length_map] at l1; exact l1, by rw [h1, List.length_map] at l3; exact l3, by rw [m1, List.length_map] at l5; exact l5, by rw [g1, List.length_map] at l2; omega⟩
  refine ev_runB (x := .val (.tuple [.tuple ks, .tuple hs, a, .tuple ms, .tuple gs])) (r := [.own c5, .fz (.tuple ks), .fz (.tuple gs), .un]) ?_ rfl rfl
  refine (ev_seq (r1 := [.own c1, .fz (.tuple ks), .un, .un]) (ev_set (r1 := [.own c1, .un, .un, .un]) (ev_callB rfl rfl rfl e1 rfl) rfl)).trans ?_
  refine (ev_seq (r1 := [.own c2, .fz (.tuple ks), .fz (.tuple gs), .un]) (ev_set (r1 := [.own c2, .fz (.tuple ks), .un, .un]) (ev_cb (ds := [.list gs]) (ev_cons (ev_stl e2) rfl) rfl rfl) rfl)).trans ?_
  refine ev_ret (ev_tup ?_ (Nat.le_of_ble_eq_true rfl))
  refine ev_vc (r1 := [.own c2, .fz (.tuple ks), .fz (.tuple gs), .un]) rfl ?_
  refine ev_vc (r1 := [.own c3, .fz (.tuple ks), .fz (.tuple gs), .un]) (ev_callB rfl rfl rfl e3 rfl) ?_
  refine ev_vc (r1 := [.own c4, .fz (.tuple ks), .fz (.tuple gs), .un]) (ev_callB (ds := [.list threeD]) (r1 := [.own c3, .fz (.tuple ks), .fz (.tuple gs), .un]) rfl (ev_vc' (r1 := [.own c3, .fz (.tuple ks), .fz (.tuple gs), .un]) (by
    have q : dLst (vCons (dC .none) (vCons (dTup (vNil)) (vCons (dTup (vCons (dTup (vCons (dC (.int 1)) (vCons (dC (.int 0)) (vNil)))) (vNil))) (vNil)))) [.own c3, .fz (.tuple ks), .fz (.tuple gs), .un] = some (.tmp (.lst threeD), [.own c3, .fz (.tuple ks), .fz (.tuple gs), .un]) :=
      ev_lst (ev_vc rfl (ev_vc (ev_tup (ds := []) rfl (Nat.zero_le _)) (ev_vc (ev_tup (ev_vc (ev_tup (ev_vc rfl (ev_vc rfl rfl)) (Nat.le_of_ble_eq_true rfl)) rfl) (Nat.le_of_ble_eq_true rfl)) rfl))) (Nat.le_of_ble_eq_true rfl)
    unfold dFrz; rw [q]; rfl) rfl) rfl e4 rfl) ?_
  refine ev_vc (r1 := [.own c5, .fz (.tuple ks), .fz (.tuple gs), .un]) (ev_callB rfl rfl rfl e5 rfl) ?_
  exact ev_vc rfl rfl
end KL

namespace KL
open PySem PySem.Spec PyProof.Rows L2 KV
/-- data whose shown text is short -/
structure Sm (k w : Nat) (d : PyData) : Prop where
  sh : d.showable = true
  lv : d.leavesShort 8 = true
  dp : d.depth ≤ k
  wt : d.weight ≤ w
theorem Sm.mono {k w k2 w2 : Nat} {d : PyData} (h : Sm k w d) (hk : k ≤ k2) (hw : w ≤ w2) : Sm k2 w2 d := ⟨h.sh, h.lv, Nat.le_trans h.dp hk, Nat.le_trans h.wt hw⟩
theorem sm_all {k w : Nat} : ∀ {xs : List PyData}, (∀ x ∈ xs, Sm k w x) → PyData.showableAll xs = true ∧ PyData.leavesShortAll 8 xs = true ∧ PyData.depthAll xs ≤ k ∧ PyData.weightAll xs ≤ xs.length * (w + 1)
  | [], _ => ⟨rfl, rfl, Nat.zero_le _, Nat.zero_le _⟩
  | x :: xs, h => by
    obtain ⟨a, b, c, d⟩ := sm_all fun y hy => h y (List.mem_cons_of_mem _ hy)
    have hx := h x (List.mem_cons_self ..)
    refine ⟨?_, ?_, ?_, ?_⟩
    · rw [PyData.showableAll, hx.sh, a]; rfl
    · rw [PyData.leavesShortAll, hx.lv, b]; rfl
    · rw [PyData.depthAll]; exact Nat.max_le.mpr ⟨hx.dp, c⟩
    · rw [PyData.weightAll, List.length_cons, Nat.succ_mul]
      have := hx.wt
      omega
theorem sm_tup {k w n : Nat} {xs : List PyData} (h : ∀ x ∈ xs, Sm k w x) (hl : xs.length ≤ n) : Sm (k + 1) (n * (w + 1)) (.tuple xs) := by
  obtain ⟨a, b, c, d⟩ := sm_all h
  refine ⟨by rw [PyData.showable]; exact a, by rw [PyData.leavesShort]; exact b, by rw [PyData.depth]; omega, by rw [PyData.weight]; exact Nat.le_trans d (Nat.mul_le_mul_right _ hl)⟩
theorem sm_lst {k w n : Nat} {xs : List PyData} (h : ∀ x ∈ xs, Sm k w x) (hl : xs.length ≤ n) : Sm (k + 1) (n * (w + 1)) (.list xs) := by
  obtain ⟨a, b, c, d⟩ := sm_all h
  refine ⟨by rw [PyData.showable]; exact a, by rw [PyData.leavesShort]; exact b, by rw [PyData.depth]; omega, by rw [PyData.weight]; exact Nat.le_trans d (Nat.mul_le_mul_right _ hl)⟩
theorem sm_int {a : Int} (h : -2 ≤ a ∧ a ≤ 6) : Sm 0 4 (.int a) := by
  have : a = -2 ∨ a = -1 ∨ a = 0 ∨ a = 1 ∨ a = 2 ∨ a = 3 ∨ a = 4 ∨ a = 5 ∨ a = 6 := by omega
  rcases this with e | e | e | e | e | e | e | e | e <;> subst e <;> exact ⟨by decide +kernel, by decide +kernel, by decide +kernel, by decide +kernel⟩
theorem sm_pr {p : Int × Int} (h : 0 ≤ p.1 ∧ p.1 ≤ 5 ∧ 0 ≤ p.2 ∧ p.2 ≤ 1) : Sm 1 10 (pr p) :=
  (sm_tup (k := 0) (w := 4) (n := 2) (fun x hx => by
    rcases List.mem_cons.mp hx with z | z
    · rw [z]; exact sm_int (by omega)
    · rw [List.mem_singleton.mp z]; exact sm_int (by omega)) (Nat.le_refl 2))
theorem sm_prs {l : List (Int × Int)} (h : ∀ p ∈ l, 0 ≤ p.1 ∧ p.1 ≤ 5 ∧ 0 ≤ p.2 ∧ p.2 ≤ 1) (hl : l.length ≤ 6) : Sm 2 66 (prs l) :=
  sm_tup (n := 6) (fun x hx => by
    obtain ⟨p, hp, rfl⟩ := List.mem_map.mp hx
    exact sm_pr (h p hp)) (by rw [List.length_map]; exact hl)
theorem sm_ns {l : List Int} (h : ∀ p ∈ l, -2 ≤ p ∧ p ≤ 6) (hl : l.length ≤ 9) : Sm 2 66 (ns l) :=
  (sm_tup (n := 9) (fun x hx => by
    obtain ⟨p, hp, rfl⟩ := List.mem_map.mp hx
    exact sm_int (h p hp)) (by rw [List.length_map]; exact hl)).mono (by omega) (by omega)
theorem sm_three {a : PyData} (h : a ∈ threeD) : Sm 2 66 a := by
  unfold threeD at h
  rcases List.mem_cons.mp h with z | h
  · rw [z]; exact ⟨rfl, rfl, by decide +kernel, by decide +kernel⟩
  · rcases List.mem_cons.mp h with z | h
    · rw [z]; exact ⟨rfl, rfl, by decide +kernel, by decide +kernel⟩
    · rw [List.mem_singleton.mp h]; exact ⟨by decide +kernel, by decide +kernel, by decide +kernel, by decide +kernel⟩
theorem sm_ver {d : PyData} (h : IsVer d) : Sm 3 335 d := by
  obtain ⟨ks, hs, ms, gs, a, rfl, v⟩ := h
  refine sm_tup (k := 2) (w := 66) (n := 5) (fun x hx => ?_) (Nat.le_refl 5)
  rcases List.mem_cons.mp hx with z | hx
  · rw [z]; exact sm_prs v.k v.lk
  · rcases List.mem_cons.mp hx with z | hx
    · rw [z]; exact sm_ns v.h v.lh
    · rcases List.mem_cons.mp hx with z | hx
      · rw [z]; exact sm_three v.a
      · rcases List.mem_cons.mp hx with z | hx
        · rw [z]; exact sm_ns v.m v.lm
        · rw [List.mem_singleton.mp hx]; exact sm_ns v.g (by have := v.lg; omega)
def IsTr (d : PyData) : Prop := ∃ l : List (Int × Int), d = prs l ∧ (∀ p ∈ l, 0 ≤ p.1 ∧ p.1 ≤ 5 ∧ 0 ≤ p.2 ∧ p.2 ≤ 1) ∧ l.length ≤ 6
theorem sm_both {xs ts : List PyData} (hx : ∀ x ∈ xs, IsVer x) (ht : ∀ x ∈ ts, IsTr x) (lx : xs.length ≤ 15) (lt : ts.length ≤ 9) : Sm 5 10082 (.list [.list xs, .list ts]) :=
  sm_lst (k := 4) (w := 5040) (n := 2) (fun x h => by
    rcases List.mem_cons.mp h with z | z
    · rw [z]; exact sm_lst (n := 15) (fun y hy => sm_ver (hx y hy)) lx
    · rw [List.mem_singleton.mp z]
      exact (sm_lst (k := 2) (w := 66) (n := 9) (fun y hy => by
        obtain ⟨l, rfl, b, c⟩ := ht y hy
        exact sm_prs b c) lt).mono (by omega) (by omega)) (Nat.le_refl 2)
theorem repr_both {xs ts : List PyData} (hx : ∀ x ∈ xs, IsVer x) (ht : ∀ x ∈ ts, IsTr x) (lx : xs.length ≤ 15) (lt : ts.length ≤ 9) : opRepr [.list [.list xs, .list ts]] = some (.val (.str (PyData.list [.list xs, .list ts]).shown)) := by
  have s := sm_both hx ht lx lt
  unfold opRepr
  refine if_pos ⟨s.sh, ?_, Nat.le_trans s.dp (by decide)⟩
  have := PyData.shown_le 8 (by decide) _ s.lv
  have w := s.wt
  rw [sizeLine_eq]
  omega
end KL

namespace KL
open PySem PySem.Spec PyProof.Rows L2 KV
theorem loop_inv {g : DenG} {body : DenS} {Inv : Nat → Nms → Prop} {K B : Nat} : ∀ (ds : List PyData) (n : Nat) (r : Nms), Inv n r → n + K * ds.length ≤ B →
    (∀ d ∈ ds, ∀ m r, Inv m r → m + K ≤ B → ∃ r1 r2, g d r = some r1 ∧ body r1 = some (.nx r2) ∧ Inv (m + K) r2) → ∃ r', loopD g body ds r = some (.nx r') ∧ Inv (n + K * ds.length) r'
  | [], n, r, h, _, _ => ⟨r, rfl, by rw [List.length_nil, Nat.mul_zero]; exact h⟩
  | d :: ds, n, r, h, hB, hs => by
    rw [List.length_cons, Nat.mul_succ] at hB
    obtain ⟨r1, r2, h1, h2, h3⟩ := hs d (List.mem_cons_self ..) n r h (by omega)
    obtain ⟨r', q1, q2⟩ := loop_inv ds (n + K) r2 h3 (by omega) fun e he => hs e (List.mem_cons_of_mem _ he)
    refine ⟨r', ?_, ?_⟩
    · unfold loopD
      rw [h1, Option.bind_some, h2, Option.bind_some]
      exact q1
    · rw [List.length_cons, Nat.mul_succ]
      have e : n + (K * ds.length + K) = n + K + K * ds.length := by omega
      rw [e]; exact q2
theorem for_inv {fi : DenI} {g : DenG} {body : DenS} {Inv : Nat → Nms → Prop} {K B n : Nat} {ds : List PyData} {r r0 : Nms} (hi : fi r0 = some (ds, r, none)) (h : Inv n r) (hB : n + K * ds.length ≤ B)
    (hs : ∀ d ∈ ds, ∀ m r, Inv m r → m + K ≤ B → ∃ r1 r2, g d r = some r1 ∧ body r1 = some (.nx r2) ∧ Inv (m + K) r2) : ∃ r', dFor fi g body r0 = some (.nx r') ∧ Inv (n + K * ds.length) r' := by
  obtain ⟨r', q1, q2⟩ := loop_inv ds n r h hB hs
  refine ⟨r', ?_, q2⟩
  unfold dFor
  rw [hi, Option.bind_some]
  show (loopD g body ds r).map _ = _
  rw [q1]; rfl
theorem ev_iseq {f : Den} {r r1 : Nms} {d : PyData} {ds : List PyData} (h : f r = some (.val d, r1)) (hs : seqOf d = some ds) : iSeq f r = some (ds, r1, none) := by
  unfold iSeq dStl
  rw [h]
  show (seqOf d).map _ = _
  rw [hs]; rfl
def Fr (s : Sl) : Prop := s = .un ∨ ∃ d, s = .fz d
theorem same_true (b : Bool) : F__law_same [.bool b, .bool b] = some (.val (.bool true)) := by
  cases b <;> rfl
theorem three_ok {a : PyData} (h : a ∈ threeD) : dp a ≤ 5 ∧ a.plain = true := by
  unfold threeD at h
  rcases List.mem_cons.mp h with z | h
  · rw [z]; exact ⟨by decide, rfl⟩
  · rcases List.mem_cons.mp h with z | h
    · rw [z]; exact ⟨by decide, rfl⟩
    · rw [List.mem_singleton.mp h]; exact ⟨by decide, by decide⟩
theorem ask_keys {V : PyData} (hv : IsVer V) (l : List (Int × Int)) (any : Bool) : ∃ b, F_keys_believed [V, prs l, ruleD any] = some (.val (.bool b)) ∧ F__law_keys_ok [V, prs l, ruleD any] = some (.val (.bool b)) := by
  obtain ⟨ks, hs, ms, gs, a, rfl, v⟩ := hv
  have ha := three_ok v.a
  have fv := frozen_ver ks hs a (ns ms) gs ha.1 (Nat.le_trans (dp_ns ms) (by decide)) ha.2 (plain_ns ms)
  exact ⟨_, keys_ok _ _ _ _ ks hs gs l any fv (frozen_prs l), keysown_ok ks hs gs a (ns ms) l any⟩
theorem ask_rest {V W : PyData} (hv : IsVer V) (hw : IsVer W) (l : List (Int × Int)) (any : Bool) : ∃ b, F_rest_believed [V, W, prs l, ruleD any] = some (.val (.bool b)) ∧ F__law_rest_ok [V, W, prs l, ruleD any] = some (.val (.bool b)) := by
  obtain ⟨k0, h0, ms, g0, a0, rfl, v⟩ := hv
  obtain ⟨ks, h1, m1, gs, a1, rfl, w⟩ := hw
  have ha := three_ok v.a
  have hb := three_ok w.a
  have fv := frozen_ver k0 h0 a0 (ns ms) g0 ha.1 (Nat.le_trans (dp_ns ms) (by decide)) ha.2 (plain_ns ms)
  have fw := frozen_ver ks h1 a1 (ns m1) gs hb.1 (Nat.le_trans (dp_ns m1) (by decide)) hb.2 (plain_ns m1)
  rw [fzd_ns] at fv
  exact ⟨_, rest_ok _ _ _ k0 h0 (fzd a0) g0 h1 (fzd a1) (fzd (ns m1)) ms ks gs l any fv fw (frozen_prs l), restown_ok k0 h0 a0 g0 h1 a1 (ns m1) ms ks gs l any⟩
abbrev bodyD : DenS := dSeq (dIf (dNot (dB (dCall F__law_same (vCons (dCall F_keys_believed (vCons (dVar 6) (vCons (dVar 4) (vCons (dVar 5) (vNil))))) (vCons (dCall F__law_keys_ok (vCons (dVar 6) (vCons (dVar 4) (vCons (dVar 5) (vNil))))) (vNil)))))) (dRet (dC (.bool false))) (dNext)) (dSeq (dSet 7 (dCallB G__law_pick 0 (vCons (dVar 1) (vNil)))) (dSeq (dSet 8 (dCall F__law_rest_ok (vCons (dVar 7) (vCons (dVar 6) (vCons (dVar 4) (vCons (dVar 5) (vNil))))))) (dIf (dNot (dB (dCall F__law_same (vCons (dCall F_rest_believed (vCons (dVar 7) (vCons (dVar 6) (vCons (dVar 4) (vCons (dVar 5) (vNil)))))) (vCons (dVar 8) (vNil)))))) (dRet (dC (.bool false))) (dNext))))
theorem set_fr {i : Nat} {d : PyData} {r : Nms} {s : Sl} (h : r[i]? = some s) (hs : Fr s) : setSl i (.fz d) r = some (r.set i (.fz d)) := by
  unfold setSl
  rw [h]
  rcases hs with rfl | ⟨e, rfl⟩ <;> rfl
theorem body_ok {n : Nat} {c : Ob} (h : BxI n c) (hn : n + 100 ≤ 100000000) {xs : List PyData} (hx : ∀ x ∈ xs, IsVer x) (lx : xs.length ≤ 15) {T kept mine : PyData} (hm : mine ∈ xs) (l : List (Int × Int)) (any : Bool) {s7 s8 : Sl} (f7 : Fr s7) (f8 : Fr s8) :
    ∃ c' o d, bodyD [.own c, .fz (.list xs), .fz T, .fz kept, .fz (prs l), .fz (ruleD any), .fz mine, s7, s8, .un] = some (.nx [.own c', .fz (.list xs), .fz T, .fz kept, .fz (prs l), .fz (ruleD any), .fz mine, .fz o, .fz d, .un]) ∧ BxI (n + 1) c' := by
  obtain ⟨b, k1, k2⟩ := ask_keys (hx _ hm) l any
  obtain ⟨o, c', ho, pk, ib⟩ := pick_ok h (by omega) (xs := xs) (List.length_pos_of_mem hm) (by omega)
  obtain ⟨d, r1, r2⟩ := ask_rest (hx _ ho) (hx _ hm) l any
  refine ⟨c', o, .bool d, ?_, ib⟩
  refine (ev_seq (r1 := [.own c, .fz (.list xs), .fz T, .fz kept, .fz (prs l), .fz (ruleD any), .fz mine, s7, s8, .un]) ((ev_if (b := false) (ev_not (a := true) (ev_b (ev_call (ev_vc (ev_call (ds := [mine, prs l, ruleD any]) rfl k1) (ev_vc (ev_call (ds := [mine, prs l, ruleD any]) rfl k2) rfl)) (same_true b))))).trans (if_neg Bool.false_ne_true))).trans ?_
  refine (ev_seq (r1 := [.own c', .fz (.list xs), .fz T, .fz kept, .fz (prs l), .fz (ruleD any), .fz mine, .fz o, s8, .un]) (ev_set (r1 := [.own c', .fz (.list xs), .fz T, .fz kept, .fz (prs l), .fz (ruleD any), .fz mine, s7, s8, .un]) (ev_callB (ds := [.list xs]) rfl rfl rfl pk rfl) (set_fr (s := s7) rfl f7))).trans ?_
  refine (ev_seq (r1 := [.own c', .fz (.list xs), .fz T, .fz kept, .fz (prs l), .fz (ruleD any), .fz mine, .fz o, .fz (.bool d), .un]) (ev_set (r1 := [.own c', .fz (.list xs), .fz T, .fz kept, .fz (prs l), .fz (ruleD any), .fz mine, .fz o, s8, .un]) (ev_call (ds := [o, mine, prs l, ruleD any]) rfl r2) (set_fr (s := s8) rfl f8))).trans ?_
  exact (ev_if (b := false) (ev_not (a := true) (ev_b (ev_call (ev_vc (ev_call (ds := [o, mine, prs l, ruleD any]) rfl r1) (ev_vc rfl rfl)) (same_true d))))).trans (if_neg Bool.false_ne_true)
end KL

namespace KL
open PySem PySem.Spec PyProof.Rows L2 KV
def InvA (xs ts : List PyData) (kept : PyData) (n : Nat) (r : Nms) : Prop := ∃ c s4 s5 s6 s7 s8, r = [.own c, .fz (.list xs), .fz (.list ts), .fz kept, s4, s5, s6, s7, s8, .un] ∧ BxI n c ∧ Fr s4 ∧ Fr s5 ∧ Fr s6 ∧ Fr s7 ∧ Fr s8
def InvB (xs ts : List PyData) (kept : PyData) (l : List (Int × Int)) (n : Nat) (r : Nms) : Prop := ∃ c s5 s6 s7 s8, r = [.own c, .fz (.list xs), .fz (.list ts), .fz kept, .fz (prs l), s5, s6, s7, s8, .un] ∧ BxI n c ∧ Fr s5 ∧ Fr s6 ∧ Fr s7 ∧ Fr s8
def InvC (xs ts : List PyData) (kept : PyData) (l : List (Int × Int)) (any : Bool) (n : Nat) (r : Nms) : Prop := ∃ c s6 s7 s8, r = [.own c, .fz (.list xs), .fz (.list ts), .fz kept, .fz (prs l), .fz (ruleD any), s6, s7, s8, .un] ∧ BxI n c ∧ Fr s6 ∧ Fr s7 ∧ Fr s8
abbrev loopC : DenS := dFor (iSeq (dVar 1)) (gN 6) bodyD
abbrev loopB : DenS := dFor (iSeq (dTup (vCons (dC (.str ("any" : Str))) (vCons (dC (.str ("each" : Str))) (vNil))))) (gN 5) loopC
abbrev loopA : DenS := dFor (iSeq (dVar 2)) (gN 4) loopB
theorem loopC_ok {xs ts : List PyData} {kept : PyData} {l : List (Int × Int)} {any : Bool} (hx : ∀ x ∈ xs, IsVer x) (lx : xs.length ≤ 15) {n : Nat} {r : Nms} (h : InvC xs ts kept l any n r) (hn : n + 200 ≤ 100000000) : ∃ r', loopC r = some (.nx r') ∧ InvC xs ts kept l any (n + 15) r' := by
  obtain ⟨r', q, i⟩ := for_inv (fi := iSeq (dVar 1)) (g := gN 6) (body := bodyD) (Inv := InvC xs ts kept l any) (K := 1) (B := n + 15) (ds := xs) (r := r) (r0 := r) (by obtain ⟨c, s6, s7, s8, rfl, _⟩ := h; rfl) h (by omega) (fun d hd m r0 h0 hm => by
    obtain ⟨c, s6, s7, s8, rfl, ib, f6, f7, f8⟩ := h0
    obtain ⟨c', o, d2, q, ib'⟩ := body_ok ib (by omega) hx lx (T := .list ts) (kept := kept) hd l any f7 f8
    exact ⟨_, _, set_fr (i := 6) (s := s6) rfl f6, q, c', _, _, _, rfl, ib', .inr ⟨_, rfl⟩, .inr ⟨_, rfl⟩, .inr ⟨_, rfl⟩⟩)
  obtain ⟨c, s6, s7, s8, e, ib, f⟩ := i
  exact ⟨r', q, c, s6, s7, s8, e, ib.mono (by omega), f⟩
theorem loopB_ok {xs ts : List PyData} {kept : PyData} {l : List (Int × Int)} (hx : ∀ x ∈ xs, IsVer x) (lx : xs.length ≤ 15) {n : Nat} {r : Nms} (h : InvB xs ts kept l n r) (hn : n + 300 ≤ 100000000) : ∃ r', loopB r = some (.nx r') ∧ InvB xs ts kept l (n + 30) r' := by
  have hi : iSeq (dTup (vCons (dC (.str ("any" : Str))) (vCons (dC (.str ("each" : Str))) (vNil)))) r = some ([ruleD true, ruleD false], r, none) := ev_iseq (ev_tup (ds := [ruleD true, ruleD false]) rfl (Nat.le_of_ble_eq_true rfl)) rfl
  have step : ∀ (any : Bool) (m : Nat) (r0 : Nms), InvB xs ts kept l m r0 → m + 15 ≤ n + 30 → ∃ r1 r2, gN 5 (ruleD any) r0 = some r1 ∧ loopC r1 = some (.nx r2) ∧ InvB xs ts kept l (m + 15) r2 := by
    intro any m r0 h0 hm
    obtain ⟨c, s5, s6, s7, s8, rfl, ib, f5, f6, f7, f8⟩ := h0
    obtain ⟨r2, q, c', t6, t7, t8, e, ib', g6, g7, g8⟩ := loopC_ok (ts := ts) (kept := kept) (l := l) (any := any) (r := [.own c, .fz (.list xs), .fz (.list ts), .fz kept, .fz (prs l), .fz (ruleD any), s6, s7, s8, .un]) hx lx ⟨c, s6, s7, s8, rfl, ib, f6, f7, f8⟩ (by omega)
    exact ⟨_, r2, set_fr (i := 5) (s := s5) rfl f5, q, c', _, t6, t7, t8, e, ib', .inr ⟨_, rfl⟩, g6, g7, g8⟩
  obtain ⟨r', q, i⟩ := for_inv (fi := iSeq (dTup (vCons (dC (.str ("any" : Str))) (vCons (dC (.str ("each" : Str))) (vNil))))) (g := gN 5) (body := loopC) (Inv := InvB xs ts kept l) (K := 15) (B := n + 30) (ds := [ruleD true, ruleD false]) (r := r) (r0 := r) hi h (by show n + 15 * 2 ≤ _; omega) (fun d hd m r0 h0 hm => by
    rcases List.mem_cons.mp hd with z | z
    · rw [z]; exact step true m r0 h0 hm
    · rw [List.mem_singleton.mp z]; exact step false m r0 h0 hm)
  exact ⟨r', q, i⟩
theorem loopA_ok {xs ts : List PyData} {kept : PyData} (hx : ∀ x ∈ xs, IsVer x) (lx : xs.length ≤ 15) (ht : ∀ x ∈ ts, IsTr x) (lt : ts.length ≤ 9) {n : Nat} {r : Nms} (h : InvA xs ts kept n r) (hn : n + 1000 ≤ 100000000) : ∃ r', loopA r = some (.nx r') ∧ ∃ m, InvA xs ts kept m r' := by
  obtain ⟨r', q, i⟩ := for_inv (fi := iSeq (dVar 2)) (g := gN 4) (body := loopB) (Inv := InvA xs ts kept) (K := 30) (B := n + 270) (ds := ts) (r := r) (r0 := r) (by obtain ⟨c, s4, s5, s6, s7, s8, rfl, _⟩ := h; rfl) h (by omega) (fun d hd m r0 h0 hm => by
    obtain ⟨l, rfl, _, _⟩ := ht d hd
    obtain ⟨c, s4, s5, s6, s7, s8, rfl, ib, f4, f5, f6, f7, f8⟩ := h0
    obtain ⟨r2, q, c', t5, t6, t7, t8, e, ib', g5, g6, g7, g8⟩ := loopB_ok (ts := ts) (kept := kept) (l := l) (r := [.own c, .fz (.list xs), .fz (.list ts), .fz kept, .fz (prs l), s5, s6, s7, s8, .un]) hx lx ⟨c, s5, s6, s7, s8, rfl, ib, f5, f6, f7, f8⟩ (by omega)
    exact ⟨_, r2, set_fr (i := 4) (s := s4) rfl f4, q, c', _, t5, t6, t7, t8, e, ib', .inr ⟨_, rfl⟩, g5, g6, g7, g8⟩)
  exact ⟨r', q, _, i⟩
theorem ne_empty (d : PyData) : opNe d (.tuple []) = some (.val (.bool (!PyData.eqv d (.tuple [])))) := by
  unfold opNe
  rw [if_pos (Nat.le_trans (Nat.min_le_right _ _) (show (PyData.tuple []).depth ≤ 60 by rw [PyData.depth, PyData.depthAll]; decide))]
theorem eq_str (x : Str) : opEq (.str x) (.str x) = some (.val (.bool true)) := by
  unfold opEq
  rw [if_pos (Nat.le_trans (Nat.min_le_right _ _) (show (PyData.str x).depth ≤ 60 by rw [PyData.depth]; decide))]
  have e : PyData.eqv (.str x) (.str x) = true := by simp [PyData.eqv]
  rw [e]
theorem add_list {xs ys : List PyData} (h : xs.length + ys.length ≤ 16777216) : opAdd (.list xs) (.list ys) = some (.tmp (.lst (xs ++ ys))) := by
  unfold opAdd
  exact if_pos (by rw [sizeLine_eq]; exact h)
abbrev reprD : Den := dCB (dCons (dLst (vCons (dVar 1) (vCons (dVar 2) (vNil)))) (dNil)) opRepr
theorem right_ok (x y : Int) (hx : 0 ≤ x) (hy : 0 ≤ y ∧ y < 2^62) : ∃ c, G__law_right (.lst [.int x, .int y, .int 0]) [] = some (.val (.bool true), c) := by
  have b0 : BxI 0 (.lst [.int x, .int y, .int 0]) := ⟨x, y, 0, rfl, hx, hy.1, hy.2, by omega, by omega⟩
  obtain ⟨xs, c1, e1, i1, p1, l1⟩ := lc_box (vs := [9]) (fi := iR1 (dCons (dC (.int 15)) (dNil))) (g := gN 9) (t := tYesD) (f := dCallB G__law_version 0 (vNil)) (r := [.own (.lst [.int x, .int y, .int 0]), .un, .un, .un, .un, .un, .un, .un, .un, .un]) (rest := [.un, .un, .un, .un, .un, .un, .un, .un, .un]) (rest1 := [.un, .un, .un, .un, .un, .un, .un, .un, .un]) (r2 := [.un, .un, .un, .un, .un, .un, .un, .un, .un]) (u := none) (P := IsVer) (K := 37) (B := 1000) (n := 0) (ds := rangeD 0 15)
    (by simp [iR1, dCons, dNil, dC, dStl, stl, derefs, deref, sizeLine_eq]) rfl (fun _ => rfl) b0 (by rw [rangeD_length]; omega) (fun d hd k c0 hc0 hk => by
      obtain ⟨v, c', t, ib, iv⟩ := version_ok hc0 (by omega)
      refine ⟨[.own c0, .un, .un, .un, .un, .un, .un, .un, .un, .fz d], true, [.own c0, .un, .un, .un, .un, .un, .un, .un, .un, .fz d], rfl, rfl, fun z => (by cases z), fun _ => ⟨v, [.own c', .un, .un, .un, .un, .un, .un, .un, .un, .fz d], c', ?_, rfl, ib, iv⟩⟩
      exact ev_fz (ev_callB rfl rfl rfl t rfl)) (fun _ => rfl)
  rw [rangeD_length] at l1 i1
  obtain ⟨us, c2, e2, i2, p2, l2⟩ := lc_box (vs := [9]) (fi := iR1 (dCons (dC (.int 8)) (dNil))) (g := gN 9) (t := tYesD) (f := dCallB G__law_some_keys 0 (vCons (dC (.int 3)) (vNil))) (r := [.own c1, .own (.lst xs), .un, .un, .un, .un, .un, .un, .un, .un]) (rest := [.own (.lst xs), .un, .un, .un, .un, .un, .un, .un, .un]) (rest1 := [.own (.lst xs), .un, .un, .un, .un, .un, .un, .un, .un]) (r2 := [.own (.lst xs), .un, .un, .un, .un, .un, .un, .un, .un]) (u := none) (P := IsTr) (K := 12) (B := 2000) (n := 0 + 37 * 15) (ds := rangeD 0 8)
    (by simp [iR1, dCons, dNil, dC, dStl, stl, derefs, deref, sizeLine_eq]) rfl (fun _ => rfl) i1 (by rw [rangeD_length]; omega) (fun d hd k c0 hc0 hk => by
      obtain ⟨ys, c', t, ib, iv, ly⟩ := somekeys_ok hc0 (by omega) (m := 3) (by omega)
      obtain ⟨l, e, bl⟩ := keys_prs iv
      refine ⟨[.own c0, .own (.lst xs), .un, .un, .un, .un, .un, .un, .un, .fz d], true, [.own c0, .own (.lst xs), .un, .un, .un, .un, .un, .un, .un, .fz d], rfl, rfl, fun z => (by cases z), fun _ => ⟨.tuple ys, [.own c', .own (.lst xs), .un, .un, .un, .un, .un, .un, .un, .fz d], c', ?_, rfl, ib, l, by rw [e]; rfl, bl, by rw [e, List.length_map] at ly; exact ly⟩⟩
      exact ev_fz (ev_callB rfl rfl rfl t rfl)) (fun _ => rfl)
  rw [rangeD_length] at l2 i2
  have e3 := lc_steady (vs := [4]) (fi := iSeq (dVar 2)) (g := gN 4) (t := dB (dBin (dVar 4) (dTup (vNil)) opNe)) (f := dVar 4) (r := [.own c2, .own (.lst xs), .own (.lst us), .un, .un, .un, .un, .un, .un, .un]) (r1 := [.own c2, .own (.lst xs), .lck (.lst us), .un, .un, .un, .un, .un, .un, .un]) (u := some 2) (ds := us) (keep := fun d => !PyData.eqv d (.tuple [])) (val := fun d => d) (r2 := [.own c2, .own (.lst xs), .own (.lst us), .un, .un, .un, .un, .un, .un, .un]) rfl rfl (fun d hd =>
    ⟨[.own c2, .own (.lst xs), .lck (.lst us), .un, .fz d, .un, .un, .un, .un, .un], rfl, ev_b (ev_bin rfl (ev_tup (ds := []) rfl (Nat.zero_le _)) rfl rfl (ne_empty d)), rfl, fun _ => rfl⟩) rfl
  generalize hts : ((us.filter fun d => !PyData.eqv d (.tuple [])).map fun d => d) = ws at e3
  have hws : ∀ z ∈ ws, IsTr z := fun z hz => by
    rw [← hts, List.map_id'] at hz
    exact p2 z (List.mem_filter.mp hz).1
  have lws : ws.length ≤ 8 := by
    rw [← hts, List.length_map]
    exact Nat.le_trans (List.length_filter_le _ _) l2
  have two : PyData.tuple [.tuple [.int 2, .int 0]] = prs [(2, 0)] := rfl
  have ht : ∀ z ∈ ws ++ [prs [(2, 0)]], IsTr z := fun z hz => by
    rcases List.mem_append.mp hz with k | k
    · exact hws z k
    · rw [List.mem_singleton.mp k]
      exact ⟨_, rfl, fun p hp => by rw [List.mem_singleton.mp hp]; decide, by decide⟩
  have lt : (ws ++ [prs [(2, 0)]]).length ≤ 9 := by rw [List.length_append]; show ws.length + 1 ≤ 9; omega
  have rp := repr_both p1 ht l1 lt
  obtain ⟨r', q, m, c3, s4, s5, s6, s7, s8, er, ib, f4, f5, f6, f7, f8⟩ := loopA_ok (xs := xs) (ts := ws ++ [prs [(2, 0)]]) (kept := .str (PyData.list [.list xs, .list (ws ++ [prs [(2, 0)]])]).shown) p1 l1 ht lt (n := 0 + 37 * 15 + 12 * 8) (r := [.own c2, .fz (.list xs), .fz (.list (ws ++ [prs [(2, 0)]])), .fz (.str (PyData.list [.list xs, .list (ws ++ [prs [(2, 0)]])]).shown), .un, .un, .un, .un, .un, .un]) ⟨c2, .un, .un, .un, .un, .un, rfl, i2, .inl rfl, .inl rfl, .inl rfl, .inl rfl, .inl rfl⟩ (by omega)
  subst er
  refine ⟨c3, ?_⟩
  refine ev_runB (x := .val (.bool true)) (r := [.own c3, .fz (.list xs), .fz (.list (ws ++ [prs [(2, 0)]])), .fz (.str (PyData.list [.list xs, .list (ws ++ [prs [(2, 0)]])]).shown), s4, s5, s6, s7, s8, .un]) ?_ rfl rfl
  refine (ev_seq (r1 := [.own c1, .own (.lst xs), .un, .un, .un, .un, .un, .un, .un, .un]) (ev_setT e1 rfl)).trans ?_
  refine (ev_seq (r1 := [.own c2, .own (.lst xs), .own (.lst us), .un, .un, .un, .un, .un, .un, .un]) (ev_setT e2 rfl)).trans ?_
  refine (ev_seq (r1 := [.own c2, .own (.lst xs), .own (.lst (ws ++ [prs [(2, 0)]])), .un, .un, .un, .un, .un, .un, .un]) (ev_setT (ev_bin e3 (ev_lst (ds := [prs [(2, 0)]]) (ev_vc (ev_tup (ds := [pr (2, 0)]) (ev_vc (ev_tup (ds := [.int 2, .int 0]) rfl (Nat.le_of_ble_eq_true rfl)) rfl) (Nat.le_of_ble_eq_true rfl)) rfl) (Nat.le_of_ble_eq_true rfl)) rfl rfl (add_list (by show ws.length + 1 ≤ _; omega))) rfl)).trans ?_
  refine (ev_seq (r1 := [.own c2, .fz (.list xs), .fz (.list (ws ++ [prs [(2, 0)]])), .fz (.str (PyData.list [.list xs, .list (ws ++ [prs [(2, 0)]])]).shown), .un, .un, .un, .un, .un, .un]) (ev_set (r1 := [.own c2, .fz (.list xs), .fz (.list (ws ++ [prs [(2, 0)]])), .un, .un, .un, .un, .un, .un, .un]) (ev_cb (ev_cons (ev_stl (ev_lst (ds := [.list xs, .list (ws ++ [prs [(2, 0)]])]) (ev_vc' rfl (ev_vc' rfl rfl)) (Nat.le_of_ble_eq_true rfl))) rfl) rfl rp) rfl)).trans ?_
  refine (ev_seq q).trans ?_
  exact ev_ret (ev_bin (ev_cb (ev_cons (ev_stl (ev_lst (ds := [.list xs, .list (ws ++ [prs [(2, 0)]])]) (ev_vc' rfl (ev_vc' rfl rfl)) (Nat.le_of_ble_eq_true rfl))) rfl) rfl rp) rfl rfl rfl (eq_str _))
end KL

namespace KL
open PySem PySem.Spec PyProof.Rows L2 KV
theorem spec (l : List Int) (hl : l.length ≤ 63) : F_law [.list (l.map .int)] = some (.val (.bool true)) := by
  have e := lc_map (vs := [1]) (fi := iR1 (dCons (dBin (dC (.int 1)) (dCB (dCons (dC (.int 2)) (dCons (dCB (dCons (dVar 0) (dNil)) opLen) (dNil))) opMin2) opAdd) (dNil))) (g := gN 1) (f := dCallT G__law_right (dCall F__law_box (vCons (dVar 0) (vCons (dVar 1) (vNil)))))
    (r := [.fz (.list (l.map .int)), .un]) (r1 := [.fz (.list (l.map .int)), .un]) (u := none) (ds := rangeD 0 (1 + min 2 l.length)) (val := fun _ => .bool true) (r2 := [.fz (.list (l.map .int)), .un]) (by
      have e2 : (1 + if (l.length : Int) < 2 then (l.length : Int) else 2) = ((1 + min 2 l.length : Nat) : Int) := by split <;> omega
      simp [iR1, dBin, dCB, dCons, dNil, dVar, dC, dStl, stl, derefs, deref, opLen, opMin2, opAdd]
      rw [e2, sizeLine_eq]
      refine ⟨⟨by omega, by omega, by omega⟩, ?_⟩
      rw [Int.toNat_natCast]) rfl (fun d hd => by
      unfold rangeD at hd
      obtain ⟨k, hk, rfl⟩ := List.mem_map.mp hd
      have hk2 := List.mem_range.mp hk
      obtain ⟨x, y, hb, hx, hy0, hy1⟩ := box_ok l k (by omega)
      obtain ⟨c, hc⟩ := right_ok x y hx ⟨hy0, hy1⟩
      have hb' : F__law_box [.list (l.map .int), .int (0 + (k : Int))] = some (.tmp (.lst [.int x, .int y, .int 0])) := by rw [Int.zero_add]; exact hb
      exact ⟨[.fz (.list (l.map .int)), .fz (.int (0 + (k : Int)))], rfl, rfl, ev_fz (ev_callT (ev_call (ds := [.list (l.map .int), .int (0 + (k : Int))]) rfl hb') hc)⟩) rfl
  refine ev_run (ev_ret (ev_cb (z := .val (.bool true)) (ev_cons (ev_stl e) rfl) rfl ?_)) rfl
  show (boolsOf _).map _ = _
  rw [bools_map (fun _ => true)]
  simp
end KL

namespace KL
open PySem PySem.Spec PyProof.Rows L2 KV
def dd_0 : He.DefD := ⟨("frozen", none), "frozen", "frozen", defArgs s_frozen, defBody s_frozen, defScope s_frozen, [], []⟩
def dd_1 : He.DefD := ⟨("are_enough", none), "are_enough", "are_enough", defArgs s_are_enough, defBody s_are_enough, defScope s_are_enough, [], []⟩
def dd_2 : He.DefD := ⟨("keys_believed", none), "keys_believed", "keys_believed", defArgs s_keys_believed, defBody s_keys_believed, defScope s_keys_believed, [], []⟩
def dd_3 : He.DefD := ⟨("rest_believed", none), "rest_believed", "rest_believed", defArgs s_rest_believed, defBody s_rest_believed, defScope s_rest_believed, [], []⟩
def dd_4 : He.DefD := ⟨("_law_box", none), "_law_box", "_law_box", defArgs s__law_box, defBody s__law_box, defScope s__law_box, [], []⟩
def dd_5 : He.DefD := ⟨("_law_take", none), "_law_take", "_law_take", defArgs s__law_take, defBody s__law_take, defScope s__law_take, [], []⟩
def dd_6 : He.DefD := ⟨("_law_pick", none), "_law_pick", "_law_pick", defArgs s__law_pick, defBody s__law_pick, defScope s__law_pick, [], []⟩
def dd_7 : He.DefD := ⟨("_law_same", none), "_law_same", "_law_same", defArgs s__law_same, defBody s__law_same, defScope s__law_same, [], []⟩
def dd_8 : He.DefD := ⟨("_law_covers", none), "_law_covers", "_law_covers", defArgs s__law_covers, defBody s__law_covers, defScope s__law_covers, [], []⟩
def dd_9 : He.DefD := ⟨("_law_keys_ok", none), "_law_keys_ok", "_law_keys_ok", defArgs s__law_keys_ok, defBody s__law_keys_ok, defScope s__law_keys_ok, [], []⟩
def dd_10 : He.DefD := ⟨("_law_rest_ok", none), "_law_rest_ok", "_law_rest_ok", defArgs s__law_rest_ok, defBody s__law_rest_ok, defScope s__law_rest_ok, [], []⟩
def dd_11 : He.DefD := ⟨("_law_some_keys", none), "_law_some_keys", "_law_some_keys", defArgs s__law_some_keys, defBody s__law_some_keys, defScope s__law_some_keys, [], []⟩
def dd_12 : He.DefD := ⟨("_law_numbers", none), "_law_numbers", "_law_numbers", defArgs s__law_numbers, defBody s__law_numbers, defScope s__law_numbers, [], []⟩
def dd_13 : He.DefD := ⟨("_law_version", none), "_law_version", "_law_version", defArgs s__law_version, defBody s__law_version, defScope s__law_version, [], []⟩
def dd_14 : He.DefD := ⟨("_law_right", none), "_law_right", "_law_right", defArgs s__law_right, defBody s__law_right, defScope s__law_right, [], []⟩
def dd_15 : He.DefD := ⟨("law", none), "law", "law", defArgs s_law, defBody s_law, defScope s_law, [], []⟩
def fn : List He.DefD := [dd_0, dd_1, dd_2, dd_3, dd_4, dd_5, dd_6, dd_7, dd_8, dd_9, dd_10, dd_11, dd_12, dd_13, dd_14, dd_15]
def fa : List He.Fa := [.glo "frozen", .glo "are_enough", .glo "keys_believed", .glo "rest_believed", .glo "_law_box", .glo "_law_take", .glo "_law_pick", .glo "_law_same", .glo "_law_covers", .glo "_law_keys_ok", .glo "_law_rest_ok", .glo "_law_some_keys", .glo "_law_numbers", .glo "_law_version", .glo "_law_right", .glo "law", .free "abs", .free "all", .free "int", .free "isinstance", .free "len", .free "list", .free "min", .free "range", .free "repr", .free "tuple", .str "ANY" ("any" : Str)]
abbrev R : PySem.W.OpenRow := PySem.W.OpenLaw.row PySem.Challenge.rw_keyturns_k06_believing_beside_an_own_loo
abbrev hk : PySem.W.Hook := He.hookD 4 fa fn
def ob (s : PySem.W.SharedT) : He.AlD := He.obsDG 4 fa fn (HandSHeadRun.getT s)
theorem ob_eq (s : PySem.W.SharedT) : ob s = hk.obs s.abs := He.obsDG_eq (HandSHeadRun.getT_eq s)
theorem run (w : World) : HandSHeadRun.RunEq R (PySem.W.view R.prog [19]) hk ob 2000 ["__name__", "ANY", "frozen", "are_enough", "keys_believed", "rest_believed", "_law_box", "_law_take", "_law_pick", "_law_same", "_law_covers", "_law_keys_ok", "_law_rest_ok", "_law_some_keys", "_law_numbers", "_law_version", "_law_right"] w := by
  intro os
  kernel_rfl
theorem facts {K : PySem.W.Frag} {h : Heap} {mg : Str → Option Value} (X : K.In h) (G : h.Ns mainGlobals mg) (c : He.SaysD fa fn K) : Facts K mg where
  f_abs := He.free_ok X G (c.fact 16 (f := .free "abs") rfl)
  f_all := He.free_ok X G (c.fact 17 (f := .free "all") rfl)
  f_int := He.free_ok X G (c.fact 18 (f := .free "int") rfl)
  f_isinstance := He.free_ok X G (c.fact 19 (f := .free "isinstance") rfl)
  f_len := He.free_ok X G (c.fact 20 (f := .free "len") rfl)
  f_list := He.free_ok X G (c.fact 21 (f := .free "list") rfl)
  f_min := He.free_ok X G (c.fact 22 (f := .free "min") rfl)
  f_range := He.free_ok X G (c.fact 23 (f := .free "range") rfl)
  f_repr := He.free_ok X G (c.fact 24 (f := .free "repr") rfl)
  f_tuple := He.free_ok X G (c.fact 25 (f := .free "tuple") rfl)
  c_ANY := He.str_ok X G (c.fact 26 (f := .str "ANY" ("any" : Str)) rfl)
  d_frozen := by
    obtain ⟨fd, F⟩ := c.def_ 0 (d := dd_0) rfl
    exact ⟨_, fd, He.glo_ok X G (c.fact 0 (f := .glo "frozen") rfl), F⟩
  d_are_enough := by
    obtain ⟨fd, F⟩ := c.def_ 1 (d := dd_1) rfl
    exact ⟨_, fd, He.glo_ok X G (c.fact 1 (f := .glo "are_enough") rfl), F⟩
  d_keys_believed := by
    obtain ⟨fd, F⟩ := c.def_ 2 (d := dd_2) rfl
    exact ⟨_, fd, He.glo_ok X G (c.fact 2 (f := .glo "keys_believed") rfl), F⟩
  d_rest_believed := by
    obtain ⟨fd, F⟩ := c.def_ 3 (d := dd_3) rfl
    exact ⟨_, fd, He.glo_ok X G (c.fact 3 (f := .glo "rest_believed") rfl), F⟩
  d__law_box := by
    obtain ⟨fd, F⟩ := c.def_ 4 (d := dd_4) rfl
    exact ⟨_, fd, He.glo_ok X G (c.fact 4 (f := .glo "_law_box") rfl), F⟩
  d__law_take := by
    obtain ⟨fd, F⟩ := c.def_ 5 (d := dd_5) rfl
    exact ⟨_, fd, He.glo_ok X G (c.fact 5 (f := .glo "_law_take") rfl), F⟩
  d__law_pick := by
    obtain ⟨fd, F⟩ := c.def_ 6 (d := dd_6) rfl
    exact ⟨_, fd, He.glo_ok X G (c.fact 6 (f := .glo "_law_pick") rfl), F⟩
  d__law_same := by
    obtain ⟨fd, F⟩ := c.def_ 7 (d := dd_7) rfl
    exact ⟨_, fd, He.glo_ok X G (c.fact 7 (f := .glo "_law_same") rfl), F⟩
  d__law_covers := by
    obtain ⟨fd, F⟩ := c.def_ 8 (d := dd_8) rfl
    exact ⟨_, fd, He.glo_ok X G (c.fact 8 (f := .glo "_law_covers") rfl), F⟩
  d__law_keys_ok := by
    obtain ⟨fd, F⟩ := c.def_ 9 (d := dd_9) rfl
    exact ⟨_, fd, He.glo_ok X G (c.fact 9 (f := .glo "_law_keys_ok") rfl), F⟩
  d__law_rest_ok := by
    obtain ⟨fd, F⟩ := c.def_ 10 (d := dd_10) rfl
    exact ⟨_, fd, He.glo_ok X G (c.fact 10 (f := .glo "_law_rest_ok") rfl), F⟩
  d__law_some_keys := by
    obtain ⟨fd, F⟩ := c.def_ 11 (d := dd_11) rfl
    exact ⟨_, fd, He.glo_ok X G (c.fact 11 (f := .glo "_law_some_keys") rfl), F⟩
  d__law_numbers := by
    obtain ⟨fd, F⟩ := c.def_ 12 (d := dd_12) rfl
    exact ⟨_, fd, He.glo_ok X G (c.fact 12 (f := .glo "_law_numbers") rfl), F⟩
  d__law_version := by
    obtain ⟨fd, F⟩ := c.def_ 13 (d := dd_13) rfl
    exact ⟨_, fd, He.glo_ok X G (c.fact 13 (f := .glo "_law_version") rfl), F⟩
  d__law_right := by
    obtain ⟨fd, F⟩ := c.def_ 14 (d := dd_14) rfl
    exact ⟨_, fd, He.glo_ok X G (c.fact 14 (f := .glo "_law_right") rfl), F⟩
  d_law := by
    obtain ⟨fd, F⟩ := c.def_ 15 (d := dd_15) rfl
    exact ⟨_, fd, He.glo_ok X G (c.fact 15 (f := .glo "law") rfl), F⟩
end KL
open PySem PySem.W PySem.Calls PyProof.Rows
theorem holds (spec : ∀ ns : List Int, ns.length ≤ 63 → KL.F_law [.list (ns.map .int)] = some (.val (.bool true))) : PySem.Challenge.rw_keyturns_k06_believing_beside_an_own_loo.Holds := by
  w_on; o_law
  refine HandSHeadRun.head_any (r := OpenLaw.row PySem.Challenge.rw_keyturns_k06_believing_beside_an_own_loo) (q := view (OpenLaw.row PySem.Challenge.rw_keyturns_k06_believing_beside_an_own_loo).prog [19]) (H := KL.hk) (ob := KL.ob) (M := 2000) (loose := ["__name__", "ANY", "frozen", "are_enough", "keys_believed", "rest_believed", "_law_box", "_law_take", "_law_pick", "_law_same", "_law_covers", "_law_keys_ok", "_law_rest_ok", "_law_some_keys", "_law_numbers", "_law_version", "_law_right"]) (d := HandSHeadRun.topDef (OpenLaw.row PySem.Challenge.rw_keyturns_k06_believing_beside_an_own_loo).prog 19) (kwd := []) KL.ob_eq
    (by kernel_rfl) (fun s => by kernel_rfl) KL.run (by kernel_rfl) (by kernel_rfl) (by kernel_rfl) (by rfl) (by first | assumption | decide +kernel) (by decide +kernel) ⟨rfl, rfl, rfl, rfl, rfl, by decide +kernel⟩ ?hw ?hc
  case hw => w_witness2
  case hc =>
    refine KV.walk_G (l := PySem.Challenge.rw_keyturns_k06_believing_beside_an_own_loo) (n := 63) (k := 15) (x := "_law_script") rfl (by decide) (by kernel_rfl) ⟨rfl, by decide, by decide⟩ ?_
    intro w mg fa h Y G hmg0
    obtain ⟨K, KX, c⟩ := Y
    have hmg : mg ("law" : PySem.Str) = some (.ref fa) := by
      have e : (HandSHeadRun.topDef (OpenLaw.row PySem.Challenge.rw_keyturns_k06_believing_beside_an_own_loo).prog 19).name = ("law" : PySem.Str) := by kernel_rfl
      rw [← e]
      exact hmg0
    have Z := KL.facts KX G c
    obtain ⟨f0, fd, hm0, FD⟩ := Z.d_law
    have e := hm0.symm.trans hmg
    cases e
    have bb := L2.FunD.bindsA (ps := ["_law_script"]) FD fun _ _ _ _ _ _ us hl => match us, hl with | [_], _ => rfl
    refine ⟨K, fd, KL.F_law, KX, fun s v => bb s [v] rfl, spec, fun base KB GB => ?_⟩
    obtain ⟨f1, fd1, o⟩ := KL.ok_law (P := (PySem.Challenge.rw_keyturns_k06_believing_beside_an_own_loo).prog) (w := w) (base := base) Z
    have e1 := hm0.symm.trans o.m
    cases e1
    have e2 := KL.fd_eq FD o.D
    cases e2
    exact o.run

open PySem PySem.W PySem.Calls PyProof.Rows
theorem PySem.Challenge.cw_keyturns_k06_believing_beside_an_own_loo_holds : PySem.Challenge.rw_keyturns_k06_believing_beside_an_own_loo.Holds :=
  holds KL.spec
