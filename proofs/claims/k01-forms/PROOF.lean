import PyProof.Rows.All
import Wide.All
import OpenK.AllK
import Wide.FinOn
import HandS.ForMost
import HandS.TupAny
import HandS.TupMul
import HandS.IsInst
import KE.DataEq
import KE.DataIsa
import PyProof.ReprReads
import HandS.Defaults
import HandS.Words
import HandS.Ends
import HandS.HeadEnd
import HandS.Style
import HandS.Strs
import HandS.TupSets
import HandS.Conv
import HandS.Zip
import HandS.SortInts
import HandS.SortKw
import HandS.HeadHook2
import PyProof.EnumMake
import PyProof.Draws
import PyProof.TupleIter
import PyProof.WalksMore
import HandS.Head0
import HandS.Head1
import HandS.Head2
import HandS.HeadHook1
import HandS.HeadNt
import KE.KStateDown
import Lean
import PySem.Challenge.RW_keyturns_k01_forms_or_not
set_option Elab.async false
set_option linter.all false
set_option maxRecDepth 100000
set_option maxHeartbeats 0
set_option autoImplicit false
section
/-! KV, part 1: data that stands still, owned lists, the state of a def's names as plain data. -/
namespace KV
open PySem PySem.Spec PyProof.Rows L2

/-- a list that stands still: locked, or of the written part -/
def FzL (K : PySem.W.Frag) (H : Hp) (a : Addr) (xs : List V) : Prop :=
  (∃ o, H a = some (.frz o (.lst xs))) ∨
    ∃ (o : Obj) (its : Array Value) (n : Nat), K.lookup a = some o ∧ o.cls = .type "list" ∧ o.dict = none ∧ o.data = .seq its n ∧ its.size ≤ sizeLine ∧ Vals xs its.toList
theorem FzL.sq {K : PySem.W.Frag} {H : Hp} {a : Addr} {xs : List V} (h : FzL K H a xs) : SqL K H a xs := by
  rcases h with h | h
  · exact .inl (.inr h)
  · exact .inr h
theorem FzL.of_sq {K : PySem.W.Frag} {H : Hp} {a : Addr} {xs : List V} (h : SqL K H a xs) (hn : ∀ ys, H a ≠ some (.lst ys)) : FzL K H a xs := by
  rcases h with (h | h) | h
  · exact absurd h (hn _)
  · exact .inl h
  · exact .inr h

mutual
/-- what a value is, as data that nobody changes any more -/
inductive Rp (K : PySem.W.Frag) (H : Hp) : V → PyData → Prop
  | non : Rp K H .non .none
  | bl (b : Bool) : Rp K H (.bl b) (.bool b)
  | int (i : Int) : Rp K H (.int i) (.int i)
  | str (x : Str) : Rp K H (.str x) (.str x)
  | lst {a : Addr} {vs : List V} {ds : List PyData} : FzL K H a vs → RpAll K H vs ds → Rp K H (.ref a) (.list ds)
  | tup {a : Addr} {vs : List V} {ds : List PyData} : SqT K H a vs → RpAll K H vs ds → Rp K H (.ref a) (.tuple ds)
inductive RpAll (K : PySem.W.Frag) (H : Hp) : List V → List PyData → Prop
  | nil : RpAll K H [] []
  | cons {v : V} {vs : List V} {d : PyData} {ds : List PyData} : Rp K H v d → RpAll K H vs ds → RpAll K H (v :: vs) (d :: ds)
end

/-- what never changes stands -/
structure Fx (H H' : Hp) : Prop where
  frz : ∀ b o u, H b = some (.frz o u) → H' b = some (.frz o u)
  tup : ∀ b xs, H b = some (.tup xs) → H' b = some (.tup xs)
theorem Fx.refl (H : Hp) : Fx H H := ⟨fun _ _ _ h => h, fun _ _ h => h⟩
theorem Fx.trans {H H1 H2 : Hp} (a : Fx H H1) (b : Fx H1 H2) : Fx H H2 := ⟨fun c o u h => b.frz c o u (a.frz c o u h), fun c xs h => b.tup c xs (a.tup c xs h)⟩
theorem Fx.of_same {H H' : Hp} (h : Same H H') : Fx H H' := ⟨fun b _ _ e => h b _ e, fun b _ e => h b _ e⟩
theorem SqT.fx {K : PySem.W.Frag} {H H' : Hp} {a : Addr} {xs : List V} (f : Fx H H') (h : SqT K H a xs) : SqT K H' a xs := by
  rcases h with (h | ⟨o, h⟩) | h
  · exact .inl (.inl (f.tup _ _ h))
  · exact .inl (.inr ⟨o, f.frz _ _ _ h⟩)
  · exact .inr h
theorem FzL.fx {K : PySem.W.Frag} {H H' : Hp} {a : Addr} {xs : List V} (f : Fx H H') (h : FzL K H a xs) : FzL K H' a xs := by
  rcases h with ⟨o, h⟩ | h
  · exact .inl ⟨o, f.frz _ _ _ h⟩
  · exact .inr h

section
variable {K : PySem.W.Frag} {H H' : Hp}
mutual
theorem Rp.fx (f : Fx H H') : ∀ {v : V} {d : PyData}, Rp K H v d → Rp K H' v d
  | _, _, .non => .non
  | _, _, .bl b => .bl b
  | _, _, .int i => .int i
  | _, _, .str x => .str x
  | _, _, .lst h1 h2 => .lst (h1.fx f) (RpAll.fx f h2)
  | _, _, .tup h1 h2 => .tup (SqT.fx f h1) (RpAll.fx f h2)
theorem RpAll.fx (f : Fx H H') : ∀ {vs : List V} {ds : List PyData}, RpAll K H vs ds → RpAll K H' vs ds
  | _, _, .nil => .nil
  | _, _, .cons h1 h2 => .cons (Rp.fx f h1) (RpAll.fx f h2)
end
mutual
theorem Rp.dp : ∀ {v : V} {d : PyData}, Rp K H v d → Dp K H v d
  | _, _, .non => .non
  | _, _, .bl b => .bl b
  | _, _, .int i => .int i
  | _, _, .str x => .str x
  | _, _, .lst h1 h2 => .lst h1.sq (RpAll.dp h2)
  | _, _, .tup h1 h2 => .tup h1 (RpAll.dp h2)
theorem RpAll.dp : ∀ {vs : List V} {ds : List PyData}, RpAll K H vs ds → DpAll K H vs ds
  | _, _, .nil => .nil
  | _, _, .cons h1 h2 => .cons (Rp.dp h1) (RpAll.dp h2)
end
theorem RpAll.length : ∀ {vs : List V} {ds : List PyData}, RpAll K H vs ds → vs.length = ds.length
  | _, _, .nil => rfl
  | _, _, .cons _ h => by simp [RpAll.length h]
theorem RpAll.get : ∀ {vs : List V} {ds : List PyData} {i : Nat} {v : V}, RpAll K H vs ds → vs[i]? = some v → ∃ d, ds[i]? = some d ∧ Rp K H v d
  | _, _, _, _, .nil, e => by simp at e
  | _, _, 0, _, .cons h _, e => by simp at e; subst e; exact ⟨_, rfl, h⟩
  | _, _, i + 1, _, .cons _ t, e => by
    obtain ⟨d, h1, h2⟩ := RpAll.get (i := i) t (by simpa using e)
    exact ⟨d, by simpa using h1, h2⟩
theorem RpAll.get' : ∀ {vs : List V} {ds : List PyData} {i : Nat} {d : PyData}, RpAll K H vs ds → ds[i]? = some d → ∃ v, vs[i]? = some v ∧ Rp K H v d
  | _, _, _, _, .nil, e => by simp at e
  | _, _, 0, _, .cons h _, e => by simp at e; subst e; exact ⟨_, rfl, h⟩
  | _, _, i + 1, _, .cons _ t, e => by
    obtain ⟨d, h1, h2⟩ := RpAll.get' (i := i) t (by simpa using e)
    exact ⟨d, by simpa using h1, h2⟩
theorem RpAll.append : ∀ {vs ws : List V} {ds es : List PyData}, RpAll K H vs ds → RpAll K H ws es → RpAll K H (vs ++ ws) (ds ++ es)
  | _, _, _, _, .nil, h => h
  | _, _, _, _, .cons a t, h => .cons a (RpAll.append t h)
theorem RpAll.take : ∀ {vs : List V} {ds : List PyData} (n : Nat), RpAll K H vs ds → RpAll K H (vs.take n) (ds.take n)
  | _, _, _, .nil => by simp; exact .nil
  | _, _, 0, .cons _ _ => .nil
  | _, _, n + 1, .cons a t => .cons a (RpAll.take n t)
theorem RpAll.drop : ∀ {vs : List V} {ds : List PyData} (n : Nat), RpAll K H vs ds → RpAll K H (vs.drop n) (ds.drop n)
  | _, _, _, .nil => by simp; exact .nil
  | _, _, 0, .cons a t => .cons a t
  | _, _, n + 1, .cons _ t => RpAll.drop n t
theorem RpAll.set : ∀ {vs : List V} {ds : List PyData} {v : V} {d : PyData} (i : Nat), Rp K H v d → RpAll K H vs ds → RpAll K H (vs.set i v) (ds.set i d)
  | _, _, _, _, _, _, .nil => .nil
  | _, _, _, _, 0, r, .cons _ t => .cons r t
  | _, _, _, _, i + 1, r, .cons a t => .cons a (RpAll.set i r t)
theorem RpAll.eraseIdx : ∀ {vs : List V} {ds : List PyData} (i : Nat), RpAll K H vs ds → RpAll K H (vs.eraseIdx i) (ds.eraseIdx i)
  | _, _, _, .nil => by simp; exact .nil
  | _, _, 0, .cons _ t => t
  | _, _, i + 1, .cons a t => .cons a (RpAll.eraseIdx i t)
theorem RpAll.reverse {vs : List V} {ds : List PyData} (h : RpAll K H vs ds) : RpAll K H vs.reverse ds.reverse := by
  induction vs generalizing ds with
  | nil => cases h; exact .nil
  | cons v vs ih =>
    cases h with
    | cons a t =>
      rw [List.reverse_cons, List.reverse_cons]
      exact (ih t).append (.cons a .nil)
theorem RpAll.one {vs : List V} {d : PyData} (h : RpAll K H vs [d]) : ∃ v, vs = [v] ∧ Rp K H v d := by
  cases h with
  | cons a t => cases t; exact ⟨_, rfl, a⟩
theorem RpAll.ints : ∀ (ns : List Int), RpAll K H (ns.map V.int) (ns.map PyData.int)
  | [] => .nil
  | n :: r => .cons (.int n) (RpAll.ints r)
theorem RpAll.ints_of : ∀ {vs : List V} {ns : List Int}, RpAll K H vs (ns.map PyData.int) → vs = ns.map V.int
  | _, [], h => by cases h; rfl
  | _, n :: r, h => by
    cases h with
    | cons a t => cases a; rw [RpAll.ints_of t]; rfl
end

/-! ### things that may change -/
inductive Ob where
  | lst (ds : List PyData)
def Ob.data : Ob → PyData
  | .lst ds => .list ds
def ObOk (K : PySem.W.Frag) (H : Hp) (p : Addr) : Ob → Prop
  | .lst ds => ∃ vs, H p = some (.lst vs) ∧ RpAll K H vs ds
theorem ObOk.mut {K : PySem.W.Frag} {H : Hp} {p : Addr} {c : Ob} (h : ObOk K H p c) : Mut (H p) := by
  cases c with
  | lst ds => obtain ⟨vs, e, _⟩ := h; rw [e]; trivial
theorem ObOk.fx {K : PySem.W.Frag} {H H' : Hp} {p : Addr} {c : Ob} (h : ObOk K H p c) (f : Fx H H') (e : H' p = H p) : ObOk K H' p c := by
  cases c with
  | lst ds => obtain ⟨vs, e1, r⟩ := h; exact ⟨vs, e.trans e1, r.fx f⟩

/-- frozen data, or a list as it stands now -/
inductive Bp (K : PySem.W.Frag) (H : Hp) : V → PyData → Prop
  | rp {v : V} {d : PyData} : Rp K H v d → Bp K H v d
  | ob {p : Addr} {c : Ob} : ObOk K H p c → Bp K H (.ref p) c.data
theorem Bp.dp {K : PySem.W.Frag} {H : Hp} {v : V} {d : PyData} (h : Bp K H v d) : Dp K H v d := by
  cases h with
  | rp h => exact h.dp
  | @ob p c h =>
    cases c with
    | lst ds =>
      obtain ⟨vs, e, r⟩ := h
      exact .lst (SqL.of e) r.dp
theorem Bp.list {K : PySem.W.Frag} {H : Hp} {v : V} {ds : List PyData} (h : Bp K H v (.list ds)) : ∃ a vs, v = .ref a ∧ SqL K H a vs ∧ RpAll K H vs ds := by
  generalize e : PyData.list ds = d at h
  cases h with
  | rp h =>
    subst e
    cases h with
    | lst h1 h2 => exact ⟨_, _, rfl, h1.sq, h2⟩
  | @ob p c h =>
    cases c with
    | lst ds' =>
      cases e
      obtain ⟨vs, e, r⟩ := h
      exact ⟨p, vs, rfl, SqL.of e, r⟩
theorem Bp.tuple {K : PySem.W.Frag} {H : Hp} {v : V} {ds : List PyData} (h : Bp K H v (.tuple ds)) : ∃ a vs, v = .ref a ∧ SqT K H a vs ∧ RpAll K H vs ds := by
  generalize e : PyData.tuple ds = d at h
  cases h with
  | rp h =>
    subst e
    cases h with
    | tup h1 h2 => exact ⟨_, _, rfl, h1, h2⟩
  | @ob p c h => cases c with | lst ds' => cases e
theorem Bp.int {K : PySem.W.Frag} {H : Hp} {v : V} {i : Int} (h : Bp K H v (.int i)) : v = .int i := by
  generalize e : PyData.int i = d at h
  cases h with
  | rp h => subst e; cases h; rfl
  | @ob p c h => cases c with | lst ds' => cases e
theorem Bp.bool {K : PySem.W.Frag} {H : Hp} {v : V} {b : Bool} (h : Bp K H v (.bool b)) : v = .bl b := by
  generalize e : PyData.bool b = d at h
  cases h with
  | rp h => subst e; cases h; rfl
  | @ob p c h => cases c with | lst ds' => cases e
theorem Bp.str {K : PySem.W.Frag} {H : Hp} {v : V} {x : Str} (h : Bp K H v (.str x)) : v = .str x := by
  generalize e : PyData.str x = d at h
  cases h with
  | rp h => subst e; cases h; rfl
  | @ob p c h => cases c with | lst ds' => cases e
theorem Bp.non {K : PySem.W.Frag} {H : Hp} {v : V} (h : Bp K H v .none) : v = .non := by
  generalize e : PyData.none = d at h
  cases h with
  | rp h => subst e; cases h; rfl
  | @ob p c h => cases c with | lst ds' => cases e

/-! ### the names of a def -/
inductive Sl where
  | un
  | fz (d : PyData)
  | own (c : Ob)
  | lck (c : Ob)
def Sl.ob : Sl → Option Ob
  | .own c => some c
  | .lck c => some c
  | _ => none
abbrev Nms := List Sl
def SlOk (K : PySem.W.Frag) (H : Hp) (O : Addr → Prop) (v : Option V) : Sl → Prop
  | .un => True
  | .fz d => ∃ x, v = some x ∧ Rp K H x d
  | .own c => ∃ p, v = some (.ref p) ∧ ObOk K H p c ∧ O p
  | .lck c => ∃ p, v = some (.ref p) ∧ ObOk K H p c ∧ O p
structure EnvOk (K : PySem.W.Frag) (H : Hp) (O : Addr → Prop) (r : Nms) (σ : L2.St) : Prop where
  len : r.length = σ.length
  ok : ∀ (i : Nat) (s : Sl), r[i]? = some s → ∃ v, σ[i]? = some v ∧ SlOk K H O v s
  sep : ∀ (i j : Nat) (s t : Sl) (c e : Ob) (p : Addr), r[i]? = some s → r[j]? = some t → s.ob = some c → t.ob = some e → σ[i]? = some (some (.ref p)) → σ[j]? = some (some (.ref p)) → i = j
  mt : ∀ p, O p → Mut (H p)
/-- a step of the heap: only what is owned changes; what is owned newly is new -/
structure Stp (H : Hp) (O : Addr → Prop) (H' : Hp) (O' : Addr → Prop) : Prop where
  keep : ∀ b o, H b = some o → ¬ O b → H' b = some o
  own : ∀ b, O' b → O b ∨ H b = none
theorem Stp.refl (H : Hp) (O : Addr → Prop) : Stp H O H O := ⟨fun _ _ h _ => h, fun _ h => .inl h⟩
theorem Stp.trans {H H1 H2 : Hp} {O O1 O2 : Addr → Prop} (a : Stp H O H1 O1) (b : Stp H1 O1 H2 O2) : Stp H O H2 O2 where
  keep := fun c o h n => b.keep c o (a.keep c o h n) fun z => by
    rcases a.own c z with q | q
    · exact n q
    · rw [h] at q; cases q
  own := fun c h => by
    rcases b.own c h with q | q
    · exact a.own c q
    · cases e : H c with
      | none => exact .inr rfl
      | some o =>
        by_cases n : O c
        · exact .inl n
        · rw [a.keep c o e n] at q; cases q
theorem Stp.fx {H H' : Hp} {O O' : Addr → Prop} (s : Stp H O H' O') (hm : ∀ p, O p → Mut (H p)) : Fx H H' :=
  ⟨fun b o u e => s.keep b _ e fun z => by have := hm b z; rw [e] at this; exact this, fun b xs e => s.keep b _ e fun z => by have := hm b z; rw [e] at this; exact this⟩
theorem Stp.of_same {H H' : Hp} {O : Addr → Prop} (h : Same H H') : Stp H O H' O := ⟨fun b o e _ => h b o e, fun _ z => .inl z⟩

theorem SlOk.same {K : PySem.W.Frag} {H H' : Hp} {O : Addr → Prop} {v : Option V} {s : Sl} (f : Fx H H') (e : ∀ p, O p → H' p = H p) (h : SlOk K H O v s) : SlOk K H' O v s := by
  cases s with
  | un => trivial
  | fz d => obtain ⟨x, e1, r⟩ := h; exact ⟨x, e1, r.fx f⟩
  | own c => obtain ⟨p, e1, r, o⟩ := h; exact ⟨p, e1, r.fx f (e p o), o⟩
  | lck c => obtain ⟨p, e1, r, o⟩ := h; exact ⟨p, e1, r.fx f (e p o), o⟩
theorem SlOk.mono {K : PySem.W.Frag} {H : Hp} {O O' : Addr → Prop} {v : Option V} {s : Sl} (f : ∀ p, O p → O' p) (h : SlOk K H O v s) : SlOk K H O' v s := by
  cases s with
  | un => trivial
  | fz d => exact h
  | own c => obtain ⟨p, e1, r, o⟩ := h; exact ⟨p, e1, r, f p o⟩
  | lck c => obtain ⟨p, e1, r, o⟩ := h; exact ⟨p, e1, r, f p o⟩
section
variable {K : PySem.W.Frag} {H H' : Hp} {O O' : Addr → Prop} {r : Nms} {σ : L2.St}
theorem EnvOk.same (I : EnvOk K H O r σ) (h : Same H H') : EnvOk K H' O r σ := by
  have e : ∀ p, O p → H' p = H p := fun p o => by
    have := I.mt p o
    cases q : H p with
    | none => rw [q] at this; exact this.elim
    | some u => exact h p u q
  exact ⟨I.len, fun i s q => let ⟨v, e1, z⟩ := I.ok i s q; ⟨v, e1, z.same (Fx.of_same h) e⟩, I.sep, fun p o => by rw [e p o]; exact I.mt p o⟩
/-- a new thing comes to what is owned -/
theorem EnvOk.add {p : Addr} (I : EnvOk K H O r σ) (h : Same H H') (hm : Mut (H' p)) : EnvOk K H' (fun b => O b ∨ b = p) r σ := by
  have I' := I.same h
  exact ⟨I'.len, fun i s q => let ⟨v, e1, z⟩ := I'.ok i s q; ⟨v, e1, z.mono fun _ => .inl⟩, I'.sep, fun b o => by
    rcases o with o | rfl
    · exact I'.mt b o
    · exact hm⟩
theorem Stp.add {p : Addr} (h : Same H H') (hp : H p = none) : Stp H O H' (fun b => O b ∨ b = p) := ⟨fun b o e _ => h b o e, fun b z => by
  rcases z with z | rfl
  · exact .inl z
  · exact .inr hp⟩
theorem EnvOk.fxOf (I : EnvOk K H O r σ) (s : Stp H O H' O') : Fx H H' := s.fx I.mt
end

/-! ### what an expression gives -/
inductive R where
  | val (d : PyData)
  | slot (i : Nat)
  | tmp (c : Ob)
def ROk (K : PySem.W.Frag) (H : Hp) (O : Addr → Prop) (r : Nms) (σ : L2.St) (v : V) : R → Prop
  | .val d => Rp K H v d
  | .slot i => σ[i]? = some (some v)
  | .tmp c => ∃ p, v = .ref p ∧ ObOk K H p c ∧ O p ∧ ∀ (i : Nat) (s : Sl) (e : Ob), r[i]? = some s → s.ob = some e → σ[i]? ≠ some (some (.ref p))
/-- locked names stay as they are -/
def Keep (r r' : Nms) : Prop := ∀ (i : Nat) (c : Ob), r[i]? = some (.lck c) → r'[i]? = some (.lck c)
theorem Keep.refl (r : Nms) : Keep r r := fun _ _ h => h
theorem Keep.trans {r r1 r2 : Nms} (a : Keep r r1) (b : Keep r1 r2) : Keep r r2 := fun i c h => b i c (a i c h)
theorem Keep.set {r : Nms} {i : Nat} {s : Sl} (h : ∀ c, r[i]? ≠ some (.lck c)) : Keep r (r.set i s) := fun j c e => by
  by_cases hj : i = j
  · subst hj; exact absurd e (h c)
  · rw [List.getElem?_set_ne hj]; exact e

abbrev Den := Nms → Option (R × Nms)
def tX (K : PySem.W.Frag) (f : Den) : TE := fun σ H Q => ∃ O r x r', EnvOk K H O r σ ∧ f r = some (x, r') ∧
  ∀ H' O' v, Stp H O H' O' → EnvOk K H' O' r' σ → Keep r r' → ROk K H' O' r' σ v x → Q v H'
abbrev Ex (X : Cx) (e : Expr) (f : Den) : Prop := PE X e (tX X.K f)

/-! ### names and constants -/
def dVar (i : Nat) : Den := fun r => match r[i]? with
  | some (.fz d) => some (.val d, r)
  | some (.own _) => some (.slot i, r)
  | some (.lck _) => some (.slot i, r)
  | _ => none
section
variable {X : Cx} {e a b : Expr} {f g : Den} {pos : Pos}
theorem ex_var {i : Nat} {x : Str} (h : PE X (.Name x pos) (tVar i)) : Ex X (.Name x pos) (dVar i) := by
  refine ⟨fun pins s σ H Q I hw => h.run pins s σ H Q I ?_⟩
  obtain ⟨O, r, y, r', E, hf, k⟩ := hw
  unfold dVar at hf
  split at hf
  · rename_i d q
    cases hf
    obtain ⟨v, e1, x, e2, z⟩ := E.ok i _ q
    subst e2
    exact ⟨x, e1, k H O x (Stp.refl _ _) E (Keep.refl _) z⟩
  · rename_i c q
    cases hf
    obtain ⟨v, e1, p, e2, z, o⟩ := E.ok i _ q
    subst e2
    exact ⟨_, e1, k H O _ (Stp.refl _ _) E (Keep.refl _) e1⟩
  · rename_i c q
    cases hf
    obtain ⟨v, e1, p, e2, z, o⟩ := E.ok i _ q
    subst e2
    exact ⟨_, e1, k H O _ (Stp.refl _ _) E (Keep.refl _) e1⟩
  · cases hf
def dC (d : PyData) : Den := fun r => some (.val d, r)
theorem ex_c {v : V} {d : PyData} (h : PE X e (tC v)) (hr : ∀ H, Rp X.K H v d) : Ex X e (dC d) := by
  refine ⟨fun pins s σ H Q I hw => h.run pins s σ H Q I ?_⟩
  obtain ⟨O, r, y, r', E, hf, k⟩ := hw
  cases hf
  exact k H O v (Stp.refl _ _) E (Keep.refl _) (hr H)
theorem ex_int {i j} : Ex X (.Constant (.int i) j pos) (dC (.int i)) := ex_c pe_int fun _ => .int i
theorem ex_bl {b j} : Ex X (.Constant (.bool b) j pos) (dC (.bool b)) := ex_c pe_bl fun _ => .bl b
theorem ex_non {j} : Ex X (.Constant .none j pos) (dC .none) := ex_c pe_non fun _ => .non
theorem ex_str {x j} : Ex X (.Constant (.str x) j pos) (dC (.str x)) := ex_c pe_str fun _ => .str x

/-! ### what is given away stands still from then on -/
theorem lock_rp {K : PySem.W.Frag} {H : Hp} {p : Addr} {c : Ob} {od : Obj} {u : HO} (h : ObOk K H p c) (hu : H p = some u) : Rp K (upd H p (.frz od u)) (.ref p) c.data ∧ Fx H (upd H p (.frz od u)) := by
  have m := h.mut
  have fx : Fx H (upd H p (.frz od u)) := by
    refine ⟨fun b o w e => ?_, fun b xs e => ?_⟩
    · rw [upd_ne (fun z => by rw [← z, e] at m; exact m)]; exact e
    · rw [upd_ne (fun z => by rw [← z, e] at m; exact m)]; exact e
  refine ⟨?_, fx⟩
  cases c with
  | lst ds =>
    obtain ⟨vs, e1, r⟩ := h
    rw [e1] at hu; cases hu
    exact .lst (.inl ⟨od, upd_same⟩) (r.fx fx)
/-- the other names when the thing at p is locked -/
theorem EnvOk.freeze {K : PySem.W.Frag} {H : Hp} {O : Addr → Prop} {r : Nms} {σ : L2.St} {p : Addr} {od : Obj} {u : HO} (E : EnvOk K H O r σ) (fx : Fx H (upd H p (.frz od u)))
    (hn : ∀ (i : Nat) (s : Sl) (e : Ob), r[i]? = some s → s.ob = some e → σ[i]? ≠ some (some (.ref p))) : EnvOk K (upd H p (.frz od u)) (fun b => O b ∧ b ≠ p) r σ := by
  refine ⟨E.len, fun i s q => ?_, E.sep, fun b ⟨o, ne⟩ => by rw [upd_ne ne]; exact E.mt b o⟩
  obtain ⟨v, e1, z⟩ := E.ok i s q
  refine ⟨v, e1, ?_⟩
  cases s with
  | un => trivial
  | fz d => obtain ⟨x, e2, rp⟩ := z; exact ⟨x, e2, rp.fx fx⟩
  | own c =>
    obtain ⟨p', e2, ob, o⟩ := z
    have ne : p' ≠ p := fun z => hn i _ c q rfl (by rw [e1, e2, z])
    exact ⟨p', e2, ob.fx fx (upd_ne ne), o, ne⟩
  | lck c =>
    obtain ⟨p', e2, ob, o⟩ := z
    have ne : p' ≠ p := fun z => hn i _ c q rfl (by rw [e1, e2, z])
    exact ⟨p', e2, ob.fx fx (upd_ne ne), o, ne⟩
theorem Stp.freeze {H : Hp} {O : Addr → Prop} {p : Addr} {od : Obj} {u : HO} (hp : O p) : Stp H O (upd H p (.frz od u)) (fun b => O b ∧ b ≠ p) :=
  ⟨fun b o e n => by rw [upd_ne (fun z => n (by rw [z]; exact hp))]; exact e, fun b z => .inl z.1⟩

/-- a temporary thing stands still -/
def stl : R × Nms → R × Nms
  | (.tmp c, r) => (.val c.data, r)
  | x => x
def dStl (f : Den) : Den := fun r => (f r).map stl
theorem ex_stl (h : Ex X e f) : Ex X e (dStl f) := by
  refine ⟨fun pins s σ H Q I hw => ?_⟩
  obtain ⟨O, r, y, r', E, hf, k⟩ := hw
  unfold dStl at hf
  cases q : f r with
  | none => rw [q] at hf; cases hf
  | some y0 =>
    rw [q] at hf
    obtain ⟨x0, r0⟩ := y0
    cases x0 with
    | val d => cases hf; exact h.run pins s σ H Q I ⟨O, r, _, _, E, q, k⟩
    | slot i => cases hf; exact h.run pins s σ H Q I ⟨O, r, _, _, E, q, k⟩
    | tmp c =>
      cases hf
      refine thn (h.run pins s σ H (fun v H1 => ∃ O1, Stp H O H1 O1 ∧ EnvOk X.K H1 O1 r' σ ∧ Keep r r' ∧ ROk X.K H1 O1 r' σ v (.tmp c)) I ⟨O, r, _, _, E, q, fun H' O' v a b c d => ⟨O', a, b, c, d⟩⟩) fun u s1 hh => ?_
      obtain ⟨v, H1, I1, rv, O1, st, E1, kp, p, rfl, ob, op, hn⟩ := hh
      obtain ⟨u0, hu⟩ : ∃ u0, H1 p = some u0 := by
        cases z : H1 p with
        | none => have := ob.mut; rw [z] at this; exact this.elim
        | some u0 => exact ⟨u0, rfl⟩
      obtain ⟨od, I2⟩ := I1.lock hu (by have := ob.mut; rw [hu] at this; exact this)
      obtain ⟨rp, fx⟩ := lock_rp (od := od) ob hu
      exact ⟨_, _, I2, rv, k _ _ _ (st.trans (Stp.freeze op)) (E1.freeze fx hn) kp rp⟩
/-- .. or a name's thing: it stands still, the name keeps it -/
def frz : R × Nms → Option (R × Nms)
  | (.tmp c, r) => some (.val c.data, r)
  | (.slot i, r) => match r[i]? with
    | some (.own c) => some (.val c.data, r.set i (.fz c.data))
    | some (.fz d) => some (.val d, r)
    | _ => none
  | x => some x
def dFrz (f : Den) : Den := fun r => (f r).bind frz
theorem EnvOk.set {K : PySem.W.Frag} {H : Hp} {O : Addr → Prop} {r : Nms} {σ : L2.St} {i : Nat} {s : Sl} (E : EnvOk K H O r σ) (h : ∀ v, σ[i]? = some v → SlOk K H O v s) (hs : s.ob = none) : EnvOk K H O (r.set i s) σ := by
  refine ⟨by rw [List.length_set]; exact E.len, fun j t q => ?_, fun a b s1 t1 c e p h1 h2 h3 h4 h5 h6 => ?_, E.mt⟩
  · by_cases hj : i = j
    · subst hj
      have hl : i < r.length := by
        rw [List.getElem?_eq_some_iff] at q
        obtain ⟨q, _⟩ := q
        simpa using q
      rw [List.getElem?_set_self hl] at q
      cases q
      have hl2 : i < σ.length := by rw [← E.len]; exact hl
      exact ⟨σ[i], List.getElem?_eq_getElem hl2, h _ (List.getElem?_eq_getElem hl2)⟩
    · rw [List.getElem?_set_ne hj] at q
      exact E.ok j t q
  · have n1 : i ≠ a := fun z => by
      subst z
      have hl : i < r.length := by
        rw [List.getElem?_eq_some_iff] at h1
        obtain ⟨q, _⟩ := h1
        simpa using q
      rw [List.getElem?_set_self hl] at h1
      cases h1
      rw [hs] at h3; cases h3
    have n2 : i ≠ b := fun z => by
      subst z
      have hl : i < r.length := by
        rw [List.getElem?_eq_some_iff] at h2
        obtain ⟨q, _⟩ := h2
        simpa using q
      rw [List.getElem?_set_self hl] at h2
      cases h2
      rw [hs] at h4; cases h4
    rw [List.getElem?_set_ne n1] at h1
    rw [List.getElem?_set_ne n2] at h2
    exact E.sep a b s1 t1 c e p h1 h2 h3 h4 h5 h6
theorem ex_frz (h : Ex X e f) : Ex X e (dFrz f) := by
  refine ⟨fun pins s σ H Q I hw => ?_⟩
  obtain ⟨O, r, y, r', E, hf, k⟩ := hw
  unfold dFrz at hf
  cases q : f r with
  | none => rw [q] at hf; cases hf
  | some y0 =>
    rw [q] at hf
    obtain ⟨x0, r0⟩ := y0
    cases x0 with
    | val d => cases hf; exact h.run pins s σ H Q I ⟨O, r, _, _, E, q, k⟩
    | tmp c =>
      cases hf
      exact (ex_stl h).run pins s σ H Q I ⟨O, r, _, _, E, by unfold dStl; rw [q]; rfl, k⟩
    | slot i =>
      have hf : (match r0[i]? with
        | some (.own c) => some (R.val c.data, r0.set i (.fz c.data))
        | some (.fz d) => some (R.val d, r0)
        | _ => none) = some (y, r') := hf
      split at hf
      · rename_i c qi
        cases hf
        refine thn (h.run pins s σ H (fun v H1 => ∃ O1, Stp H O H1 O1 ∧ EnvOk X.K H1 O1 r0 σ ∧ Keep r r0 ∧ ROk X.K H1 O1 r0 σ v (.slot i)) I ⟨O, r, _, _, E, q, fun H' O' v a b c d => ⟨O', a, b, c, d⟩⟩) fun u s1 hh => ?_
        obtain ⟨v, H1, I1, rv, O1, st, E1, kp, hv⟩ := hh
        have hv : σ[i]? = some (some v) := hv
        obtain ⟨v', e1, p, e2, ob, op⟩ := E1.ok i _ qi
        rw [hv] at e1; cases e1; cases e2
        obtain ⟨u0, hu⟩ : ∃ u0, H1 p = some u0 := by
          cases z : H1 p with
          | none => have := ob.mut; rw [z] at this; exact this.elim
          | some u0 => exact ⟨u0, rfl⟩
        obtain ⟨od, I2⟩ := I1.lock hu (by have := ob.mut; rw [hu] at this; exact this)
        obtain ⟨rp, fx⟩ := lock_rp (od := od) ob hu
        have E2 : EnvOk X.K H1 O1 (r0.set i .un) σ := E1.set (fun _ _ => trivial) rfl
        have E3 : EnvOk X.K (upd H1 p (.frz od u0)) (fun b => O1 b ∧ b ≠ p) (r0.set i .un) σ := E2.freeze fx fun j t e h1 h2 h3 => by
          have hl : i < r0.length := (List.getElem?_eq_some_iff.mp qi).1
          by_cases hj : i = j
          · subst hj
            rw [List.getElem?_set_self hl] at h1
            cases h1; cases h2
          · rw [List.getElem?_set_ne hj] at h1
            exact hj (E1.sep i j _ _ c e p qi h1 rfl h2 hv h3)
        have E4 : EnvOk X.K (upd H1 p (.frz od u0)) (fun b => O1 b ∧ b ≠ p) (r0.set i (.fz c.data)) σ := by
          have := E3.set (i := i) (s := .fz c.data) (fun v hv' => by rw [hv] at hv'; cases hv'; exact ⟨_, rfl, rp⟩) rfl
          rw [List.set_set] at this
          exact this
        exact ⟨_, _, I2, rv, k _ _ _ (st.trans (Stp.freeze op)) E4 (kp.trans (Keep.set fun c' z => by rw [qi] at z; cases z)) rp⟩
      · rename_i d qi
        cases hf
        refine h.run pins s σ H Q I ⟨O, r, _, _, E, q, fun H' O' v st E' kp hv => k H' O' v st E' kp ?_⟩
        have hv : σ[i]? = some (some v) := hv
        obtain ⟨v', e1, x, e2, rp⟩ := E'.ok i _ qi
        rw [hv] at e1; cases e1; cases e2
        exact rp
      · cases hf
end
end KV

end

section
/-! KV, part 2: operators, calls, displays over data. -/
namespace KV
open PySem PySem.Spec PyProof.Rows L2

def deref (r : Nms) : R → Option PyData
  | .val d => some d
  | .tmp c => some c.data
  | .slot i => match r[i]? with
    | some (.fz d) => some d
    | some (.own c) => some c.data
    | some (.lck c) => some c.data
    | _ => none
theorem ROk.deref {K : PySem.W.Frag} {H : Hp} {O : Addr → Prop} {r : Nms} {σ : L2.St} {v : V} {x : R} {d : PyData} (E : EnvOk K H O r σ) (h : ROk K H O r σ v x) (hd : deref r x = some d) : Bp K H v d := by
  cases x with
  | val d' => cases hd; exact .rp h
  | tmp c => cases hd; obtain ⟨p, rfl, ob, _⟩ := h; exact .ob ob
  | slot i =>
    have h : σ[i]? = some (some v) := h
    have hd : (match r[i]? with
      | some (.fz d) => some d
      | some (.own c) => some c.data
      | some (.lck c) => some c.data
      | _ => none) = some d := hd
    split at hd
    · rename_i d' q
      cases hd
      obtain ⟨v', e1, x, e2, rp⟩ := E.ok i _ q
      rw [h] at e1; cases e1; cases e2
      exact .rp rp
    · rename_i c q
      cases hd
      obtain ⟨v', e1, p, e2, ob, _⟩ := E.ok i _ q
      rw [h] at e1; cases e1; cases e2
      exact .ob ob
    · rename_i c q
      cases hd
      obtain ⟨v', e1, p, e2, ob, _⟩ := E.ok i _ q
      rw [h] at e1; cases e1; cases e2
      exact .ob ob
    · cases hd
def R.late : R → Bool
  | .tmp _ => false
  | _ => true
theorem ROk.go {K : PySem.W.Frag} {H H' : Hp} {O O' : Addr → Prop} {r r' : Nms} {σ : L2.St} {v : V} {x : R} (h : ROk K H O r σ v x) (f : Fx H H') (hl : x.late = true) : ROk K H' O' r' σ v x := by
  cases x with
  | val d => exact Rp.fx f h
  | slot i => exact h
  | tmp c => cases hl
theorem stl_late (y : R × Nms) : (stl y).1.late = true := by
  obtain ⟨x, r⟩ := y
  cases x <;> rfl
theorem dStl_late {f : Den} {r r' : Nms} {x : R} (h : dStl f r = some (x, r')) : x.late = true := by
  unfold dStl at h
  cases q : f r with
  | none => rw [q] at h; cases h
  | some y =>
    rw [q] at h
    have h : stl y = (x, r') := Option.some.inj h
    have := stl_late y
    rw [h] at this
    exact this

/-- what an operation gives: data, or a new thing -/
def NewR (K : PySem.W.Frag) (H H' : Hp) (v : V) : R → Prop
  | .val d => Same H H' ∧ Rp K H' v d
  | .tmp c => Same H H' ∧ ∃ p, v = .ref p ∧ H p = none ∧ ObOk K H' p c
  | .slot _ => False
theorem NewR.done {K : PySem.W.Frag} {H H' : Hp} {O : Addr → Prop} {r : Nms} {σ : L2.St} {v : V} {x : R} (n : NewR K H H' v x) (E : EnvOk K H O r σ) : ∃ O', Stp H O H' O' ∧ EnvOk K H' O' r σ ∧ ROk K H' O' r σ v x := by
  cases x with
  | val d => exact ⟨O, Stp.of_same n.1, E.same n.1, n.2⟩
  | slot i => exact n.elim
  | tmp c =>
    obtain ⟨sm, p, rfl, hp, ob⟩ := n
    refine ⟨_, Stp.add sm hp, E.add sm ob.mut, p, rfl, ob, .inr rfl, fun i s e h1 h2 h3 => ?_⟩
    obtain ⟨v, e1, z⟩ := E.ok i s h1
    rw [h3] at e1; cases e1
    cases s with
    | un => cases h2
    | fz d => cases h2
    | own c' => obtain ⟨q, e2, ob', _⟩ := z; cases e2; have := ob'.mut; rw [hp] at this; exact this
    | lck c' => obtain ⟨q, e2, ob', _⟩ := z; cases e2; have := ob'.mut; rw [hp] at this; exact this

abbrev Op2 := PyData → PyData → Option R
abbrev OpN := List PyData → Option R
def rD2 (K : PySem.W.Frag) (op : Op2) : R2 := fun x y H Q => ∃ dx dy z, Bp K H x dx ∧ Bp K H y dy ∧ op dx dy = some z ∧ ∀ H' w, NewR K H H' w z → Q w H'
inductive BpAll (K : PySem.W.Frag) (H : Hp) : List V → List PyData → Prop
  | nil : BpAll K H [] []
  | cons {v : V} {vs : List V} {d : PyData} {ds : List PyData} : Bp K H v d → BpAll K H vs ds → BpAll K H (v :: vs) (d :: ds)
def rDN (K : PySem.W.Frag) (op : OpN) : List V → Hp → VK → Prop := fun vs H Q => ∃ ds z, BpAll K H vs ds ∧ op ds = some z ∧ ∀ H' w, NewR K H H' w z → Q w H'

section
variable {X : Cx} {e a b c : Expr} {f g h : Den} {pos : Pos} {es : List Expr}

def dBin (f g : Den) (op : Op2) : Den := fun r => (dStl f r).bind fun (x, r1) => (g r1).bind fun (y, r2) => (deref r2 x).bind fun dx => (deref r2 y).bind fun dy => (op dx dy).bind fun z => some (z, r2)
theorem bin_inv {f g : Den} {op : Op2} {r r' : Nms} {z : R} (h : dBin f g op r = some (z, r')) : ∃ x r1 y dx dy, dStl f r = some (x, r1) ∧ g r1 = some (y, r') ∧ deref r' x = some dx ∧ deref r' y = some dy ∧ op dx dy = some z := by
  unfold dBin at h
  obtain ⟨⟨x, r1⟩, q1, h⟩ := Option.bind_eq_some_iff.mp h
  obtain ⟨⟨y, r2⟩, q2, h⟩ := Option.bind_eq_some_iff.mp h
  obtain ⟨dx, q3, h⟩ := Option.bind_eq_some_iff.mp h
  obtain ⟨dy, q4, h⟩ := Option.bind_eq_some_iff.mp h
  obtain ⟨z', q5, h⟩ := Option.bind_eq_some_iff.mp h
  cases h
  exact ⟨x, r1, y, dx, dy, q1, q2, q3, q4, q5⟩
/-- the reading of two operands -/
theorem bin_read {op : Op2} {σ : L2.St} {H : Hp} {Q : VK} (hw : tX X.K (dBin f g op) σ H Q) : tX X.K (dStl f) σ H fun x H1 => tX X.K g σ H1 fun y H2 => rD2 X.K op x y H2 Q := by
  obtain ⟨O, r, z, r', E, hf, k⟩ := hw
  obtain ⟨x, r1, y, dx, dy, q1, q2, q3, q4, q5⟩ := bin_inv hf
  refine ⟨O, r, x, r1, E, q1, fun H1 O1 v st1 E1 kp1 ro1 => ⟨O1, r1, y, r', E1, q2, fun H2 O2 u st2 E2 kp2 ro2 => ?_⟩⟩
  refine ⟨dx, dy, z, (ro1.go (O' := O2) (r' := r') (E1.fxOf st2) (dStl_late q1)).deref E2 q3, ro2.deref E2 q4, q5, fun H3 w n => ?_⟩
  obtain ⟨O3, st3, E3, ro3⟩ := n.done E2
  exact k H3 O3 w (st1.trans (st2.trans st3)) E3 (kp1.trans kp2) ro3
theorem ex_bin {o : Operator} {op : Op2} (ho : OpR X (binaryOp o) (rD2 X.K op)) (ha : Ex X a f) (hb : Ex X b g) : Ex X (.BinOp a o b pos) (dBin f g op) :=
  ⟨fun pins s σ H Q I hw => (pe_op ho (ex_stl ha) hb).run pins s σ H Q I (bin_read hw)⟩
theorem ex_cmp {o : CmpOp} {op : Op2} (ho : OpR X (compareOp o) (rD2 X.K op)) (ha : Ex X a f) (hb : Ex X b g) (hm : behindInMarks o b = false) : Ex X (.Compare a [o] [b] pos) (dBin f g op) :=
  ⟨fun pins s σ H Q I hw => (pe_cmpR ho (ex_stl ha) hb hm).run pins s σ H Q I (bin_read hw)⟩
def dUn (f : Den) (op : PyData → Option R) : Den := fun r => (f r).bind fun (x, r1) => (deref r1 x).bind fun d => (op d).bind fun z => some (z, r1)
def rD1 (K : PySem.W.Frag) (op : PyData → Option R) : V → Hp → VK → Prop := fun x H Q => ∃ d z, Bp K H x d ∧ op d = some z ∧ ∀ H' w, NewR K H H' w z → Q w H'
theorem un_inv {f : Den} {op : PyData → Option R} {r r' : Nms} {z : R} (h : dUn f op r = some (z, r')) : ∃ x d, f r = some (x, r') ∧ deref r' x = some d ∧ op d = some z := by
  unfold dUn at h
  obtain ⟨⟨x, r1⟩, q1, h⟩ := Option.bind_eq_some_iff.mp h
  obtain ⟨d, q3, h⟩ := Option.bind_eq_some_iff.mp h
  obtain ⟨z', q5, h⟩ := Option.bind_eq_some_iff.mp h
  cases h
  exact ⟨x, d, q1, q3, q5⟩
theorem un_read {op : PyData → Option R} {σ : L2.St} {H : Hp} {Q : VK} (hw : tX X.K (dUn f op) σ H Q) : tX X.K f σ H fun x H1 => rD1 X.K op x H1 Q := by
  obtain ⟨O, r, z, r', E, hf, k⟩ := hw
  obtain ⟨x, d, q1, q3, q5⟩ := un_inv hf
  refine ⟨O, r, x, r', E, q1, fun H1 O1 v st1 E1 kp1 ro1 => ⟨d, z, ro1.deref E1 q3, q5, fun H3 w n => ?_⟩⟩
  obtain ⟨O3, st3, E3, ro3⟩ := n.done E1
  exact k H3 O3 w (st1.trans st3) E3 kp1 ro3
theorem ex_un {o : UnaryOp} {op : PyData → Option R} (ho : UnR X (unaryOp o) (rD1 X.K op)) (ha : Ex X a f) : Ex X (.UnaryOp o a pos) (dUn f op) :=
  ⟨fun pins s σ H Q I hw => (pe_un ho ha).run pins s σ H Q I (un_read hw)⟩

/-! ### argument lists -/
inductive ROks (K : PySem.W.Frag) (H : Hp) (σ : L2.St) : List V → List R → Prop
  | nil : ROks K H σ [] []
  | cons {v : V} {vs : List V} {x : R} {xs : List R} : x.late = true → ROk K H (fun _ => False) [] σ v x → ROks K H σ vs xs → ROks K H σ (v :: vs) (x :: xs)
theorem ROk.any {K : PySem.W.Frag} {H : Hp} {O O' : Addr → Prop} {r r' : Nms} {σ : L2.St} {v : V} {x : R} (h : ROk K H O r σ v x) (hl : x.late = true) : ROk K H O' r' σ v x := by
  cases x with
  | val d => exact h
  | slot i => exact h
  | tmp c => cases hl
theorem ROks.fx {K : PySem.W.Frag} {H H' : Hp} {σ : L2.St} (f : Fx H H') : ∀ {vs : List V} {xs : List R}, ROks K H σ vs xs → ROks K H' σ vs xs
  | _, _, .nil => .nil
  | _, _, .cons hl h t => .cons hl (h.go f hl) (ROks.fx f t)
abbrev Dens := Nms → Option (List R × Nms)
def tXs (K : PySem.W.Frag) (f : Dens) : TA := fun σ H Q => ∃ O r x r', EnvOk K H O r σ ∧ f r = some (x, r') ∧
  ∀ H' O' v, Stp H O H' O' → EnvOk K H' O' r' σ → Keep r r' → ROks K H' σ v x → Q v H'
abbrev Exs (X : Cx) (es : List Expr) (f : Dens) : Prop := PA X es (tXs X.K f)
def dNil : Dens := fun r => some ([], r)
def dCons (f : Den) (g : Dens) : Dens := fun r => (dStl f r).bind fun (x, r1) => (g r1).bind fun (xs, r2) => some (x :: xs, r2)
theorem exs_nil : Exs X [] dNil := by
  refine ⟨fun pos pins s σ H Q I hw => ?_⟩
  obtain ⟨O, r, x, r', E, hf, k⟩ := hw
  cases hf
  exact pa_nil.run pos pins s σ H Q I (k H O [] (Stp.refl _ _) E (Keep.refl _) .nil)
theorem exs_cons {gs : Dens} (ha : Ex X e f) (hr : Exs X es gs) (hs : starEach (e :: es) X.env = (false, eval e X.env) :: starEach es X.env := by rfl) : Exs X (e :: es) (dCons f gs) := by
  refine ⟨fun pos pins s σ H Q I hw => (pa_cons (ex_stl ha) hr hs).run pos pins s σ H Q I ?_⟩
  obtain ⟨O, r, x, r', E, hf, k⟩ := hw
  unfold dCons at hf
  obtain ⟨⟨y, r1⟩, q1, hf⟩ := Option.bind_eq_some_iff.mp hf
  obtain ⟨⟨ys, r2⟩, q2, hf⟩ := Option.bind_eq_some_iff.mp hf
  cases hf
  refine ⟨O, r, y, r1, E, q1, fun H1 O1 v st1 E1 kp1 ro1 => ⟨O1, r1, ys, r', E1, q2, fun H2 O2 vs st2 E2 kp2 ro2 => ?_⟩⟩
  exact k H2 O2 _ (st1.trans st2) E2 (kp1.trans kp2) (.cons (dStl_late q1) ((ro1.go (O' := O2) (r' := r') (E1.fxOf st2) (dStl_late q1)).any (dStl_late q1)) ro2)
def derefs (r : Nms) : List R → Option (List PyData)
  | [] => some []
  | x :: xs => (deref r x).bind fun d => (derefs r xs).bind fun ds => some (d :: ds)
theorem ROks.derefs {K : PySem.W.Frag} {H : Hp} {O : Addr → Prop} {r : Nms} {σ : L2.St} (E : EnvOk K H O r σ) : ∀ {vs : List V} {xs : List R} {ds : List PyData}, ROks K H σ vs xs → derefs r xs = some ds → BpAll K H vs ds
  | _, _, _, .nil, h => by cases h; exact .nil
  | _, _, _, .cons hl h1 t, h => by
    unfold KV.derefs at h
    obtain ⟨d, q1, h⟩ := Option.bind_eq_some_iff.mp h
    obtain ⟨ds', q2, h⟩ := Option.bind_eq_some_iff.mp h
    cases h
    exact .cons ((h1.any (O' := O) (r' := r) hl).deref E q1) (ROks.derefs E t q2)
def dCB (fs : Dens) (op : OpN) : Den := fun r => (fs r).bind fun (xs, r1) => (derefs r1 xs).bind fun ds => (op ds).bind fun z => some (z, r1)
theorem cb_read {fs : Dens} {op : OpN} {σ : L2.St} {H : Hp} {Q : VK} (hw : tX X.K (dCB fs op) σ H Q) : tXs X.K fs σ H fun vs H1 => rDN X.K op vs H1 Q := by
  obtain ⟨O, r, z, r', E, hf, k⟩ := hw
  unfold dCB at hf
  obtain ⟨⟨xs, r1⟩, q1, hf⟩ := Option.bind_eq_some_iff.mp hf
  obtain ⟨ds, q2, hf⟩ := Option.bind_eq_some_iff.mp hf
  obtain ⟨z', q3, hf⟩ := Option.bind_eq_some_iff.mp hf
  cases hf
  refine ⟨O, r, xs, r', E, q1, fun H1 O1 v st1 E1 kp1 ro1 => ⟨ds, z, ro1.derefs E1 q2, q3, fun H3 w n => ?_⟩⟩
  obtain ⟨O3, st3, E3, ro3⟩ := n.done E1
  exact k H3 O3 w (st1.trans st3) E3 kp1 ro3
/-- f(e, ..), f a built-in function -/
theorem ex_callB {fs : Dens} {op : OpN} {x : Str} {p : Pos} {id : String} (hc : CallR X (.builtin id) (rDN X.K op)) (hg : Gl X x) (hm : X.mg x = none) (hv : bootBuiltins x = some (.builtin id)) (ha : Exs X (e :: es) fs) (hn : x ≠ "__name__" := by decide) (hdb : (x == ("__debug__" : Str)) = false := by decide)
    (he : starEach (e :: es) X.env = (false, eval e X.env) :: starEach es X.env := by rfl) (hpl : (backTo pos (starEach es X.env)).any (·.1) = false := by rfl) : Ex X (.Call (.Name x p) (e :: es) [] pos) (dCB fs op) :=
  ⟨fun pins s σ H Q I hw => (pe_callB hc hg hm hv ha hn hdb he hpl).run pins s σ H Q I (cb_read hw)⟩
/-- T(e, ..), T a built-in class -/
theorem ex_callTy {fs : Dens} {op : OpN} {x : Str} {p : Pos} {T : String} (hc : CallR X (.type T) (rDN X.K op)) (hg : Gl X x) (hm : X.mg x = none) (hv : bootBuiltins x = some (.type T)) (ha : Exs X (e :: es) fs) (hn : x ≠ "__name__" := by decide) (hdb : (x == ("__debug__" : Str)) = false := by decide)
    (he : starEach (e :: es) X.env = (false, eval e X.env) :: starEach es X.env := by rfl) (hpl : (backTo pos (starEach es X.env)).any (·.1) = false := by rfl) : Ex X (.Call (.Name x p) (e :: es) [] pos) (dCB fs op) :=
  ⟨fun pins s σ H Q I hw => (pe_callTy hc hg hm hv ha hn hdb he hpl).run pins s σ H Q I (cb_read hw)⟩

/-! ### arguments that stand still -/
abbrev Denv := Nms → Option (List PyData × Nms)
def tXv (K : PySem.W.Frag) (f : Denv) : TA := fun σ H Q => ∃ O r x r', EnvOk K H O r σ ∧ f r = some (x, r') ∧
  ∀ H' O' v, Stp H O H' O' → EnvOk K H' O' r' σ → Keep r r' → RpAll K H' v x → Q v H'
abbrev Exv (X : Cx) (es : List Expr) (f : Denv) : Prop := PA X es (tXv X.K f)
def vNil : Denv := fun r => some ([], r)
def vOf : R × Nms → Option (PyData × Nms)
  | (.val d, r) => some (d, r)
  | _ => none
def vCons (f : Den) (g : Denv) : Denv := fun r => ((dFrz f r).bind vOf).bind fun (x, r1) => (g r1).bind fun (xs, r2) => some (x :: xs, r2)
theorem vOf_some {y : R × Nms} {d : PyData} {r : Nms} (h : vOf y = some (d, r)) : y = (.val d, r) := by
  obtain ⟨x, r'⟩ := y
  cases x with
  | val d' => cases h; rfl
  | slot i => cases h
  | tmp c => cases h
theorem exv_nil : Exv X [] vNil := by
  refine ⟨fun pos pins s σ H Q I hw => ?_⟩
  obtain ⟨O, r, x, r', E, hf, k⟩ := hw
  cases hf
  exact pa_nil.run pos pins s σ H Q I (k H O [] (Stp.refl _ _) E (Keep.refl _) .nil)
theorem exv_cons {gs : Denv} (ha : Ex X e f) (hr : Exv X es gs) (hs : starEach (e :: es) X.env = (false, eval e X.env) :: starEach es X.env := by rfl) : Exv X (e :: es) (vCons f gs) := by
  refine ⟨fun pos pins s σ H Q I hw => (pa_cons (ex_frz ha) hr hs).run pos pins s σ H Q I ?_⟩
  obtain ⟨O, r, x, r', E, hf, k⟩ := hw
  unfold vCons at hf
  obtain ⟨⟨y, r1⟩, q1, hf⟩ := Option.bind_eq_some_iff.mp hf
  obtain ⟨⟨ys, r2⟩, q2, hf⟩ := Option.bind_eq_some_iff.mp hf
  cases hf
  obtain ⟨w, q3, q4⟩ := Option.bind_eq_some_iff.mp q1
  have := vOf_some q4
  subst this
  exact ⟨O, r, .val y, r1, E, q3, fun H1 O1 v st1 E1 kp1 ro1 => ⟨O1, r1, ys, r', E1, q2, fun H2 O2 vs st2 E2 kp2 ro2 => k H2 O2 _ (st1.trans st2) E2 (kp1.trans kp2) (.cons (Rp.fx (E1.fxOf st2) ro1) ro2)⟩⟩

/-! ### written tuples and lists -/
theorem same_upd {H : Hp} {p : Addr} {o : HO} (h : H p = none) : Same H (upd H p o) := fun b u e => by
  rw [upd_ne (ne_of_none e h)]; exact e
def dTup (fs : Denv) : Den := fun r => (fs r).bind fun (xs, r1) => if xs.length ≤ sizeLine then some (.val (.tuple xs), r1) else none
theorem ex_tup {fs : Denv} {x1} (h : Exv X es fs) : Ex X (.Tuple es x1 pos) (dTup fs) := by
  refine ⟨fun pins s σ H Q I hw => (pe_tup h).run pins s σ H Q I ?_⟩
  obtain ⟨O, r, x, r', E, hf, k⟩ := hw
  unfold dTup at hf
  obtain ⟨⟨xs, r1⟩, q1, hf⟩ := Option.bind_eq_some_iff.mp hf
  dsimp only at hf
  by_cases hl : xs.length ≤ sizeLine
  · rw [if_pos hl] at hf
    cases hf
    refine ⟨O, r, xs, r', E, q1, fun H1 O1 vs st1 E1 kp1 ro1 => ⟨by rw [ro1.length]; exact hl, fun p hp => ?_⟩⟩
    exact k _ O1 _ (st1.trans (Stp.of_same (same_upd hp))) (E1.same (same_upd hp)) kp1 (.tup (SqT.of upd_same) (ro1.fx (Fx.of_same (same_upd hp))))
  · rw [if_neg hl] at hf; cases hf
def dLst (fs : Denv) : Den := fun r => (fs r).bind fun (xs, r1) => if xs.length ≤ sizeLine then some (.tmp (.lst xs), r1) else none
theorem new_lst {K : PySem.W.Frag} {H : Hp} {p : Addr} {vs : List V} {ds : List PyData} (hp : H p = none) (r : RpAll K H vs ds) : NewR K H (upd H p (.lst vs)) (.ref p) (.tmp (.lst ds)) :=
  ⟨same_upd hp, p, rfl, hp, vs, upd_same, r.fx (Fx.of_same (same_upd hp))⟩
theorem new_tup {K : PySem.W.Frag} {H : Hp} {p : Addr} {vs : List V} {ds : List PyData} (hp : H p = none) (r : RpAll K H vs ds) : NewR K H (upd H p (.tup vs)) (.ref p) (.val (.tuple ds)) :=
  ⟨same_upd hp, .tup (SqT.of upd_same) (r.fx (Fx.of_same (same_upd hp)))⟩
theorem ex_lst {fs : Denv} (h : Exv X es fs) : Ex X (.List es pos) (dLst fs) := by
  refine ⟨fun pins s σ H Q I hw => (pe_lst h).run pins s σ H Q I ?_⟩
  obtain ⟨O, r, x, r', E, hf, k⟩ := hw
  unfold dLst at hf
  obtain ⟨⟨xs, r1⟩, q1, hf⟩ := Option.bind_eq_some_iff.mp hf
  dsimp only at hf
  by_cases hl : xs.length ≤ sizeLine
  · rw [if_pos hl] at hf
    cases hf
    refine ⟨O, r, xs, r', E, q1, fun H1 O1 vs st1 E1 kp1 ro1 => ⟨by rw [ro1.length]; exact hl, fun p hp => ?_⟩⟩
    obtain ⟨O3, st3, E3, ro3⟩ := (new_lst hp ro1).done E1
    exact k _ O3 _ (st1.trans st3) E3 kp1 ro3
  · rw [if_neg hl] at hf; cases hf

/-! ### tests, and, or, not, if -/
abbrev DenT := Nms → Option (Bool × Nms)
def tT (K : PySem.W.Frag) (f : DenT) : TT := fun σ H Q => ∃ O r x r', EnvOk K H O r σ ∧ f r = some (x, r') ∧
  ∀ H' O', Stp H O H' O' → EnvOk K H' O' r' σ → Keep r r' → Q x H'
abbrev Tx (X : Cx) (e : Expr) (f : DenT) : Prop := PT X e (tT X.K f)
abbrev Wx (X : Cx) (e : Expr) (f : DenT) : Prop := PW X e (tT X.K f)
def bOf : R × Nms → Option (Bool × Nms)
  | (.val (.bool b), r) => some (b, r)
  | _ => none
theorem bOf_some {y : R × Nms} {d : Bool} {r : Nms} (h : bOf y = some (d, r)) : y = (.val (.bool d), r) := by
  obtain ⟨x, r'⟩ := y
  cases x with
  | val d' => cases d' <;> cases h; rfl
  | slot i => cases h
  | tmp c => cases h
def dB (f : Den) : DenT := fun r => (f r).bind bOf
theorem b_read {σ : L2.St} {H : Hp} {Q : Bool → Hp → Prop} (hw : tT X.K (dB f) σ H Q) : tX X.K f σ H fun x H1 => ∃ c, x = .bl c ∧ Q c H1 := by
  obtain ⟨O, r, x, r', E, hf, k⟩ := hw
  unfold dB at hf
  obtain ⟨y, q1, hf⟩ := Option.bind_eq_some_iff.mp hf
  have := bOf_some hf
  subst this
  refine ⟨O, r, _, r', E, q1, fun H1 O1 v st1 E1 kp1 ro1 => ⟨x, ?_, k H1 O1 st1 E1 kp1⟩⟩
  have ro1 : Rp X.K H1 v (.bool x) := ro1
  cases ro1
  rfl
theorem tx_val (h : Ex X e f) (he : ∀ whole, isTrue e X.env whole = (do let v ← whole; standAt e.pos; holding [v] (truthy v)) := by intro _; rfl) : Tx X e (dB f) :=
  ⟨fun pins s σ H Q I hw => (pt_val h he).run pins s σ H Q I (b_read hw)⟩
theorem tx_cmp {o : CmpOp} {op : Op2} (ho : OpR X (compareOp o) (rD2 X.K op)) (ha : Ex X a f) (hb : Ex X b g) (hm : behindInMarks o b = false) : Tx X (.Compare a [o] [b] pos) (dB (dBin f g op)) := by
  refine ⟨fun pins s σ H Q I hw => (pt_cmpR ho (ex_stl ha) hb hm).run pins s σ H Q I ?_⟩
  exact bin_read (b_read hw)
theorem tx_of_wx {t : DenT} (h : Wx X e t) : Tx X e t := h.pt
variable {t u : DenT} {rest : List Expr}
def dAnd (t u : DenT) : DenT := fun r => (t r).bind fun (c, r1) => if c = true then u r1 else some (false, r1)
def dOr (t u : DenT) : DenT := fun r => (t r).bind fun (c, r1) => if c = true then some (true, r1) else u r1
def dNot (t : DenT) : DenT := fun r => (t r).bind fun (c, r1) => some (!c, r1)
theorem wx_and1 (ha : Tx X a t) : Wx X (.BoolOp .And [a] pos) t := pw_and1 ha
theorem wx_or1 (ha : Tx X a t) : Wx X (.BoolOp .Or [a] pos) t := pw_or1 ha
theorem and_read {σ : L2.St} {H : Hp} {Q : Bool → Hp → Prop} (hw : tT X.K (dAnd t u) σ H Q) : tT X.K t σ H fun c H1 => if c = true then tT X.K u σ H1 Q else Q false H1 := by
  obtain ⟨O, r, x, r', E, hf, k⟩ := hw
  unfold dAnd at hf
  obtain ⟨⟨c, r1⟩, q1, hf⟩ := Option.bind_eq_some_iff.mp hf
  refine ⟨O, r, c, r1, E, q1, fun H1 O1 st1 E1 kp1 => ?_⟩
  cases c with
  | true => exact ⟨O1, r1, x, r', E1, hf, fun H2 O2 st2 E2 kp2 => k H2 O2 (st1.trans st2) E2 (kp1.trans kp2)⟩
  | false => cases hf; exact k H1 O1 st1 E1 kp1
theorem or_read {σ : L2.St} {H : Hp} {Q : Bool → Hp → Prop} (hw : tT X.K (dOr t u) σ H Q) : tT X.K t σ H fun c H1 => if c = true then Q true H1 else tT X.K u σ H1 Q := by
  obtain ⟨O, r, x, r', E, hf, k⟩ := hw
  unfold dOr at hf
  obtain ⟨⟨c, r1⟩, q1, hf⟩ := Option.bind_eq_some_iff.mp hf
  refine ⟨O, r, c, r1, E, q1, fun H1 O1 st1 E1 kp1 => ?_⟩
  cases c with
  | false => exact ⟨O1, r1, x, r', E1, hf, fun H2 O2 st2 E2 kp2 => k H2 O2 (st1.trans st2) E2 (kp1.trans kp2)⟩
  | true => cases hf; exact k H1 O1 st1 E1 kp1
theorem wx_and (ha : Tx X a t) (hb : Wx X (.BoolOp .And (b :: rest) pos) u) : Wx X (.BoolOp .And (a :: b :: rest) pos) (dAnd t u) :=
  ⟨fun wh pins s σ H Q I hw => (pw_and ha hb).run wh pins s σ H Q I (and_read hw)⟩
theorem wx_or (ha : Tx X a t) (hb : Wx X (.BoolOp .Or (b :: rest) pos) u) : Wx X (.BoolOp .Or (a :: b :: rest) pos) (dOr t u) :=
  ⟨fun wh pins s σ H Q I hw => (pw_or ha hb).run wh pins s σ H Q I (or_read hw)⟩
theorem not_read {σ : L2.St} {H : Hp} {Q : Bool → Hp → Prop} (hw : tT X.K (dNot t) σ H Q) : tT X.K t σ H fun c H1 => Q (!c) H1 := by
  obtain ⟨O, r, x, r', E, hf, k⟩ := hw
  unfold dNot at hf
  obtain ⟨⟨c, r1⟩, q1, hf⟩ := Option.bind_eq_some_iff.mp hf
  cases hf
  exact ⟨O, r, c, r', E, q1, fun H1 O1 st1 E1 kp1 => k H1 O1 st1 E1 kp1⟩
theorem tx_not (ha : Tx X a t) : Tx X (.UnaryOp .Not a pos) (dNot t) :=
  ⟨fun pins s σ H Q I hw => (pt_not ha).run pins s σ H Q I (not_read hw)⟩
/-- .. as values -/
def dV (t : DenT) : Den := fun r => (t r).bind fun (c, r1) => some (.val (.bool c), r1)
theorem v_mono {σ : L2.St} {H : Hp} {Q : VK} (hw : tX X.K (dV t) σ H Q) : tT X.K t σ H fun c H1 => Q (.bl c) H1 := by
  obtain ⟨O, r, x, r', E, hf, k⟩ := hw
  unfold dV at hf
  obtain ⟨⟨c, r1⟩, q1, hf⟩ := Option.bind_eq_some_iff.mp hf
  cases hf
  exact ⟨O, r, c, r', E, q1, fun H1 O1 st1 E1 kp1 => k H1 O1 _ st1 E1 kp1 (.bl c)⟩
theorem dV_dB_read {σ : L2.St} {H : Hp} {Q : VK} (hw : tX X.K (dV (dB f)) σ H Q) : tX X.K f σ H fun x H1 => ∃ c, x = .bl c ∧ Q (.bl c) H1 := b_read (v_mono hw)
theorem ex_and1 {op} (ha : Ex X a f) : Ex X (.BoolOp op [a] pos) (dV (dB f)) := by
  refine ⟨fun pins s σ H Q I hw => (pe_one ha).run pins s σ H Q I ?_⟩
  obtain ⟨O, r, x, r', E, hf, k⟩ := hw
  unfold dV dB at hf
  obtain ⟨⟨c, r1⟩, q1, hf⟩ := Option.bind_eq_some_iff.mp hf
  obtain ⟨y, q2, q3⟩ := Option.bind_eq_some_iff.mp q1
  have := bOf_some q3
  subst this
  cases hf
  exact ⟨O, r, _, r', E, q2, k⟩
theorem ex_and {pu : DenT} (ha : Ex X a f) (hb : Ex X (.BoolOp .And (b :: rest) pos) (dV pu)) : Ex X (.BoolOp .And (a :: b :: rest) pos) (dV (dAnd (dB f) pu)) := by
  refine ⟨fun pins s σ H Q I hw => (pe_and ha hb).run pins s σ H Q I ?_⟩
  have h2 := b_read (and_read (v_mono hw))
  obtain ⟨O, r, x, r', E, hf, k⟩ := h2
  refine ⟨O, r, x, r', E, hf, fun H1 O1 v st1 E1 kp1 ro1 => ?_⟩
  obtain ⟨c, e, q⟩ := k H1 O1 v st1 E1 kp1 ro1
  refine ⟨c, e, ?_⟩
  cases c with
  | false => exact q
  | true =>
    obtain ⟨O2, r2, y, r3, E2, hf2, k2⟩ := q
    exact ⟨O2, r2, .val (.bool y), r3, E2, by unfold dV; rw [hf2]; rfl, fun H3 O3 v3 st3 E3 kp3 ro3 => by
      have ro3 : Rp X.K H3 v3 (.bool y) := ro3
      cases ro3
      exact k2 H3 O3 st3 E3 kp3⟩
theorem ex_or {pu : DenT} (ha : Ex X a f) (hb : Ex X (.BoolOp .Or (b :: rest) pos) (dV pu)) : Ex X (.BoolOp .Or (a :: b :: rest) pos) (dV (dOr (dB f) pu)) := by
  refine ⟨fun pins s σ H Q I hw => (pe_or ha hb).run pins s σ H Q I ?_⟩
  have h2 := b_read (or_read (v_mono hw))
  obtain ⟨O, r, x, r', E, hf, k⟩ := h2
  refine ⟨O, r, x, r', E, hf, fun H1 O1 v st1 E1 kp1 ro1 => ?_⟩
  obtain ⟨c, e, q⟩ := k H1 O1 v st1 E1 kp1 ro1
  refine ⟨c, e, ?_⟩
  cases c with
  | true => exact q
  | false =>
    obtain ⟨O2, r2, y, r3, E2, hf2, k2⟩ := q
    exact ⟨O2, r2, .val (.bool y), r3, E2, by unfold dV; rw [hf2]; rfl, fun H3 O3 v3 st3 E3 kp3 ro3 => by
      have ro3 : Rp X.K H3 v3 (.bool y) := ro3
      cases ro3
      exact k2 H3 O3 st3 E3 kp3⟩
theorem ex_not (ha : Ex X a f) : Ex X (.UnaryOp .Not a pos) (dV (dNot (dB f))) := by
  refine ⟨fun pins s σ H Q I hw => (pe_not ha).run pins s σ H Q I ?_⟩
  exact b_read (not_read (v_mono hw))
def dIfE (t : DenT) (f g : Den) : Den := fun r => (t r).bind fun (c, r1) => if c = true then f r1 else g r1
theorem ex_if (hc : Tx X c t) (ha : Ex X a f) (hb : Ex X b g) : Ex X (.IfExp c a b pos) (dIfE t f g) := by
  refine ⟨fun pins s σ H Q I hw => (pe_ifExp hc ha hb).run pins s σ H Q I ?_⟩
  obtain ⟨O, r, x, r', E, hf, k⟩ := hw
  unfold dIfE at hf
  obtain ⟨⟨c, r1⟩, q1, hf⟩ := Option.bind_eq_some_iff.mp hf
  refine ⟨O, r, c, r1, E, q1, fun H1 O1 st1 E1 kp1 => ?_⟩
  cases c with
  | true => exact ⟨O1, r1, x, r', E1, hf, fun H2 O2 v st2 E2 kp2 ro => k H2 O2 v (st1.trans st2) E2 (kp1.trans kp2) ro⟩
  | false => exact ⟨O1, r1, x, r', E1, hf, fun H2 O2 v st2 E2 kp2 ro => k H2 O2 v (st1.trans st2) E2 (kp1.trans kp2) ro⟩
end
end KV

end

section
/-! KV, part 3: statements, loops, comprehensions, defs. -/
namespace KV
open PySem PySem.Spec PyProof.Rows L2

inductive Out where
  | nx (r : Nms)
  | rt (x : R) (r : Nms)
  | bk (r : Nms)
  | ct (r : Nms)
/-- what a statement keeps of the names: locked ones, and (io) the first parameter -/
structure KeepS (io : Bool) (r : Nms) (σ : L2.St) (r' : Nms) (σ' : L2.St) : Prop where
  lk : Keep r r'
  lks : ∀ (i : Nat) (c : Ob), r[i]? = some (.lck c) → σ'[i]? = σ[i]?
  first : io = true → σ'[0]? = σ[0]?
theorem KeepS.refl (io : Bool) (r : Nms) (σ : L2.St) : KeepS io r σ r σ := ⟨Keep.refl r, fun _ _ _ => rfl, fun _ => rfl⟩
theorem KeepS.of {io : Bool} {r r' : Nms} {σ : L2.St} (k : Keep r r') : KeepS io r σ r' σ := ⟨k, fun _ _ _ => rfl, fun _ => rfl⟩
theorem KeepS.trans {io : Bool} {r r1 r2 : Nms} {σ σ1 σ2 : L2.St} (a : KeepS io r σ r1 σ1) (b : KeepS io r1 σ1 r2 σ2) : KeepS io r σ r2 σ2 :=
  ⟨a.lk.trans b.lk, fun i c h => (b.lks i c (a.lk i c h)).trans (a.lks i c h), fun h => (b.first h).trans (a.first h)⟩

def Post (K : PySem.W.Frag) (io : Bool) (D : Ends) (O : Addr → Prop) (r : Nms) (σ : L2.St) (H : Hp) : Out → Prop
  | .nx r' => ∀ H' O' σ', Stp H O H' O' → EnvOk K H' O' r' σ' → KeepS io r σ r' σ' → D.nx σ' H'
  | .rt x r' => ∀ H' O' σ' v, Stp H O H' O' → EnvOk K H' O' r' σ' → KeepS io r σ r' σ' → ROk K H' O' r' σ' v x → D.rt v H'
  | .bk r' => ∀ H' O' σ', Stp H O H' O' → EnvOk K H' O' r' σ' → KeepS io r σ r' σ' → D.bk σ' H'
  | .ct r' => ∀ H' O' σ', Stp H O H' O' → EnvOk K H' O' r' σ' → KeepS io r σ r' σ' → D.ct σ' H'
theorem Post.pre {K : PySem.W.Frag} {io : Bool} {D : Ends} {O O1 : Addr → Prop} {r r1 : Nms} {σ σ1 : L2.St} {H H1 : Hp} {o : Out} (h : Post K io D O r σ H o) (st : Stp H O H1 O1) (k : KeepS io r σ r1 σ1) : Post K io D O1 r1 σ1 H1 o := by
  cases o with
  | nx r' => exact fun H' O' σ' a b c => h H' O' σ' (st.trans a) b (k.trans c)
  | rt x r' => exact fun H' O' σ' v a b c d => h H' O' σ' v (st.trans a) b (k.trans c) d
  | bk r' => exact fun H' O' σ' a b c => h H' O' σ' (st.trans a) b (k.trans c)
  | ct r' => exact fun H' O' σ' a b c => h H' O' σ' (st.trans a) b (k.trans c)
abbrev DenS := Nms → Option Out
def tS (K : PySem.W.Frag) (io : Bool) (f : DenS) : TS := fun D σ H => ∃ O r o, EnvOk K H O r σ ∧ f r = some o ∧ Post K io D O r σ H o
abbrev Sx (io : Bool) (X : Cx) (st : Stmt) (f : DenS) : Prop := PS X st (tS X.K io f)
abbrev Bx (io : Bool) (X : Cx) (st : List Stmt) (f : DenS) : Prop := PSs X st (tS X.K io f)

def dNext : DenS := fun r => some (.nx r)
def dSeq (f g : DenS) : DenS := fun r => (f r).bind fun o => match o with
  | .nx r1 => g r1
  | o => some o
section
variable {io : Bool} {X : Cx} {e a b : Expr} {f g : Den} {t : DenT} {u w : DenS} {pos : Pos} {st : Stmt} {rest : List Stmt}
theorem bx_nil : Bx io X [] dNext := by
  refine ⟨fun pins s σ H D I hw => pss_nil.run pins s σ H D I ?_⟩
  obtain ⟨O, r, o, E, hf, k⟩ := hw
  cases hf
  exact k H O σ (Stp.refl _ _) E (KeepS.refl _ _ _)
theorem seq_read {D : Ends} {σ : L2.St} {H : Hp} (hw : tS X.K io (dSeq u w) D σ H) : tS X.K io u { D with nx := tS X.K io w D } σ H := by
  obtain ⟨O, r, o, E, hf, k⟩ := hw
  unfold dSeq at hf
  obtain ⟨o1, q1, hf⟩ := Option.bind_eq_some_iff.mp hf
  refine ⟨O, r, o1, E, q1, ?_⟩
  cases o1 with
  | nx r1 => exact fun H' O' σ' a b c => ⟨O', r1, o, b, hf, k.pre a c⟩
  | rt x r' => cases hf; exact k
  | bk r' => cases hf; exact k
  | ct r' => cases hf; exact k
theorem bx_cons (h1 : Sx io X st u) (h2 : Bx io X rest w) : Bx io X (st :: rest) (dSeq u w) :=
  ⟨fun pins s σ H D I hw => (pss_cons h1 h2).run pins s σ H D I (seq_read hw)⟩
theorem bx_one (h1 : Sx io X st u) : Bx io X [st] u := pss_one h1
def dIf (t : DenT) (u w : DenS) : DenS := fun r => (t r).bind fun (c, r1) => if c = true then u r1 else w r1
theorem sx_if {c : Expr} {A B : List Stmt} (hc : Tx X c t) (ha : Bx io X A u) (hb : Bx io X B w) : Sx io X (.If c A B pos) (dIf t u w) := by
  refine ⟨fun pins s σ H D I hw => (ps_if hc ha hb).run pins s σ H D I ?_⟩
  obtain ⟨O, r, o, E, hf, k⟩ := hw
  unfold dIf at hf
  obtain ⟨⟨c, r1⟩, q1, hf⟩ := Option.bind_eq_some_iff.mp hf
  refine ⟨O, r, c, r1, E, q1, fun H1 O1 st1 E1 kp1 => ?_⟩
  cases c with
  | true => exact ⟨O1, r1, o, E1, hf, k.pre st1 (KeepS.of kp1)⟩
  | false => exact ⟨O1, r1, o, E1, hf, k.pre st1 (KeepS.of kp1)⟩
def dRet (f : Den) : DenS := fun r => (f r).bind fun (x, r1) => some (.rt x r1)
theorem sx_ret (he : Ex X e f) : Sx io X (.Return (some e) pos) (dRet f) := by
  refine ⟨fun pins s σ H D I hw => ?_⟩
  obtain ⟨O, r, o, E, hf, k⟩ := hw
  unfold dRet at hf
  obtain ⟨⟨x, r1⟩, q1, hf⟩ := Option.bind_eq_some_iff.mp hf
  cases hf
  exact (ps_ret he).run pins s σ H D I ⟨O, r, x, r1, E, q1, fun H1 O1 v st1 E1 kp1 ro1 => k H1 O1 σ v st1 E1 (KeepS.of kp1) ro1⟩
theorem sx_pass : Sx io X (.Pass pos) dNext := by
  refine ⟨fun pins s σ H D I hw => ps_pass.run pins s σ H D I ?_⟩
  obtain ⟨O, r, o, E, hf, k⟩ := hw
  cases hf
  exact k H O σ (Stp.refl _ _) E (KeepS.refl _ _ _)
def dBreak : DenS := fun r => some (.bk r)
theorem sx_break : Sx io X (.Break pos) dBreak := by
  refine ⟨fun pins s σ H D I hw => ps_break.run pins s σ H D I ?_⟩
  obtain ⟨O, r, o, E, hf, k⟩ := hw
  cases hf
  exact k H O σ (Stp.refl _ _) E (KeepS.refl _ _ _)
theorem sx_doc {x j pos'} : Sx io X (.Expr (.Constant (.str x) j pos) pos') dNext := by
  refine ⟨fun pins s σ H D I hw => ps_doc.run pins s σ H D I ?_⟩
  obtain ⟨O, r, o, E, hf, k⟩ := hw
  cases hf
  exact k H O σ (Stp.refl _ _) E (KeepS.refl _ _ _)
def dDrop (f : Den) : DenS := fun r => (f r).bind fun (_, r1) => some (.nx r1)
theorem sx_expr (he : Ex X e f) (hs : swapsWith e none pos.line X.env = pure false := by rfl) : Sx io X (.Expr e pos) (dDrop f) := by
  refine ⟨fun pins s σ H D I hw => (ps_expr he hs).run pins s σ H D I ?_⟩
  obtain ⟨O, r, o, E, hf, k⟩ := hw
  unfold dDrop at hf
  obtain ⟨⟨x, r1⟩, q1, hf⟩ := Option.bind_eq_some_iff.mp hf
  cases hf
  exact ⟨O, r, x, r1, E, q1, fun H1 O1 v st1 E1 kp1 ro1 => k H1 O1 σ st1 E1 (KeepS.of kp1)⟩

/-! ### targets -/
/-- a name takes what is given -/
def setSl (i : Nat) (s : Sl) (r : Nms) : Option Nms := match r[i]? with
  | some (.lck _) => none
  | some _ => some (r.set i s)
  | none => none
theorem setSl_some {i : Nat} {s : Sl} {r r' : Nms} (h : setSl i s r = some r') : r' = r.set i s ∧ i < r.length ∧ ∀ c, r[i]? ≠ some (.lck c) := by
  unfold setSl at h
  split at h
  · cases h
  · rename_i t h1 h2
    cases h
    refine ⟨rfl, (List.getElem?_eq_some_iff.mp h2).1, fun c z => ?_⟩
    rw [z] at h2; cases h2; exact h1 c rfl
  · cases h
theorem EnvOk.store {K : PySem.W.Frag} {H : Hp} {O : Addr → Prop} {r : Nms} {σ : L2.St} {i : Nat} {s : Sl} {v : V} (E : EnvOk K H O r σ) (h : SlOk K H O (some v) s) (hs : ∀ c, s.ob = some c → ∀ (j : Nat) t e p, r[j]? = some t → t.ob = some e → j ≠ i → v = .ref p → σ[j]? ≠ some (some (.ref p))) : EnvOk K H O (r.set i s) (σ.set i (some v)) := by
  refine ⟨by rw [List.length_set, List.length_set]; exact E.len, fun j t q => ?_, fun a b s1 t1 c e p h1 h2 h3 h4 h5 h6 => ?_, E.mt⟩
  · by_cases hj : i = j
    · subst hj
      have hl : i < r.length := by
        obtain ⟨q, _⟩ := List.getElem?_eq_some_iff.mp q
        simpa using q
      rw [List.getElem?_set_self hl] at q
      cases q
      have hl2 : i < σ.length := by rw [← E.len]; exact hl
      exact ⟨some v, List.getElem?_set_self hl2, h⟩
    · rw [List.getElem?_set_ne hj] at q
      rw [List.getElem?_set_ne hj]
      exact E.ok j t q
  · have key : ∀ (a b : Nat) (s1 t1 : Sl) (c e : Ob), (r.set i s)[a]? = some s1 → (r.set i s)[b]? = some t1 → s1.ob = some c → t1.ob = some e → (σ.set i (some v))[a]? = some (some (.ref p)) → (σ.set i (some v))[b]? = some (some (.ref p)) → a = i → b ≠ i → False := by
      intro a b s1 t1 c e h1 h2 h3 h4 h5 h6 ha hb
      subst ha
      have hl : a < r.length := by
        obtain ⟨q, _⟩ := List.getElem?_eq_some_iff.mp h1
        simpa using q
      have hl2 : a < σ.length := by rw [← E.len]; exact hl
      rw [List.getElem?_set_self hl] at h1
      rw [List.getElem?_set_self hl2] at h5
      cases h1
      rw [List.getElem?_set_ne (Ne.symm hb)] at h2 h6
      exact hs c h3 b t1 e p h2 h4 hb (Option.some.inj (Option.some.inj h5)) h6
    by_cases ha : a = i
    · by_cases hb : b = i
      · rw [ha, hb]
      · exact (key a b s1 t1 c e h1 h2 h3 h4 h5 h6 ha hb).elim
    · by_cases hb : b = i
      · exact (key b a t1 s1 e c h2 h1 h4 h3 h6 h5 hb ha).elim
      · rw [List.getElem?_set_ne (Ne.symm ha)] at h1 h5
        rw [List.getElem?_set_ne (Ne.symm hb)] at h2 h6
        exact E.sep a b s1 t1 c e p h1 h2 h3 h4 h5 h6
theorem KeepS.store {io : Bool} {r : Nms} {σ : L2.St} {i : Nat} {s : Sl} {v : Option V} (hl : ∀ c, r[i]? ≠ some (.lck c)) (hi : io = true → i ≠ 0) : KeepS io r σ (r.set i s) (σ.set i v) :=
  ⟨Keep.set hl, fun j c h => by rw [List.getElem?_set_ne (fun z => hl c (by rw [z]; exact h))], fun h => by rw [List.getElem?_set_ne (hi h)]⟩
/-- name = value -/
def dSet (i : Nat) (f : Den) : DenS := fun r => (f r).bind fun y => match y with
  | (.val d, r1) => (setSl i (.fz d) r1).map Out.nx
  | (.tmp c, r1) => (setSl i (.own c) r1).map Out.nx
  | (.slot _, _) => none
theorem set_read {D : Ends} {σ : L2.St} {H : Hp} {i : Nat} (hi : io = true → i ≠ 0) (hw : tS X.K io (dSet i f) D σ H) : tX X.K f σ H fun v H1 => D.nx (σ.set i (some v)) H1 := by
  obtain ⟨O, r, o, E, hf, k⟩ := hw
  unfold dSet at hf
  obtain ⟨⟨x, r1⟩, q1, hf⟩ := Option.bind_eq_some_iff.mp hf
  refine ⟨O, r, x, r1, E, q1, fun H1 O1 v st1 E1 kp1 ro1 => ?_⟩
  cases x with
  | val d =>
    obtain ⟨r2, q2, e⟩ := Option.map_eq_some_iff.mp hf
    subst e
    obtain ⟨e, hl, hk⟩ := setSl_some q2
    subst e
    exact k H1 O1 _ st1 (E1.store ⟨v, rfl, ro1⟩ fun c z => by cases z) ((KeepS.of kp1).trans (KeepS.store hk hi))
  | tmp c =>
    obtain ⟨r2, q2, e⟩ := Option.map_eq_some_iff.mp hf
    subst e
    obtain ⟨e, hl, hk⟩ := setSl_some q2
    subst e
    obtain ⟨p, rfl, ob, op, hn⟩ := ro1
    exact k H1 O1 _ st1 (E1.store ⟨p, rfl, ob, op⟩ fun c z j t e p' h1 h2 h3 h4 => by cases h4; exact hn j t e h1 h2) ((KeepS.of kp1).trans (KeepS.store hk hi))
  | slot j => cases hf
theorem sx_set {i : Nat} {x : Str} {pos' : Pos} (hN : X.N.Nodup) (hi : X.N[i]? = some x) (hx : Loc X.env.scope x) (he : Ex X e f) (h0 : io = true → i ≠ 0 := by decide) (hs : swapsWith e (some (.Name x pos')) pos.line X.env = pure false := by rfl) (hf : X.fn x = true ∨ X.env.scope.names.lookup x = some .local := by first | exact .inl rfl | exact .inr rfl | assumption) :
    Sx io X (.Assign [.Name x pos'] e pos) (dSet i f) :=
  ⟨fun pins s σ H D I hw => (ps_set hN hi hx he hs hf).run pins s σ H D I (set_read h0 hw)⟩
/-- what a target takes: it stands still -/
abbrev DenG := PyData → Nms → Option Nms
/-- nothing but these slots -/
structure But (is : List Nat) (σ σ' : L2.St) : Prop where
  len : σ'.length = σ.length
  eq : ∀ j : Nat, j ∉ is → σ'[j]? = σ[j]?
theorem But.trans {is js : List Nat} {σ σ1 σ2 : L2.St} (a : But is σ σ1) (b : But js σ1 σ2) : But (is ++ js) σ σ2 := ⟨b.len.trans a.len, fun j h => by
  rw [List.mem_append] at h
  exact (b.eq j fun z => h (.inr z)).trans (a.eq j fun z => h (.inl z))⟩
def tG (K : PySem.W.Frag) (io : Bool) (is : List Nat) (g : DenG) : TG := fun v σ H Q => ∃ O r d r', EnvOk K H O r σ ∧ Rp K H v d ∧ g d r = some r' ∧ ∀ σ', EnvOk K H O r' σ' → KeepS io r σ r' σ' → But is σ σ' → Q σ' H
abbrev Gx (io : Bool) (is : List Nat) (X : Cx) (tg : Expr) (g : DenG) : Prop := PG X tg (tG X.K io is g)
def gN (i : Nat) : DenG := fun d r => setSl i (.fz d) r
theorem gx_name {i : Nat} {x : Str} (h : PG X (.Name x pos) (gName i)) (h0 : io = true → i ≠ 0 := by decide) : Gx io [i] X (.Name x pos) (gN i) := by
  refine ⟨fun pins s σ H v u Q I r hw => h.run pins s σ H v u Q I r ?_⟩
  obtain ⟨O, r, d, r', E, rp, hg, k⟩ := hw
  obtain ⟨e, hl, hk⟩ := setSl_some hg
  subst e
  exact k _ (E.store ⟨v, rfl, rp⟩ fun c z => by cases z) (KeepS.store hk h0) ⟨List.length_set .., fun j hj => List.getElem?_set_ne (by simpa using Ne.symm (by simpa using hj))⟩
abbrev DenGs := List PyData → Nms → Option Nms
def tGs (K : PySem.W.Frag) (io : Bool) (is : List Nat) (g : DenGs) : TGs := fun vs σ H Q => ∃ O r ds r', EnvOk K H O r σ ∧ RpAll K H vs ds ∧ g ds r = some r' ∧ ∀ σ', EnvOk K H O r' σ' → KeepS io r σ r' σ' → But is σ σ' → Q σ' H
abbrev Gxs (io : Bool) (is : List Nat) (X : Cx) (ts : List Expr) (g : DenGs) : Prop := PGs X ts (tGs X.K io is g)
def gsNil : DenGs := fun ds r => match ds with
  | [] => some r
  | _ => none
def gsCons (g : DenG) (h : DenGs) : DenGs := fun ds r => match ds with
  | d :: ds => (g d r).bind fun r1 => h ds r1
  | [] => none
theorem gxs_nil : Gxs io [] X [] gsNil := by
  refine ⟨fun pins s σ H vs us Q I r hw => pgs_nil.run pins s σ H vs us Q I r ?_⟩
  obtain ⟨O, r, ds, r', E, rp, hg, k⟩ := hw
  cases ds with
  | nil => cases rp; cases hg; exact ⟨rfl, k σ E (KeepS.refl _ _ _) ⟨rfl, fun _ _ => rfl⟩⟩
  | cons d ds => cases hg
theorem gxs_cons {is js : List Nat} {es : List Expr} {g : DenG} {h : DenGs} (h1 : Gx io is X e g) (h2 : Gxs io js X es h) (hs : (assignEach (e :: es) X.env).map (·.2) = assign e X.env :: (assignEach es X.env).map (·.2) := by rfl) : Gxs io (is ++ js) X (e :: es) (gsCons g h) := by
  refine ⟨fun pins s σ H vs us Q I rr hw => (pgs_cons h1 h2 hs).run pins s σ H vs us Q I rr ?_⟩
  obtain ⟨O, r, ds, r', E, rp, hg, k⟩ := hw
  cases ds with
  | nil => cases hg
  | cons d ds =>
    cases rp with
    | cons rp1 rp2 =>
      obtain ⟨r1, q1, hg⟩ := Option.bind_eq_some_iff.mp hg
      exact ⟨_, _, rfl, O, r, d, r1, E, rp1, q1, fun σ1 E1 k1 b1 => ⟨O, r1, ds, r', E1, rp2, hg, fun σ2 E2 k2 b2 => k σ2 E2 (k1.trans k2) (b1.trans b2)⟩⟩
def gT (h : DenGs) : DenG := fun d r => match d with
  | .tuple ds => h ds r
  | _ => none
theorem gx_tup {is : List Nat} {es : List Expr} {k : Nat} {h : DenGs} (n : Nat) (hc : X.calm = true) (hh : Gxs io is X es h) (hl : ∀ ds r r', h ds r = some r' → ds.length = n)
    (hn : (assignEach es X.env).length = n := by rfl) (hst : (assignEach es X.env).findIdx? (·.1) = none := by rfl) : Gx io is X (.Tuple es k pos) (gT h) := by
  refine ⟨fun pins s σ H v u Q I rr hw => (pg_tup hc hh hn hst).run pins s σ H v u Q I rr ?_⟩
  obtain ⟨O, r, d, r', E, rp, hg, k⟩ := hw
  cases d with
  | tuple ds =>
    cases rp with
    | @tup a vs _ hs ra => exact ⟨a, vs, rfl, hs, by rw [ra.length]; exact hl ds r r' hg, O, r, ds, r', E, ra, hg, k⟩
  | _ => cases hg
theorem gsNil_len (ds : List PyData) (r r' : Nms) (h : gsNil ds r = some r') : ds.length = 0 := by
  cases ds with
  | nil => rfl
  | cons d ds => cases h
theorem gsCons_len {g : DenG} {h : DenGs} {n : Nat} (hl : ∀ ds r r', h ds r = some r' → ds.length = n) (ds : List PyData) (r r' : Nms) (q : gsCons g h ds r = some r') : ds.length = n + 1 := by
  cases ds with
  | nil => cases q
  | cons d ds =>
    obtain ⟨r1, q1, q⟩ := Option.bind_eq_some_iff.mp q
    rw [List.length_cons, hl ds r1 r' q]
/-- target = value -/
def dAsg (f : Den) (g : DenG) : DenS := fun r => ((dFrz f r).bind vOf).bind fun (d, r1) => (g d r1).map Out.nx
theorem sx_asg {is : List Nat} {tg : Expr} {g : DenG} (he : Ex X e f) (hg : Gx io is X tg g) (hs : swapsWithSole [tg] e pos.line X.env = pure false := by rfl) (hw : swappedStores [tg] e X.env = pure none := by rfl)
    (h1 : (assignEach [tg] X.env).map (·.2) = [assign tg X.env] := by rfl) : Sx io X (.Assign [tg] e pos) (dAsg f g) := by
  refine ⟨fun pins s σ H D I hh => (ps_asg (ex_frz he) hg hs hw h1).run pins s σ H D I ?_⟩
  obtain ⟨O, r, o, E, hf, k⟩ := hh
  unfold dAsg at hf
  obtain ⟨⟨d, r1⟩, q1, hf⟩ := Option.bind_eq_some_iff.mp hf
  obtain ⟨y, q2, q3⟩ := Option.bind_eq_some_iff.mp q1
  have := vOf_some q3
  subst this
  obtain ⟨r2, q4, e⟩ := Option.map_eq_some_iff.mp hf
  subst e
  exact ⟨O, r, .val d, r1, E, q2, fun H1 O1 v st1 E1 kp1 ro1 => ⟨O1, r1, d, r2, E1, ro1, q4, fun σ' E2 k2 _ => k H1 O1 σ' st1 E2 ((KeepS.of kp1).trans k2)⟩⟩
/-- a, b = x, y: two local names -/
def dPar (i j : Nat) (fs : Denv) : DenS := fun r => (fs r).bind fun (ds, r1) => match ds with
  | [d, e] => ((setSl i (.fz d) r1).bind fun r2 => setSl j (.fz e) r2).map Out.nx
  | _ => none
theorem sx_par {i j : Nat} {x y : Str} {fs : Denv} {px py pt : Pos} {kt k2 pt2} (hc : X.calm = true) (hN : X.N.Nodup) (hi : X.N[i]? = some x) (hj : X.N[j]? = some y) (hij : i ≠ j)
    (hx : X.env.scope.names.lookup x = some .local) (hy : X.env.scope.names.lookup y = some .local) (ha : Exv X [a, b] fs)
    (hw : swappedStores [.Tuple [.Name x px, .Name y py] kt pt] (.Tuple [a, b] k2 pt2) X.env = pure (some [x, y])) (h0 : io = true → i ≠ 0 := by decide) (h1 : io = true → j ≠ 0 := by decide)
    (hs : swapsWithSole [.Tuple [.Name x px, .Name y py] kt pt] (.Tuple [a, b] k2 pt2) pos.line X.env = pure false := by rfl) :
    Sx io X (.Assign [.Tuple [.Name x px, .Name y py] kt pt] (.Tuple [a, b] k2 pt2) pos) (dPar i j fs) := by
  refine ⟨fun pins s σ H D I hh => (ps_par hc hN hi hj hij hx hy ha hw hs).run pins s σ H D I ?_⟩
  obtain ⟨O, r, o, E, hf, k⟩ := hh
  unfold dPar at hf
  obtain ⟨⟨ds, r1⟩, q1, hf⟩ := Option.bind_eq_some_iff.mp hf
  match ds, hf, q1 with
  | [d, e], hf, q1 =>
    obtain ⟨r3, q2, z⟩ := Option.map_eq_some_iff.mp hf
    subst z
    obtain ⟨r2, q3, q4⟩ := Option.bind_eq_some_iff.mp q2
    refine ⟨O, r, [d, e], r1, E, q1, fun H1 O1 vs st1 E1 kp1 ro1 => ?_⟩
    cases ro1 with
    | @cons v vs' _ _ rp1 ro2 =>
      cases ro2 with
      | @cons w ws' _ _ rp2 ro3 =>
        cases ro3
        obtain ⟨e1, hl, hk⟩ := setSl_some q3
        subst e1
        obtain ⟨e2, hl2, hk2⟩ := setSl_some q4
        subst e2
        have E2 := E1.store (i := i) (s := .fz d) ⟨v, rfl, rp1⟩ fun c z => by cases z
        have E3 := E2.store (i := j) (s := .fz e) ⟨w, rfl, rp2⟩ fun c z => by cases z
        exact ⟨v, w, rfl, k H1 O1 _ st1 E3 ((KeepS.of kp1).trans ((KeepS.store hk h0).trans (KeepS.store hk2 h1)))⟩
  | [], hf, _ => cases hf
  | [_], hf, _ => cases hf
  | _ :: _ :: _ :: _, hf, _ => cases hf

/-! ### a def -/
/-- a def that changes nothing of its arguments -/
def spP (K : PySem.W.Frag) (n : Nat) (F : List PyData → Option R) : Sp := fun vs H Q _ => ∃ ds z, RpAll K H vs ds ∧ ds.length = n ∧ F ds = some z ∧ ∀ H' w, NewR K H H' w z → Q w H'
/-- what comes back from a body -/
def ret : Out → Option (R × Nms)
  | .nx r => some (.val .none, r)
  | .rt (.val d) r => some (.val d, r)
  | .rt (.tmp c) r => some (.tmp c, r)
  | .rt (.slot i) r => match r[i]? with
    | some (.own c) => some (.tmp c, r.set i .un)
    | some (.fz d) => some (.val d, r)
    | _ => none
  | _ => none
def env0 (N : Nat) (ss : List Sl) : Nms := ss ++ List.replicate (N - ss.length) .un
def runP (N : Nat) (f : DenS) (ds : List PyData) : Option R := ((f (env0 N (ds.map .fz))).bind ret).map (·.1)
theorem env0_ok {K : PySem.W.Frag} {H : Hp} {O : Addr → Prop} {N : List Str} {vs : List V} {ss : List Sl} (hl : vs.length = ss.length) (h : ∀ (i : Nat) v s, vs[i]? = some v → ss[i]? = some s → SlOk K H O (some v) s)
    (sep : ∀ (i j : Nat) s t c e p, ss[i]? = some s → ss[j]? = some t → s.ob = some c → t.ob = some e → vs[i]? = some (.ref p) → vs[j]? = some (.ref p) → i = j) (mt : ∀ p, O p → Mut (H p)) : EnvOk K H O (env0 N.length ss) (L2.start N vs) := by
  have at1 : ∀ (i : Nat) s, (env0 N.length ss)[i]? = some s → (i < ss.length ∧ ss[i]? = some s) ∨ (ss.length ≤ i ∧ s = .un ∧ i < ss.length + (N.length - ss.length)) := fun i s q => by
    unfold env0 at q
    by_cases hi : i < ss.length
    · rw [List.getElem?_append_left hi] at q
      exact .inl ⟨hi, q⟩
    · rw [List.getElem?_append_right (by omega), List.getElem?_replicate] at q
      split at q
      · cases q; exact .inr ⟨by omega, rfl, by omega⟩
      · cases q
  have at2 : ∀ (i : Nat), i < ss.length → (L2.start N vs)[i]? = (vs[i]?).map some := fun i hi => by
    unfold L2.start
    rw [List.getElem?_append_left (by simpa [hl] using hi), List.getElem?_map]
  refine ⟨by unfold env0 L2.start; simp [hl], fun i s q => ?_, fun i j s t c e p h1 h2 h3 h4 h5 h6 => ?_, mt⟩
  · rcases at1 i s q with ⟨hi, q'⟩ | ⟨hi, rfl, hi2⟩
    · rw [at2 i hi]
      have hv : vs[i]? = some vs[i] := List.getElem?_eq_getElem (by omega)
      rw [hv]
      exact ⟨_, rfl, h i _ s hv q'⟩
    · have : i < (L2.start N vs).length := by unfold L2.start; simp [hl]; omega
      exact ⟨_, List.getElem?_eq_getElem this, trivial⟩
  · rcases at1 i s h1 with ⟨hi, q1⟩ | ⟨hi, rfl, _⟩
    · rcases at1 j t h2 with ⟨hj, q2⟩ | ⟨hj, rfl, _⟩
      · rw [at2 i hi] at h5
        rw [at2 j hj] at h6
        cases e5 : vs[i]? with
        | none => rw [e5] at h5; cases h5
        | some v =>
          rw [e5] at h5
          cases e6 : vs[j]? with
          | none => rw [e6] at h6; cases h6
          | some v' =>
            rw [e6] at h6
            cases h5; cases h6
            exact sep i j s t c e p q1 q2 h3 h4 e5 e6
      · cases h4
    · cases h3
theorem RpAll.env0 {K : PySem.W.Frag} {H : Hp} {N : List Str} {vs : List V} {ds : List PyData} (h : RpAll K H vs ds) : EnvOk K H (fun _ => False) (env0 N.length (ds.map .fz)) (L2.start N vs) := by
  refine env0_ok (by rw [List.length_map]; exact h.length) (fun i v s h1 h2 => ?_) (fun i j s t c e p h1 h2 h3 => ?_) fun p z => z.elim
  · obtain ⟨d, e, rp⟩ := h.get h1
    rw [List.getElem?_map, e] at h2
    cases h2
    exact ⟨v, rfl, rp⟩
  · rw [List.getElem?_map] at h1
    cases e : ds[i]? with
    | none => rw [e] at h1; cases h1
    | some d => rw [e] at h1; cases h1; cases h3
/-- the end of a body -/
theorem ret_read {K : PySem.W.Frag} {io : Bool} {Q : VK} {O : Addr → Prop} {r : Nms} {σ : L2.St} {H : Hp} {o : Out} {z : R} {r' : Nms} (ho : ret o = some (z, r'))
    (k : ∀ H' O' σ' v, Stp H O H' O' → EnvOk K H' O' r' σ' → KeepS io r σ r' σ' → ROk K H' O' r' σ' v z → Q v H') : Post K io { nx := fun _ H' => Q .non H', rt := Q } O r σ H o := by
  cases o with
  | nx r1 => cases ho; exact fun H' O' σ' a b c => k H' O' σ' .non a b c .non
  | bk r1 => cases ho
  | ct r1 => cases ho
  | rt x r1 =>
    cases x with
    | val d => cases ho; exact fun H' O' σ' v a b c d => k H' O' σ' v a b c d
    | tmp c => cases ho; exact fun H' O' σ' v a b c d => k H' O' σ' v a b c d
    | slot i =>
      have ho : (match r1[i]? with
        | some (.own c) => some (R.tmp c, r1.set i .un)
        | some (.fz d) => some (R.val d, r1)
        | _ => none) = some (z, r') := ho
      split at ho
      · rename_i c qi
        cases ho
        intro H' O' σ' v st E kp hv
        have hv : σ'[i]? = some (some v) := hv
        obtain ⟨v', e1, p, e2, ob, op⟩ := E.ok i _ qi
        rw [hv] at e1; cases e1; cases e2
        refine k H' O' σ' _ st (E.set (fun _ _ => trivial) rfl) (kp.trans (KeepS.of (Keep.set fun c' z => by rw [qi] at z; cases z))) ⟨p, rfl, ob, op, fun j t e h1 h2 h3 => ?_⟩
        have hl : i < r1.length := (List.getElem?_eq_some_iff.mp qi).1
        by_cases hj : i = j
        · subst hj
          rw [List.getElem?_set_self hl] at h1
          cases h1; cases h2
        · rw [List.getElem?_set_ne hj] at h1
          exact hj (E.sep i j _ _ c e p qi h1 rfl h2 hv h3)
      · rename_i d qi
        cases ho
        intro H' O' σ' v st E kp hv
        have hv : σ'[i]? = some (some v) := hv
        obtain ⟨v', e1, x, e2, rp⟩ := E.ok i _ qi
        rw [hv] at e1; cases e1; cases e2
        exact k H' O' σ' _ st E kp rp
      · cases ho
end
section
variable {P : Program} {w : World} {K : PySem.W.Frag} {mg : Str → Option Value} {base : Heap}
theorem fn_P {x qual : Str} {st : Stmt} {f : Addr} {fd : FuncData} {N ps : List Str} {k : Nat} {F : List PyData → Option R} (hF : Fun K x qual st f fd) (S : FnScope N ps (defScope st))
    (hbody : ∀ (cdv : Value) (A : Around) (outer : List Env) (s : Shared) (H : Hp), Room k (A.deeper (envOfC qual (defScope st) s.heap.objs.size f cdv)) →
      ∃ g, Bx false (cxOf CX0 P w K mg base N qual (defScope st) f cdv A outer s H E0).nox (defBody st) g ∧ ∀ ds z, F ds = some z → runP N.length g ds = some z) : FnOk P w K mg base CX0 (k + 1) f fd ps (spP K ps.length F) := by
  refine hF.ok S (fun vs H Q E h => ?_) (fun cdv A outer s H vs Q E hr h => ?_)
  · obtain ⟨ds, z, ra, hl, _⟩ := h
    rw [ra.length, hl]
  · obtain ⟨g, hg, hz⟩ := hbody cdv A outer s H hr
    obtain ⟨ds, z, ra, hl, hF, k⟩ := h
    refine ⟨_, hg, ?_⟩
    have q := hz ds z hF
    unfold runP at q
    obtain ⟨⟨z', r'⟩, q1, e⟩ := Option.map_eq_some_iff.mp q
    cases e
    obtain ⟨o, q2, q3⟩ := Option.bind_eq_some_iff.mp q1
    refine ⟨fun _ => False, _, o, ra.env0, q2, ret_read q3 fun H' O' σ' v st1 E1 _ ro => k H' v ?_⟩
    have sm : Same H H' := fun b o e => st1.keep b o e fun z => z
    cases z' with
    | val d => exact ⟨sm, ro⟩
    | tmp c =>
      obtain ⟨p, rfl, ob, op, _⟩ := ro
      exact ⟨sm, p, rfl, (st1.own p op).elim (fun z => z.elim) id, ob⟩
    | slot i =>
      exfalso
      cases o with
      | nx r1 => cases q3
      | bk r1 => cases q3
      | ct r1 => cases q3
      | rt x r1 =>
        cases x with
        | val d => cases q3
        | tmp c => cases q3
        | slot i =>
          have q3 : (match r1[i]? with
            | some (.own c) => some (R.tmp c, r1.set i .un)
            | some (.fz d) => some (R.val d, r1)
            | _ => none) = some _ := q3
          split at q3 <;> cases q3
end
end KV

end

section
/-! KV, part 4: loops and comprehensions. -/
namespace KV
open PySem PySem.Spec PyProof.Rows L2

/-! ### what is walked -/
/-- J goes over ds, whatever is done with the names (but the locked ones) -/
def JOk (K : PySem.W.Frag) (J : It) (ds : List PyData) (H0 : Hp) (r0 : Nms) (σ0 : L2.St) : Prop :=
  ∀ (H : Hp) (O : Addr → Prop) (r : Nms) (σ : L2.St), Fx H0 H → EnvOk K H O r σ → Keep r0 r → (∀ (i : Nat) (c : Ob), r0[i]? = some (.lck c) → σ[i]? = σ0[i]?) →
    ∀ i : Nat, (∀ d, ds[i]? = some d → J.go i H ∧ ∀ x H', J.yld i H x H' → Same H H' ∧ Rp K H' x d) ∧ (ds[i]? = none → J.stop i H)
abbrev DenI := Nms → Option (List PyData × Nms × Option Nat)
def tI (K : PySem.W.Frag) (f : DenI) : TI := fun σ H Q => ∃ O r ds r' u, EnvOk K H O r σ ∧ f r = some (ds, r', u) ∧
  ∀ H' O' J, Stp H O H' O' → EnvOk K H' O' r' σ → Keep r r' → ds.length ≤ sizeLine → (∀ i, u = some i → ∀ c, r[i]? ≠ some (.lck c)) → JOk K J ds H' r' σ → Q J H'
abbrev Ix (X : Cx) (tg iter : Expr) (f : DenI) : Prop := PI X tg iter (tI X.K f)
def unlck (u : Option Nat) (r : Nms) : Nms := match u with
  | none => r
  | some i => match r[i]? with
    | some (.lck c) => r.set i (.own c)
    | _ => r
theorem EnvOk.swap {K : PySem.W.Frag} {H : Hp} {O : Addr → Prop} {r : Nms} {σ : L2.St} {i : Nat} {s s' : Sl} {c : Ob} (E : EnvOk K H O r σ) (h : r[i]? = some s) (hs : s.ob = some c) (hs' : s'.ob = some c) : EnvOk K H O (r.set i s') σ := by
  have hl : i < r.length := (List.getElem?_eq_some_iff.mp h).1
  refine ⟨by rw [List.length_set]; exact E.len, fun j t q => ?_, fun a b s1 t1 c1 e1 p h1 h2 h3 h4 h5 h6 => ?_, E.mt⟩
  · by_cases hj : i = j
    · subst hj
      rw [List.getElem?_set_self hl] at q
      cases q
      obtain ⟨v, e1, z⟩ := E.ok i s h
      refine ⟨v, e1, ?_⟩
      have z' : ∃ p, v = some (.ref p) ∧ ObOk K H p c ∧ O p := by
        cases s with
        | un => cases hs
        | fz d => cases hs
        | own c' => cases hs; exact z
        | lck c' => cases hs; exact z
      cases s' with
      | un => cases hs'
      | fz d => cases hs'
      | own c' => cases hs'; exact z'
      | lck c' => cases hs'; exact z'
    · rw [List.getElem?_set_ne hj] at q
      exact E.ok j t q
  · have back : ∀ (a : Nat) (s1 : Sl) (c1 : Ob), (r.set i s')[a]? = some s1 → s1.ob = some c1 → ∃ s2, r[a]? = some s2 ∧ s2.ob = some c1 := fun a s1 c1 h1 h3 => by
      by_cases ha : i = a
      · subst ha
        rw [List.getElem?_set_self hl] at h1
        cases h1
        rw [hs'] at h3
        cases h3
        exact ⟨s, h, hs⟩
      · rw [List.getElem?_set_ne ha] at h1
        exact ⟨s1, h1, h3⟩
    obtain ⟨s2, q1, q2⟩ := back a s1 c1 h1 h3
    obtain ⟨t2, q3, q4⟩ := back b t1 e1 h2 h4
    exact E.sep a b s2 t2 c1 e1 p q1 q3 q2 q4 h5 h6
theorem EnvOk.unlck {K : PySem.W.Frag} {H : Hp} {O : Addr → Prop} {r : Nms} {σ : L2.St} (E : EnvOk K H O r σ) (u : Option Nat) : EnvOk K H O (unlck u r) σ := by
  cases u with
  | none => exact E
  | some i =>
    show EnvOk K H O (match r[i]? with
      | some (.lck c) => r.set i (.own c)
      | _ => r) σ
    split
    · rename_i c q
      exact E.swap q rfl rfl
    · exact E
theorem Keep.unlck {r r1 : Nms} {u : Option Nat} (k : Keep r r1) (hu : ∀ i, u = some i → ∀ c, r[i]? ≠ some (.lck c)) : Keep r (unlck u r1) := fun j c h => by
  cases u with
  | none => exact k j c h
  | some i =>
    show (match r1[i]? with
      | some (.lck c) => r1.set i (.own c)
      | _ => r1)[j]? = _
    split
    · rw [List.getElem?_set_ne (fun z => hu i rfl c (by rw [z]; exact h))]
      exact k j c h
    · exact k j c h
theorem ROk.unlck {K : PySem.W.Frag} {H : Hp} {O : Addr → Prop} {r : Nms} {σ : L2.St} {v : V} {x : R} (h : ROk K H O r σ v x) (u : Option Nat) : ROk K H O (unlck u r) σ v x := by
  cases x with
  | val d => exact h
  | slot i => exact h
  | tmp c =>
    obtain ⟨p, e, ob, o, hn⟩ := h
    refine ⟨p, e, ob, o, fun j s c' h1 h2 => ?_⟩
    cases u with
    | none => exact hn j s c' h1 h2
    | some i =>
      have h1 : (match r[i]? with
        | some (.lck c) => r.set i (.own c)
        | _ => r)[j]? = some s := h1
      split at h1
      · rename_i c0 q
        by_cases hj : i = j
        · subst hj
          have hl : i < r.length := (List.getElem?_eq_some_iff.mp q).1
          rw [List.getElem?_set_self hl] at h1
          cases h1
          exact hn i _ c0 q rfl
        · rw [List.getElem?_set_ne hj] at h1
          exact hn j s c' h1 h2
      · exact hn j s c' h1 h2
def Out.map (g : Nms → Nms) : Out → Out
  | .nx r => .nx (g r)
  | .rt x r => .rt x (g r)
  | .bk r => .bk (g r)
  | .ct r => .ct (g r)
def loopD (g : DenG) (body : DenS) : List PyData → DenS
  | [], r => some (.nx r)
  | d :: ds, r => (g d r).bind fun r1 => (body r1).bind fun o => match o with
    | .nx r2 => loopD g body ds r2
    | .ct r2 => loopD g body ds r2
    | .bk r2 => some (.nx r2)
    | .rt x r2 => some (.rt x r2)
def dFor (f : DenI) (g : DenG) (body : DenS) : DenS := fun r => (f r).bind fun (ds, r1, u) => (loopD g body ds r1).map (Out.map (unlck u))

section
variable {io : Bool} {is : List Nat} {X : Cx} {tg iter : Expr} {fi : DenI} {g : DenG} {u : DenS} {pos : Pos}
theorem sx_for {body : List Stmt} (hp : PassesOwn (model X.prog X.w) X.A X.env X.xe) (hc : X.calm = true) (hi : Ix X tg iter fi) (hg : Gx io is X tg g) (hb : Bx io X body u)
    (hs : ∀ x, foldedSetIterable iter X.env x = pure x := by intro _; rfl) : Sx io X (.For tg iter body [] pos) (dFor fi g u) := by
  refine ⟨fun pins s σ H D I hw => (ps_for hp hc hi hg hb hs).run pins s σ H D I ?_⟩
  obtain ⟨O, r, o, E, hf, k⟩ := hw
  unfold dFor at hf
  obtain ⟨⟨ds, r1, un⟩, q1, hf⟩ := Option.bind_eq_some_iff.mp hf
  obtain ⟨ob, q2, e⟩ := Option.map_eq_some_iff.mp hf
  subst e
  refine ⟨O, r, ds, r1, un, E, q1, fun H1 O1 J st1 E1 kp1 hlen hun jok => ?_⟩
  refine ⟨fun i m σi Hi => m = ds.length - i ∧ i ≤ ds.length ∧ ∃ Oi ri, Stp H1 O1 Hi Oi ∧ EnvOk X.K Hi Oi ri σi ∧ KeepS io r1 σ ri σi ∧ loopD g u (ds.drop i) ri = some ob, ⟨ds.length, by simp, Nat.zero_le _, O1, r1, Stp.refl _ _, E1, KeepS.refl _ _ _, q2⟩, ?_⟩
  rintro i m σi Hi ⟨rfl, hi, Oi, ri, sti, Ei, ki, hl⟩
  -- the way out by the loop's end
  have out : ∀ {Hj : Hp} {Oj : Addr → Prop} {rj : Nms} {σj : L2.St}, Stp H1 O1 Hj Oj → EnvOk X.K Hj Oj rj σj → KeepS io r1 σ rj σj → ob = .nx rj → D.nx σj Hj := fun {Hj Oj rj σj} a b c e => by
    subst e
    exact k Hj Oj σj (st1.trans a) (b.unlck un) ⟨(kp1.trans c.lk).unlck hun, fun j c' h => c.lks j c' (kp1 j c' h), c.first⟩
  have jk := jok Hi Oi ri σi (E1.fxOf sti) Ei ki.lk ki.lks i
  cases hd : ds[i]? with
  | none =>
    refine .inl ⟨jk.2 hd, ?_⟩
    rw [List.drop_eq_nil_of_le (List.getElem?_eq_none_iff.mp hd)] at hl
    cases hl
    exact out sti Ei ki rfl
  | some d =>
    obtain ⟨go, yl⟩ := jk.1 d hd
    have hlt : i < ds.length := (List.getElem?_eq_some_iff.mp hd).1
    have hdr : ds.drop i = d :: ds.drop (i + 1) := by
      rw [List.drop_eq_getElem_cons hlt]
      have : ds[i] = d := by rw [List.getElem?_eq_getElem hlt] at hd; exact Option.some.inj hd
      rw [this]
    rw [hdr] at hl
    unfold loopD at hl
    obtain ⟨r2, q3, hl⟩ := Option.bind_eq_some_iff.mp hl
    obtain ⟨o2, q4, hl⟩ := Option.bind_eq_some_iff.mp hl
    refine .inr ⟨go, fun σ' H' => ∃ O' r', Stp H1 O1 H' O' ∧ EnvOk X.K H' O' r' σ' ∧ KeepS io r1 σ r' σ' ∧ loopD g u (ds.drop (i + 1)) r' = some ob, fun σ' H' ⟨O', r', a, b, c, e⟩ => ⟨ds.length - (i + 1), by omega, rfl, hlt, O', r', a, b, c, e⟩, fun x H' y => ?_⟩
    obtain ⟨sm, rp⟩ := yl x H' y
    have st' : Stp H1 O1 H' Oi := sti.trans (Stp.of_same sm)
    refine ⟨Oi, ri, d, r2, Ei.same sm, rp, q3, fun σ2 E2 k2 _ => ⟨Oi, r2, o2, E2, q4, ?_⟩⟩
    have k12 : KeepS io r1 σ r2 σ2 := ki.trans k2
    cases o2 with
    | nx r3 => exact fun H3 O3 σ3 a b c => ⟨O3, r3, st'.trans a, b, k12.trans c, hl⟩
    | ct r3 => exact fun H3 O3 σ3 a b c => ⟨O3, r3, st'.trans a, b, k12.trans c, hl⟩
    | bk r3 => exact fun H3 O3 σ3 a b c => out (st'.trans a) b (k12.trans c) (Option.some.inj hl).symm
    | rt x r3 =>
      have e := (Option.some.inj hl).symm
      subst e
      exact fun H3 O3 σ3 v a b c ro => k H3 O3 σ3 v (st1.trans (st'.trans a)) (b.unlck un) (by
        have kk := k12.trans c
        exact ⟨(kp1.trans kk.lk).unlck hun, fun j c' h => kk.lks j c' (kp1 j c' h), kk.first⟩) (ro.unlck un)

/-! ### comprehensions -/
def wipeE : List Nat → Nms → Nms
  | [], r => r
  | v :: vs, r => (wipeE vs r).set v .un
def restE : List Nat → Nms → Nms → Nms
  | [], _, r => r
  | v :: vs, r0, r => (restE vs r0 r).set v (r0.getD v .un)
def noOb (vs : List Nat) (r : Nms) : Bool := vs.all fun v => ((r.getD v .un).ob).isNone
def compD (vs : List Nat) (g : DenG) (t : DenT) (f : Den) : List PyData → Nms → Option (List PyData × Nms)
  | [], r => some ([], r)
  | d :: ds, r => (g d r).bind fun r1 => (t r1).bind fun (c, r2) => if c = true then ((dFrz f r2).bind vOf).bind fun (x, r3) => (compD vs g t f ds (wipeE vs r3)).map fun (xs, r4) => (x :: xs, r4) else compD vs g t f ds (wipeE vs r2)
def dLc (vs : List Nat) (fi : DenI) (g : DenG) (t : DenT) (f : Den) : Den := fun r => (fi r).bind fun (ds, r1, u) => if noOb vs r1 = true then (compD vs g t f ds (wipeE vs r1)).map fun (xs, r2) => (.tmp (.lst xs), unlck u (restE vs r1 r2)) else none

theorem wipeE_length (r : Nms) : ∀ vs : List Nat, (wipeE vs r).length = r.length
  | [] => rfl
  | v :: vs => by unfold wipeE; rw [List.length_set, wipeE_length r vs]
theorem wipeE_ne {r : Nms} {j : Nat} : ∀ {vs : List Nat}, j ∉ vs → (wipeE vs r)[j]? = r[j]?
  | [], _ => rfl
  | v :: vs, h => by
    unfold wipeE
    simp only [List.mem_cons, not_or] at h
    rw [List.getElem?_set_ne (Ne.symm h.1)]
    exact wipeE_ne h.2
theorem wipeE_mem {r : Nms} {j : Nat} : ∀ {vs : List Nat}, j ∈ vs → j < r.length → (wipeE vs r)[j]? = some .un
  | v :: vs, h, hl => by
    unfold wipeE
    by_cases hv : v = j
    · subst hv
      rw [List.getElem?_set_self (by rw [wipeE_length]; exact hl)]
    · rw [List.getElem?_set_ne hv]
      rcases List.mem_cons.mp h with e | h
      · exact absurd e.symm hv
      · exact wipeE_mem h hl
theorem wipe_ne {σ : L2.St} {j : Nat} : ∀ {vs : List Nat}, j ∉ vs → (wipe σ vs)[j]? = σ[j]?
  | [], _ => rfl
  | v :: vs, h => by
    unfold wipe
    simp only [List.mem_cons, not_or] at h
    rw [List.getElem?_set_ne (Ne.symm h.1)]
    exact wipe_ne h.2
theorem wipe_mem {σ : L2.St} {j : Nat} : ∀ {vs : List Nat}, j ∈ vs → j < σ.length → (wipe σ vs)[j]? = some none
  | v :: vs, h, hl => by
    unfold wipe
    by_cases hv : v = j
    · subst hv
      rw [List.getElem?_set_self (by rw [wipe_length]; exact hl)]
    · rw [List.getElem?_set_ne hv]
      rcases List.mem_cons.mp h with e | h
      · exact absurd e.symm hv
      · exact wipe_mem h hl
theorem restE_length (r0 r : Nms) : ∀ vs : List Nat, (restE vs r0 r).length = r.length
  | [] => rfl
  | v :: vs => by unfold restE; rw [List.length_set, restE_length r0 r vs]
theorem restE_ne {r0 r : Nms} {j : Nat} : ∀ {vs : List Nat}, j ∉ vs → (restE vs r0 r)[j]? = r[j]?
  | [], _ => rfl
  | v :: vs, h => by
    unfold restE
    simp only [List.mem_cons, not_or] at h
    rw [List.getElem?_set_ne (Ne.symm h.1)]
    exact restE_ne h.2
theorem restE_mem {r0 r : Nms} {j : Nat} : ∀ {vs : List Nat}, j ∈ vs → j < r.length → (restE vs r0 r)[j]? = some (r0.getD j .un)
  | v :: vs, h, hl => by
    unfold restE
    by_cases hv : v = j
    · subst hv
      rw [List.getElem?_set_self (by rw [restE_length]; exact hl)]
    · rw [List.getElem?_set_ne hv]
      rcases List.mem_cons.mp h with e | h
      · exact absurd e.symm hv
      · exact restE_mem h hl
theorem wipe_but {σ σ' : L2.St} {is vs : List Nat} (hs : ∀ i ∈ is, i ∈ vs) (b : But is σ σ') : wipe σ' vs = wipe σ vs := by
  refine List.ext_getElem? fun j => ?_
  by_cases hj : j ∈ vs
  · by_cases hb : j < σ.length
    · rw [wipe_mem hj hb, wipe_mem hj (by rw [b.len]; exact hb)]
    · rw [List.getElem?_eq_none (by rw [wipe_length, b.len]; omega), List.getElem?_eq_none (by rw [wipe_length]; omega)]
  · rw [wipe_ne hj, wipe_ne hj]
    exact b.eq j fun z => hj (hs j z)
theorem wipe_wipe {σ : L2.St} {vs : List Nat} : wipe (wipe σ vs) vs = wipe σ vs := by
  refine List.ext_getElem? fun j => ?_
  by_cases hj : j ∈ vs
  · by_cases hb : j < σ.length
    · rw [wipe_mem hj hb, wipe_mem hj (by rw [wipe_length]; exact hb)]
    · rw [List.getElem?_eq_none (by rw [wipe_length, wipe_length]; omega), List.getElem?_eq_none (by rw [wipe_length]; omega)]
  · rw [wipe_ne hj]
/-- names forgotten -/
theorem EnvOk.wipes {K : PySem.W.Frag} {H : Hp} {O : Addr → Prop} {r : Nms} {σ σ' : L2.St} {vs : List Nat} (E : EnvOk K H O r σ) (hl : σ'.length = σ.length) (h : ∀ j, j ∉ vs → σ'[j]? = σ[j]?) : EnvOk K H O (wipeE vs r) σ' := by
  have back : ∀ (i : Nat) (s : Sl), (wipeE vs r)[i]? = some s → (i ∉ vs ∧ r[i]? = some s) ∨ s = .un := fun i s q => by
    by_cases hi : i ∈ vs
    · have hb : i < r.length := by
        have := (List.getElem?_eq_some_iff.mp q).1
        rwa [wipeE_length] at this
      rw [wipeE_mem hi hb] at q
      cases q
      exact .inr rfl
    · rw [wipeE_ne hi] at q
      exact .inl ⟨hi, q⟩
  refine ⟨by rw [wipeE_length, hl]; exact E.len, fun i s q => ?_, fun a b s t c e p h1 h2 h3 h4 h5 h6 => ?_, E.mt⟩
  · rcases back i s q with ⟨hi, q'⟩ | rfl
    · rw [h i hi]
      exact E.ok i s q'
    · have hb : i < σ'.length := by
        have := (List.getElem?_eq_some_iff.mp q).1
        rw [wipeE_length, E.len, ← hl] at this
        exact this
      exact ⟨_, List.getElem?_eq_getElem hb, trivial⟩
  · rcases back a s h1 with ⟨ha, q1⟩ | rfl
    · rcases back b t h2 with ⟨hb, q2⟩ | rfl
      · rw [h a ha] at h5
        rw [h b hb] at h6
        exact E.sep a b s t c e p q1 q2 h3 h4 h5 h6
      · cases h4
    · cases h3
/-- the forgotten names are there again -/
theorem EnvOk.rest {K : PySem.W.Frag} {H0 H : Hp} {O0 O : Addr → Prop} {r0 r : Nms} {σ0 σ : L2.St} {vs : List Nat} (E0 : EnvOk K H0 O0 r0 σ0) (fx : Fx H0 H) (no : noOb vs r0 = true) (E : EnvOk K H O r σ) (hl : σ.length = σ0.length) (h : ∀ j, j ∉ vs → σ[j]? = σ0[j]?) : EnvOk K H O (restE vs r0 r) σ0 := by
  have back : ∀ (i : Nat) (s : Sl), (restE vs r0 r)[i]? = some s → (i ∉ vs ∧ r[i]? = some s) ∨ (i ∈ vs ∧ r0[i]? = some s ∧ s.ob = none) := fun i s q => by
    by_cases hi : i ∈ vs
    · have hb : i < r.length := by
        have := (List.getElem?_eq_some_iff.mp q).1
        rwa [restE_length] at this
      rw [restE_mem hi hb] at q
      have hb0 : i < r0.length := by rw [E0.len, ← hl, ← E.len]; exact hb
      have e : r0.getD i .un = r0[i] := by rw [List.getD_eq_getElem?_getD, List.getElem?_eq_getElem hb0]; rfl
      have n := List.all_eq_true.mp no i hi
      rw [e] at n q
      cases q
      exact .inr ⟨hi, List.getElem?_eq_getElem hb0, by simpa using n⟩
    · rw [restE_ne hi] at q
      exact .inl ⟨hi, q⟩
  refine ⟨by rw [restE_length, E.len, hl], fun i s q => ?_, fun a b s t c e p h1 h2 h3 h4 h5 h6 => ?_, E.mt⟩
  · rcases back i s q with ⟨hi, q'⟩ | ⟨hi, q', n⟩
    · obtain ⟨v, e1, z⟩ := E.ok i s q'
      rw [h i hi] at e1
      exact ⟨v, e1, z⟩
    · obtain ⟨v, e1, z⟩ := E0.ok i s q'
      refine ⟨v, e1, ?_⟩
      cases s with
      | un => trivial
      | fz d => obtain ⟨x, e2, rp⟩ := z; exact ⟨x, e2, rp.fx fx⟩
      | own c => cases n
      | lck c => cases n
  · rcases back a s h1 with ⟨ha, q1⟩ | ⟨_, _, n⟩
    · rcases back b t h2 with ⟨hb, q2⟩ | ⟨_, _, n⟩
      · rw [← h a ha] at h5
        rw [← h b hb] at h6
        exact E.sep a b s t c e p q1 q2 h3 h4 h5 h6
      · rw [h4] at n; cases n
    · rw [h3] at n; cases n
theorem Keep.wipes {r r1 : Nms} {vs : List Nat} (k : Keep r r1) (no : noOb vs r = true) : Keep r (wipeE vs r1) := fun i c h => by
  by_cases hi : i ∈ vs
  · have n := List.all_eq_true.mp no i hi
    rw [List.getD_eq_getElem?_getD, h] at n
    cases n
  · rw [wipeE_ne hi]; exact k i c h
theorem Keep.rests {r r1 : Nms} {vs : List Nat} (k : Keep r r1) (no : noOb vs r = true) : Keep r (restE vs r r1) := fun i c h => by
  by_cases hi : i ∈ vs
  · have n := List.all_eq_true.mp no i hi
    rw [List.getD_eq_getElem?_getD, h] at n
    cases n
  · rw [restE_ne hi]; exact k i c h
theorem noOb_lock {r : Nms} {vs : List Nat} (no : noOb vs r = true) {i : Nat} {c : Ob} (h : r[i]? = some (.lck c)) : i ∉ vs := fun hi => by
  have n := List.all_eq_true.mp no i hi
  rw [List.getD_eq_getElem?_getD, h] at n
  cases n
theorem noOb_all {r : Nms} {vs : List Nat} (h : ∀ j ∈ vs, ((r[j]?.getD .un).ob) = none) : noOb vs r = true := by
  refine List.all_eq_true.mpr fun v hv => ?_
  rw [List.getD_eq_getElem?_getD, h v hv] <;> rfl

theorem noOb_wipe (r : Nms) (vs : List Nat) : noOb vs (wipeE vs r) = true := noOb_all fun v hv => by
  by_cases hb : v < r.length
  · rw [wipeE_mem hv hb] <;> rfl
  · rw [List.getElem?_eq_none (by rw [wipeE_length]; omega)] <;> rfl
theorem EnvOk.off {K : PySem.W.Frag} {H : Hp} {O : Addr → Prop} {r : Nms} {σ : L2.St} {D : Addr} {xs ys : List V} (E : EnvOk K H O r σ) (hD : H D = some (.lst xs)) (nD : ¬ O D) : Fx H (upd H D (.lst ys)) ∧ EnvOk K (upd H D (.lst ys)) O r σ := by
  have fx : Fx H (upd H D (.lst ys)) := by
    refine ⟨fun b o w e => ?_, fun b zs e => ?_⟩
    · rw [upd_ne (fun z => by rw [z, hD] at e; cases e)]; exact e
    · rw [upd_ne (fun z => by rw [z, hD] at e; cases e)]; exact e
  have e : ∀ p, O p → upd H D (.lst ys) p = H p := fun p o => upd_ne (fun z => nD (by rw [← z]; exact o))
  exact ⟨fx, E.len, fun i s q => let ⟨v, e1, z⟩ := E.ok i s q; ⟨v, e1, z.same fx e⟩, E.sep, fun p o => by rw [e p o]; exact E.mt p o⟩
/-- [elt for target in iter if ..] -/
theorem lc_read {vs : List Nat} {t : DenT} {f : Den} {σ : L2.St} {H : Hp} {Q : VK} (his : ∀ i ∈ is, i ∈ vs) (hw : tX X.K (dLc vs fi g t f) σ H Q) : tLc (tI X.K fi) (tG X.K false is g) (tT X.K t) (tX X.K (dFrz f)) vs σ H Q := by
  obtain ⟨O, r, z, r', E, hf, k⟩ := hw
  unfold dLc at hf
  obtain ⟨⟨ds, r1, un⟩, q1, hf⟩ := Option.bind_eq_some_iff.mp hf
  dsimp only at hf
  by_cases hno : noOb vs r1 = true
  · rw [if_pos hno] at hf
    obtain ⟨⟨xs, r2⟩, q2, e⟩ := Option.map_eq_some_iff.mp hf
    cases e
    refine ⟨O, r, ds, r1, un, E, q1, fun H1 O1 J st1 E1 kp1 hlen hun jok D hD => ?_⟩
    -- the new list comes to what stands
    have sm0 : Same H1 (upd H1 D (.lst [])) := same_upd hD
    have E1w : EnvOk X.K (upd H1 D (.lst [])) O1 (wipeE vs r1) (wipe σ vs) := (E1.same sm0).wipes (wipe_length _ _) fun j hj => wipe_ne hj
    have nD : ¬ O1 D := fun z => by have := E1.mt D z; rw [hD] at this; exact this
    refine ⟨fun i m Hi => m = ds.length - i ∧ i ≤ ds.length ∧ ∃ Oi ri acc ys vys, Stp H1 O1 Hi Oi ∧ ¬ Oi D ∧ EnvOk X.K Hi Oi ri (wipe σ vs) ∧ Keep (wipeE vs r1) ri ∧ Hi D = some (.lst vys) ∧ RpAll X.K Hi vys ys ∧ vys.length ≤ i ∧ compD vs g t f (ds.drop i) ri = some (acc, r2) ∧ ys ++ acc = xs, ⟨ds.length, by simp, Nat.zero_le _, O1, wipeE vs r1, xs, [], [], Stp.of_same sm0, nD, E1w, Keep.refl _, upd_same, .nil, Nat.le_refl _, q2, rfl⟩, ?_⟩
    rintro i m Hi ⟨rfl, hi, Oi, ri, acc, ys, vys, sti, nDi, Ei, ki, hDi, rpi, lei, hcd, hxs⟩
    have kr1 : Keep r1 ri := ((Keep.refl r1).wipes hno).trans ki
    have jk := jok Hi Oi ri (wipe σ vs) (E1.fxOf sti) Ei kr1 (fun j c h => wipe_ne (noOb_lock hno h)) i
    cases hd : ds[i]? with
    | none =>
      refine .inl ⟨jk.2 hd, ?_⟩
      rw [List.drop_eq_nil_of_le (List.getElem?_eq_none_iff.mp hd)] at hcd
      obtain ⟨e1, e2⟩ := Prod.mk.inj (Option.some.inj hcd)
      subst e1
      subst e2
      rw [List.append_nil] at hxs
      subst hxs
      have Er : EnvOk X.K Hi Oi (unlck un (restE vs r1 ri)) σ := (E1.rest (E1.fxOf sti) hno Ei (wipe_length _ _) fun j hj => wipe_ne hj).unlck un
      have mD : Mut (Hi D) := by rw [hDi]; trivial
      refine k Hi (fun b => Oi b ∨ b = D) (.ref D) (st1.trans ⟨sti.keep, fun b z => ?_⟩) (Er.add (Same.refl _) mD) ((kp1.trans (kr1.rests hno)).unlck hun) ⟨D, rfl, ⟨vys, hDi, rpi⟩, .inr rfl, fun j s e h1 h2 h3 => ?_⟩
      · rcases z with z | rfl
        · exact sti.own b z
        · exact .inr hD
      · obtain ⟨v, e1, z⟩ := Er.ok j s h1
        rw [h3] at e1; cases e1
        cases s with
        | un => cases h2
        | fz d => cases h2
        | own c => obtain ⟨p, e2, _, o⟩ := z; cases e2; exact nDi o
        | lck c => obtain ⟨p, e2, _, o⟩ := z; cases e2; exact nDi o
    | some d =>
      obtain ⟨go, yl⟩ := jk.1 d hd
      have hlt : i < ds.length := (List.getElem?_eq_some_iff.mp hd).1
      have hdr : ds.drop i = d :: ds.drop (i + 1) := by
        rw [List.drop_eq_getElem_cons hlt]
        have : ds[i] = d := by rw [List.getElem?_eq_getElem hlt] at hd; exact Option.some.inj hd
        rw [this]
      rw [hdr] at hcd
      unfold compD at hcd
      obtain ⟨rg, q3, hcd⟩ := Option.bind_eq_some_iff.mp hcd
      obtain ⟨⟨c, rt⟩, q4, hcd⟩ := Option.bind_eq_some_iff.mp hcd
      dsimp only at hcd
      refine .inr ⟨go, fun H' => ∃ Oj rj acc ys vys, Stp H1 O1 H' Oj ∧ ¬ Oj D ∧ EnvOk X.K H' Oj rj (wipe σ vs) ∧ Keep (wipeE vs r1) rj ∧ H' D = some (.lst vys) ∧ RpAll X.K H' vys ys ∧ vys.length ≤ i + 1 ∧ compD vs g t f (ds.drop (i + 1)) rj = some (acc, r2) ∧ ys ++ acc = xs, fun H' ⟨Oj, rj, acc', ys', vys', a⟩ => ⟨ds.length - (i + 1), by omega, rfl, hlt, Oj, rj, acc', ys', vys', a⟩, fun x H' y => ?_⟩
      obtain ⟨sm, rp⟩ := yl x H' y
      have hD' : H' D = some (.lst vys) := sm _ _ hDi
      have st' : Stp H1 O1 H' Oi := sti.trans (Stp.of_same sm)
      refine ⟨Oi, ri, d, rg, Ei.same sm, rp, q3, fun σ2 E2 k2 b2 => ⟨(wipe_but his b2).trans wipe_wipe, Oi, rg, c, rt, E2, q4, fun H3 O3 st3 E3 kp3 => ?_⟩⟩
      have hD3 : H3 D = some (.lst vys) := st3.keep D _ hD' nDi
      have nD3 : ¬ O3 D := fun z => (st3.own D z).elim nDi fun q => by rw [hD'] at q; cases q
      have hσ : ∀ j, j ∉ vs → (wipe σ vs)[j]? = σ2[j]? := fun j hj => (b2.eq j fun z => hj (his j z)).symm
      cases c with
      | false =>
        simp only [Bool.false_eq_true, if_false] at hcd ⊢
        refine ⟨O3, wipeE vs rt, acc, ys, vys, st'.trans st3, nD3, E3.wipes b2.len.symm hσ, ?_, hD3, rpi.fx ((Fx.of_same sm).trans ((Ei.same sm).fxOf st3)), by omega, hcd, hxs⟩
        exact (ki.trans (k2.lk.trans kp3)).wipes (noOb_wipe _ _)
      | true =>
        simp only [if_true] at hcd ⊢
        obtain ⟨⟨xv, r4⟩, q5, hcd⟩ := Option.bind_eq_some_iff.mp hcd
        obtain ⟨w, q6, q7⟩ := Option.bind_eq_some_iff.mp q5
        have := vOf_some q7
        subst this
        obtain ⟨⟨xs', r5⟩, q8, e8⟩ := Option.map_eq_some_iff.mp hcd
        cases e8
        refine ⟨O3, rt, .val xv, r4, E3, q6, fun H4 O4 v st4 E4 kp4 ro4 => ?_⟩
        have hD4 : H4 D = some (.lst vys) := st4.keep D _ hD3 nD3
        have nD4 : ¬ O4 D := fun z => (st4.own D z).elim nD3 fun q => by rw [hD3] at q; cases q
        obtain ⟨fx, E5⟩ := E4.off (ys := vys ++ [v]) hD4 nD4
        have fx4 : Fx Hi (upd H4 D (.lst (vys ++ [v]))) := (Fx.of_same sm).trans (((Ei.same sm).fxOf st3).trans ((E3.fxOf st4).trans fx))
        have st5 : Stp H1 O1 H4 O4 := st'.trans (st3.trans st4)
        refine ⟨vys, hD4, by omega, O4, wipeE vs r4, xs', ys ++ [xv], vys ++ [v], ⟨fun b o e n => ?_, st5.own⟩, nD4, E5.wipes b2.len.symm hσ, ?_, upd_same, (rpi.fx fx4).append (.cons (Rp.fx fx ro4) .nil), by simp; omega, q8, by rw [List.append_assoc]; exact hxs⟩
        · rw [upd_ne (fun z => by rw [z, hD] at e; cases e)]
          exact st5.keep b o e n
        · exact (ki.trans (k2.lk.trans (kp3.trans kp4))).wipes (noOb_wipe _ _)
  · rw [if_neg hno] at hf; cases hf
theorem ex_lc {elt : Expr} {ifs : List Expr} {scope : Scope} {own : List (Str × Nat)} {t : DenT} {f : Den} (hc : X.calm = true) (hN : X.N.Nodup) (hi : Ix X tg iter fi) (ok : BlkOk X.N X.env.scope scope own) (his : ∀ i ∈ is, i ∈ own.map (·.2))
    (hg : ∀ (s : Shared) (H : Hp) (C : Addr) (cl : List (Str × Addr)) (fp : List Addr), Gx false is (X.blk s H scope (compEnvC scope cl C X.env) fp) tg g) (ht : ∀ (s : Shared) (H : Hp) (C : Addr) (cl : List (Str × Addr)) (fp : List Addr), PTs (X.blk s H scope (compEnvC scope cl C X.env) fp) ifs (tT X.K t))
    (he : ∀ (s : Shared) (H : Hp) (C : Addr) (cl : List (Str × Addr)) (fp : List Addr), Ex (X.blk s H scope (compEnvC scope cl C X.env) fp) elt f) (hs : ∀ x, foldedSetIterable iter X.env x = pure x := by intro _; rfl) :
    Ex X (.ListComp elt [⟨tg, iter, ifs, 0⟩] scope pos) (dLc (own.map (·.2)) fi g t f) :=
  ⟨fun pins s σ H Q I hw => (pe_lc hc hN hi ok hg ht (fun s H C cl fp => ex_frz (he s H C cl fp)) hs).run pins s σ H Q I (lc_read his hw)⟩
/-- name = [..] on one line, the name a local -/
theorem sx_setLc {i : Nat} {y : Str} {py spos : Pos} {elt : Expr} {ifs : List Expr} {scope : Scope} {own : List (Str × Nat)} {t : DenT} {f : Den} (hc : X.calm = true) (hN : X.N.Nodup) (hy : X.N[i]? = some y) (hyl : X.env.scope.names.lookup y = some .local)
    (hsw : swapsWith (.ListComp elt [⟨tg, iter, ifs, 0⟩] scope pos) (some (.Name y py)) spos.line X.env = pure true) (hi : Ix X tg iter fi) (ok : BlkOk X.N X.env.scope scope own) (his : ∀ i ∈ is, i ∈ own.map (·.2))
    (hg : ∀ (s : Shared) (H : Hp) (C : Addr) (cl : List (Str × Addr)) (fp : List Addr), Gx false is (X.blk s H scope (compEnvC scope cl C X.env) fp) tg g) (ht : ∀ (s : Shared) (H : Hp) (C : Addr) (cl : List (Str × Addr)) (fp : List Addr), PTs (X.blk s H scope (compEnvC scope cl C X.env) fp) ifs (tT X.K t))
    (he : ∀ (s : Shared) (H : Hp) (C : Addr) (cl : List (Str × Addr)) (fp : List Addr), Ex (X.blk s H scope (compEnvC scope cl C X.env) fp) elt f) (h0 : io = true → i ≠ 0 := by decide) (hs : ∀ x, foldedSetIterable iter X.env x = pure x := by intro _; rfl) :
    Sx io X (.Assign [.Name y py] (.ListComp elt [⟨tg, iter, ifs, 0⟩] scope pos) spos) (dSet i (dLc (own.map (·.2)) fi g t f)) := by
  refine ⟨fun pins s σ H D I hw => (ps_setLc (wi := tI X.K fi) (g := tG X.K false is g) (tt := tT X.K t) (te := tX X.K (dFrz f)) hc hN hy hyl hsw hi ok hg ht (fun s H C cl fp => ex_frz (he s H C cl fp)) hs).run pins s σ H D I ?_⟩
  exact lc_read his (set_read h0 hw)
def tYesD : DenT := fun r => some (true, r)
theorem pts0 : PTs X [] (tT X.K tYesD) := by
  refine ⟨fun pins s σ H Q I hw => pts_nil.run pins s σ H Q I ?_⟩
  obtain ⟨O, r, x, r', E, hf, k⟩ := hw
  cases hf
  exact k H O (Stp.refl _ _) E (Keep.refl _)

/-! ### sources -/
def seqOf : PyData → Option (List PyData)
  | .list ds => some ds
  | .tuple ds => some ds
  | _ => none
/-- a list or a tuple: a name's own list is locked meanwhile -/
def iSeq (f : Den) : DenI := fun r => (dStl f r).bind fun y => match y with
  | (.val d, r1) => (seqOf d).map fun ds => (ds, r1, none)
  | (.slot i, r1) => match r1[i]? with
    | some (.own (.lst ds)) => some (ds, r1.set i (.lck (.lst ds)), some i)
    | some (.lck (.lst ds)) => some (ds, r1, none)
    | some (.fz d) => (seqOf d).map fun ds => (ds, r1, none)
    | _ => none
  | (.tmp _, _) => none
theorem jok_list' {K : PySem.W.Frag} {a : Addr} {vs : List V} {ds : List PyData} {H0 : Hp} {r0 : Nms} {σ0 : L2.St} (h : FzL K H0 a vs) (ra : RpAll K H0 vs ds) : JOk K (Itl K a) ds H0 r0 σ0 := by
  intro H O r σ fx E kp lk i
  have h' := h.fx fx
  have ra' := ra.fx fx
  refine ⟨fun d hd => ?_, fun hd => ⟨vs, h'.sq, by rw [ra.length]; exact List.getElem?_eq_none_iff.mp hd⟩⟩
  obtain ⟨v, hv, rp⟩ := ra'.get' hd
  refine ⟨⟨vs, v, h'.sq, hv⟩, fun x H' y => ?_⟩
  obtain ⟨e, y⟩ := y
  subst e
  have := y vs h'.sq
  rw [hv] at this
  cases this
  exact ⟨Same.refl _, rp⟩
theorem jok_tup {K : PySem.W.Frag} {a : Addr} {vs : List V} {ds : List PyData} {H0 : Hp} {r0 : Nms} {σ0 : L2.St} (h : SqT K H0 a vs) (ra : RpAll K H0 vs ds) : JOk K (Itt K a) ds H0 r0 σ0 := by
  intro H O r σ fx E kp lk i
  have h' := SqT.fx fx h
  have ra' := ra.fx fx
  refine ⟨fun d hd => ?_, fun hd => ⟨vs, h', by rw [ra.length]; exact List.getElem?_eq_none_iff.mp hd⟩⟩
  obtain ⟨v, hv, rp⟩ := ra'.get' hd
  refine ⟨⟨vs, v, h', hv⟩, fun x H' y => ?_⟩
  obtain ⟨e, y⟩ := y
  subst e
  have := y vs h'
  rw [hv] at this
  cases this
  exact ⟨Same.refl _, rp⟩
/-- a locked name's list -/
theorem jok_lck {K : PySem.W.Frag} {a : Addr} {ds : List PyData} {H0 : Hp} {r0 : Nms} {σ0 : L2.St} {n : Nat} (h : r0[n]? = some (.lck (.lst ds))) (hσ : σ0[n]? = some (some (.ref a))) : JOk K (Itl K a) ds H0 r0 σ0 := by
  intro H O r σ fx E kp lk i
  obtain ⟨v, e1, p, e2, ⟨vs, hp, ra⟩, op⟩ := E.ok n _ (kp n _ h)
  rw [lk n _ h, hσ] at e1
  cases e1; cases e2
  refine ⟨fun d hd => ?_, fun hd => ⟨vs, SqL.of hp, by rw [ra.length]; exact List.getElem?_eq_none_iff.mp hd⟩⟩
  obtain ⟨v, hv, rp⟩ := ra.get' hd
  refine ⟨⟨vs, v, SqL.of hp, hv⟩, fun x H' y => ?_⟩
  obtain ⟨e, y⟩ := y
  subst e
  have := y vs (SqL.of hp)
  rw [hv] at this
  cases this
  exact ⟨Same.refl _, rp⟩
/-- the walk over a list or a tuple, whatever it is -/
def iLT (K : PySem.W.Frag) (tl : TE) : TI := fun σ H R => tl σ H fun x H1 => ∃ a, x = .ref a ∧ ((∃ xs, SqL K H1 a xs ∧ (xs.length ≤ sizeLine → R (Itl K a) H1)) ∨ (∃ xs, SqT K H1 a xs ∧ (xs.length ≤ sizeLine → R (Itt K a) H1)))
theorem pi_lt {l : Expr} {tl : TE} (hl : PE X l tl) : PI X tg l (iLT X.K tl) := by
  refine ⟨fun pins s σ H R I h => ?_⟩
  refine thn (hl.run pins s σ H _ I h) fun v s1 ⟨x, H1, I1, r1, q1⟩ => ?_
  obtain ⟨a, e, q⟩ := q1
  subst e
  cases r1
  rcases q with ⟨xs, hq, q⟩ | ⟨xs, hq, q⟩
  · obtain ⟨its, rv, p, hz⟩ := I1.list hq
    refine wpAny_pyIter_list p.isList ?_
    refine ⟨s1.heap.objs.size, [s1.heap.objs.size], _, _, H1, rfl, I1.kept (t' := s1.toks) fun b o e => Heap.get?_push_of_some _ e, turn_list a _, ⟨_, Heap.get?_push_size _ rfl, rfl, rfl⟩, fun b hb => ?_, q hz⟩
    have e : b = s1.heap.objs.size := by simpa using hb
    subst e
    exact I1.fpOk (Nat.le_refl _) (I1.hok.fresh (Nat.le_refl _))
  · obtain ⟨its, rv, p, hz⟩ := I1.tuple hq
    refine wpAny_pyIter_tuple (show s1.heap.IsTuple a its.toArray from p) ?_
    refine ⟨s1.heap.objs.size, [s1.heap.objs.size], _, _, H1, rfl, I1.kept (t' := s1.toks) fun b o e => Heap.get?_push_of_some _ e, turn_tuple a _, ⟨_, Heap.get?_push_size _ rfl, rfl, rfl⟩, fun b hb => ?_, q hz⟩
    have e : b = s1.heap.objs.size := by simpa using hb
    subst e
    exact I1.fpOk (Nat.le_refl _) (I1.hok.fresh (Nat.le_refl _))
theorem seq_jok {K : PySem.W.Frag} {H : Hp} {r : Nms} {σ : L2.St} {v : V} {d : PyData} {ds : List PyData} {Q : It → Hp → Prop} (rp : Rp K H v d) (hd : seqOf d = some ds) (k : ∀ J, ds.length ≤ sizeLine → JOk K J ds H r σ → Q J H) :
    ∃ a, v = .ref a ∧ ((∃ xs, SqL K H a xs ∧ (xs.length ≤ sizeLine → Q (Itl K a) H)) ∨ (∃ xs, SqT K H a xs ∧ (xs.length ≤ sizeLine → Q (Itt K a) H))) := by
  cases rp with
  | non => cases hd
  | bl b => cases hd
  | int i => cases hd
  | str x => cases hd
  | @lst a vs _ h1 h2 =>
    cases hd
    exact ⟨a, rfl, .inl ⟨vs, h1.sq, fun hz => k _ (by rw [← h2.length]; exact hz) (jok_list' h1 h2)⟩⟩
  | @tup a vs _ h1 h2 =>
    cases hd
    exact ⟨a, rfl, .inr ⟨vs, h1, fun hz => k _ (by rw [← h2.length]; exact hz) (jok_tup h1 h2)⟩⟩
theorem ix_seq {e : Expr} {f : Den} (he : Ex X e f) : Ix X tg e (iSeq f) := by
  refine ⟨fun pins s σ H Q I hw => (pi_lt (ex_stl he)).run pins s σ H Q I ?_⟩
  obtain ⟨O, r, ds, r', u, E, hf, k⟩ := hw
  unfold iSeq at hf
  obtain ⟨⟨y, r1⟩, q1, hf⟩ := Option.bind_eq_some_iff.mp hf
  cases y with
  | tmp c => cases hf
  | val d =>
    obtain ⟨ds', q2, e⟩ := Option.map_eq_some_iff.mp hf
    cases e
    exact ⟨O, r, .val d, r', E, q1, fun H1 O1 v st1 E1 kp1 ro1 => seq_jok ro1 q2 fun J hz jk => k H1 O1 J st1 E1 kp1 hz (fun _ z => nomatch z) jk⟩
  | slot i =>
    have hf : (match r1[i]? with
      | some (.own (.lst ds)) => some (ds, r1.set i (.lck (.lst ds)), some i)
      | some (.lck (.lst ds)) => some (ds, r1, none)
      | some (.fz d) => (seqOf d).map fun ds => (ds, r1, none)
      | _ => none) = some (ds, r', u) := hf
    split at hf
    · rename_i ds' qi
      cases hf
      refine ⟨O, r, .slot i, r1, E, q1, fun H1 O1 v st1 E1 kp1 ro1 => ?_⟩
      have hv : σ[i]? = some (some v) := ro1
      obtain ⟨v', e1, p, e2, ⟨vs, hp, ra⟩, op⟩ := E1.ok i _ qi
      rw [hv] at e1; cases e1; cases e2
      have hl : i < r1.length := (List.getElem?_eq_some_iff.mp qi).1
      refine ⟨p, rfl, .inl ⟨vs, SqL.of hp, fun hz => k H1 O1 _ st1 (E1.swap qi rfl rfl) (kp1.trans (Keep.set fun c z => by rw [qi] at z; cases z)) (by rw [← ra.length]; exact hz) (fun j z c h => ?_) (jok_lck (List.getElem?_set_self hl) hv)⟩⟩
      cases z
      have := kp1 i c h
      rw [qi] at this
      cases this
    · rename_i ds' qi
      cases hf
      refine ⟨O, r, .slot i, r', E, q1, fun H1 O1 v st1 E1 kp1 ro1 => ?_⟩
      have hv : σ[i]? = some (some v) := ro1
      obtain ⟨v', e1, p, e2, ⟨vs, hp, ra⟩, op⟩ := E1.ok i _ qi
      rw [hv] at e1; cases e1; cases e2
      exact ⟨p, rfl, .inl ⟨vs, SqL.of hp, fun hz => k H1 O1 _ st1 E1 kp1 (by rw [← ra.length]; exact hz) (fun _ z => nomatch z) (jok_lck qi hv)⟩⟩
    · rename_i d qi
      obtain ⟨ds', q2, e⟩ := Option.map_eq_some_iff.mp hf
      cases e
      refine ⟨O, r, .slot i, r', E, q1, fun H1 O1 v st1 E1 kp1 ro1 => ?_⟩
      have hv : σ[i]? = some (some v) := ro1
      obtain ⟨v', e1, x, e2, rp⟩ := E1.ok i _ qi
      rw [hv] at e1; cases e1; cases e2
      exact seq_jok rp q2 fun J hz jk => k H1 O1 J st1 E1 kp1 hz (fun _ z => nomatch z) jk
    · cases hf
/-- range(n), range(a, b) -/
def rangeD (lo : Int) (n : Nat) : List PyData := (List.range n).map fun (k : Nat) => PyData.int (lo + (k : Int))
def iR1 (fs : Dens) : DenI := fun r => (fs r).bind fun (xs, r1) => (derefs r1 xs).bind fun ds => match ds with
  | [.int j] => if -(2 ^ 62) ≤ j ∧ j < 2 ^ 62 ∧ j.toNat ≤ sizeLine then some (rangeD 0 j.toNat, r1, none) else none
  | _ => none
def iR2 (fs : Dens) : DenI := fun r => (fs r).bind fun (xs, r1) => (derefs r1 xs).bind fun ds => match ds with
  | [.int i, .int j] => if (-(2 ^ 62) ≤ i ∧ i < 2 ^ 62 ∧ -(2 ^ 62) ≤ j ∧ j < 2 ^ 62) ∧ (j - i).toNat ≤ sizeLine then some (rangeD i (j - i).toNat, r1, none) else none
  | _ => none
theorem rangeD_get {lo : Int} {n i : Nat} : (rangeD lo n)[i]? = if i < n then some (PyData.int (lo + (i : Int))) else none := by
  unfold rangeD
  rw [List.getElem?_map]
  by_cases h : i < n
  · rw [if_pos h, List.getElem?_range h]; rfl
  · rw [if_neg h, List.getElem?_eq_none (by simpa using Nat.le_of_not_lt h)]; rfl
theorem rangeD_length {lo : Int} {n : Nat} : (rangeD lo n).length = n := by simp [rangeD]
theorem jok_range {K : PySem.W.Frag} {lo : Int} {n : Nat} {H0 : Hp} {r0 : Nms} {σ0 : L2.St} : JOk K (Itr lo n) (rangeD lo n) H0 r0 σ0 := by
  intro H O r σ fx E kp lk i
  rw [rangeD_get]
  by_cases h : i < n
  · rw [if_pos h]
    refine ⟨fun d hd => ⟨h, fun x H' y => ?_⟩, fun hd => nomatch hd⟩
    cases hd
    obtain ⟨e, y⟩ := y
    subst e; subst y
    exact ⟨Same.refl _, .int _⟩
  · rw [if_neg h]
    exact ⟨fun d hd => (nomatch hd), fun _ => Nat.le_of_not_lt h⟩
theorem ix_range1 {a : Expr} {fs : Dens} {p : Pos} (hg : Gl X "range") (hm : X.mg "range" = none) (ha : Exs X [a] fs) (hs : starEach [a] X.env = [(false, eval a X.env)] := by rfl) : Ix X tg (.Call (.Name "range" p) [a] [] pos) (iR1 fs) := by
  refine ⟨fun pins s σ H Q I hw => (pi_range1 hg hm ha hs).run pins s σ H Q I ?_⟩
  obtain ⟨O, r, ds, r', u, E, hf, k⟩ := hw
  unfold iR1 at hf
  obtain ⟨⟨xs, r1⟩, q1, hf⟩ := Option.bind_eq_some_iff.mp hf
  obtain ⟨es, q2, hf⟩ := Option.bind_eq_some_iff.mp hf
  split at hf
  · rename_i j
    split at hf
    · rename_i hb
      cases hf
      refine ⟨O, r, xs, r', E, q1, fun H1 O1 vs st1 E1 kp1 ro1 => ?_⟩
      have bp := ro1.derefs E1 q2
      cases bp with
      | cons b1 b2 =>
        cases b2
        refine ⟨j, by rw [b1.int], hb.1, hb.2.1, k H1 O1 _ st1 E1 kp1 (by rw [rangeD_length]; exact hb.2.2) (fun _ z => nomatch z) jok_range⟩
    · cases hf
  · cases hf
theorem ix_range2 {a b : Expr} {fs : Dens} {p : Pos} (hg : Gl X "range") (hm : X.mg "range" = none) (ha : Exs X [a, b] fs) (hs : starEach [a, b] X.env = [(false, eval a X.env), (false, eval b X.env)] := by rfl) (hs2 : starEach [b] X.env = [(false, eval b X.env)] := by rfl) : Ix X tg (.Call (.Name "range" p) [a, b] [] pos) (iR2 fs) := by
  refine ⟨fun pins s σ H Q I hw => (pi_range2 hg hm ha hs hs2).run pins s σ H Q I ?_⟩
  obtain ⟨O, r, ds, r', u, E, hf, k⟩ := hw
  unfold iR2 at hf
  obtain ⟨⟨xs, r1⟩, q1, hf⟩ := Option.bind_eq_some_iff.mp hf
  obtain ⟨es, q2, hf⟩ := Option.bind_eq_some_iff.mp hf
  split at hf
  · rename_i i j
    split at hf
    · rename_i hb
      cases hf
      refine ⟨O, r, xs, r', E, q1, fun H1 O1 vs st1 E1 kp1 ro1 => ?_⟩
      have bp := ro1.derefs E1 q2
      cases bp with
      | cons b1 b2 =>
        cases b2 with
        | cons b2 b3 =>
          cases b3
          exact ⟨i, j, by rw [b1.int, b2.int], hb.1, k H1 O1 _ st1 E1 kp1 (by rw [rangeD_length]; exact hb.2) (fun _ z => nomatch z) jok_range⟩
    · cases hf
  · cases hf
end
end KV

end

section
/-! KV, part 5: the operations. -/
namespace KV
open PySem PySem.Spec PyProof.Rows L2

mutual
theorem dp_plain {K : PySem.W.Frag} {H : Hp} : ∀ {v : V} {d : PyData}, Dp K H v d → d.plain = true
  | _, _, .non => rfl
  | _, _, .bl _ => rfl
  | _, _, .int _ => rfl
  | _, _, .str _ => rfl
  | _, _, .lst _ h => by rw [PyData.plain]; exact dpAll_plain h
  | _, _, .tup _ h => by rw [PyData.plain]; exact dpAll_plain h
theorem dpAll_plain {K : PySem.W.Frag} {H : Hp} : ∀ {vs : List V} {ds : List PyData}, DpAll K H vs ds → PyData.plainAll ds = true
  | _, _, .nil => rfl
  | _, _, .cons h t => by rw [PyData.plainAll, dp_plain h, dpAll_plain t]; rfl
end
theorem new_val {K : PySem.W.Frag} {H : Hp} {v : V} {d : PyData} (r : Rp K H v d) : NewR K H H v (.val d) := ⟨Same.refl _, r⟩
theorem new_int {K : PySem.W.Frag} {H : Hp} (i : Int) : NewR K H H (.int i) (.val (.int i)) := new_val (.int i)
theorem new_bl {K : PySem.W.Frag} {H : Hp} (i : Bool) : NewR K H H (.bl i) (.val (.bool i)) := new_val (.bl i)

section
variable {X : Cx}
/-! ### arithmetic -/
def opI (f : Int → Int → Option Int) : Op2 := fun x y => match x, y with
  | .int i, .int j => (f i j).map fun k => .val (.int k)
  | _, _ => none
theorem opI_inv {f : Int → Int → Option Int} {x y : PyData} {z : R} (h : opI f x y = some z) : ∃ i j k, x = .int i ∧ y = .int j ∧ f i j = some k ∧ z = .val (.int k) := by
  unfold opI at h
  split at h
  · obtain ⟨k, q, e⟩ := Option.map_eq_some_iff.mp h
    exact ⟨_, _, k, rfl, rfl, q, e.symm⟩
  · cases h
theorem opI_ok {o : Value → Value → Sem Value} {f : Int → Int → Option Int} {C : Int → Int → Prop} {g : Int → Int → Int} (h : OpR X o (rI C fun i j => .int (g i j))) (hf : ∀ i j k, f i j = some k → C i j ∧ k = g i j) : OpR X o (rD2 X.K (opI f)) := by
  intro pins s σ H x y v u Q I rx ry hw
  obtain ⟨dx, dy, z, bx, b, ho, k⟩ := hw
  obtain ⟨i, j, m, rfl, rfl, q, rfl⟩ := opI_inv ho
  obtain ⟨c, rfl⟩ := hf i j m q
  exact h pins s σ H x y v u Q I rx ry ⟨i, j, bx.int, b.int, c, k H _ (new_int _)⟩
theorem opI_ok0 {o : Value → Value → Sem Value} {g : Int → Int → Int} (h : OpR X o (rI0 fun i j => .int (g i j))) : OpR X o (rD2 X.K (opI fun i j => some (g i j))) := by
  intro pins s σ H x y v u Q I rx ry hw
  obtain ⟨dx, dy, z, bx, b, ho, k⟩ := hw
  obtain ⟨i, j, m, rfl, rfl, q, rfl⟩ := opI_inv ho
  cases q
  exact h pins s σ H x y v u Q I rx ry ⟨i, j, bx.int, b.int, k H _ (new_int _)⟩
def opSub : Op2 := opI fun i j => some (i - j)
def opMod : Op2 := opI fun i j => if j ≠ 0 then some (i.fmod j) else none
def opDiv : Op2 := opI fun i j => if j ≠ 0 ∧ j.natAbs < 1073741824 then some (i.fdiv j) else none
def opPow : Op2 := opI fun i j => if 0 ≤ j ∧ j ≤ 1000000 ∧ i.natAbs < 2 ^ 64 then some (i ^ j.toNat) else none
theorem o_sub : OpR X (binaryOp .Sub) (rD2 X.K opSub) := opI_ok0 op_sub
theorem o_mod : OpR X (binaryOp .Mod) (rD2 X.K opMod) := opI_ok op_modN fun i j k h => by
  split at h
  · rename_i c; cases h; exact ⟨c, rfl⟩
  · cases h
theorem o_div : OpR X (binaryOp .FloorDiv) (rD2 X.K opDiv) := opI_ok op_fdivN fun i j k h => by
  split at h
  · rename_i c; cases h; exact ⟨c, rfl⟩
  · cases h
theorem o_pow : OpR X (binaryOp .Pow) (rD2 X.K opPow) := opI_ok op_pow fun i j k h => by
  split at h
  · rename_i c; cases h; exact ⟨c, rfl⟩
  · cases h
def opAdd : Op2 := fun x y => match x, y with
  | .int i, .int j => some (.val (.int (i + j)))
  | .list xs, .list ys => if xs.length + ys.length ≤ sizeLine then some (.tmp (.lst (xs ++ ys))) else none
  | .tuple xs, .tuple ys => if xs.length + ys.length ≤ sizeLine then some (.val (.tuple (xs ++ ys))) else none
  | .str x, .str y => if x.length + y.length ≤ sizeLine then some (.val (.str (x ++ y))) else none
  | _, _ => none
theorem list_addS (l : Addr) (items : Array Value) (n : Nat) (b : Addr) (items2 : Array Value) (n2 : Nat) (sl sl2 : Array (Option Value)) (hc0 : items.size + items2.size ≤ sizeLine) :
    Meets (Builtin.«list.__add__» ⟨[.ref l, .ref b], []⟩) (fun _ R s => s.heap.get? l = some { cls := .type "list", dict := none, data := .seq items n, slots := sl } ∧ s.heap.get? b = some { cls := .type "list", dict := none, data := .seq items2 n2, slots := sl2 } ∧ R (.ok (.ret (Value.ref s.heap.objs.size))) { s with heap := s.heap.push { cls := Value.type "list", data := Data.seq (items ++ items2) } }) :=
  .of_wp fun prog w A R s h => by
    obtain ⟨hp, g, d, tk, os⟩ := s
    obtain ⟨hl, hb, h⟩ := h
    have f1 := AutoSeq1.idx_int
    have f2 := AutoSeq1.sub_tuple_tuple
    have f3 := AutoSeq1.sub_list_list
    have f4 := AutoSeq1.sub_tuple_list
    have f5 := AutoSeq1.sub_list_tuple
    wp_walk using AutoSeq1.wpAny_loadPart' hl, AutoSeq1.wpAny_loadPart' hb
    exact ⟨_, rfl, h⟩
theorem add_lists {pins : List (Addr × Obj)} {s : Shared} {σ : L2.St} {H : Hp} {a b : Addr} {xs ys : List V} {Q : VK} (I : Inv X pins σ H s) (ha : SqL X.K H a xs) (hb : SqL X.K H b ys) (hz : xs.length + ys.length ≤ sizeLine) (q : ∀ p, H p = none → Q (.ref p) (upd H p (.lst (xs ++ ys)))) :
    wpAny (model X.prog X.w) X.A (binaryOp .Add (.ref a) (.ref b)) (EP X pins σ Q) X.xe s := by
  obtain ⟨its, r, ⟨⟨c1, d1, dt1, sl1⟩, n, e, hc, hd, ht⟩, _⟩ := I.list ha
  obtain ⟨its2, r2, ⟨⟨c2, d2, dt2, sl2⟩, n2, e2, hc2, hd2, ht2⟩, _⟩ := I.list hb
  simp only at hc hd ht hc2 hd2 ht2
  subst hc hd ht hc2 hd2 ht2
  refine PySem.concat_meets ⟨_, e, rfl⟩ ⟨_, e2, rfl⟩ PySem.noFill_list_add PySem.seq_list_add PySem.F.slot_list_add PySem.F.entry_list_add (PySem.F.args_list_add_2 _ _) (list_addS a its.toArray n b its2.toArray n2 sl1 sl2 (by rw [List.size_toArray, List.size_toArray, ← r.length, ← r2.length]; exact hz)) ⟨e, e2, ?_⟩
  have ea : its.toArray ++ its2.toArray = (its ++ its2).toArray := by simp
  rw [ea]
  refine ⟨.ref _, _, I.laid (t' := s.toks) (o := .lst (xs ++ ys)) (fun b ob q => Heap.get?_push_of_some _ q) (Nat.le_refl _) ?_, rfl, q _ (I.hok.fresh (Nat.le_refl _))⟩
  exact ⟨by rw [List.length_append]; exact hz, _, 0, r.append r2, Heap.get?_push_size _ rfl⟩
theorem o_add : OpR X (binaryOp .Add) (rD2 X.K opAdd) := by
  intro pins s σ H x y v u Q I rx ry hw
  obtain ⟨dx, dy, z, bx, b, ho, k⟩ := hw
  unfold opAdd at ho
  split at ho
  · cases ho
    exact op_add pins s σ H x y v u Q I rx ry ⟨_, _, bx.int, b.int, k H _ (new_int _)⟩
  · split at ho
    · rename_i hz
      cases ho
      obtain ⟨a, vs, rfl, h1, r1⟩ := bx.list
      obtain ⟨c, ws, rfl, h2, r2⟩ := b.list
      cases rx
      cases ry
      exact add_lists I h1 h2 (by rw [r1.length, r2.length]; exact hz) fun p hp => k _ _ (new_lst hp (r1.append r2))
    · cases ho
  · split at ho
    · rename_i hz
      cases ho
      obtain ⟨a, vs, rfl, h1, r1⟩ := bx.tuple
      obtain ⟨c, ws, rfl, h2, r2⟩ := b.tuple
      refine op_catA pins s σ H _ _ v u Q I rx ry ⟨a, c, vs, ws, rfl, rfl, h1, h2, by rw [r1.length, r2.length]; exact hz, fun e => ?_, fun e1 e2 => ?_, fun e1 e2 p hp => k _ _ (new_tup hp (r1.append r2))⟩
      · subst e
        cases r1
        exact k _ _ (new_val (.tup h2 r2))
      · subst e2
        cases r2
        rw [List.append_nil] at k
        exact k _ _ (new_val (.tup h1 r1))
    · cases ho
  · split at ho
    · rename_i hz
      cases ho
      exact op_add_str pins s σ H x y v u Q I rx ry ⟨_, _, bx.str, b.str, hz, k H _ (new_val (.str _))⟩
    · cases ho
  · cases ho
def opMul : Op2 := fun x y => match x, y with
  | .int i, .int j => if (-(2 ^ 64) < i ∧ i < 2 ^ 64) ∨ (-(2 ^ 64) < j ∧ j < 2 ^ 64) then some (.val (.int (i * j))) else none
  | _, _ => none
theorem o_mul : OpR X (binaryOp .Mult) (rD2 X.K opMul) := by
  intro pins s σ H x y v u Q I rx ry hw
  obtain ⟨dx, dy, z, bx, b, ho, k⟩ := hw
  unfold opMul at ho
  split at ho
  · split at ho
    · rename_i hc
      cases ho
      exact op_mul pins s σ H x y v u Q I rx ry ⟨_, _, bx.int, b.int, hc, k H _ (new_int _)⟩
    · cases ho
  · cases ho
def opNeg : PyData → Option R := fun x => match x with
  | .int i => some (.val (.int (-i)))
  | _ => none
theorem o_neg : UnR X (unaryOp .USub) (rD1 X.K opNeg) := by
  intro pins s σ H x v Q I rx hw
  obtain ⟨d, z, bx, ho, k⟩ := hw
  unfold opNeg at ho
  split at ho
  · cases ho
    exact un_neg pins s σ H x v Q I rx ⟨_, bx.int, k H _ (new_int _)⟩
  · cases ho

/-! ### comparisons -/
def opC (f : Int → Int → Bool) : Op2 := fun x y => match x, y with
  | .int i, .int j => some (.val (.bool (f i j)))
  | _, _ => none
theorem opC_ok {o : Value → Value → Sem Value} {f : Int → Int → Bool} (h : OpR X o (rI0 fun i j => .bl (f i j))) : OpR X o (rD2 X.K (opC f)) := by
  intro pins s σ H x y v u Q I rx ry hw
  obtain ⟨dx, dy, z, bx, b, ho, k⟩ := hw
  unfold opC at ho
  split at ho
  · cases ho
    exact h pins s σ H x y v u Q I rx ry ⟨_, _, bx.int, b.int, k H _ (new_bl _)⟩
  · cases ho
abbrev opLt : Op2 := opC fun i j => decide (i < j)
abbrev opLe : Op2 := opC fun i j => decide (i ≤ j)
abbrev opGt : Op2 := opC fun i j => decide (j < i)
abbrev opGe : Op2 := opC fun i j => decide (j ≤ i)
theorem o_lt : OpR X (compareOp .Lt) (rD2 X.K opLt) := opC_ok op_lt
theorem o_le : OpR X (compareOp .LtE) (rD2 X.K opLe) := opC_ok op_le
theorem o_gt : OpR X (compareOp .Gt) (rD2 X.K opGt) := opC_ok op_gt
theorem o_ge : OpR X (compareOp .GtE) (rD2 X.K opGe) := opC_ok op_ge
/-- x is None, x is not None -/
def isNon : PyData → Bool
  | .none => true
  | _ => false
def opIsN : Op2 := fun x y => match y with
  | .none => some (.val (.bool (isNon x)))
  | _ => none
def opNotN : Op2 := fun x y => match y with
  | .none => some (.val (.bool (!isNon x)))
  | _ => none
theorem Bp.isN {K : PySem.W.Frag} {H : Hp} {v : V} {d : PyData} (h : Bp K H v d) : decide (v = .non) = isNon d := by
  cases h with
  | rp h => cases h <;> simp [isNon]
  | @ob p c h => cases c; simp [Ob.data, isNon]
theorem o_isN : OpR X (compareOp .Is) (rD2 X.K opIsN) := by
  intro pins s σ H x y v u Q I rx ry hw
  obtain ⟨dx, dy, z, bx, b, ho, k⟩ := hw
  unfold opIsN at ho
  split at ho
  · cases ho
    exact op_isN pins s σ H x y v u Q I rx ry ⟨b.non, by rw [bx.isN]; exact k H _ (new_bl _)⟩
  · cases ho
theorem o_notN : OpR X (compareOp .IsNot) (rD2 X.K opNotN) := by
  intro pins s σ H x y v u Q I rx ry hw
  obtain ⟨dx, dy, z, bx, b, ho, k⟩ := hw
  unfold opNotN at ho
  split at ho
  · cases ho
    exact op_notN pins s σ H x y v u Q I rx ry ⟨b.non, by rw [bx.isN]; exact k H _ (new_bl _)⟩
  · cases ho
/-- == of data -/
def opEq : Op2 := fun x y => if min x.depth y.depth ≤ 60 then some (.val (.bool (PyData.eqv x y))) else none
def opNe : Op2 := fun x y => if min x.depth y.depth ≤ 60 then some (.val (.bool (!PyData.eqv x y))) else none
theorem o_eq (hu : X.A.units + 64 < cLine) : OpR X (compareOp .Eq) (rD2 X.K opEq) := by
  intro pins s σ H x y v u Q I rx ry hw
  obtain ⟨dx, dy, z, bx, b, ho, k⟩ := hw
  unfold opEq at ho
  split at ho
  · rename_i hd
    cases ho
    obtain ⟨as, r1⟩ := Dp.reads I dx x v bx.dp rx
    obtain ⟨bs, r2⟩ := Dp.reads I dy y u b.dp ry
    exact SeqAt.eq_plain r1 r2 (dp_plain bx.dp) (dp_plain b.dp) (by omega) ⟨.bl _, H, I, rfl, k H _ (new_bl _)⟩
  · cases ho
theorem o_ne (hu : X.A.units + 64 < cLine) : OpR X (compareOp .NotEq) (rD2 X.K opNe) := by
  intro pins s σ H x y v u Q I rx ry hw
  obtain ⟨dx, dy, z, bx, b, ho, k⟩ := hw
  unfold opNe at ho
  split at ho
  · rename_i hd
    cases ho
    obtain ⟨as, r1⟩ := Dp.reads I dx x v bx.dp rx
    obtain ⟨bs, r2⟩ := Dp.reads I dy y u b.dp ry
    exact SeqAt.ne_plain r1 r2 (dp_plain bx.dp) (dp_plain b.dp) (by omega) ⟨.bl _, H, I, rfl, k H _ (new_bl _)⟩
  · cases ho
/-- x in c, x not in c -/
def opIn : Op2 := fun x c => (seqOf c).bind fun xs => if min (PyData.depthAll xs) x.depth ≤ 60 then some (.val (.bool (xs.any fun y => PyData.eqv y x))) else none
def opNotIn : Op2 := fun x c => (seqOf c).bind fun xs => if min (PyData.depthAll xs) x.depth ≤ 60 then some (.val (.bool (!xs.any fun y => PyData.eqv y x))) else none
theorem seqOf_some {d : PyData} {xs : List PyData} (h : seqOf d = some xs) : d = .list xs ∨ d = .tuple xs := by
  cases d with
  | list ys => cases h; exact .inl rfl
  | tuple ys => cases h; exact .inr rfl
  | _ => cases h
theorem o_in (hu : X.A.units + 64 < cLine) : OpR X (compareOp .In) (rD2 X.K opIn) := by
  intro pins s σ H x y v u Q I rx ry hw
  obtain ⟨dx, dy, z, bx, b, ho, k⟩ := hw
  obtain ⟨xs, hs, ho⟩ := Option.bind_eq_some_iff.mp ho
  split at ho
  · rename_i hd
    cases ho
    obtain ⟨as, r1⟩ := Dp.reads I dx x v bx.dp rx
    obtain ⟨bs, r2⟩ := Dp.reads I dy y u b.dp ry
    have pl := (dp_plain b.dp)
    rcases seqOf_some hs with e | e
    · subst e
      rw [PyData.plain] at pl
      exact SeqAt.in_list_data r2 r1 pl (dp_plain bx.dp) (by omega) ⟨.bl _, H, I, rfl, k H _ (new_bl _)⟩
    · subst e
      rw [PyData.plain] at pl
      exact SeqAt.in_tuple_data r2 r1 pl (dp_plain bx.dp) (by omega) ⟨.bl _, H, I, rfl, k H _ (new_bl _)⟩
  · cases ho
theorem o_notIn (hu : X.A.units + 64 < cLine) : OpR X (compareOp .NotIn) (rD2 X.K opNotIn) := by
  intro pins s σ H x y v u Q I rx ry hw
  obtain ⟨dx, dy, z, bx, b, ho, k⟩ := hw
  obtain ⟨xs, hs, ho⟩ := Option.bind_eq_some_iff.mp ho
  split at ho
  · rename_i hd
    cases ho
    obtain ⟨as, r1⟩ := Dp.reads I dx x v bx.dp rx
    obtain ⟨bs, r2⟩ := Dp.reads I dy y u b.dp ry
    have pl := (dp_plain b.dp)
    rcases seqOf_some hs with e | e
    · subst e
      rw [PyData.plain] at pl
      exact SeqAt.notIn_list_data r2 r1 pl (dp_plain bx.dp) (by omega) ⟨.bl _, H, I, rfl, k H _ (new_bl _)⟩
    · subst e
      rw [PyData.plain] at pl
      exact SeqAt.notIn_tuple_data r2 r1 pl (dp_plain bx.dp) (by omega) ⟨.bl _, H, I, rfl, k H _ (new_bl _)⟩
  · cases ho

/-! ### built-in functions -/
theorem BpAll.one {K : PySem.W.Frag} {H : Hp} {vs : List V} {d : PyData} (h : BpAll K H vs [d]) : ∃ v, vs = [v] ∧ Bp K H v d := by
  cases h with
  | cons a t => cases t; exact ⟨_, rfl, a⟩
theorem BpAll.two {K : PySem.W.Frag} {H : Hp} {vs : List V} {d e : PyData} (h : BpAll K H vs [d, e]) : ∃ v w, vs = [v, w] ∧ Bp K H v d ∧ Bp K H w e := by
  cases h with
  | cons a t => cases t with
    | cons b t => cases t; exact ⟨_, _, rfl, a, b⟩
def opLen : OpN := fun ds => match ds with
  | [.list xs] => some (.val (.int xs.length))
  | [.tuple xs] => some (.val (.int xs.length))
  | [.str x] => if x.length ≤ sizeLine then some (.val (.int x.length)) else none
  | _ => none
theorem c_len : CallR X (.builtin "len") (rDN X.K opLen) := by
  intro pins s σ H vs us Q I rv hw
  obtain ⟨ds, z, bs, ho, k⟩ := hw
  unfold opLen at ho
  split at ho
  · cases ho
    obtain ⟨v, rfl, b⟩ := bs.one
    obtain ⟨a, ws, rfl, h1, r1⟩ := b.list
    refine call_len_seq pins s σ H _ us Q I rv ⟨a, ws, rfl, .inl h1, ?_⟩
    rw [r1.length]
    exact k H _ (new_int _)
  · cases ho
    obtain ⟨v, rfl, b⟩ := bs.one
    obtain ⟨a, ws, rfl, h1, r1⟩ := b.tuple
    refine call_len_seq pins s σ H _ us Q I rv ⟨a, ws, rfl, .inr h1, ?_⟩
    rw [r1.length]
    exact k H _ (new_int _)
  · split at ho
    · rename_i hz
      cases ho
      obtain ⟨v, rfl, b⟩ := bs.one
      exact call_len_str pins s σ H _ us Q I rv ⟨_, by rw [b.str], hz, k H _ (new_int _)⟩
    · cases ho
  · cases ho
def opAbs : OpN := fun ds => match ds with
  | [.int i] => some (.val (.int (if i < 0 then -i else i)))
  | _ => none
theorem c_abs : CallR X (.builtin "abs") (rDN X.K opAbs) := by
  intro pins s σ H vs us Q I rv hw
  obtain ⟨ds, z, bs, ho, k⟩ := hw
  unfold opAbs at ho
  split at ho
  · cases ho
    obtain ⟨v, rfl, b⟩ := bs.one
    exact call_abs pins s σ H _ us Q I rv ⟨_, by rw [b.int], k H _ (new_int _)⟩
  · cases ho
def opInt : OpN := fun ds => match ds with
  | [.int i] => some (.val (.int i))
  | [.bool b] => some (.val (.int (if b then 1 else 0)))
  | _ => none
theorem c_int : CallR X (.type "int") (rDN X.K opInt) := by
  intro pins s σ H vs us Q I rv hw
  obtain ⟨ds, z, bs, ho, k⟩ := hw
  unfold opInt at ho
  split at ho
  · cases ho
    obtain ⟨v, rfl, b⟩ := bs.one
    exact call_int1 pins s σ H _ us Q I rv (.inl ⟨_, by rw [b.int], k H _ (new_int _)⟩)
  · cases ho
    obtain ⟨v, rfl, b⟩ := bs.one
    exact call_int1 pins s σ H _ us Q I rv (.inr ⟨_, by rw [b.bool], k H _ (new_int _)⟩)
  · cases ho
def boolsOf : List PyData → Option (List Bool)
  | [] => some []
  | .bool b :: r => (boolsOf r).map (b :: ·)
  | _ :: _ => none
theorem boolsOf_some : ∀ {ds : List PyData} {bs : List Bool}, boolsOf ds = some bs → ds = bs.map .bool
  | [], bs, h => by cases h; rfl
  | .bool b :: r, bs, h => by
    obtain ⟨cs, q, e⟩ := Option.map_eq_some_iff.mp h
    subst e
    rw [boolsOf_some q]; rfl
  | .none :: _, _, h => nomatch h
  | .int _ :: _, _, h => nomatch h
  | .str _ :: _, _, h => nomatch h
  | .list _ :: _, _, h => nomatch h
  | .tuple _ :: _, _, h => nomatch h
  | .dict _ :: _, _, h => nomatch h
theorem boolsOf_map (bs : List Bool) : boolsOf (bs.map .bool) = some bs := by
  induction bs with
  | nil => rfl
  | cons b r ih => show (boolsOf (r.map .bool)).map _ = _; rw [ih]; rfl
theorem RpAll.bools {K : PySem.W.Frag} {H : Hp} : ∀ {vs : List V} {bs : List Bool}, RpAll K H vs (bs.map .bool) → vs = bs.map V.bl
  | _, [], h => by cases h; rfl
  | _, b :: r, h => by
    cases h with
    | cons a t => cases a; rw [RpAll.bools t]; rfl
def opAll : OpN := fun ds => match ds with
  | [.list xs] => (boolsOf xs).map fun bs => .val (.bool (bs.all id))
  | _ => none
def opAny : OpN := fun ds => match ds with
  | [.list xs] => (boolsOf xs).map fun bs => .val (.bool (bs.any id))
  | _ => none
theorem c_all (hc : X.calm = true) : CallR X (.builtin "all") (rDN X.K opAll) := by
  intro pins s σ H vs us Q I rv hw
  obtain ⟨ds, z, bs, ho, k⟩ := hw
  unfold opAll at ho
  split at ho
  · obtain ⟨cs, q, e⟩ := Option.map_eq_some_iff.mp ho
    subst e
    obtain ⟨v, rfl, b⟩ := bs.one
    obtain ⟨a, ws, rfl, h1, r1⟩ := b.list
    rw [boolsOf_some q] at r1
    have := r1.bools
    subst this
    exact cr_all hc pins s σ H _ us Q I rv ⟨a, cs, rfl, h1, k H _ (new_bl _)⟩
  · cases ho
theorem c_any (hc : X.calm = true) : CallR X (.builtin "any") (rDN X.K opAny) := by
  intro pins s σ H vs us Q I rv hw
  obtain ⟨ds, z, bs, ho, k⟩ := hw
  unfold opAny at ho
  split at ho
  · obtain ⟨cs, q, e⟩ := Option.map_eq_some_iff.mp ho
    subst e
    obtain ⟨v, rfl, b⟩ := bs.one
    obtain ⟨a, ws, rfl, h1, r1⟩ := b.list
    rw [boolsOf_some q] at r1
    have := r1.bools
    subst this
    exact cr_any hc pins s σ H _ us Q I rv ⟨a, cs, rfl, h1, k H _ (new_bl _)⟩
  · cases ho
def opMin2 : OpN := fun ds => match ds with
  | [.int i, .int j] => some (.val (.int (if j < i then j else i)))
  | _ => none
def opMax2 : OpN := fun ds => match ds with
  | [.int i, .int j] => some (.val (.int (if j > i then j else i)))
  | _ => none
theorem c_min2 (hc : X.calm = true) : CallR X (.builtin "min") (rDN X.K opMin2) := by
  intro pins s σ H vs us Q I rv hw
  obtain ⟨ds, z, bs, ho, k⟩ := hw
  unfold opMin2 at ho
  split at ho
  · cases ho
    obtain ⟨v, w, rfl, b1, b2⟩ := bs.two
    exact call_min2 hc pins s σ H _ us Q I rv ⟨_, _, by rw [b1.int, b2.int], k H _ (new_int _)⟩
  · cases ho
theorem c_max2 (hc : X.calm = true) : CallR X (.builtin "max") (rDN X.K opMax2) := by
  intro pins s σ H vs us Q I rv hw
  obtain ⟨ds, z, bs, ho, k⟩ := hw
  unfold opMax2 at ho
  split at ho
  · cases ho
    obtain ⟨v, w, rfl, b1, b2⟩ := bs.two
    exact call_max2 hc pins s σ H _ us Q I rv ⟨_, _, by rw [b1.int, b2.int], k H _ (new_int _)⟩
  · cases ho
def opTuple : OpN := fun ds => match ds with
  | [.list xs] => some (.val (.tuple xs))
  | [.tuple xs] => some (.val (.tuple xs))
  | _ => none
def opList : OpN := fun ds => match ds with
  | [.list xs] => some (.tmp (.lst xs))
  | [.tuple xs] => some (.tmp (.lst xs))
  | _ => none
theorem c_tuple : CallR X (.type "tuple") (rDN X.K opTuple) := by
  intro pins s σ H vs us Q I rv hw
  obtain ⟨ds, z, bs, ho, k⟩ := hw
  unfold opTuple at ho
  split at ho
  · cases ho
    obtain ⟨v, rfl, b⟩ := bs.one
    obtain ⟨a, ws, rfl, h1, r1⟩ := b.list
    exact call_tuple_of pins s σ H _ us Q I rv ⟨a, ws, rfl, .inl ⟨h1, fun l hl => k _ _ (new_tup hl r1)⟩⟩
  · cases ho
    obtain ⟨v, rfl, b⟩ := bs.one
    obtain ⟨a, ws, rfl, h1, r1⟩ := b.tuple
    exact call_tuple_of pins s σ H _ us Q I rv ⟨a, ws, rfl, .inr ⟨h1, k _ _ (new_val (.tup h1 r1))⟩⟩
  · cases ho
theorem c_list : CallR X (.type "list") (rDN X.K opList) := by
  intro pins s σ H vs us Q I rv hw
  obtain ⟨ds, z, bs, ho, k⟩ := hw
  unfold opList at ho
  split at ho
  · cases ho
    obtain ⟨v, rfl, b⟩ := bs.one
    obtain ⟨a, ws, rfl, h1, r1⟩ := b.list
    exact call_list_of pins s σ H _ us Q I rv ⟨a, ws, rfl, .inl h1, fun l hl => k _ _ (new_lst hl r1)⟩
  · cases ho
    obtain ⟨v, rfl, b⟩ := bs.one
    obtain ⟨a, ws, rfl, h1, r1⟩ := b.tuple
    exact call_list_of pins s σ H _ us Q I rv ⟨a, ws, rfl, .inr h1, fun l hl => k _ _ (new_lst hl r1)⟩
  · cases ho

/-! ### places, slices -/
theorem RpAll.atI {K : PySem.W.Frag} {H : Hp} {vs : List V} {ds : List PyData} {i : Int} {d : PyData} (r : RpAll K H vs ds) (h : atI ds i = some d) : ∃ v, L2.atI vs i = some v ∧ Rp K H v d := by
  unfold L2.atI at h ⊢
  rw [r.length]
  obtain ⟨j, q, e⟩ := Option.bind_eq_some_iff.mp h
  obtain ⟨v, hv, rp⟩ := r.get' e
  exact ⟨v, by rw [q]; exact hv, rp⟩
def opIx : Op2 := fun x y => match y with
  | .int i => (seqOf x).bind fun xs => (atI xs i).map .val
  | _ => none
theorem i_ix : IxR X (rD2 X.K opIx) := by
  intro value slice pins s σ H x y v u Q I rx ry hw hs
  obtain ⟨dx, dy, z, bx, b, ho, k⟩ := hw
  unfold opIx at ho
  split at ho
  · obtain ⟨xs, hq, ho⟩ := Option.bind_eq_some_iff.mp ho
    obtain ⟨d, hd, e⟩ := Option.map_eq_some_iff.mp ho
    subst e
    rcases seqOf_some hq with e | e
    · subst e
      obtain ⟨a, ws, rfl, h1, r1⟩ := bx.list
      obtain ⟨w, hw, rp⟩ := r1.atI hd
      exact L2.ix_seq value slice pins s σ H _ y v u Q I rx ry (.inl ⟨a, ws, _, w, rfl, b.int, h1, hw, k _ _ (new_val rp)⟩) hs
    · subst e
      obtain ⟨a, ws, rfl, h1, r1⟩ := bx.tuple
      obtain ⟨w, hw, rp⟩ := r1.atI hd
      exact L2.ix_seq value slice pins s σ H _ y v u Q I rx ry (.inr (.inl ⟨a, ws, _, w, rfl, b.int, h1, hw, k _ _ (new_val rp)⟩)) hs
  · cases ho
variable {a b e : Expr} {f g : Den} {pos : Pos}
theorem ex_ix (ha : Ex X a f) (hb : Ex X b g) (hs : PlainIx b) : Ex X (.Subscript a b pos) (dBin f g opIx) :=
  ⟨fun pins s σ H Q I hw => (pe_ix i_ix (ex_stl ha) hb hs).run pins s σ H Q I (bin_read hw)⟩
end
end KV

end

section
/-! KV, part 6: defs (with nothing on the repr guard's pile) and their calls; what changes a list. -/
namespace KV
open PySem PySem.Spec PyProof.Rows L2

/-- a def's promise, where no repr is under way -/
structure FnG (P : Program) (w : World) (K : PySem.W.Frag) (mg : Str → Option Value) (base : Heap) (CX : CXT) (k : Nat) (f : Addr) (fd : FuncData) (ps : List Str) (sp : Sp) : Prop where
  len : ∀ vs H Q E, sp vs H Q E → vs.length = ps.length
  run : ∀ (A : Around) (outer : List Env) (s : Shared) (H : Hp) (args : Args) (us : List Value) (vs : List V) (Q : VK) (E : XK), A.guards = some [] → Room k A → Env0 P w K mg base A outer s H → BindsTo s fd args (ps.zip us) → Vals vs us → sp vs H Q E →
    codeAny (model P w) A (.call (.ref f) args) (CR CX outer P w H s Q E) s
theorem FnG.mono {P : Program} {w : World} {K : PySem.W.Frag} {mg : Str → Option Value} {base : Heap} {CX : CXT} {j k : Nat} {f : Addr} {fd : FuncData} {ps : List Str} {sp : Sp} (F : FnG P w K mg base CX j f fd ps sp) (h : j ≤ k) :
    FnG P w K mg base CX k f fd ps sp := ⟨F.len, fun A outer s H args us vs Q E hg hr => F.run A outer s H args us vs Q E hg (hr.mono h)⟩
theorem deeper_guards {A : Around} {qual : Str} {scope : Scope} {L f : Addr} {cd : Value} (h : A.guards = some []) : (A.deeper (envOfC qual scope L f cd)).guards = some [] := h

theorem fn_G {CX : CXT} {P : Program} {w : World} {K : PySem.W.Frag} {mg : Str → Option Value} {base : Heap} {k : Nat} {f : Addr} {name qual : Str} {params : Arguments} {body : List Stmt} {scope : Scope} {dV kV doc pm cdv ct oc : Value} {an od : Option Addr}
    {osl : Array (Option Value)} {N ps : List Str} {sp : Sp} (lk : K.lookup f = some ⟨oc, od, .func (PySem.W.fnOf name qual params body scope dV kV doc pm an cdv ct), osl⟩) (hcd : PySem.W.codeIn K cdv qual = true) (S : FnScope N ps scope)
    (len : ∀ vs H Q E, sp vs H Q E → vs.length = ps.length)
    (hbody : ∀ (A : Around) (outer : List Env) (s : Shared) (H : Hp) (vs : List V) (Q : VK) (E : XK), (A.deeper (envOfC qual scope s.heap.objs.size f cdv)).guards = some [] → Room k (A.deeper (envOfC qual scope s.heap.objs.size f cdv)) → sp vs H Q E →
      ∃ t, PSs (cxOf CX P w K mg base N qual scope f cdv A outer s H E) body t ∧ t { nx := fun _ H' => Q .non H', rt := Q } (L2.start N vs) H) :
    FnG P w K mg base CX (k + 1) f (PySem.W.fnOf name qual params body scope dV kV doc pm an cdv ct) ps sp := by
  refine ⟨len, fun A outer s H args us vs Q E hg hr e0 hb r hsp => ?_⟩
  have hl := len _ _ _ _ hsp
  have KX : K.In s.heap := e0.mod.kin.keeps fun b o e => (e0.bs b o e).1
  have lim : s.heap.NoLimit := e0.mod.nolimit.keeps fun b o e => (e0.bs b o e).1
  have hkind : ∀ y ∈ ps.zip us, scope.names.lookup y.1 = some .local ∨ (scope.names.lookup y.1 = some .cell ∧ ((cellsFrom (s.heap.objs.size + 1) scope.names []).lookup y.1).isSome = true) := fun ⟨n, v⟩ hy => by
    rcases S.par n (List.of_mem_zip hy).1 with q | q
    · exact .inl q
    · exact .inr ⟨q, PySem.W.cellsFrom_some _ _ _ (.inl q)⟩
  refine codeAny_call_function hr.depth (KX _ _ lk) rfl S.co S.gen rfl (PySem.W.codeRec_of KX hcd) (hb _ _ _ _ ?_)
  refine wpAny_newFunctionEnv_cells S.kind hkind fun env he s1 x => ?_
  subst he
  refine ⟨lim.keeps x.toInCall.keep, codeAny_func ?_⟩
  obtain ⟨t, ht, hq⟩ := hbody A outer s H vs Q E (deeper_guards hg) (hr.deeper _) hsp
  have I : Inv (cxOf CX P w K mg base N qual scope f cdv A outer s H E) [] (L2.start N vs) H s1 := inv_start S hr.hd e0 hl r x
  refine wpAny_mono (ht.run [] s1 (L2.start N vs) H _ I hq) (fun fl s' hs => ?_) fun e s' hs => hs
  have fin : ∀ {σ' : L2.St} {H' : Hp} {v : V} {u : Value}, Inv (cxOf CX P w K mg base N qual scope f cdv A outer s H E) [] σ' H' s' → L2.RelV v u → Q v H' → CE outer P w H s Q u s' :=
    fun {σ' H' v u} J rv q => ⟨v, H', J.os, J.bare, J.base, J.hok, rv, q⟩
  cases fl with
  | ret u =>
    obtain ⟨v, σ', H', J, rv, q⟩ := hs
    exact fin J rv q
  | next =>
    obtain ⟨σ', H', J, q⟩ := hs
    exact fin (v := V.non) (u := Value.none) J rfl q
  | brk =>
    obtain ⟨_, _, _, q⟩ := hs
    exact False.elim q
  | cont =>
    obtain ⟨_, _, _, q⟩ := hs
    exact False.elim q

section
variable {X : Cx} {CX : CXT} {k : Nat} {f : Addr} {fd : FuncData} {ps ks : List Str} {sp : Sp} {dvs : List V} {ds : List Value} {E : XK} {x : Str} {p pos : Pos} {e : Expr} {es : List Expr} {t tk : TA} {kws : List Keyword}
theorem run_fnG {pins : List (Addr × Obj)} {σ : L2.St} {H : Hp} {s : Shared} {Q : VK} {us : List Value} {vs : List V} (F : FnG X.prog X.w X.K X.mg X.base CX k f fd ps sp) (hg : X.A.guards = some []) (hr : Room k X.A) (hb : Binds X.K fd ps ds) (hd : Vals dvs ds) (hx : Passes CX X E)
    (I : Inv X pins σ H s) (r : Vals vs us) (h : sp (vs ++ dvs) H Q E) : wpAny (model X.prog X.w) X.A (call (.ref f) us) (EP X pins σ Q) X.xe s := by
  have r2 : Vals (vs ++ dvs) (us ++ ds) := r.append hd
  have hl : (us ++ ds).length = ps.length := by rw [← r2.length]; exact F.len _ _ _ _ h
  refine wpAny_call (codeAny_mono (F.run X.A X.stack s H ⟨us, []⟩ (us ++ ds) (vs ++ dvs) Q E hg hr I.env0 (hb s us I.kIn hl) r2 h) fun r s' hq => ?_)
  cases r with
  | error e => exact hx pins σ H s e s' I hq
  | ok fl =>
    cases fl with
    | ret u => exact I.after hq
    | next => exact False.elim hq
    | brk => exact False.elim hq
    | cont => exact False.elim hq
theorem pe_callG (F : FnG X.prog X.w X.K X.mg X.base CX k f fd ps sp) (hgd : X.A.guards = some []) (hr : Room k X.A) (hg : Gl X x) (hm : X.mg x = some (.ref f)) (hk : PySem.W.keepIn X.K (.ref f) = true) (hb : Binds X.K fd ps ds) (hd : Vals dvs ds) (hx : Passes CX X E)
    (ha : PA X (e :: es) t) (hdb : (x == ("__debug__" : Str)) = false := by decide) (he : starEach (e :: es) X.env = (false, eval e X.env) :: starEach es X.env := by rfl) (hpl : (backTo pos (starEach es X.env)).any (·.1) = false := by rfl) :
    PE X (.Call (.Name x p) (e :: es) [] pos) (tCall sp dvs E t) := by
  refine ⟨fun pins s σ H Q I h => ?_⟩
  refine wpAny_Call_Name_kw (ld_glob I hg hm ?_ hdb)
  refine PySem.W.callWith_K (h₀ := X.base) I.ok.mod.kin hk (thn (ha.run pos pins s σ H _ I h) fun us s1 ⟨vs, H1, I1, r, q⟩ => ⟨I1.kIn, ?_⟩) he hpl
  exact run_fnG F hgd hr hb hd hx I1 r q
variable {g : List Value → List Value → List Value} {gV : List V → List V → List V}
theorem run_fnkG {pins : List (Addr × Obj)} {σ : L2.St} {H : Hp} {s : Shared} {Q : VK} {us ws : List Value} {vs zs : List V} (F : FnG X.prog X.w X.K X.mg X.base CX k f fd ps sp) (hgd : X.A.guards = some []) (hr : Room k X.A) (hb : KBinds X.K fd ps ks g gV) (hx : Passes CX X E)
    (I : Inv X pins σ H s) (r : Vals vs us) (rz : Vals zs ws) (h : sp (gV vs zs) H Q E) : wpAny (model X.prog X.w) X.A (call (.ref f) us (ks.zip ws)) (EP X pins σ Q) X.xe s := by
  have r2 := hb.rel r rz
  have hl : (g us ws).length = ps.length := by rw [← r2.length]; exact F.len _ _ _ _ h
  refine wpAny_call (codeAny_mono (F.run X.A X.stack s H ⟨us, ks.zip ws⟩ (g us ws) (gV vs zs) Q E hgd hr I.env0 (hb.to s us ws I.kIn hl) r2 h) fun r s' hq => ?_)
  cases r with
  | error e => exact hx pins σ H s e s' I hq
  | ok fl =>
    cases fl with
    | ret u => exact I.after hq
    | next => exact False.elim hq
    | brk => exact False.elim hq
    | cont => exact False.elim hq
/-- f(k = v, ..) -/
theorem pe_callK0 (F : FnG X.prog X.w X.K X.mg X.base CX k f fd ps sp) (hgd : X.A.guards = some []) (hr : Room k X.A) (hg : Gl X x) (hm : X.mg x = some (.ref f)) (hk : PySem.W.keepIn X.K (.ref f) = true) (hb : KBinds X.K fd ps ks g gV) (hx : Passes CX X E)
    (hkw : PK X kws tk) (hall : (backToKw pos (keywordEach kws X.env)).all (·.1.isSome) = true := by rfl) (hks : (backToKw pos (keywordEach kws X.env)).filterMap (·.1) = ks := by rfl)
    (hdb : (x == ("__debug__" : Str)) = false := by decide) (hpl : ((backTo pos (starEach [] X.env)).any (·.1) || (backToKw pos (keywordEach kws X.env)).any (·.1.isNone)) = false := by rfl) :
    PE X (.Call (.Name x p) [] kws pos) (fun σ H Q => tk σ H fun zs H2 => sp (gV [] zs) H2 Q E) := by
  refine ⟨fun pins s σ H Q I h => ?_⟩
  refine wpAny_Call_Name_kw (ld_glob I hg hm ?_ hdb)
  refine PySem.W.callWith_KW0 (h₀ := X.base) I.ok.mod.kin hk hall ?_ hpl
  refine thn (hkw.run pos pins s σ H _ I h) fun ws s2 ⟨zs, H2, I2, rz, q2⟩ => ⟨I2.kIn, ?_⟩
  rw [hks]
  exact run_fnkG F hgd hr hb hx I2 .nil rz q2
theorem pe_callKG (F : FnG X.prog X.w X.K X.mg X.base CX k f fd ps sp) (hgd : X.A.guards = some []) (hr : Room k X.A) (hg : Gl X x) (hm : X.mg x = some (.ref f)) (hk : PySem.W.keepIn X.K (.ref f) = true) (hb : KBinds X.K fd ps ks g gV) (hx : Passes CX X E)
    (ha : PA X (e :: es) t) (hkw : PK X kws tk) (hall : (backToKw pos (keywordEach kws X.env)).all (·.1.isSome) = true := by rfl) (hks : (backToKw pos (keywordEach kws X.env)).filterMap (·.1) = ks := by rfl)
    (hdb : (x == ("__debug__" : Str)) = false := by decide) (he : starEach (e :: es) X.env = (false, eval e X.env) :: starEach es X.env := by rfl)
    (hpl : ((backTo pos (starEach (e :: es) X.env)).any (·.1) || (backToKw pos (keywordEach kws X.env)).any (·.1.isNone)) = false := by rfl) :
    PE X (.Call (.Name x p) (e :: es) kws pos) (tCallK sp gV E t tk) := by
  refine ⟨fun pins s σ H Q I h => ?_⟩
  refine wpAny_Call_Name_kw (ld_glob I hg hm ?_ hdb)
  refine PySem.W.callWith_KW (h₀ := X.base) I.ok.mod.kin hk hall (thn (ha.run pos pins s σ H _ I h) fun us s1 ⟨vs, H1, I1, r, q⟩ => ?_) hpl he
  refine thn (hkw.run pos pins s1 σ H1 _ I1 q) fun ws s2 ⟨zs, H2, I2, rz, q2⟩ => ⟨I2.kIn, ?_⟩
  rw [hks]
  exact run_fnkG F hgd hr hb hx I2 r rz q2
end

/-! ### pure defs -/
abbrev FnP (P : Program) (w : World) (K : PySem.W.Frag) (mg : Str → Option Value) (base : Heap) (k : Nat) (f : Addr) (fd : FuncData) (ps : List Str) (F : List PyData → Option R) : Prop := FnG P w K mg base CX0 k f fd ps (spP K ps.length F)
def NewB (K : PySem.W.Frag) (H H' : Hp) (w : V) : R → Prop
  | .val d => Rp K H' w d
  | .tmp e => ∃ q, w = .ref q ∧ H q = none ∧ ObOk K H' q e
  | .slot _ => False
/-- a def whose first argument is a list of its caller's (the draws' box), which it changes -/
def spB (K : PySem.W.Frag) (n : Nat) (G : Ob → List PyData → Option (R × Ob)) : Sp := fun vs H Q _ => ∃ p c vs' ds z c', vs = .ref p :: vs' ∧ ObOk K H p c ∧ RpAll K H vs' ds ∧ ds.length + 1 = n ∧ G c ds = some (z, c') ∧
  ∀ H' w, (∀ b o, b ≠ p → H b = some o → H' b = some o) → ObOk K H' p c' → NewB K H H' w z → Q w H'
abbrev FnB (P : Program) (w : World) (K : PySem.W.Frag) (mg : Str → Option Value) (base : Heap) (k : Nat) (f : Addr) (fd : FuncData) (ps : List Str) (G : Ob → List PyData → Option (R × Ob)) : Prop := FnG P w K mg base CX0 k f fd ps (spB K ps.length G)
def runB (N : Nat) (f : DenS) (c : Ob) (ds : List PyData) : Option (R × Ob) := ((f (env0 N (.own c :: ds.map .fz))).bind ret).bind fun y => match y.2[0]? with
  | some (Sl.own c') => some (y.1, c')
  | _ => none
section
variable {P : Program} {w : World} {K : PySem.W.Frag} {mg : Str → Option Value} {base : Heap}
theorem ret_noslot {o : Out} {r' : Nms} {i : Nat} (q3 : ret o = some (.slot i, r')) : False := by
  cases o with
  | nx r1 => cases q3
  | bk r1 => cases q3
  | ct r1 => cases q3
  | rt x r1 =>
    cases x with
    | val d => cases q3
    | tmp c => cases q3
    | slot i =>
      have q3 : (match r1[i]? with
        | some (.own c) => some (R.tmp c, r1.set i .un)
        | some (.fz d) => some (R.val d, r1)
        | _ => none) = some _ := q3
      split at q3 <;> cases q3
theorem fnP_of {x qual : Str} {st : Stmt} {f : Addr} {fd : FuncData} {N ps : List Str} {k : Nat} {F : List PyData → Option R} (hF : Fun K x qual st f fd) (S : FnScope N ps (defScope st))
    (hbody : ∀ (cdv : Value) (A : Around) (outer : List Env) (s : Shared) (H : Hp), (A.deeper (envOfC qual (defScope st) s.heap.objs.size f cdv)).guards = some [] → Room k (A.deeper (envOfC qual (defScope st) s.heap.objs.size f cdv)) →
      ∃ g, Bx false (cxOf CX0 P w K mg base N qual (defScope st) f cdv A outer s H E0).nox (defBody st) g ∧ ∀ ds z, F ds = some z → runP N.length g ds = some z) : FnP P w K mg base (k + 1) f fd ps F := by
  obtain ⟨oc, od, kV, doc, pm, an, cdv, ct, osl, rfl, lk, hcd⟩ := hF.ex
  refine fn_G lk hcd S (fun vs H Q E h => ?_) (fun A outer s H vs Q E hgd hr h => ?_)
  · obtain ⟨ds, z, ra, hl, _⟩ := h
    rw [ra.length, hl]
  · obtain ⟨g, hg, hz⟩ := hbody cdv A outer s H hgd hr
    obtain ⟨ds, z, ra, hl, hF, k⟩ := h
    refine ⟨_, hg.nox, ?_⟩
    have q := hz ds z hF
    unfold runP at q
    obtain ⟨⟨z', r'⟩, q1, e⟩ := Option.map_eq_some_iff.mp q
    cases e
    obtain ⟨o, q2, q3⟩ := Option.bind_eq_some_iff.mp q1
    refine ⟨fun _ => False, _, o, ra.env0, q2, ret_read q3 fun H' O' σ' v st1 E1 _ ro => k H' v ?_⟩
    have sm : Same H H' := fun b o e => st1.keep b o e fun z => z
    cases z' with
    | val d => exact ⟨sm, ro⟩
    | tmp c =>
      obtain ⟨p, rfl, ob, op, _⟩ := ro
      exact ⟨sm, p, rfl, (st1.own p op).elim (fun z => z.elim) id, ob⟩
    | slot i => exact (ret_noslot q3).elim
theorem fnB_of {x qual : Str} {st : Stmt} {f : Addr} {fd : FuncData} {N ps : List Str} {k : Nat} {G : Ob → List PyData → Option (R × Ob)} (hF : Fun K x qual st f fd) (S : FnScope N ps (defScope st))
    (hbody : ∀ (cdv : Value) (A : Around) (outer : List Env) (s : Shared) (H : Hp), (A.deeper (envOfC qual (defScope st) s.heap.objs.size f cdv)).guards = some [] → Room k (A.deeper (envOfC qual (defScope st) s.heap.objs.size f cdv)) →
      ∃ g, Bx true (cxOf CX0 P w K mg base N qual (defScope st) f cdv A outer s H E0).nox (defBody st) g ∧ ∀ c ds z, G c ds = some z → runB N.length g c ds = some z) : FnB P w K mg base (k + 1) f fd ps G := by
  obtain ⟨oc, od, kV, doc, pm, an, cdv, ct, osl, rfl, lk, hcd⟩ := hF.ex
  refine fn_G lk hcd S (fun vs H Q E h => ?_) (fun A outer s H vs Q E hgd hr h => ?_)
  · obtain ⟨p, c, vs', ds, z, c', rfl, ob, ra, hl, _⟩ := h
    rw [List.length_cons, ra.length, hl]
  · obtain ⟨g, hg, hz⟩ := hbody cdv A outer s H hgd hr
    obtain ⟨p, c, vs', ds, z, c', rfl, ob, ra, hl, hG, k⟩ := h
    refine ⟨_, hg.nox, ?_⟩
    have q := hz c ds _ hG
    unfold runB at q
    obtain ⟨⟨z', r'⟩, q1, q4⟩ := Option.bind_eq_some_iff.mp q
    obtain ⟨o, q2, q3⟩ := Option.bind_eq_some_iff.mp q1
    have q4 : (match r'[0]? with
      | some (Sl.own c') => some (z', c')
      | _ => none) = some (z, c') := q4
    split at q4
    · rename_i c'' q5
      cases q4
      have E0' : EnvOk K H (fun b => b = p) (env0 N.length (.own c :: ds.map .fz)) (L2.start N (.ref p :: vs')) := by
        refine env0_ok (by rw [List.length_cons, List.length_cons, List.length_map, ra.length]) (fun i v s h1 h2 => ?_) (fun i j s t c1 e1 p1 h1 h2 h3 h4 h5 h6 => ?_) (fun b z => by rw [z]; exact ob.mut)
        · cases i with
          | zero => cases h1; cases h2; exact ⟨p, rfl, ob, rfl⟩
          | succ i =>
            rw [List.getElem?_cons_succ] at h1 h2
            obtain ⟨d, e, rp⟩ := ra.get h1
            rw [List.getElem?_map, e] at h2
            cases h2
            exact ⟨v, rfl, rp⟩
        · have no : ∀ (i : Nat) (s : Sl) (c1 : Ob), (Sl.own c :: ds.map Sl.fz)[i]? = some s → s.ob = some c1 → i = 0 := fun i s c1 h1 h3 => by
            cases i with
            | zero => rfl
            | succ i =>
              rw [List.getElem?_cons_succ, List.getElem?_map] at h1
              cases e : ds[i]? with
              | none => rw [e] at h1; cases h1
              | some d => rw [e] at h1; cases h1; cases h3
          rw [no i s c1 h1 h3, no j t e1 h2 h4]
      refine ⟨fun b => b = p, _, o, E0', q2, ret_read q3 fun H' O' σ' v st1 E1 kp ro => ?_⟩
      -- the box is at its place
      have hσ0 : σ'[0]? = some (some (.ref p)) := by rw [kp.first rfl]; rfl
      obtain ⟨v0, e1, p0, e2, ob', op'⟩ := E1.ok 0 _ q5
      rw [hσ0] at e1; cases e1; cases e2
      refine k H' v (fun b o hb e => st1.keep b o e hb) ob' ?_
      cases z with
      | val d => exact ro
      | tmp c1 =>
        obtain ⟨p1, rfl, ob1, op1, hn⟩ := ro
        refine ⟨p1, rfl, ?_, ob1⟩
        rcases st1.own p1 op1 with z | z
        · exact absurd (show σ'[0]? = some (some (.ref p1)) by rw [z]; exact hσ0) (hn 0 _ _ q5 rfl)
        · exact z
      | slot i => exact (ret_noslot q3).elim
    · cases q4
end

/-! ### calls of defs -/
section
variable {X : Cx} {k : Nat} {f : Addr} {fd : FuncData} {ps : List Str} {x : Str} {p pos : Pos} {e : Expr} {es : List Expr}
def dCall (F : List PyData → Option R) (fs : Denv) : Den := fun r => (fs r).bind fun (ds, r1) => (F ds).bind fun z => some (z, r1)
theorem call_read {K : PySem.W.Frag} {F : List PyData → Option R} {fs : Denv} {n : Nat} {σ : L2.St} {H : Hp} {Q : VK} (hl : ∀ r ds r', fs r = some (ds, r') → ds.length = n) (hw : tX K (dCall F fs) σ H Q) : tXv K fs σ H fun vs H1 => spP K n F vs H1 Q E0 := by
  obtain ⟨O, r, z, r', E, hf, k⟩ := hw
  unfold dCall at hf
  obtain ⟨⟨ds, r1⟩, q1, hf⟩ := Option.bind_eq_some_iff.mp hf
  obtain ⟨z', q2, hf⟩ := Option.bind_eq_some_iff.mp hf
  cases hf
  exact ⟨O, r, ds, r', E, q1, fun H1 O1 vs st1 E1 kp1 ra => ⟨ds, z, ra, hl _ _ _ q1, q2, fun H2 w n => by
    obtain ⟨O3, st3, E3, ro3⟩ := n.done E1
    exact k H2 O3 w (st1.trans st3) E3 kp1 ro3⟩⟩
theorem vNil_len (r : Nms) (ds : List PyData) (r' : Nms) (h : vNil r = some (ds, r')) : ds.length = 0 := by cases h; rfl
theorem vCons_len {g : Den} {gs : Denv} {n : Nat} (hl : ∀ r ds r', gs r = some (ds, r') → ds.length = n) (r : Nms) (ds : List PyData) (r' : Nms) (h : vCons g gs r = some (ds, r')) : ds.length = n + 1 := by
  unfold vCons at h
  obtain ⟨⟨d, r1⟩, _, h⟩ := Option.bind_eq_some_iff.mp h
  obtain ⟨⟨es, r2⟩, q2, h⟩ := Option.bind_eq_some_iff.mp h
  cases h
  rw [List.length_cons, hl _ _ _ q2]
/-- f(e, ..) of a pure def -/
theorem ex_call {F : List PyData → Option R} {fs : Denv} (hF : FnP X.prog X.w X.K X.mg X.base k f fd ps F) (hgd : X.A.guards = some []) (hr : Room k X.A) (hm : X.mg x = some (.ref f)) (hk : PySem.W.keepIn X.K (.ref f) = true) (hb : Binds X.K fd ps [])
    (ha : Exv X (e :: es) fs) (hl : ∀ r ds r', fs r = some (ds, r') → ds.length = ps.length) (hg : Gl X x := by rfl) (hdb : (x == ("__debug__" : Str)) = false := by decide) (he : starEach (e :: es) X.env = (false, eval e X.env) :: starEach es X.env := by rfl) (hpl : (backTo pos (starEach es X.env)).any (·.1) = false := by rfl) :
    Ex X (.Call (.Name x p) (e :: es) [] pos) (dCall F fs) := by
  refine ⟨fun pins s σ H Q I hw => (pe_callG hF hgd hr hg hm hk hb .nil pass0 ha hdb he hpl).run pins s σ H Q I ?_⟩
  obtain ⟨O, r, ds, r', E, q, k⟩ := call_read hl hw
  exact ⟨O, r, ds, r', E, q, fun H1 O1 vs st1 E1 kp1 ra => by
    have := k H1 O1 vs st1 E1 kp1 ra
    show spP X.K ps.length F (vs ++ []) H1 Q E0
    rw [List.append_nil]
    exact this⟩
/-- keywords -/
abbrev Kxv (X : Cx) (kws : List Keyword) (f : Denv) : Prop := PK X kws (tXv X.K f)
theorem kxv_nil : Kxv X [] vNil := by
  refine ⟨fun pos pins s σ H Q I hw => ?_⟩
  obtain ⟨O, r, x, r', E, hf, k⟩ := hw
  cases hf
  exact pk_nil.run pos pins s σ H Q I (k H O [] (Stp.refl _ _) E (Keep.refl _) .nil)
theorem kxv_cons {g : Den} {gs : Denv} {nm : Option Str} {kpos : Pos} {kws : List Keyword} (ha : Ex X e g) (hr : Kxv X kws gs) : Kxv X (⟨nm, e, kpos⟩ :: kws) (vCons g gs) := by
  refine ⟨fun pos pins s σ H Q I hw => (pk_cons (ex_frz ha) hr).run pos pins s σ H Q I ?_⟩
  obtain ⟨O, r, x, r', E, hf, k⟩ := hw
  unfold vCons at hf
  obtain ⟨⟨y, r1⟩, q1, hf⟩ := Option.bind_eq_some_iff.mp hf
  obtain ⟨⟨ys, r2⟩, q2, hf⟩ := Option.bind_eq_some_iff.mp hf
  cases hf
  obtain ⟨w, q3, q4⟩ := Option.bind_eq_some_iff.mp q1
  have := vOf_some q4
  subst this
  exact ⟨O, r, .val y, r1, E, q3, fun H1 O1 v st1 E1 kp1 ro1 => ⟨O1, r1, ys, r', E1, q2, fun H2 O2 vs st2 E2 kp2 ro2 => k H2 O2 _ (st1.trans st2) E2 (kp1.trans kp2) (.cons (Rp.fx (E1.fxOf st2) ro1) ro2)⟩⟩
/-- the keywords' values in the parameters' order: is, the place of each parameter's value -/
def pick {α : Type} (is : List Nat) (xs : List α) : List α := is.filterMap fun i => xs[i]?
theorem RpAll.pick {K : PySem.W.Frag} {H : Hp} {vs : List V} {ds : List PyData} (r : RpAll K H vs ds) : ∀ is : List Nat, RpAll K H (pick is vs) (pick is ds)
  | [] => .nil
  | i :: is => by
    unfold KV.pick
    rw [List.filterMap_cons, List.filterMap_cons]
    cases e : vs[i]? with
    | none =>
      have : ds[i]? = none := by
        rw [List.getElem?_eq_none_iff] at e ⊢
        rw [← r.length]; exact e
      rw [this]
      exact RpAll.pick r is
    | some v =>
      obtain ⟨d, e2, rp⟩ := r.get e
      rw [e2]
      exact .cons rp (RpAll.pick r is)
theorem Vals.pick {vs : List V} {us : List Value} (r : Vals vs us) : ∀ is : List Nat, Vals (pick is vs) (pick is us)
  | [] => .nil
  | i :: is => by
    unfold KV.pick
    rw [List.filterMap_cons, List.filterMap_cons]
    cases e : vs[i]? with
    | none =>
      rw [r.none_of e]
      exact Vals.pick r is
    | some v =>
      obtain ⟨u, e2, rp⟩ := r.get e
      rw [e2]
      exact .cons rp (Vals.pick r is)
def pickK {α : Type} (is : List Nat) (m n : Nat) (us ws : List α) : List α := if us.length = m ∧ ws.length = n then pick is (us ++ ws) else []
theorem kb_of {K : PySem.W.Frag} {qual : Str} {params : Arguments} {body : List Stmt} {scope : Scope} {is : List Nat} {m n : Nat} {ks : List Str} (F : FunD K x qual params body scope [] [] f fd) (hp : ps ≠ [])
    (h : ∀ (kV doc pm : Value) (an : Option Addr) (cdv ct : Value) (us ws : List Value), us.length = m → ws.length = n → bindArgs (PySem.W.fnOf x qual params body scope .none kV doc pm an cdv ct) ⟨us, ks.zip ws⟩ = pure (ps.zip (pick is (us ++ ws)))) :
    KBinds K fd ps ks (pickK is m n) (pickK is m n) := by
  obtain ⟨oc, od, dV, kV, doc, pm, an, cdv, ct, osl, rfl, lk, hcd, hD, hK⟩ := F.ex
  rcases hD with ⟨_, rfl⟩ | ⟨e, _⟩
  · refine ⟨fun s us ws _ hl => ?_, fun {vs us zs ws} r1 r2 => ?_⟩
    · unfold pickK at hl ⊢
      by_cases c : us.length = m ∧ ws.length = n
      · rw [if_pos c]
        exact .of_eq (h kV doc pm an cdv ct us ws c.1 c.2)
      · rw [if_neg c] at hl
        exact absurd (List.eq_nil_of_length_eq_zero hl.symm) hp
    · unfold pickK
      rw [r1.length, r2.length]
      by_cases c : us.length = m ∧ ws.length = n
      · rw [if_pos c, if_pos c]
        exact Vals.pick (r1.append r2) is
      · rw [if_neg c, if_neg c]
        exact .nil
  · exact absurd rfl e
def dCallK (F : List PyData → Option R) (is : List Nat) (gs fs : Denv) : Den := fun r => (gs r).bind fun (cs, r1) => (fs r1).bind fun (ds, r2) => (F (pick is (cs ++ ds))).bind fun z => some (z, r2)
theorem callK_read {K : PySem.W.Frag} {F : List PyData → Option R} {gs fs : Denv} {is : List Nat} {m n l : Nat} {σ : L2.St} {H : Hp} {Q : VK} (hm : ∀ r ds r', gs r = some (ds, r') → ds.length = m) (hn : ∀ r ds r', fs r = some (ds, r') → ds.length = n)
    (hl : ∀ cs ds : List PyData, cs.length = m → ds.length = n → (pick is (cs ++ ds)).length = l) (hw : tX K (dCallK F is gs fs) σ H Q) : tXv K gs σ H fun vs H1 => tXv K fs σ H1 fun zs H2 => spP K l F (pickK is m n vs zs) H2 Q E0 := by
  obtain ⟨O, r, z, r', E, hf, k⟩ := hw
  unfold dCallK at hf
  obtain ⟨⟨cs, r1⟩, q1, hf⟩ := Option.bind_eq_some_iff.mp hf
  obtain ⟨⟨ds, r2⟩, q2, hf⟩ := Option.bind_eq_some_iff.mp hf
  obtain ⟨z', q3, hf⟩ := Option.bind_eq_some_iff.mp hf
  cases hf
  refine ⟨O, r, cs, r1, E, q1, fun H1 O1 vs st1 E1 kp1 ra => ⟨O1, r1, ds, r', E1, q2, fun H2 O2 zs st2 E2 kp2 rb => ?_⟩⟩
  have ra2 := ra.fx (E1.fxOf st2)
  show spP K l F (pickK is m n vs zs) H2 Q E0
  unfold pickK
  rw [if_pos ⟨ra.length.trans (hm _ _ _ q1), rb.length.trans (hn _ _ _ q2)⟩]
  exact ⟨_, z, (ra2.append rb).pick is, hl _ _ (hm _ _ _ q1) (hn _ _ _ q2), q3, fun H3 w n => by
    obtain ⟨O3, st3, E3, ro3⟩ := n.done E2
    exact k H3 O3 w (st1.trans (st2.trans st3)) E3 (kp1.trans kp2) ro3⟩
theorem ex_callK0 {F : List PyData → Option R} {fs : Denv} {is : List Nat} {n : Nat} {ks : List Str} {kws : List Keyword} (hF : FnP X.prog X.w X.K X.mg X.base k f fd ps F) (hgd : X.A.guards = some []) (hr : Room k X.A) (hm : X.mg x = some (.ref f)) (hk : PySem.W.keepIn X.K (.ref f) = true)
    (hb : KBinds X.K fd ps ks (pickK is 0 n) (pickK is 0 n)) (hkw : Kxv X kws fs) (hn : ∀ r ds r', fs r = some (ds, r') → ds.length = n) (hl : ∀ cs ds : List PyData, cs.length = 0 → ds.length = n → (pick is (cs ++ ds)).length = ps.length) (hg : Gl X x := by rfl)
    (hall : (backToKw pos (keywordEach kws X.env)).all (·.1.isSome) = true := by rfl) (hks : (backToKw pos (keywordEach kws X.env)).filterMap (·.1) = ks := by rfl)
    (hdb : (x == ("__debug__" : Str)) = false := by decide) (hpl : ((backTo pos (starEach [] X.env)).any (·.1) || (backToKw pos (keywordEach kws X.env)).any (·.1.isNone)) = false := by rfl) :
    Ex X (.Call (.Name x p) [] kws pos) (dCallK F is vNil fs) :=
  ⟨fun pins s σ H Q I hw => (pe_callK0 hF hgd hr hg hm hk hb pass0 hkw hall hks hdb hpl).run pins s σ H Q I (by
    obtain ⟨O, r, cs, r1, E, q1, h⟩ := callK_read vNil_len hn hl hw
    cases q1
    exact h H O [] (Stp.refl _ _) E (Keep.refl _) .nil)⟩
theorem ex_callKM {F : List PyData → Option R} {gs fs : Denv} {is : List Nat} {m n : Nat} {ks : List Str} {kws : List Keyword} (hF : FnP X.prog X.w X.K X.mg X.base k f fd ps F) (hgd : X.A.guards = some []) (hr : Room k X.A) (hm : X.mg x = some (.ref f)) (hk : PySem.W.keepIn X.K (.ref f) = true)
    (hb : KBinds X.K fd ps ks (pickK is m n) (pickK is m n)) (ha : Exv X (e :: es) gs) (hkw : Kxv X kws fs) (hm2 : ∀ r ds r', gs r = some (ds, r') → ds.length = m) (hn : ∀ r ds r', fs r = some (ds, r') → ds.length = n) (hl : ∀ cs ds : List PyData, cs.length = m → ds.length = n → (pick is (cs ++ ds)).length = ps.length) (hg : Gl X x := by rfl)
    (hall : (backToKw pos (keywordEach kws X.env)).all (·.1.isSome) = true := by rfl) (hks : (backToKw pos (keywordEach kws X.env)).filterMap (·.1) = ks := by rfl)
    (hdb : (x == ("__debug__" : Str)) = false := by decide) (he : starEach (e :: es) X.env = (false, eval e X.env) :: starEach es X.env := by rfl)
    (hpl : ((backTo pos (starEach (e :: es) X.env)).any (·.1) || (backToKw pos (keywordEach kws X.env)).any (·.1.isNone)) = false := by rfl) :
    Ex X (.Call (.Name x p) (e :: es) kws pos) (dCallK F is gs fs) :=
  ⟨fun pins s σ H Q I hw => (pe_callKG hF hgd hr hg hm hk hb pass0 ha hkw hall hks hdb he hpl).run pins s σ H Q I (callK_read hm2 hn hl hw)⟩

/-- f(box, e, ..): the box is a name's own list -/
def dCallB (G : Ob → List PyData → Option (R × Ob)) (i : Nat) (fs : Denv) : Den := fun r => match r[i]? with
  | some (.own _) => (fs r).bind fun (ds, r1) => match r1[i]? with
    | some (.own c) => (G c ds).bind fun (z, c') => some (z, r1.set i (.own c'))
    | _ => none
  | _ => none
theorem callB_done {K : PySem.W.Frag} {H H' : Hp} {O : Addr → Prop} {r : Nms} {σ : L2.St} {p : Addr} {i : Nat} {c c' : Ob} {w : V} {z : R} (E : EnvOk K H O r σ) (hi : r[i]? = some (.own c)) (hσ : σ[i]? = some (some (.ref p)))
    (hk : ∀ b o, b ≠ p → H b = some o → H' b = some o) (ob' : ObOk K H' p c') (hz : NewB K H H' w z) : ∃ O', Stp H O H' O' ∧ EnvOk K H' O' (r.set i (.own c')) σ ∧ ROk K H' O' (r.set i (.own c')) σ w z := by
  obtain ⟨v, e1, p0, e2, ob, op⟩ := E.ok i _ hi
  rw [hσ] at e1; cases e1; cases e2
  have hl : i < r.length := (List.getElem?_eq_some_iff.mp hi).1
  have mp := ob.mut
  have fx : Fx H H' := ⟨fun b o u e => hk b _ (fun z => by rw [z] at e; rw [e] at mp; exact mp) e, fun b xs e => hk b _ (fun z => by rw [z] at e; rw [e] at mp; exact mp) e⟩
  have st : Stp H O H' O := ⟨fun b o e n => hk b o (fun z => n (by rw [z]; exact op)) e, fun _ z => .inl z⟩
  have keep : ∀ q, O q → q ≠ p → H' q = H q := fun q o ne => by
    have := E.mt q o
    cases e : H q with
    | none => rw [e] at this; exact this.elim
    | some u => exact hk q u ne e
  have E' : EnvOk K H' O (r.set i (.own c')) σ := by
    refine ⟨by rw [List.length_set]; exact E.len, fun j t q => ?_, fun a b s t c1 e1 p1 h1 h2 h3 h4 h5 h6 => ?_, fun q o => ?_⟩
    · by_cases hj : i = j
      · subst hj
        rw [List.getElem?_set_self hl] at q
        cases q
        exact ⟨_, hσ, p, rfl, ob', op⟩
      · rw [List.getElem?_set_ne hj] at q
        obtain ⟨v, e1, z⟩ := E.ok j t q
        refine ⟨v, e1, ?_⟩
        have ne : ∀ c1 p1, t.ob = some c1 → v = some (.ref p1) → p1 ≠ p := fun c1 p1 h1 h2 h3 => hj (E.sep i j _ t c c1 p hi q rfl h1 hσ (by rw [e1, h2, h3]))
        cases t with
        | un => trivial
        | fz d => obtain ⟨x, e2, rp⟩ := z; exact ⟨x, e2, rp.fx fx⟩
        | own c1 => obtain ⟨p1, e2, ob1, o1⟩ := z; exact ⟨p1, e2, ob1.fx fx (keep p1 o1 (ne c1 p1 rfl e2)), o1⟩
        | lck c1 => obtain ⟨p1, e2, ob1, o1⟩ := z; exact ⟨p1, e2, ob1.fx fx (keep p1 o1 (ne c1 p1 rfl e2)), o1⟩
    · have back : ∀ (a : Nat) (s : Sl) (c1 : Ob), (r.set i (.own c'))[a]? = some s → s.ob = some c1 → ∃ s2 c2, r[a]? = some s2 ∧ s2.ob = some c2 := fun a s c1 h1 h3 => by
        by_cases ha : i = a
        · subst ha
          exact ⟨_, c, hi, rfl⟩
        · rw [List.getElem?_set_ne ha] at h1
          exact ⟨s, c1, h1, h3⟩
      obtain ⟨s2, c2, q1, q2⟩ := back a s c1 h1 h3
      obtain ⟨t2, d2, q3, q4⟩ := back b t e1 h2 h4
      exact E.sep a b s2 t2 c2 d2 p1 q1 q3 q2 q4 h5 h6
    · by_cases hq : q = p
      · rw [hq]; exact ob'.mut
      · rw [keep q o hq]; exact E.mt q o
  cases z with
  | val d => exact ⟨O, st, E', hz⟩
  | slot j => exact hz.elim
  | tmp e =>
    obtain ⟨q, rfl, hq, obq⟩ := hz
    refine ⟨fun b => O b ∨ b = q, ⟨st.keep, fun b z => by
      rcases z with z | rfl
      · exact .inl z
      · exact .inr hq⟩, E'.add (Same.refl _) obq.mut, q, rfl, obq, .inr rfl, fun j s e h1 h2 h3 => ?_⟩
    obtain ⟨v, e1, z⟩ := E'.ok j s h1
    rw [h3] at e1; cases e1
    have : O q := by
      cases s with
      | un => cases h2
      | fz d => cases h2
      | own c1 => obtain ⟨p1, e2, _, o1⟩ := z; cases e2; exact o1
      | lck c1 => obtain ⟨p1, e2, _, o1⟩ := z; cases e2; exact o1
    have := E.mt q this
    rw [hq] at this
    exact this
theorem ex_callBx {G : Ob → List PyData → Option (R × Ob)} {fs : Denv} {i : Nat} {bx : Str} {bp : Pos} (hF : FnB X.prog X.w X.K X.mg X.base k f fd ps G) (hgd : X.A.guards = some []) (hr : Room k X.A) (hm : X.mg x = some (.ref f)) (hk : PySem.W.keepIn X.K (.ref f) = true) (hb : Binds X.K fd ps [])
    (hv : PE X (.Name bx bp) (tVar i)) (ha : Exv X es fs) (hl : ∀ r ds r', fs r = some (ds, r') → ds.length + 1 = ps.length) (hg : Gl X x := by rfl) (hdb : (x == ("__debug__" : Str)) = false := by decide)
    (he : starEach (.Name bx bp :: es) X.env = (false, eval (.Name bx bp) X.env) :: starEach es X.env := by rfl) (hpl : (backTo pos (starEach es X.env)).any (·.1) = false := by rfl) :
    Ex X (.Call (.Name x p) (.Name bx bp :: es) [] pos) (dCallB G i fs) := by
  refine ⟨fun pins s σ H Q I hw => (pe_callG hF hgd hr hg hm hk hb .nil pass0 (pa_cons hv ha he) hdb he hpl).run pins s σ H Q I ?_⟩
  obtain ⟨O, r, z, r', E, hf, k⟩ := hw
  unfold dCallB at hf
  split at hf
  · rename_i c0 q0
    obtain ⟨⟨ds, r1⟩, q1, hf⟩ := Option.bind_eq_some_iff.mp hf
    have hf : (match r1[i]? with
      | some (.own c) => (G c ds).bind fun (z, c') => some (z, r1.set i (.own c'))
      | _ => none) = some (z, r') := hf
    split at hf
    · rename_i c q2
      obtain ⟨⟨z', c'⟩, q3, hf⟩ := Option.bind_eq_some_iff.mp hf
      cases hf
      obtain ⟨v, e1, p0, e2, _, _⟩ := E.ok i _ q0
      subst e2
      refine ⟨.ref p0, e1, O, r, ds, r1, E, q1, fun H1 O1 vs st1 E1 kp1 ra => ?_⟩
      obtain ⟨v1, e3, p1, e4, ob, op⟩ := E1.ok i _ q2
      rw [e1] at e3; cases e3; cases e4
      rw [List.append_nil]
      refine ⟨p0, c, vs, ds, z, c', rfl, ob, ra, hl _ _ _ q1, q3, fun H2 w hk2 ob2 hz2 => ?_⟩
      obtain ⟨O3, st3, E3, ro3⟩ := callB_done E1 q2 e1 hk2 ob2 hz2
      exact k H2 O3 w (st1.trans st3) E3 (kp1.trans (Keep.set fun c1 z => by rw [q2] at z; cases z)) ro3
    · cases hf
  · cases hf
/-- f(g(..)): the box is just made -/
def dCallT (G : Ob → List PyData → Option (R × Ob)) (g : Den) : Den := fun r => (g r).bind fun y => match y with
  | (.tmp c, r1) => (G c []).bind fun (z, _) => some (z, r1)
  | _ => none
theorem ex_callT {G : Ob → List PyData → Option (R × Ob)} {g : Den} (hF : FnB X.prog X.w X.K X.mg X.base k f fd ps G) (hgd : X.A.guards = some []) (hr : Room k X.A) (hm : X.mg x = some (.ref f)) (hk : PySem.W.keepIn X.K (.ref f) = true) (hb : Binds X.K fd ps [])
    (ha : Ex X e g) (hl : ps.length = 1) (hg : Gl X x := by rfl) (hdb : (x == ("__debug__" : Str)) = false := by decide)
    (he : starEach [e] X.env = (false, eval e X.env) :: starEach [] X.env := by rfl) (hpl : (backTo pos (starEach [] X.env)).any (·.1) = false := by rfl) :
    Ex X (.Call (.Name x p) [e] [] pos) (dCallT G g) := by
  refine ⟨fun pins s σ H Q I hw => (pe_callG hF hgd hr hg hm hk hb .nil pass0 (pa_cons ha pa_nil he) hdb he hpl).run pins s σ H Q I ?_⟩
  obtain ⟨O, r, z, r', E, hf, k⟩ := hw
  unfold dCallT at hf
  obtain ⟨⟨y, r1⟩, q1, hf⟩ := Option.bind_eq_some_iff.mp hf
  cases y with
  | val d => cases hf
  | slot i => cases hf
  | tmp c =>
    obtain ⟨⟨z', c'⟩, q2, hf⟩ := Option.bind_eq_some_iff.mp hf
    cases hf
    refine ⟨O, r, .tmp c, r', E, q1, fun H1 O1 v st1 E1 kp1 ro1 => ?_⟩
    obtain ⟨p0, rfl, ob, op, hn⟩ := ro1
    refine ⟨p0, c, [], [], z, c', rfl, ob, .nil, by rw [hl]; rfl, q2, fun H2 w hk2 ob2 hz2 => ?_⟩
    -- p0 is nobody's: the names stand
    have mp := ob.mut
    have fx : Fx H1 H2 := ⟨fun b o u e => hk2 b _ (fun z => by rw [z] at e; rw [e] at mp; exact mp) e, fun b xs e => hk2 b _ (fun z => by rw [z] at e; rw [e] at mp; exact mp) e⟩
    have st : Stp H1 O1 H2 O1 := ⟨fun b o e n => hk2 b o (fun z => n (by rw [z]; exact op)) e, fun _ z => .inl z⟩
    have keep : ∀ q, O1 q → q ≠ p0 → H2 q = H1 q := fun q o ne => by
      have := E1.mt q o
      cases e : H1 q with
      | none => rw [e] at this; exact this.elim
      | some u => exact hk2 q u ne e
    have E2 : EnvOk X.K H2 O1 r' σ := by
      refine ⟨E1.len, fun j t q => ?_, E1.sep, fun q o => ?_⟩
      · obtain ⟨v, e1, z⟩ := E1.ok j t q
        refine ⟨v, e1, ?_⟩
        have ne : ∀ c1 p1, t.ob = some c1 → v = some (.ref p1) → p1 ≠ p0 := fun c1 p1 h1 h2 h3 => hn j t c1 q h1 (by rw [e1, h2, h3])
        cases t with
        | un => trivial
        | fz d => obtain ⟨x, e2, rp⟩ := z; exact ⟨x, e2, rp.fx fx⟩
        | own c1 => obtain ⟨p1, e2, ob1, o1⟩ := z; exact ⟨p1, e2, ob1.fx fx (keep p1 o1 (ne c1 p1 rfl e2)), o1⟩
        | lck c1 => obtain ⟨p1, e2, ob1, o1⟩ := z; exact ⟨p1, e2, ob1.fx fx (keep p1 o1 (ne c1 p1 rfl e2)), o1⟩
      · by_cases hq : q = p0
        · rw [hq]; exact ob2.mut
        · rw [keep q o hq]; exact E1.mt q o
    cases z with
    | val d => exact k H2 O1 w (st1.trans st) E2 kp1 hz2
    | slot j => exact hz2.elim
    | tmp e =>
      obtain ⟨q, rfl, hq, obq⟩ := hz2
      refine k H2 (fun b => O1 b ∨ b = q) _ (st1.trans ⟨st.keep, fun b z => by
        rcases z with z | rfl
        · exact .inl z
        · exact .inr hq⟩) (E2.add (Same.refl _) obq.mut) kp1 ⟨q, rfl, obq, .inr rfl, fun j s e h1 h2 h3 => ?_⟩
      obtain ⟨v, e1, z⟩ := E2.ok j s h1
      rw [h3] at e1; cases e1
      have : O1 q := by
        cases s with
        | un => cases h2
        | fz d => cases h2
        | own c1 => obtain ⟨p1, e2, _, o1⟩ := z; cases e2; exact o1
        | lck c1 => obtain ⟨p1, e2, _, o1⟩ := z; cases e2; exact o1
      have := E1.mt q this
      rw [hq] at this
      exact this
end
end KV

end

section
/-! KV, part 7: slices, stores into lists, isinstance, repr, a module's constants; the law's end. -/
namespace KV
open PySem PySem.Spec PyProof.Rows L2

section
variable {io : Bool} {X : Cx} {a b e : Expr} {f g : Den} {pos : Pos}
/-! ### slices -/
def part (o : Option Den) (r : Nms) : Option (Option Int × Nms) := match o with
  | none => some (none, r)
  | some g => (g r).bind fun y => match y with
    | (.val (.int i), r1) => some (some i, r1)
    | _ => none
def tO (K : PySem.W.Frag) (o : Option Den) : TO := fun σ H Q => ∃ O r x r', EnvOk K H O r σ ∧ part o r = some (x, r') ∧ ∀ H' O', Stp H O H' O' → EnvOk K H' O' r' σ → Keep r r' → Q x H'
theorem po0 : PO X none (tO X.K none) := by
  refine ⟨fun pins s σ H Q I hw => po_none.run pins s σ H Q I ?_⟩
  obtain ⟨O, r, x, r', E, hf, k⟩ := hw
  cases hf
  exact k H O (Stp.refl _ _) E (Keep.refl _)
theorem po1 (he : Ex X e f) : PO X (some e) (tO X.K (some f)) := by
  refine ⟨fun pins s σ H Q I hw => (po_some he).run pins s σ H Q I ?_⟩
  obtain ⟨O, r, x, r', E, hf, k⟩ := hw
  obtain ⟨⟨y, r1⟩, q1, hf⟩ := Option.bind_eq_some_iff.mp hf
  cases y with
  | val d =>
    cases d with
    | int i =>
      cases hf
      refine ⟨O, r, _, r', E, q1, fun H1 O1 v st1 E1 kp1 ro1 => ⟨i, ?_, k H1 O1 st1 E1 kp1⟩⟩
      have ro1 : Rp X.K H1 v (.int i) := ro1
      cases ro1
      rfl
    | _ => cases hf
  | slot i => cases hf
  | tmp c => cases hf
def cutD (xs : List PyData) (lo hi : Option Int) : List PyData := (xs.drop (HT.sIx xs.length 0 lo)).take (HT.sIx xs.length xs.length hi - HT.sIx xs.length 0 lo)
theorem RpAll.cut {K : PySem.W.Frag} {H : Hp} {vs : List V} {ds : List PyData} (r : RpAll K H vs ds) (lo hi : Option Int) : RpAll K H (cutV vs lo hi) (cutD ds lo hi) := by
  unfold cutV cutD
  rw [r.length]
  exact (r.drop _).take _
def opSlice (x : PyData) (lo hi : Option Int) : Option R := match x with
  | .list xs => some (.tmp (.lst (cutD xs lo hi)))
  | .tuple xs => some (.val (.tuple (cutD xs lo hi)))
  | _ => none
def rSl (K : PySem.W.Frag) : V → Option Int → Option Int → Hp → VK → Prop := fun x lo hi H Q => ∃ dx z, Bp K H x dx ∧ opSlice dx lo hi = some z ∧ ∀ H' w, NewR K H H' w z → Q w H'
theorem whole_cut {xs : List PyData} {lo hi : Option Int} (h : HT.sIx xs.length 0 lo = 0 ∧ HT.sIx xs.length xs.length hi = xs.length) : cutD xs lo hi = xs := by
  unfold cutD
  rw [h.1, h.2]
  simp
theorem s_slice : SlR X (rSl X.K) := by
  intro pins s σ H x v vl vu lo hi sl Q I rx hs pl pu hw
  obtain ⟨dx, z, bx, ho, k⟩ := hw
  unfold opSlice at ho
  split at ho
  · cases ho
    obtain ⟨a, ws, rfl, h1, r1⟩ := bx.list
    exact sl_list pins s σ H _ v vl vu lo hi sl Q I rx hs pl pu ⟨a, ws, rfl, h1, fun p hp => k _ _ (new_lst hp (r1.cut lo hi))⟩
  · cases ho
    obtain ⟨a, ws, rfl, h1, r1⟩ := bx.tuple
    refine sl_tupA pins s σ H _ v vl vu lo hi sl Q I rx hs pl pu ⟨a, ws, rfl, h1, fun hh => ?_, fun _ p hp => k _ _ (new_tup hp (r1.cut lo hi))⟩
    rw [r1.length] at hh
    rw [whole_cut hh] at k
    exact k _ _ (new_val (.tup h1 r1))
  · cases ho
def dSlice (f : Den) (lo hi : Option Den) : Den := fun r => (dStl f r).bind fun (x, r1) => (part lo r1).bind fun (l, r2) => (part hi r2).bind fun (h, r3) => (deref r3 x).bind fun dx => (opSlice dx l h).bind fun z => some (z, r3)
theorem ex_slice {lo hi : Option Expr} {dl dh : Option Den} {p2 : Pos} (ha : Ex X a f) (hl : PO X lo (tO X.K dl)) (hh : PO X hi (tO X.K dh)) : Ex X (.Subscript a (.Slice lo hi none p2) pos) (dSlice f dl dh) := by
  refine ⟨fun pins s σ H Q I hw => (pe_slice s_slice (ex_stl ha) hl hh).run pins s σ H Q I ?_⟩
  obtain ⟨O, r, z, r', E, hf, k⟩ := hw
  unfold dSlice at hf
  obtain ⟨⟨x, r1⟩, q1, hf⟩ := Option.bind_eq_some_iff.mp hf
  obtain ⟨⟨l, r2⟩, q2, hf⟩ := Option.bind_eq_some_iff.mp hf
  obtain ⟨⟨h, r3⟩, q3, hf⟩ := Option.bind_eq_some_iff.mp hf
  obtain ⟨dx, q4, hf⟩ := Option.bind_eq_some_iff.mp hf
  obtain ⟨z', q5, hf⟩ := Option.bind_eq_some_iff.mp hf
  cases hf
  refine ⟨O, r, x, r1, E, q1, fun H1 O1 v st1 E1 kp1 ro1 => ⟨O1, r1, l, r2, E1, q2, fun H2 O2 st2 E2 kp2 => ⟨O2, r2, h, r', E2, q3, fun H3 O3 st3 E3 kp3 => ?_⟩⟩⟩
  have fx : Fx H1 H3 := (E1.fxOf st2).trans (E2.fxOf st3)
  refine ⟨dx, z, (ro1.go (O' := O3) (r' := r') fx (dStl_late q1)).deref E3 q4, q5, fun H4 w n => ?_⟩
  obtain ⟨O4, st4, E4, ro4⟩ := n.done E3
  exact k H4 O4 w (st1.trans (st2.trans (st3.trans st4))) E4 (kp1.trans (kp2.trans kp3)) ro4

/-! ### stores into a name's list -/
theorem own_write {K : PySem.W.Frag} {H : Hp} {O : Addr → Prop} {r : Nms} {σ : L2.St} {p : Addr} {i : Nat} {c c' : Ob} {o : HO} (E : EnvOk K H O r σ) (hi : r[i]? = some (.own c)) (hσ : σ[i]? = some (some (.ref p))) (ob' : ObOk K (upd H p o) p c') :
    Stp H O (upd H p o) O ∧ EnvOk K (upd H p o) O (r.set i (.own c')) σ := by
  obtain ⟨v, e1, p0, e2, ob, op⟩ := E.ok i _ hi
  rw [hσ] at e1; cases e1; cases e2
  refine ⟨⟨fun b u e n => by rw [upd_ne (fun z => n (by rw [z]; exact op))]; exact e, fun _ z => .inl z⟩, ?_⟩
  have hl : i < r.length := (List.getElem?_eq_some_iff.mp hi).1
  have mp := ob.mut
  have fx : Fx H (upd H p o) := ⟨fun b o' u e => by rw [upd_ne (fun z => by rw [z] at e; rw [e] at mp; exact mp)]; exact e, fun b xs e => by rw [upd_ne (fun z => by rw [z] at e; rw [e] at mp; exact mp)]; exact e⟩
  refine ⟨by rw [List.length_set]; exact E.len, fun j t q => ?_, fun a b s t c1 e1 p1 h1 h2 h3 h4 h5 h6 => ?_, fun q oq => ?_⟩
  · by_cases hj : i = j
    · subst hj
      rw [List.getElem?_set_self hl] at q
      cases q
      exact ⟨_, hσ, p, rfl, ob', op⟩
    · rw [List.getElem?_set_ne hj] at q
      obtain ⟨v, e1, z⟩ := E.ok j t q
      refine ⟨v, e1, ?_⟩
      have ne : ∀ c1 p1, t.ob = some c1 → v = some (.ref p1) → p1 ≠ p := fun c1 p1 h1 h2 h3 => hj (E.sep i j _ t c c1 p hi q rfl h1 hσ (by rw [e1, h2, h3]))
      cases t with
      | un => trivial
      | fz d => obtain ⟨x, e2, rp⟩ := z; exact ⟨x, e2, rp.fx fx⟩
      | own c1 => obtain ⟨p1, e2, ob1, o1⟩ := z; exact ⟨p1, e2, ob1.fx fx (upd_ne (ne c1 p1 rfl e2)), o1⟩
      | lck c1 => obtain ⟨p1, e2, ob1, o1⟩ := z; exact ⟨p1, e2, ob1.fx fx (upd_ne (ne c1 p1 rfl e2)), o1⟩
  · have back : ∀ (a : Nat) (s : Sl) (c1 : Ob), (r.set i (.own c'))[a]? = some s → s.ob = some c1 → ∃ s2 c2, r[a]? = some s2 ∧ s2.ob = some c2 := fun a s c1 h1 h3 => by
      by_cases ha : i = a
      · subst ha
        exact ⟨_, c, hi, rfl⟩
      · rw [List.getElem?_set_ne ha] at h1
        exact ⟨s, c1, h1, h3⟩
    obtain ⟨s2, c2, q1, q2⟩ := back a s c1 h1 h3
    obtain ⟨t2, d2, q3, q4⟩ := back b t e1 h2 h4
    exact E.sep a b s2 t2 c2 d2 p1 q1 q3 q2 q4 h5 h6
  · by_cases hq : q = p
    · rw [hq]; exact ob'.mut
    · rw [upd_ne hq]; exact E.mt q oq
def intOf : R → Option Int
  | .val (.int k) => some k
  | _ => none
theorem intOf_some {x : R} {k : Int} (h : intOf x = some k) : x = .val (.int k) := by
  cases x with
  | val d => cases d <;> cases h; rfl
  | slot i => cases h
  | tmp c => cases h
def ownL (r : Nms) (i : Nat) : Option (List PyData) := match r[i]? with
  | some (.own (.lst ds)) => some ds
  | _ => none
theorem ownL_some {r : Nms} {i : Nat} {ds : List PyData} (h : ownL r i = some ds) : r[i]? = some (.own (.lst ds)) := by
  unfold ownL at h
  split at h
  · rename_i e q
    cases h
    exact q
  · cases h
/-- xs.append(e), as a value (None) -/
def dApp (i : Nat) (g : Den) : Den := fun r => (ownL r i).bind fun _ => ((dFrz g r).bind vOf).bind fun (d, r1) => (ownL r1 i).bind fun ds => if ds.length < sizeLine then some (.val .none, r1.set i (.own (.lst (ds ++ [d])))) else none
theorem ex_app {i : Nat} {x : Str} {px apos cpos : Pos} (hv : PE X (.Name x px) (tVar i)) (he : Ex X e g) (hbase : attributeBase (.Name x px) ("append" : Str) X.env (eval (.Name x px) X.env) = eval (.Name x px) X.env := by rfl)
    (hfew : ((backTo cpos (starEach [e] X.env)).all (fun x => !x.1) && (backToKw cpos (keywordEach [] X.env)).all (fun x => x.1.isSome)
      && decide ([e].length + ([] : List Keyword).length + (if ([] : List Keyword).isEmpty then 0 else 1) < 30)) = true := by rfl)
    (hline : (apos.endLine == cpos.line) = true := by rfl) (hs : starEach [e] X.env = (false, eval e X.env) :: starEach [] X.env := by rfl) (hplain : (backTo cpos (starEach [] X.env)).any (·.1) = false := by rfl) :
    Ex X (.Call (.Attribute (.Name x px) ("append" : Str) apos) [e] [] cpos) (dApp i g) := by
  refine ⟨fun pins s σ H Q I hw => (pe_bm PySem.F.plainAttrs_list PySem.F.slot_list_append PySem.F.type_list_append mt_append hv (pa_cons (ex_frz he) pa_nil hs) hbase hfew hline hs hplain).run pins s σ H Q I ?_⟩
  obtain ⟨O, r, z, r', E, hf, k⟩ := hw
  unfold dApp at hf
  obtain ⟨ds0, q0, hf⟩ := Option.bind_eq_some_iff.mp hf
  obtain ⟨⟨d, r1⟩, q1, hf⟩ := Option.bind_eq_some_iff.mp hf
  obtain ⟨y, q2, q3⟩ := Option.bind_eq_some_iff.mp q1
  have := vOf_some q3
  subst this
  obtain ⟨ds, q4, hf⟩ := Option.bind_eq_some_iff.mp hf
  have q0 := ownL_some q0
  have q4 := ownL_some q4
  split at hf
  · rename_i hz
    cases hf
    obtain ⟨v, e1, p0, e2, ⟨vs0, hp0, _⟩, _⟩ := E.ok i _ q0
    subst e2
    refine ⟨.ref p0, e1, .inl ⟨rfl, vs0, SqL.of hp0⟩, O, r, .val d, r1, E, q2, fun H1 O1 w st1 E1 kp1 ro1 => ?_⟩
    obtain ⟨v1, e3, p1, e4, ⟨vs, hp, ra⟩, op⟩ := E1.ok i _ q4
    rw [e1] at e3; cases e3; cases e4
    refine ⟨p0, vs, w, rfl, rfl, hp, by rw [ra.length]; exact hz, ?_⟩
    have fx : Fx H1 (upd H1 p0 (.lst (vs ++ [w]))) := ⟨fun b o' u e => by rw [upd_ne (fun z => by rw [z, hp] at e; cases e)]; exact e, fun b xs e => by rw [upd_ne (fun z => by rw [z, hp] at e; cases e)]; exact e⟩
    obtain ⟨st2, E2⟩ := own_write (c' := .lst (ds ++ [d])) E1 q4 e1 ⟨vs ++ [w], upd_same, (ra.fx fx).append (.cons (Rp.fx fx ro1) .nil)⟩
    exact k _ O1 .non (st1.trans st2) E2 (kp1.trans (Keep.set fun c1 z => by rw [q4] at z; cases z)) .non
  · cases hf
/-- xs[h] = e -/
def dSetIx (i : Nat) (g h : Den) : DenS := fun r => ((dFrz g r).bind vOf).bind fun (d, r1) => (ownL r1 i).bind fun _ => (h r1).bind fun (y, r2) => (intOf y).bind fun k => (ownL r2 i).bind fun ds => (ixN ds.length k).bind fun j => some (.nx (r2.set i (.own (.lst (ds.set j d)))))
theorem sx_setIx {i : Nat} {x : Str} {px tpos : Pos} {h : Den} (hv : PE X (.Name x px) (tVar i)) (he : Ex X e g) (hi : Ex X a h)
    (ha : ∀ v, assign (.Subscript (.Name x px) a tpos) X.env v = (do
      let ov ← holding [v] (eval (.Name x px) X.env)
      let iv ← holding [v, ov] (eval a X.env)
      standAt tpos
      holding [v, ov, iv] (setItem ov iv v)
      release [v, ov, iv] []) := by intro _; rfl)
    (hs : swapsWithSole [.Subscript (.Name x px) a tpos] e pos.line X.env = pure false := by rfl) (hw : swappedStores [.Subscript (.Name x px) a tpos] e X.env = pure none := by rfl)
    (h1 : (assignEach [.Subscript (.Name x px) a tpos] X.env).map (·.2) = [assign (.Subscript (.Name x px) a tpos) X.env] := by rfl) : Sx io X (.Assign [.Subscript (.Name x px) a tpos] e pos) (dSetIx i g h) := by
  refine ⟨fun pins s σ H D I hh => (ps_asg (ex_frz he) (pg_sub hv hi set_list ha) hs hw h1).run pins s σ H D I ?_⟩
  obtain ⟨O, r, o, E, hf, k⟩ := hh
  unfold dSetIx at hf
  obtain ⟨⟨d, r1⟩, q1, hf⟩ := Option.bind_eq_some_iff.mp hf
  obtain ⟨y, q2, q3⟩ := Option.bind_eq_some_iff.mp q1
  have := vOf_some q3
  subst this
  obtain ⟨ds0, q0, hf⟩ := Option.bind_eq_some_iff.mp hf
  obtain ⟨⟨y, r2⟩, q4, hf⟩ := Option.bind_eq_some_iff.mp hf
  obtain ⟨kk, q5, hf⟩ := Option.bind_eq_some_iff.mp hf
  obtain ⟨ds, q6, hf⟩ := Option.bind_eq_some_iff.mp hf
  obtain ⟨j, q7, hf⟩ := Option.bind_eq_some_iff.mp hf
  cases hf
  have := intOf_some q5
  subst this
  have q0 := ownL_some q0
  have q6 := ownL_some q6
  refine ⟨O, r, .val d, r1, E, q2, fun H1 O1 w st1 E1 kp1 ro1 => ?_⟩
  obtain ⟨v, e1, p0, e2, _, _⟩ := E1.ok i _ q0
  subst e2
  refine ⟨.ref p0, e1, O1, r1, .val (.int kk), r2, E1, q4, fun H2 O2 u st2 E2 kp2 ro2 => ?_⟩
  have ro2 : Rp X.K H2 u (.int kk) := ro2
  cases ro2
  obtain ⟨v1, e3, p1, e4, ⟨vs, hp, ra⟩, op⟩ := E2.ok i _ q6
  rw [e1] at e3; cases e3; cases e4
  refine ⟨p0, vs, kk, j, rfl, rfl, hp, by rw [ra.length]; exact q7, ?_⟩
  have fx : Fx H2 (upd H2 p0 (.lst (vs.set j w))) := ⟨fun b o' u e => by rw [upd_ne (fun z => by rw [z, hp] at e; cases e)]; exact e, fun b xs e => by rw [upd_ne (fun z => by rw [z, hp] at e; cases e)]; exact e⟩
  obtain ⟨st3, E3⟩ := own_write (c' := .lst (ds.set j d)) E2 q6 e1 ⟨vs.set j w, upd_same, (ra.fx fx).set j (Rp.fx fx (Rp.fx (E1.fxOf st2) ro1))⟩
  exact k _ O2 σ (st1.trans (st2.trans st3)) E3 (KeepS.of (kp1.trans (kp2.trans (Keep.set fun c1 z => by rw [q6] at z; cases z))))

/-! ### isinstance -/
def tyN : PyData → String
  | .none => "NoneType"
  | .bool _ => "bool"
  | .int _ => "int"
  | .str _ => "str"
  | .list _ => "list"
  | .tuple _ => "tuple"
  | .dict _ => "dict"
theorem Bp.ty {K : PySem.W.Frag} {H : Hp} {v : V} {d : PyData} (h : Bp K H v d) : TyX K H v (.type (tyN d)) := by
  cases h with
  | rp h =>
    cases h with
    | non => exact .base .non
    | bl b => exact .base (.bl b)
    | int i => exact .base (.int i)
    | str x => exact .base (.str x)
    | lst h1 h2 =>
      rcases h1 with ⟨o, h1⟩ | ⟨o, its, n, h1, hc, _⟩
      · exact .base (.frz h1)
      · exact .kList h1 hc
    | tup h1 h2 =>
      rcases h1 with (h1 | ⟨o, h1⟩) | ⟨o, its, n, h1, hc, _⟩
      · exact .base (.tup h1)
      · exact .fTuple h1
      · exact .kTuple h1 hc
  | @ob p c h =>
    cases c with
    | lst ds => obtain ⟨vs, e, _⟩ := h; exact .base (.lst e)
def isT (T : String) (d : PyData) : Option Bool := kitB (tyN d) T
def dIsi (f : Den) (T : String) : Den := fun r => (dStl f r).bind fun (x, r1) => (deref r1 x).bind fun d => (isT T d).map fun b => (.val (.bool b), r1)
theorem ex_isi {T : String} {TN : Str} {p p2 : Pos} (ha : Ex X e f) (hg : Gl X "isinstance") (hm : X.mg "isinstance" = none) (hg2 : Gl X TN) (hm2 : X.mg TN = none) (hv : bootBuiltins TN = some (.type T)) (hn : TN ≠ "__name__" := by decide) (hd : (TN == ("__debug__" : Str)) = false := by decide)
    (hs : starEach [e, .Name TN p2] X.env = (false, eval e X.env) :: starEach [.Name TN p2] X.env := by rfl) (hs2 : starEach [.Name TN p2] X.env = (false, eval (.Name TN p2) X.env) :: starEach [] X.env := by rfl) (hpl : (backTo pos (starEach [.Name TN p2] X.env)).any (·.1) = false := by rfl) :
    Ex X (.Call (.Name "isinstance" p) [e, .Name TN p2] [] pos) (dIsi f T) := by
  refine ⟨fun pins s σ H Q I hw => (pe_callB call_isi hg hm (by decide +kernel) (pa_cons (ex_stl ha) (pa_cons (pe_bltn hg2 hm2 hv (v := .ty T) rfl hn hd) pa_nil hs2) hs) (he := hs) (hpl := hpl)).run pins s σ H Q I ?_⟩
  obtain ⟨O, r, z, r', E, hf, k⟩ := hw
  unfold dIsi at hf
  obtain ⟨⟨x, r1⟩, q1, hf⟩ := Option.bind_eq_some_iff.mp hf
  obtain ⟨d, q2, hf⟩ := Option.bind_eq_some_iff.mp hf
  obtain ⟨b, q3, e⟩ := Option.map_eq_some_iff.mp hf
  cases e
  exact ⟨O, r, x, r', E, q1, fun H1 O1 v st1 E1 kp1 ro1 => ⟨v, .ty T, _, .type T, b, rfl, .ty T, (ro1.deref E1 q2).ty, kit_ty q3, k H1 O1 _ st1 E1 kp1 (.bl b)⟩⟩
def isT2 (T U : String) (d : PyData) : Option Bool := (isT T d).bind fun b => if b = true then some true else isT U d
def dIsi2 (f : Den) (T U : String) : Den := fun r => (dStl f r).bind fun (x, r1) => (deref r1 x).bind fun d => (isT2 T U d).map fun b => (.val (.bool b), r1)
theorem kit2 {K : PySem.W.Frag} {T U : String} {d : PyData} {b : Bool} (h : isT2 T U d = some b) : PySem.W.kitAny K (.type (tyN d)) [.type T, .type U] = some b := by
  obtain ⟨c, q, h⟩ := Option.bind_eq_some_iff.mp h
  refine kitAny_cons (kit_ty q) (fun e => ?_) (fun e => ?_)
  · subst e
    rw [if_neg Bool.false_ne_true] at h
    exact kitAny_cons (kit_ty h) (fun e => by subst e; rfl) (fun e => e)
  · subst e
    rw [if_pos rfl] at h
    exact (Option.some.inj h).symm
theorem ex_isi2 {T U : String} {TN UN : Str} {p p2 p3 tp : Pos} {kk : Nat} (ha : Ex X e f) (hg : Gl X "isinstance") (hm : X.mg "isinstance" = none) (hg2 : Gl X TN) (hm2 : X.mg TN = none) (hv : bootBuiltins TN = some (.type T)) (hg3 : Gl X UN) (hm3 : X.mg UN = none) (hv3 : bootBuiltins UN = some (.type U))
    (hn : TN ≠ "__name__" := by decide) (hd : (TN == ("__debug__" : Str)) = false := by decide) (hn3 : UN ≠ "__name__" := by decide) (hd3 : (UN == ("__debug__" : Str)) = false := by decide)
    (hs : starEach [e, .Tuple [.Name TN p2, .Name UN p3] kk tp] X.env = (false, eval e X.env) :: starEach [.Tuple [.Name TN p2, .Name UN p3] kk tp] X.env := by rfl) (hpl : (backTo pos (starEach [.Tuple [.Name TN p2, .Name UN p3] kk tp] X.env)).any (·.1) = false := by rfl) :
    Ex X (.Call (.Name "isinstance" p) [e, .Tuple [.Name TN p2, .Name UN p3] kk tp] [] pos) (dIsi2 f T U) := by
  refine ⟨fun pins s σ H Q I hw => (pe_callB call_isiT hg hm (by decide +kernel) (pa_cons (ex_stl ha) (pa_cons (pe_tup (pa_cons (pe_bltn hg2 hm2 hv (v := .ty T) rfl hn hd) (pa_cons (pe_bltn hg3 hm3 hv3 (v := .ty U) rfl hn3 hd3) pa_nil))) pa_nil) hs) (he := hs) (hpl := hpl)).run pins s σ H Q I ?_⟩
  obtain ⟨O, r, z, r', E, hf, k⟩ := hw
  unfold dIsi2 at hf
  obtain ⟨⟨x, r1⟩, q1, hf⟩ := Option.bind_eq_some_iff.mp hf
  obtain ⟨d, q2, hf⟩ := Option.bind_eq_some_iff.mp hf
  obtain ⟨b, q3, e⟩ := Option.map_eq_some_iff.mp hf
  cases e
  refine ⟨O, r, x, r', E, q1, fun H1 O1 v st1 E1 kp1 ro1 => ⟨by rw [sizeLine_eq]; show 2 ≤ 16777216; decide, fun q hq => ?_⟩⟩
  have sm : Same H1 (upd H1 q (.tup [.ty T, .ty U])) := same_upd hq
  have E2 := E1.same sm
  have ro2 : ROk X.K (upd H1 q (.tup [.ty T, .ty U])) O1 r' σ v x := ro1.go (Fx.of_same sm) (dStl_late q1)
  exact ⟨v, q, [.ty T, .ty U], _, [.type T, .type U], b, rfl, upd_same, .cons (.ty T) (.cons (.ty U) .nil), (ro2.deref E2 q2).ty, kit2 q3, k _ O1 _ (st1.trans (Stp.of_same sm)) E2 kp1 (.bl b)⟩

/-! ### repr -/
def opRepr : OpN := fun ds => match ds with
  | [d] => if d.showable = true ∧ d.shown.length ≤ sizeLine ∧ d.depth ≤ 60 then some (.val (.str d.shown)) else none
  | _ => none
mutual
theorem no_dict : ∀ d : PyData, d.plain = true → d.hasDict = false
  | .none, _ => rfl
  | .bool _, _ => rfl
  | .int _, _ => rfl
  | .str _, _ => rfl
  | .list xs, h => by rw [PyData.plain] at h; rw [PyData.hasDict]; exact no_dictAll xs h
  | .tuple xs, h => by rw [PyData.plain] at h; rw [PyData.hasDict]; exact no_dictAll xs h
  | .dict _, h => nomatch h
theorem no_dictAll : ∀ xs : List PyData, PyData.plainAll xs = true → PyData.hasDictAll xs = false
  | [], _ => rfl
  | x :: xs, h => by
    rw [PyData.plainAll, Bool.and_eq_true] at h
    rw [PyData.hasDictAll, no_dict x h.1, no_dictAll xs h.2]; rfl
end
theorem c_repr (hg : X.A.guards = some []) (hu : X.A.units + 64 < cLine) : CallR X (.builtin "repr") (rDN X.K opRepr) := by
  intro pins s σ H vs us Q I rv hw
  obtain ⟨ds, z, bs, ho, k⟩ := hw
  unfold opRepr at ho
  split at ho
  · rename_i d
    split at ho
    · rename_i hc
      cases ho
      obtain ⟨v, rfl, b⟩ := bs.one
      obtain ⟨u, rfl, ru⟩ := vals1 rv
      obtain ⟨as, r1⟩ := Dp.reads I d v u b.dp ru
      have nd := no_dict d (dp_plain b.dp)
      have fin : ∀ (h' : Heap) (u : Tok) (tk : Nat), (∀ b o, s.heap.get? b = some o → h'.get? b = some o) → EP X pins σ Q (.str d.shown u) { s with heap := h', toks := tk } :=
        fun h' u tk hk => ⟨.str d.shown, H, I.kept hk, ⟨u, rfl⟩, k H _ (new_val (.str _))⟩
      have big : ∀ a, u = .ref a → wpAny (model X.prog X.w) X.A (call (.builtin "repr") [u]) (EP X pins σ Q) X.xe s := fun a e => by
        subst e
        exact repr_of_reads' r1 hc.1 (fun h => by rw [nd] at h; cases h) hg (by omega) (fun _ _ e => e) fin hc.2.1
      cases r1 with
      | none => exact PySem.P.repr_of_none (fin s.heap _ _ fun _ _ e => e)
      | bool b => exact PySem.P.repr_of_bool (by
          have := fin s.heap s.toks (s.toks + 1) fun _ _ e => e
          rw [PyData.shown] at this
          exact this)
      | int i t => exact PySem.P.repr_of_int (by have := hc.1; rw [PyData.showable] at this; exact of_decide_eq_true this) (by
          have := fin s.heap s.toks (s.toks + 1) fun _ _ e => e
          rw [PyData.shown] at this
          exact this)
      | str x t => exact PySem.P.repr_of_str (by
          have := fin s.heap s.toks (s.toks + 1) fun _ _ e => e
          rw [PyData.shown] at this
          exact this) (by have := hc.2.1; rw [PyData.shown] at this; exact this)
      | list h1 h2 h3 h4 => exact big _ rfl
      | tuple h1 h2 h3 h4 => exact big _ rfl
      | dict h1 h2 h3 h4 h5 => exact big _ rfl
    · cases ho
  · cases ho

/-! ### a module's constant -/
theorem ex_glob {x : Str} {v : V} {d : PyData} {u : Value} (hm : X.mg x = some u) (r : L2.RelV v u) (hr : ∀ H, Rp X.K H v d) (hg : Gl X x := by rfl) (hd : (x == ("__debug__" : Str)) = false := by decide) : Ex X (.Name x pos) (dC d) := ex_c (pe_glob hg hm r hd) hr
end

/-! ### the law's end -/
theorem law_callG {P : Program} {w : World} {K : PySem.W.Frag} {mg mb : Str → Option Value} {k : Nat} {fa a : Addr} {fd : FuncData} {x : Str} {F : List PyData → Option R} {s₁ : Shared} {vs : List Value} {ns : List Int}
    (KX : K.In s₁.heap) (hns : s₁.heap.Ns mainGlobals mg) (hb : s₁.heap.Ns builtinsNs mb) (hbb : ∀ x : Str, x ≠ "__name__" → mb x = bootBuiltins x) (hlim : s₁.heap.NoLimit) (hg : s₁.gens = #[])
    (ha : s₁.heap.get? a = some { cls := .type "list", data := .seq vs.toArray }) (hi : IntsAre vs ns) (hl : ns.length ≤ sizeLine) (hr : Room k callerA)
    (hF : ∀ base : Heap, K.In base → base.Ns mainGlobals mg → FnP P w K mg base k fa fd [x] F) (hbind : ∀ (s : Shared) (u : Value), BindsTo s fd ⟨[u], []⟩ [(x, u)])
    (hsp : F [.list (ns.map .int)] = some (.val (.bool true))) :
    codeAny (model P w) callerA (.call (.ref fa) ⟨[.ref a], []⟩) (fun r s' => r = .ok (.ret (.bool true)) ∧ OldK s₁.heap s'.heap ∧ s'.os = s₁.os ∧ AllBare s'.gens) s₁ := by
  have rv := vals_ints hi
  have lenV := hi.length
  have core : ∀ H : Hp, Only H → FzL K H a (ns.map V.int) → HOk P w H s₁.heap → (∀ b, H b ≠ none → b = a) → (H a ≠ none → K.lookup a = none) →
      codeAny (model P w) callerA (.call (.ref fa) ⟨[.ref a], []⟩) (fun r s' => r = .ok (.ret (.bool true)) ∧ OldK s₁.heap s'.heap ∧ s'.os = s₁.os ∧ AllBare s'.gens) s₁ := by
    intro H hO hS hok hA hK
    have base_of : ∀ {b : Addr} {o : Obj}, s₁.heap.get? b = some o → H b = none → (hidT s₁.heap H).get? b = some o := fun e n => hidT_get e n
    have noA : ∀ {b : Addr} {o : Obj} {es : Array DictEntry} {ep : Nat}, s₁.heap.get? b = some o → o.data = .dict es ep → H b = none := fun {b o es ep} e d => by
      cases q : H b with
      | none => rfl
      | some u =>
        have e' : b = a := hA b (by rw [q]; simp)
        subst e'
        rw [ha] at e; cases e
        have d' : Data.seq vs.toArray _ = Data.dict es ep := d
        cases d'
    have nsK : ∀ {b : Addr} {m : Str → Option Value}, s₁.heap.Ns b m → (hidT s₁.heap H).Ns b m := fun {b m} ⟨o, es, ep, e, d, r⟩ => ⟨o, es, ep, base_of e (noA e d), d, r⟩
    have hKb : K.In (hidT s₁.heap H) := fun b o e => base_of (KX b o e) (by
      cases q : H b with
      | none => rfl
      | some u =>
        have e' : b = a := hA b (by rw [q]; simp)
        subst e'
        rw [hK (by rw [q]; simp)] at e; cases e)
    have hM : Mod K mg (hidT s₁.heap H) := ⟨hKb, nsK hns, ⟨mb, nsK hb, hbb⟩, let ⟨mc, h1, h2⟩ := hlim; ⟨mc, nsK h1, h2⟩⟩
    have e0 : Env0 P w K mg (hidT s₁.heap H) callerA [] s₁ H := ⟨rfl, hM, fun b o e => of_hidT e, Nat.le_of_eq (hidT_size _ _), trivial, fun b hb => absurd (show b ∈ ([] : List Addr) from hb) (by simp), hok, .of_eq hg⟩
    have hsp' : spP K 1 F [.ref a] H (fun v _ => v = .bl true) fun _ _ _ => False := ⟨[.list (ns.map .int)], _, .cons (.lst hS (RpAll.ints ns)) .nil, rfl, hsp, fun H' w n => by
      obtain ⟨_, n⟩ := n
      cases n
      rfl⟩
    refine codeAny_mono ((hF _ hKb (nsK hns)).run callerA [] s₁ H ⟨[.ref a], []⟩ [.ref a] [.ref a] _ _ rfl hr e0 (hbind s₁ (.ref a)) (.cons rfl .nil) hsp') fun r s' h => ?_
    cases r with
    | error e => exact False.elim h
    | ok fl =>
      cases fl with
      | next => exact False.elim h
      | brk => exact False.elim h
      | cont => exact False.elim h
      | ret u =>
        obtain ⟨v, H', os, bare, un, hok', r', q⟩ := h
        have q' : v = .bl true := q
        subst q'
        obtain rfl : u = Value.bool true := r'
        refine ⟨rfl, OldK.of_keep fun b o e => ?_, os, bare⟩
        cases q : H b with
        | none => exact un.keep b o e q (by intro z; exact absurd (show b ∈ ([] : List Addr) from z) (by simp)) (by simp)
        | some u =>
          rcases hO b with z | ⟨ob, xs, z⟩
          · rw [q] at z; cases z
          · have z2 := un.frzs b ob _ z
            obtain ⟨e1, _⟩ := hok b _ z
            obtain ⟨e2, _⟩ := hok' b _ z2
            rw [e] at e1; cases e1
            exact e2
  cases hk : K.lookup a with
  | some o =>
    have e := KX a o hk
    rw [ha] at e
    cases e
    refine core (fun _ => none) (fun _ => .inl rfl) (.inr ⟨_, vs.toArray, _, hk, rfl, rfl, rfl, by rw [List.size_toArray, lenV]; exact hl, by simpa using rv⟩) (fun b u z => by have z' : (none : Option HO) = some u := z; cases z') (fun b z => absurd rfl z) fun z => absurd rfl z
  | none =>
    refine core (fun b => if b = a then some (.frz { cls := .type "list", data := .seq vs.toArray } (.lst (ns.map V.int))) else none) (fun b => ?_) (.inl ⟨{ cls := .type "list", data := .seq vs.toArray }, if_pos rfl⟩) (fun b u z => ?_) (fun b z => ?_) fun _ => hk
    · by_cases hb : b = a
      · exact .inr ⟨_, _, if_pos hb⟩
      · exact .inl (if_neg hb)
    · by_cases hb : b = a
      · have z' := (if_pos hb).symm.trans z
        cases z'
        subst hb
        exact ⟨ha, by rw [List.length_map]; exact hl, vs, _, rv, ha⟩
      · have z' := (if_neg hb).symm.trans z
        cases z'
    · by_cases hb : b = a
      · exact hb
      · exact absurd (if_neg hb) z
/-- the goal that a head leaves, from the law's meaning F -/
theorem walk_G {l : PySem.W.OpenLaw} {n k : Nat} {q : Program} {loose : List Str} {XP : (Str → Option Value) → Heap → Prop} {YP : World → Heap → Prop} {d : DefRec} {x : Str}
    (hn : l.most = some n) (hn2 : n ≤ sizeLine) (hdf : d.params.defaults = []) (hr : Room k callerA)
    (hF : ∀ (w : World) (mg : Str → Option Value) (fa : Addr) (h : Heap), YP w h → h.Ns mainGlobals mg → mg d.name = some (.ref fa) →
      ∃ (K : PySem.W.Frag) (fd : FuncData) (F : List PyData → Option R), K.In h ∧ (∀ (s : Shared) (u : Value), BindsTo s fd ⟨[u], []⟩ [(x, u)]) ∧
        (∀ ns : List Int, ns.length ≤ n → F [.list (ns.map .int)] = some (.val (.bool true))) ∧
        ∀ base : Heap, K.In base → base.Ns mainGlobals mg → FnP l.prog w K mg base k fa fd [x] F) :
    PySem.W.WalkO q loose XP YP l.row.toRowW d [] (fun f vs => PySem.call f vs) := by
  refine Att.attach_call hn hdf fun w s₀ s₁ mg mb fa o pm cd doc a vs ns G Y ho hd hcd hmg hobj hints hlen hg => ?_
  obtain ⟨K, fd, F, KX, hb, hsp, hF⟩ := hF w mg fa _ Y G.T.g hmg
  exact law_callG KX G.T.g G.T.b G.T.builtins G.T.nolimit hg hobj hints (Nat.le_trans hlen hn2) hr hF hb (hsp ns hlen)
end KV

end

section
/-! KV, part 8: what was added law by law. -/
namespace KV
open PySem PySem.Spec PyProof.Rows L2
section
variable {X : Cx} {a b c e : Expr} {io : Bool} {pos : Pos} {f g : Den}
/-- x, y, z = a, b, c with plain local names -/
def dPar3 (i j l : Nat) (fs : Denv) : DenS := fun r => (fs r).bind fun (ds, r1) => match ds with
  | [d, e, h] => (((setSl i (.fz d) r1).bind (setSl j (.fz e))).bind (setSl l (.fz h))).map Out.nx
  | _ => none
theorem sx_par3 {i j l : Nat} {x y z : Str} {fs : Denv} {px py pz pt : Pos} {kt k2 pt2} (hc : X.calm = true) (hN : X.N.Nodup) (hi : X.N[i]? = some x) (hj : X.N[j]? = some y) (hl : X.N[l]? = some z) (hij : i ≠ j) (hil : i ≠ l) (hjl : j ≠ l)
    (hx : X.env.scope.names.lookup x = some .local) (hy : X.env.scope.names.lookup y = some .local) (hz : X.env.scope.names.lookup z = some .local) (ha : Exv X [a, b, c] fs)
    (hw : swappedStores [.Tuple [.Name x px, .Name y py, .Name z pz] kt pt] (.Tuple [a, b, c] k2 pt2) X.env = pure (some [x, y, z])) (h0 : io = true → i ≠ 0 := by decide) (h1 : io = true → j ≠ 0 := by decide) (h2 : io = true → l ≠ 0 := by decide)
    (hs : swapsWithSole [.Tuple [.Name x px, .Name y py, .Name z pz] kt pt] (.Tuple [a, b, c] k2 pt2) pos.line X.env = pure false := by rfl) :
    Sx io X (.Assign [.Tuple [.Name x px, .Name y py, .Name z pz] kt pt] (.Tuple [a, b, c] k2 pt2) pos) (dPar3 i j l fs) := by
  refine ⟨fun pins s σ H D I hh => (ps_par3 hc hN hi hj hl hij hil hjl hx hy hz ha hw hs).run pins s σ H D I ?_⟩
  obtain ⟨O, r, o, E, hf, k⟩ := hh
  unfold dPar3 at hf
  obtain ⟨⟨ds, r1⟩, q1, hf⟩ := Option.bind_eq_some_iff.mp hf
  match ds, hf, q1 with
  | [d, e, h], hf, q1 =>
    obtain ⟨r4, q2, z⟩ := Option.map_eq_some_iff.mp hf
    subst z
    obtain ⟨r3, q2, q5⟩ := Option.bind_eq_some_iff.mp q2
    obtain ⟨r2, q3, q4⟩ := Option.bind_eq_some_iff.mp q2
    refine ⟨O, r, [d, e, h], r1, E, q1, fun H1 O1 vs st1 E1 kp1 ro1 => ?_⟩
    cases ro1 with
    | @cons v vs' _ _ rp1 ro2 =>
      cases ro2 with
      | @cons w ws' _ _ rp2 ro3 =>
        cases ro3 with
        | @cons u us' _ _ rp3 ro4 =>
          cases ro4
          obtain ⟨e1, hl, hk⟩ := setSl_some q3
          subst e1
          obtain ⟨e2, hl2, hk2⟩ := setSl_some q4
          subst e2
          obtain ⟨e3, hl3, hk3⟩ := setSl_some q5
          subst e3
          have E2 := E1.store (i := i) (s := .fz d) ⟨v, rfl, rp1⟩ fun c z => by cases z
          have E3 := E2.store (i := j) (s := .fz e) ⟨w, rfl, rp2⟩ fun c z => by cases z
          have E4 := E3.store (i := l) (s := .fz h) ⟨u, rfl, rp3⟩ fun c z => by cases z
          exact ⟨v, w, u, rfl, k H1 O1 _ st1 E4 ((KeepS.of kp1).trans ((KeepS.store hk h0).trans ((KeepS.store hk2 h1).trans (KeepS.store hk3 h2))))⟩
  | [], hf, _ => cases hf
  | [_], hf, _ => cases hf
  | [_, _], hf, _ => cases hf
  | _ :: _ :: _ :: _ :: _, hf, _ => cases hf
end
end KV

end

section
/-! KV, part 9: chained comparisons; one test behind a comprehension. -/
namespace KV
open PySem PySem.Spec PyProof.Rows L2
section
variable {X : Cx} {a b c e : Expr} {io : Bool} {pos : Pos} {f g h : Den}
/-- a op b op c; the first two stand still -/
def dCh (f g h : Den) (o p : Op2) : Den := fun r => ((dStl f r).bind vOf).bind fun (dx, r1) => ((dStl g r1).bind vOf).bind fun (dy, r2) => (o dx dy).bind fun z => (bOf (z, r2)).bind fun (k, _) =>
  if k = true then (h r2).bind fun (w, r3) => (deref r3 w).bind fun dw => (p dy dw).bind fun z2 => some (z2, r3) else some (.val (.bool false), r2)
theorem ch_read {o p : Op2} {σ : L2.St} {H : Hp} {Q : VK} (hw : tX X.K (dCh f g h o p) σ H Q) : tChain (rD2 X.K o) (rD2 X.K p) (tX X.K (dStl f)) (tX X.K (dStl g)) (tX X.K h) σ H Q := by
  obtain ⟨O, r, z, r', E, hf, k⟩ := hw
  unfold dCh at hf
  obtain ⟨⟨dx, r1⟩, q1, hf⟩ := Option.bind_eq_some_iff.mp hf
  obtain ⟨⟨dy, r2⟩, q2, hf⟩ := Option.bind_eq_some_iff.mp hf
  obtain ⟨z1, q3, hf⟩ := Option.bind_eq_some_iff.mp hf
  obtain ⟨⟨k1, r2'⟩, q4, hf⟩ := Option.bind_eq_some_iff.mp hf
  obtain ⟨y1, q5, q6⟩ := Option.bind_eq_some_iff.mp q1
  obtain ⟨y2, q7, q8⟩ := Option.bind_eq_some_iff.mp q2
  have e1 := vOf_some q6
  have e2 := vOf_some q8
  have e3 := bOf_some q4
  subst e1
  subst e2
  cases e3
  refine ⟨O, r, .val dx, r1, E, q5, fun H1 O1 v st1 E1 kp1 ro1 => ⟨O1, r1, .val dy, r2, E1, q7, fun H2 O2 u st2 E2 kp2 ro2 => ?_⟩⟩
  have ro1 : Rp X.K H1 v dx := ro1
  have ro2 : Rp X.K H2 u dy := ro2
  refine ⟨dx, dy, _, .rp (Rp.fx (E1.fxOf st2) ro1), .rp ro2, q3, fun H3 w n => ?_⟩
  obtain ⟨O3, st3, E3, ro3⟩ := n.done E2
  have ro3 : Rp X.K H3 w (.bool k1) := ro3
  cases ro3
  refine ⟨k1, rfl, ?_⟩
  cases k1 with
  | false =>
    have hf : some (R.val (.bool false), r2) = some (z, r') := hf
    cases hf
    exact ite_ff (k H3 O3 (.bl false) (st1.trans (st2.trans st3)) E3 (kp1.trans kp2) (.bl false))
  | true =>
    have hf : ((h r2).bind fun (w, r3) => (deref r3 w).bind fun dw => (p dy dw).bind fun z2 => some (z2, r3)) = some (z, r') := hf
    obtain ⟨⟨wv, r3⟩, p1, hf⟩ := Option.bind_eq_some_iff.mp hf
    obtain ⟨dw, p2, hf⟩ := Option.bind_eq_some_iff.mp hf
    obtain ⟨z2, p3, hf⟩ := Option.bind_eq_some_iff.mp hf
    cases hf
    refine ite_tt ⟨O3, r2, wv, r', E3, p1, fun H4 O4 v4 st4 E4 kp4 ro4 => ?_⟩
    refine ⟨dy, dw, z, .rp (Rp.fx (E3.fxOf st4) (Rp.fx (E2.fxOf st3) ro2)), ro4.deref E4 p2, p3, fun H5 w5 n5 => ?_⟩
    obtain ⟨O5, st5, E5, ro5⟩ := n5.done E4
    exact k H5 O5 w5 (st1.trans (st2.trans (st3.trans (st4.trans st5)))) E5 (kp1.trans (kp2.trans kp4)) ro5
theorem ex_chain {o1 o2 : CmpOp} {o p : Op2} (ho : OpR X (compareOp o1) (rD2 X.K o)) (hp : OpR X (compareOp o2) (rD2 X.K p)) (ha : Ex X a f) (hb : Ex X b g) (hc : Ex X c h)
    (hm : lastMarks [o1, o2] [b, c] = false := by with_unfolding_all rfl) : Ex X (.Compare a [o1, o2] [b, c] pos) (dCh f g h o p) :=
  ⟨fun pins s σ H Q I hw => (pe_chain ho hp (ex_stl ha) (ex_stl hb) hc hm).run pins s σ H Q I (ch_read hw)⟩
theorem tx_chain {o1 o2 : CmpOp} {o p : Op2} (ho : OpR X (compareOp o1) (rD2 X.K o)) (hp : OpR X (compareOp o2) (rD2 X.K p)) (ha : Ex X a f) (hb : Ex X b g) (hc : Ex X c h)
    (hm : lastMarks [o1, o2] [b, c] = false := by with_unfolding_all rfl) : Tx X (.Compare a [o1, o2] [b, c] pos) (dB (dCh f g h o p)) := by
  refine ⟨fun pins s σ H Q I hw => (pt_chain ho hp (ex_stl ha) (ex_stl hb) hc hm).run pins s σ H Q I ?_⟩
  have := b_read hw
  exact ch_read this
end
end KV

end

section
/-! KW: what holds of a denotation's outcome, step by step. -/
namespace KV
open PySem PySem.Spec PyProof.Rows L2
structure wD (f : Den) (r : Nms) (Q : R → Nms → Prop) : Prop where
  ex : ∃ x r', f r = some (x, r') ∧ Q x r'
structure wN (f : Dens) (r : Nms) (Q : List R → Nms → Prop) : Prop where
  ex : ∃ x r', f r = some (x, r') ∧ Q x r'
structure wV (f : Denv) (r : Nms) (Q : List PyData → Nms → Prop) : Prop where
  ex : ∃ x r', f r = some (x, r') ∧ Q x r'
structure wT (f : DenT) (r : Nms) (Q : Bool → Nms → Prop) : Prop where
  ex : ∃ x r', f r = some (x, r') ∧ Q x r'
structure wI (f : DenI) (r : Nms) (Q : List PyData → Nms → Option Nat → Prop) : Prop where
  ex : ∃ x r' u, f r = some (x, r', u) ∧ Q x r' u
structure wG (g : DenG) (d : PyData) (r : Nms) (Q : Nms → Prop) : Prop where
  ex : ∃ r', g d r = some r' ∧ Q r'
structure wGs (g : DenGs) (d : List PyData) (r : Nms) (Q : Nms → Prop) : Prop where
  ex : ∃ r', g d r = some r' ∧ Q r'
structure wZ (f : Den) (r : Nms) (Q : PyData → Nms → Prop) : Prop where
  ex : ∃ x r', (dFrz f r).bind vOf = some (x, r') ∧ Q x r'
def toO (N : Nms → Prop) (T : R → Nms → Prop) (B C : Nms → Prop) : Out → Prop
  | .nx r => N r
  | .rt x r => T x r
  | .bk r => B r
  | .ct r => C r
structure wS (f : DenS) (r : Nms) (N : Nms → Prop) (T : R → Nms → Prop) (B C : Nms → Prop) : Prop where
  ex : ∃ o, f r = some o ∧ toO N T B C o
structure wF (F : List PyData → Option R) (ds : List PyData) (Q : R → Prop) : Prop where
  ex : ∃ z, F ds = some z ∧ Q z
structure wB (G : Ob → List PyData → Option (R × Ob)) (c : Ob) (ds : List PyData) (Q : R → Ob → Prop) : Prop where
  ex : ∃ z c', G c ds = some (z, c') ∧ Q z c'
structure wO {α : Type} (o : Option α) (Q : α → Prop) : Prop where
  ex : ∃ z, o = some z ∧ Q z
structure wSt (x : R) (r : Nms) (Q : R → Nms → Prop) : Prop where
  ex : Q (stl (x, r)).1 (stl (x, r)).2
structure wDr (r : Nms) (x : R) (Q : PyData → Prop) : Prop where
  ex : ∃ d, deref r x = some d ∧ Q d
structure wFz (x : R) (r : Nms) (Q : PyData → Nms → Prop) : Prop where
  ex : ∃ d r', (frz (x, r)).bind vOf = some (d, r') ∧ Q d r'
structure wPt (o : Option Den) (r : Nms) (Q : Option Int → Nms → Prop) : Prop where
  ex : ∃ k r', part o r = some (k, r') ∧ Q k r'
structure wDrs (r : Nms) (xs : List R) (Q : List PyData → Prop) : Prop where
  ex : ∃ d, derefs r xs = some d ∧ Q d
section
variable {f g h : Den} {r r1 : Nms} {Q : R → Nms → Prop} {op : Op2} {d e : PyData} {i j k : Nat} {N B C : Nms → Prop} {T : R → Nms → Prop} {u w : DenS} {t s : DenT} {gs hs : Denv} {ns : Dens} {x : R}
theorem wO.mono {α : Type} {o : Option α} {P Q : α → Prop} (h : wO o P) (k : ∀ z, P z → Q z) : wO o Q := let ⟨z, e, q⟩ := h.ex; ⟨z, e, k z q⟩
theorem wD.mono {P Q : R → Nms → Prop} (h : wD f r P) (k : ∀ x r', P x r' → Q x r') : wD f r Q := let ⟨x, r', e, q⟩ := h.ex; ⟨x, r', e, k x r' q⟩
theorem wF.mono {F : List PyData → Option R} {ds : List PyData} {P Q : R → Prop} (h : wF F ds P) (k : ∀ z, P z → Q z) : wF F ds Q := let ⟨z, e, q⟩ := h.ex; ⟨z, e, k z q⟩
theorem wB.mono {G : Ob → List PyData → Option (R × Ob)} {c : Ob} {ds : List PyData} {P Q : R → Ob → Prop} (h : wB G c ds P) (k : ∀ z c', P z c' → Q z c') : wB G c ds Q := let ⟨z, c', e, q⟩ := h.ex; ⟨z, c', e, k z c' q⟩
theorem wS.mono {N' B' C' : Nms → Prop} {T' : R → Nms → Prop} (h : wS u r N T B C) (k : ∀ r, N r → N' r) (k2 : ∀ x r, T x r → T' x r) (k3 : ∀ r, B r → B' r) (k4 : ∀ r, C r → C' r) : wS u r N' T' B' C' := by
  obtain ⟨o, e, q⟩ := h.ex
  refine ⟨o, e, ?_⟩
  cases o with
  | nx r => exact k r q
  | rt x r => exact k2 x r q
  | bk r => exact k3 r q
  | ct r => exact k4 r q
/-! values that are taken -/
theorem wst_val (h : Q (.val d) r) : wSt (.val d) r Q := ⟨h⟩
theorem wst_tmp {ds : List PyData} (h : Q (.val (.list ds)) r) : wSt (.tmp (.lst ds)) r Q := ⟨h⟩
theorem wst_slot (h : Q (.slot i) r) : wSt (.slot i) r Q := ⟨h⟩
theorem wdr_val {Q : PyData → Prop} (h : Q d) : wDr r (.val d) Q := ⟨d, rfl, h⟩
theorem wdr_tmp {Q : PyData → Prop} {ds : List PyData} (h : Q (.list ds)) : wDr r (.tmp (.lst ds)) Q := ⟨_, rfl, h⟩
theorem wdr_own {Q : PyData → Prop} {ds : List PyData} (e : r[i]? = some (.own (.lst ds))) (h : Q (.list ds)) : wDr r (.slot i) Q := ⟨_, by unfold deref; simp only [e]; rfl, h⟩
theorem wdr_lck {Q : PyData → Prop} {ds : List PyData} (e : r[i]? = some (.lck (.lst ds))) (h : Q (.list ds)) : wDr r (.slot i) Q := ⟨_, by unfold deref; simp only [e]; rfl, h⟩
theorem wdr_fz {Q : PyData → Prop} (e : r[i]? = some (.fz d)) (h : Q d) : wDr r (.slot i) Q := ⟨_, by unfold deref; simp only [e], h⟩
theorem wfz_val {Q : PyData → Nms → Prop} (h : Q d r) : wFz (.val d) r Q := ⟨d, r, rfl, h⟩
theorem wfz_tmp {Q : PyData → Nms → Prop} {ds : List PyData} (h : Q (.list ds) r) : wFz (.tmp (.lst ds)) r Q := ⟨_, r, rfl, h⟩
theorem wfz_own {Q : PyData → Nms → Prop} {ds : List PyData} (e : r[i]? = some (.own (.lst ds))) (e2 : r.set i (.fz (.list ds)) = r1) (h : Q (.list ds) r1) : wFz (.slot i) r Q := ⟨_, _, by unfold frz; simp only [e]; rw [Option.bind_some]; subst e2; rfl, h⟩
theorem wfz_fz {Q : PyData → Nms → Prop} (e : r[i]? = some (.fz d)) (h : Q d r) : wFz (.slot i) r Q := ⟨_, _, by unfold frz; simp only [e]; rfl, h⟩
theorem wz_of {Q : PyData → Nms → Prop} (h : wD f r fun x r1 => wFz x r1 Q) : wZ f r Q := by
  obtain ⟨x, r1, e, ⟨d, r2, e2, q⟩⟩ := h.ex
  refine ⟨d, r2, ?_, q⟩
  unfold dFrz
  rw [e]
  exact e2
theorem wst_of (h : wD f r fun x r1 => wSt x r1 Q) : wD (dStl f) r Q := by
  obtain ⟨x, r1, e, ⟨q⟩⟩ := h.ex
  exact ⟨_, _, by unfold dStl; rw [e] <;> rfl, q⟩
/-! expressions -/
theorem wd_fz (e : r[i]? = some (.fz d)) (h : Q (.val d) r) : wD (dVar i) r Q := ⟨_, _, by unfold dVar; rw [e], h⟩
theorem wd_own {c : Ob} (e : r[i]? = some (.own c)) (h : Q (.slot i) r) : wD (dVar i) r Q := ⟨_, _, by unfold dVar; rw [e], h⟩
theorem wd_lck {c : Ob} (e : r[i]? = some (.lck c)) (h : Q (.slot i) r) : wD (dVar i) r Q := ⟨_, _, by unfold dVar; rw [e], h⟩
theorem wd_c (h : Q (.val d) r) : wD (dC d) r Q := ⟨_, _, rfl, h⟩
theorem wd_bin (h : wD f r fun x r1 => wSt x r1 fun x r1 => wD g r1 fun y r2 => wDr r2 x fun dx => wDr r2 y fun dy => wO (op dx dy) fun z => Q z r2) : wD (dBin f g op) r Q := by
  obtain ⟨x, r1, e, ⟨q⟩⟩ := h.ex
  obtain ⟨y, r2, e2, ⟨dx, e3, ⟨dy, e4, ⟨z, e5, q⟩⟩⟩⟩ := q
  exact ⟨z, r2, by unfold dBin; rw [show dStl f r = some (stl (x, r1)) by unfold dStl; rw [e] <;> rfl]; simp only [Option.bind_some, e2, e3, e4, e5], q⟩
theorem wd_un {op : PyData → Option R} (h : wD f r fun x r1 => wDr r1 x fun dx => wO (op dx) fun z => Q z r1) : wD (dUn f op) r Q := by
  obtain ⟨x, r1, e, ⟨dx, e3, ⟨z, e5, q⟩⟩⟩ := h.ex
  exact ⟨z, r1, by unfold dUn; simp only [e, Option.bind_some, e3, e5], q⟩
theorem wn_nil {Q : List R → Nms → Prop} (h : Q [] r) : wN dNil r Q := ⟨_, _, rfl, h⟩
theorem wn_cons {Q : List R → Nms → Prop} (h : wD f r fun x r1 => wSt x r1 fun x r1 => wN ns r1 fun xs r2 => Q (x :: xs) r2) : wN (dCons f ns) r Q := by
  obtain ⟨x, r1, e, ⟨q⟩⟩ := h.ex
  obtain ⟨xs, r2, e2, q⟩ := q
  exact ⟨_, _, by unfold dCons; rw [show dStl f r = some (stl (x, r1)) by unfold dStl; rw [e] <;> rfl]; simp only [Option.bind_some, e2], q⟩
theorem wdrs_nil {Q : List PyData → Prop} (h : Q []) : wDrs r [] Q := ⟨_, rfl, h⟩
theorem wdrs_cons {Q : List PyData → Prop} {xs : List R} (h : wDr r x fun d => wDrs r xs fun ds => Q (d :: ds)) : wDrs r (x :: xs) Q := by
  obtain ⟨d, e, ⟨ds, e2, q⟩⟩ := h
  exact ⟨_, by unfold derefs; simp only [e, e2, Option.bind_some], q⟩
theorem wd_cb {op : OpN} (h : wN ns r fun xs r1 => wDrs r1 xs fun ds => wO (op ds) fun z => Q z r1) : wD (dCB ns op) r Q := by
  obtain ⟨xs, r1, e, ⟨ds, e2, ⟨z, e3, q⟩⟩⟩ := h.ex
  exact ⟨z, r1, by unfold dCB; simp only [e, e2, e3, Option.bind_some], q⟩
theorem wv_nil {Q : List PyData → Nms → Prop} (h : Q [] r) : wV vNil r Q := ⟨_, _, rfl, h⟩
theorem wv_cons {Q : List PyData → Nms → Prop} (h : wD f r fun x r1 => wFz x r1 fun d r2 => wV gs r2 fun ds r3 => Q (d :: ds) r3) : wV (vCons f gs) r Q := by
  obtain ⟨x, r1, e, ⟨d, r2, e2, ⟨ds, r3, e3, q⟩⟩⟩ := h.ex
  exact ⟨_, _, by unfold vCons; rw [show (dFrz f r).bind vOf = some (d, r2) by unfold dFrz; rw [e]; exact e2]; simp only [e3, Option.bind_some], q⟩
theorem wd_tup (h : wV gs r fun ds r1 => ds.length ≤ sizeLine ∧ Q (.val (.tuple ds)) r1) : wD (dTup gs) r Q := by
  obtain ⟨ds, r1, e, l, q⟩ := h.ex
  exact ⟨_, _, by unfold dTup; simp only [e, Option.bind_some]; exact if_pos l, q⟩
theorem wd_lst (h : wV gs r fun ds r1 => ds.length ≤ sizeLine ∧ Q (.tmp (.lst ds)) r1) : wD (dLst gs) r Q := by
  obtain ⟨ds, r1, e, l, q⟩ := h.ex
  exact ⟨_, _, by unfold dLst; simp only [e, Option.bind_some]; exact if_pos l, q⟩
theorem wd_call {F : List PyData → Option R} (h : wV gs r fun ds r1 => wF F ds fun z => Q z r1) : wD (dCall F gs) r Q := by
  obtain ⟨ds, r1, e, ⟨z, e2, q⟩⟩ := h.ex
  exact ⟨z, r1, by unfold dCall; simp only [e, e2, Option.bind_some], q⟩
theorem wd_callK {F : List PyData → Option R} {is : List Nat} (h : wV gs r fun cs r1 => wV hs r1 fun ds r2 => wF F (pick is (cs ++ ds)) fun z => Q z r2) : wD (dCallK F is gs hs) r Q := by
  obtain ⟨cs, r1, e, ⟨ds, r2, e1, ⟨z, e2, q⟩⟩⟩ := h.ex
  exact ⟨z, r2, by unfold dCallK; simp only [e, e1, e2, Option.bind_some], q⟩
theorem wd_callB {G : Ob → List PyData → Option (R × Ob)} {c : Ob} (e0 : r[i]? = some (.own c)) (h : wV gs r fun ds r1 => ∃ c1, r1[i]? = some (.own c1) ∧ wB G c1 ds fun z c' => Q z (r1.set i (.own c'))) : wD (dCallB G i gs) r Q := by
  obtain ⟨ds, r1, e, c1, e1, ⟨z, c', e2, q⟩⟩ := h.ex
  exact ⟨z, _, by unfold dCallB; simp only [e0, e, e1, e2, Option.bind_some], q⟩
theorem wd_callT {G : Ob → List PyData → Option (R × Ob)} (h : wD f r fun x r1 => ∃ c, x = .tmp c ∧ wB G c [] fun z c' => Q z r1) : wD (dCallT G f) r Q := by
  obtain ⟨x, r1, e, c, rfl, ⟨z, c', e2, q⟩⟩ := h.ex
  exact ⟨z, _, by unfold dCallT; simp only [e, e2, Option.bind_some], q⟩
theorem wd_v (h : wT t r fun b r1 => Q (.val (.bool b)) r1) : wD (dV t) r Q := by
  obtain ⟨b, r1, e, q⟩ := h.ex
  exact ⟨_, _, by unfold dV; simp only [e, Option.bind_some], q⟩
theorem wd_if (h : wT t r fun b r1 => (b = true → wD f r1 Q) ∧ (b = false → wD g r1 Q)) : wD (dIfE t f g) r Q := by
  obtain ⟨b, r1, e, q1, q2⟩ := h.ex
  cases b with
  | true => obtain ⟨x, r2, e2, q⟩ := (q1 rfl).ex; exact ⟨_, _, by unfold dIfE; simp only [e, Option.bind_some, if_true, e2], q⟩
  | false => obtain ⟨x, r2, e2, q⟩ := (q2 rfl).ex; exact ⟨_, _, by unfold dIfE; simp only [e, Option.bind_some]; rw [if_neg Bool.false_ne_true, e2], q⟩
theorem wd_ch {op2 : Op2} (h0 : wD f r fun x r1 => wSt x r1 fun x r1 => ∃ dx, x = .val dx ∧ wD g r1 fun y r2 => wSt y r2 fun y r2 => ∃ dy, y = .val dy ∧ wO (op dx dy) fun z => ∃ k, z = .val (.bool k) ∧ (k = true → wD h r2 fun w r3 => wDr r3 w fun dw => wO (op2 dy dw) fun z2 => Q z2 r3) ∧ (k = false → Q (.val (.bool false)) r2)) : wD (dCh f g h op op2) r Q := by
  obtain ⟨x, r1, e, ⟨q⟩⟩ := h0.ex
  obtain ⟨dx, ex, ⟨y, r2, e2, ⟨q⟩⟩⟩ := q
  obtain ⟨dy, ey, ⟨z, e3, k, rfl, q1, q2⟩⟩ := q
  have a1 : (dStl f r).bind vOf = some (dx, (stl (x, r1)).2) := by
    unfold dStl; rw [e, Option.map_some, Option.bind_some]
    rw [show stl (x, r1) = ((stl (x, r1)).1, (stl (x, r1)).2) from rfl, ex]; rfl
  have a2 : (dStl g (stl (x, r1)).2).bind vOf = some (dy, (stl (y, r2)).2) := by
    unfold dStl; rw [e2, Option.map_some, Option.bind_some]
    rw [show stl (y, r2) = ((stl (y, r2)).1, (stl (y, r2)).2) from rfl, ey]; rfl
  cases k with
  | true =>
    obtain ⟨w, r3, e4, ⟨dw, e5, ⟨z2, e6, q⟩⟩⟩ := (q1 rfl).ex
    exact ⟨_, _, by unfold dCh; simp only [a1, a2, e3, Option.bind_some, bOf, if_true, e4, e5, e6], q⟩
  | false => exact ⟨_, _, by unfold dCh; simp only [a1, a2, e3, Option.bind_some, bOf]; exact if_neg Bool.false_ne_true, q2 rfl⟩
theorem wd_ch' {op2 : Op2} (h0 : wD f r fun x r1 => wSt x r1 fun x r1 => ∃ dx, x = .val dx ∧ wD g r1 fun y r2 => wSt y r2 fun y r2 => ∃ dy, y = .val dy ∧ wO (op dx dy) fun z => ∃ k, z = .val (.bool k) ∧ wD h r2 fun w r3 => wDr r3 w fun dw => wO (op2 dy dw) fun z2 => ∃ k2, z2 = .val (.bool k2) ∧ r3 = r2 ∧ Q (.val (.bool (k && k2))) r2) : wD (dCh f g h op op2) r Q := by
  refine wd_ch (h0.mono fun x r1 ⟨q⟩ => ⟨?_⟩)
  obtain ⟨dx, ex, q⟩ := q
  refine ⟨dx, ex, q.mono fun y r2 ⟨q⟩ => ⟨?_⟩⟩
  obtain ⟨dy, ey, q⟩ := q
  refine ⟨dy, ey, q.mono fun z ⟨k, ez, q⟩ => ⟨k, ez, fun hk => q.mono fun w r3 ⟨dw, e5, ⟨z2, e6, k2, e7, e8, q⟩⟩ => ⟨dw, e5, ⟨z2, e6, ?_⟩⟩, fun hk => ?_⟩⟩
  · subst e7 e8 hk; simpa using q
  · obtain ⟨w, r3, e4, ⟨dw, e5, ⟨z2, e6, k2, e7, e8, q⟩⟩⟩ := q.ex
    subst hk; simpa using q
theorem wd_slice {lo hi : Option Den} (h : wD f r fun x r1 => wSt x r1 fun x r1 => wPt lo r1 fun l r2 => wPt hi r2 fun h r3 => wDr r3 x fun dx => wO (opSlice dx l h) fun z => Q z r3) : wD (dSlice f lo hi) r Q := by
  obtain ⟨x, r1, e, ⟨q⟩⟩ := h.ex
  obtain ⟨l, r2, e2, ⟨h, r3, e3, ⟨dx, e4, ⟨z, e5, q⟩⟩⟩⟩ := q
  exact ⟨z, r3, by unfold dSlice; rw [show dStl f r = some (stl (x, r1)) by unfold dStl; rw [e] <;> rfl]; simp only [Option.bind_some, e2, e3, e4, e5], q⟩
theorem wp_none {Q : Option Int → Nms → Prop} (h : Q none r) : wPt none r Q := ⟨_, _, rfl, h⟩
theorem wp_some {Q : Option Int → Nms → Prop} (h : wD f r fun x r1 => ∃ k, x = .val (.int k) ∧ Q (some k) r1) : wPt (some f) r Q := by
  obtain ⟨x, r1, e, k, rfl, q⟩ := h.ex
  exact ⟨_, _, by unfold part; simp only [e, Option.bind_some], q⟩
theorem wd_isi {A : String} (h : wD f r fun x r1 => wSt x r1 fun x r1 => wDr r1 x fun d => wO (isT A d) fun b => Q (.val (.bool b)) r1) : wD (dIsi f A) r Q := by
  obtain ⟨x, r1, e, ⟨q⟩⟩ := h.ex
  obtain ⟨d, e2, ⟨b, e3, q⟩⟩ := q
  exact ⟨_, _, by unfold dIsi; rw [show dStl f r = some (stl (x, r1)) by unfold dStl; rw [e] <;> rfl]; simp only [Option.bind_some, e2, e3, Option.map_some], q⟩
theorem wd_isi2 {A A' : String} (h : wD f r fun x r1 => wSt x r1 fun x r1 => wDr r1 x fun d => wO (isT2 A A' d) fun b => Q (.val (.bool b)) r1) : wD (dIsi2 f A A') r Q := by
  obtain ⟨x, r1, e, ⟨q⟩⟩ := h.ex
  obtain ⟨d, e2, ⟨b, e3, q⟩⟩ := q
  exact ⟨_, _, by unfold dIsi2; rw [show dStl f r = some (stl (x, r1)) by unfold dStl; rw [e] <;> rfl]; simp only [Option.bind_some, e2, e3, Option.map_some], q⟩
theorem wd_app {ds0 : List PyData} (e0 : r[i]? = some (.own (.lst ds0))) (h : wD f r fun x r1 => wFz x r1 fun d r2 => ∃ ds, r2[i]? = some (.own (.lst ds)) ∧ ds.length < sizeLine ∧ Q (.val .none) (r2.set i (.own (.lst (ds ++ [d]))))) : wD (dApp i f) r Q := by
  obtain ⟨x, r1, e, ⟨d, r2, e2, ds, e3, l, q⟩⟩ := h.ex
  refine ⟨_, _, ?_, q⟩
  unfold dApp ownL
  rw [show (dFrz f r).bind vOf = some (d, r2) by unfold dFrz; rw [e]; exact e2]
  simp only [e0, e3, Option.bind_some]
  exact if_pos l
/-! tests -/
theorem wt_b {Q : Bool → Nms → Prop} (h : wD f r fun x r1 => ∃ b, x = .val (.bool b) ∧ Q b r1) : wT (dB f) r Q := by
  obtain ⟨x, r1, e, b, rfl, q⟩ := h.ex
  exact ⟨_, _, by unfold dB; simp only [e, Option.bind_some]; rfl, q⟩
theorem wt_and {Q : Bool → Nms → Prop} (h : wT t r fun b r1 => (b = true → wT s r1 Q) ∧ (b = false → Q false r1)) : wT (dAnd t s) r Q := by
  obtain ⟨b, r1, e, q1, q2⟩ := h.ex
  cases b with
  | true => obtain ⟨x, r2, e2, q⟩ := (q1 rfl).ex; exact ⟨_, _, by unfold dAnd; simp only [e, Option.bind_some, if_true, e2], q⟩
  | false => exact ⟨_, _, by unfold dAnd; simp only [e, Option.bind_some]; rw [if_neg Bool.false_ne_true], q2 rfl⟩
theorem wt_or {Q : Bool → Nms → Prop} (h : wT t r fun b r1 => (b = true → Q true r1) ∧ (b = false → wT s r1 Q)) : wT (dOr t s) r Q := by
  obtain ⟨b, r1, e, q1, q2⟩ := h.ex
  cases b with
  | false => obtain ⟨x, r2, e2, q⟩ := (q2 rfl).ex; exact ⟨_, _, by unfold dOr; simp only [e, Option.bind_some]; rw [if_neg Bool.false_ne_true, e2], q⟩
  | true => exact ⟨_, _, by unfold dOr; simp only [e, Option.bind_some, if_true], q1 rfl⟩
/-- both sides told at once, where the second one is there all the same -/
theorem wt_and' {Q : Bool → Nms → Prop} (h : wT t r fun b r1 => wT s r1 fun b' r2 => r2 = r1 ∧ Q (b && b') r1) : wT (dAnd t s) r Q := by
  obtain ⟨b, r1, e, ⟨b', r2, e2, rfl, q⟩⟩ := h.ex
  cases b with
  | true => exact ⟨b', r2, by unfold dAnd; simp only [e, Option.bind_some, if_true, e2], by simpa using q⟩
  | false => exact ⟨false, r2, by unfold dAnd; simp only [e, Option.bind_some]; rw [if_neg Bool.false_ne_true], by simpa using q⟩
theorem wt_or' {Q : Bool → Nms → Prop} (h : wT t r fun b r1 => wT s r1 fun b' r2 => r2 = r1 ∧ Q (b || b') r1) : wT (dOr t s) r Q := by
  obtain ⟨b, r1, e, ⟨b', r2, e2, rfl, q⟩⟩ := h.ex
  cases b with
  | false => exact ⟨b', r2, by unfold dOr; simp only [e, Option.bind_some]; rw [if_neg Bool.false_ne_true, e2], by simpa using q⟩
  | true => exact ⟨true, r2, by unfold dOr; simp only [e, Option.bind_some, if_true], by simpa using q⟩
theorem wt_not {Q : Bool → Nms → Prop} (h : wT t r fun b r1 => Q (!b) r1) : wT (dNot t) r Q := by
  obtain ⟨b, r1, e, q⟩ := h.ex
  exact ⟨_, _, by unfold dNot; simp only [e, Option.bind_some], q⟩
theorem wt_yes {Q : Bool → Nms → Prop} (h : Q true r) : wT tYesD r Q := ⟨_, _, rfl, h⟩
/-! targets -/
theorem wg_name (e : setSl i (.fz d) r = some r1) {Q : Nms → Prop} (h : Q r1) : wG (gN i) d r Q := ⟨_, e, h⟩
theorem wg_tup {gg : DenGs} {ds : List PyData} {Q : Nms → Prop} (h : wGs gg ds r Q) : wG (gT gg) (.tuple ds) r Q := by
  obtain ⟨r', e, q⟩ := h.ex
  exact ⟨r', e, q⟩
theorem wgs_nil {Q : Nms → Prop} (h : Q r) : wGs gsNil [] r Q := ⟨_, rfl, h⟩
theorem wgs_cons {g0 : DenG} {gg : DenGs} {ds : List PyData} {Q : Nms → Prop} (h : wG g0 d r fun r1 => wGs gg ds r1 Q) : wGs (gsCons g0 gg) (d :: ds) r Q := by
  obtain ⟨r1, e, ⟨r2, e2, q⟩⟩ := h.ex
  exact ⟨r2, by unfold gsCons; simp only [e, Option.bind_some, e2], q⟩
/-! statements -/
theorem ws_next (h : N r) : wS dNext r N T B C := ⟨_, rfl, h⟩
theorem ws_break (h : B r) : wS dBreak r N T B C := ⟨_, rfl, h⟩
theorem ws_seq (h : wS u r (fun r1 => wS w r1 N T B C) T B C) : wS (dSeq u w) r N T B C := by
  obtain ⟨o, e, q⟩ := h.ex
  cases o with
  | nx r1 => obtain ⟨o, e2, q2⟩ := wS.ex q; exact ⟨o, by unfold dSeq; simp only [e, Option.bind_some, e2], q2⟩
  | rt x r1 => exact ⟨.rt x r1, by unfold dSeq; simp only [e, Option.bind_some], q⟩
  | bk r1 => exact ⟨.bk r1, by unfold dSeq; simp only [e, Option.bind_some], q⟩
  | ct r1 => exact ⟨.ct r1, by unfold dSeq; simp only [e, Option.bind_some], q⟩
theorem ws_if (h : wT t r fun b r1 => (b = true → wS u r1 N T B C) ∧ (b = false → wS w r1 N T B C)) : wS (dIf t u w) r N T B C := by
  obtain ⟨b, r1, e, q1, q2⟩ := h.ex
  cases b with
  | true => obtain ⟨x, e2, q⟩ := (q1 rfl).ex; exact ⟨_, by unfold dIf; simp only [e, Option.bind_some, if_true, e2], q⟩
  | false => obtain ⟨x, e2, q⟩ := (q2 rfl).ex; exact ⟨_, by unfold dIf; simp only [e, Option.bind_some]; rw [if_neg Bool.false_ne_true, e2], q⟩
theorem ws_ret (h : wD f r T) : wS (dRet f) r N T B C := by
  obtain ⟨x, r1, e, q⟩ := h.ex
  exact ⟨.rt x r1, by unfold dRet; simp only [e, Option.bind_some], q⟩
theorem ws_drop (h : wD f r fun _ r1 => N r1) : wS (dDrop f) r N T B C := by
  obtain ⟨x, r1, e, q⟩ := h.ex
  exact ⟨.nx r1, by unfold dDrop; simp only [e, Option.bind_some], q⟩
/-- a store of a value -/
structure wPut (i : Nat) (x : R) (r : Nms) (Q : Nms → Prop) : Prop where
  ex : ∃ s r', (match x with | .val d => some (Sl.fz d) | .tmp c => some (Sl.own c) | .slot _ => none) = some s ∧ setSl i s r = some r' ∧ Q r'
theorem wput_val {Q : Nms → Prop} (e : setSl i (.fz d) r = some r1) (h : Q r1) : wPut i (.val d) r Q := ⟨_, _, rfl, e, h⟩
theorem wput_tmp {c : Ob} {Q : Nms → Prop} (e : setSl i (.own c) r = some r1) (h : Q r1) : wPut i (.tmp c) r Q := ⟨_, _, rfl, e, h⟩
theorem ws_set (h : wD f r fun x r1 => wPut i x r1 N) : wS (dSet i f) r N T B C := by
  obtain ⟨x, r1, e, ⟨s, r2, e2, e3, q⟩⟩ := h.ex
  refine ⟨.nx r2, ?_, q⟩
  unfold dSet
  simp only [e, Option.bind_some]
  cases x with
  | val d => cases e2; simp only [e3, Option.map_some]
  | tmp c => cases e2; simp only [e3, Option.map_some]
  | slot i => cases e2
theorem ws_asg {g0 : DenG} (h : wD f r fun x r1 => wFz x r1 fun d r2 => wG g0 d r2 N) : wS (dAsg f g0) r N T B C := by
  obtain ⟨x, r1, e, ⟨d, r2, e2, ⟨r3, e3, q⟩⟩⟩ := h.ex
  exact ⟨.nx r3, by unfold dAsg; rw [show (dFrz f r).bind vOf = some (d, r2) by unfold dFrz; rw [e]; exact e2]; simp only [e3, Option.bind_some, Option.map_some], q⟩
theorem ws_par (h : wV gs r fun ds r1 => ∃ d e r2 r3, ds = [d, e] ∧ setSl i (.fz d) r1 = some r2 ∧ setSl j (.fz e) r2 = some r3 ∧ N r3) : wS (dPar i j gs) r N T B C := by
  obtain ⟨ds, r1, e0, d, e, r2, r3, rfl, e1, e2, q⟩ := h.ex
  exact ⟨.nx r3, by unfold dPar; simp only [e0, e1, e2, Option.bind_some, Option.map_some], q⟩
theorem ws_par3 (h : wV gs r fun ds r1 => ∃ d e e' r2 r3 r4, ds = [d, e, e'] ∧ setSl i (.fz d) r1 = some r2 ∧ setSl j (.fz e) r2 = some r3 ∧ setSl k (.fz e') r3 = some r4 ∧ N r4) : wS (dPar3 i j k gs) r N T B C := by
  obtain ⟨ds, r1, e0, d, e, e', r2, r3, r4, rfl, e1, e2, e3, q⟩ := h.ex
  exact ⟨.nx r4, by unfold dPar3; simp only [e0, e1, e2, e3, Option.bind_some, Option.map_some], q⟩
theorem ws_setIx (h : wD f r fun x r1 => wFz x r1 fun d r2 => ∃ ds0, r2[i]? = some (.own (.lst ds0)) ∧ wD g r2 fun y r3 => ∃ k ds j, y = .val (.int k) ∧ r3[i]? = some (.own (.lst ds)) ∧ ixN ds.length k = some j ∧ N (r3.set i (.own (.lst (ds.set j d))))) : wS (dSetIx i f g) r N T B C := by
  obtain ⟨x, r1, e, ⟨d, r2, e2, ds0, e3, ⟨y, r3, e4, k, ds, j, rfl, e5, e6, q⟩⟩⟩ := h.ex
  exact ⟨.nx _, by unfold dSetIx ownL; rw [show (dFrz f r).bind vOf = some (d, r2) by unfold dFrz; rw [e]; exact e2]; simp only [e3, e4, e5, e6, Option.bind_some, intOf], q⟩
/-! what is walked -/
structure wSq (x : R) (r : Nms) (Q : List PyData → Nms → Option Nat → Prop) : Prop where
  ex : ∃ ds r' u, (match (x, r) with
    | (.val d, r1) => (seqOf d).map fun ds => (ds, r1, none)
    | (.slot i, r1) => match r1[i]? with
      | some (.own (.lst ds)) => some (ds, r1.set i (.lck (.lst ds)), some i)
      | some (.lck (.lst ds)) => some (ds, r1, none)
      | some (.fz d) => (seqOf d).map fun ds => (ds, r1, none)
      | _ => none
    | (.tmp _, _) => none) = some (ds, r', u) ∧ Q ds r' u
theorem wsq_list {ds : List PyData} {Q : List PyData → Nms → Option Nat → Prop} (h : Q ds r none) : wSq (.val (.list ds)) r Q := ⟨_, _, _, rfl, h⟩
theorem wsq_tup {ds : List PyData} {Q : List PyData → Nms → Option Nat → Prop} (h : Q ds r none) : wSq (.val (.tuple ds)) r Q := ⟨_, _, _, rfl, h⟩
theorem wsq_own {ds : List PyData} {Q : List PyData → Nms → Option Nat → Prop} (e : r[i]? = some (.own (.lst ds))) (e2 : r.set i (.lck (.lst ds)) = r1) (h : Q ds r1 (some i)) : wSq (.slot i) r Q := ⟨_, _, _, by simp only [e]; subst e2; rfl, h⟩
theorem wsq_lck {ds : List PyData} {Q : List PyData → Nms → Option Nat → Prop} (e : r[i]? = some (.lck (.lst ds))) (h : Q ds r none) : wSq (.slot i) r Q := ⟨_, _, _, by simp only [e] <;> rfl, h⟩
theorem wi_seq {Q : List PyData → Nms → Option Nat → Prop} (h : wD f r fun x r1 => wSt x r1 fun x r1 => wSq x r1 Q) : wI (iSeq f) r Q := by
  obtain ⟨x, r1, e, ⟨q⟩⟩ := h.ex
  obtain ⟨ds, r2, u, e2, q⟩ := q
  exact ⟨ds, r2, u, by unfold iSeq; rw [show dStl f r = some (stl (x, r1)) by unfold dStl; rw [e] <;> rfl]; exact e2, q⟩
theorem wi_r1 {Q : List PyData → Nms → Option Nat → Prop} (h : wN ns r fun xs r1 => wDrs r1 xs fun ds => ∃ k : Int, ds = [.int k] ∧ k ≤ 16777216 ∧ -1000000000 ≤ k ∧ Q (rangeD 0 k.toNat) r1 none) : wI (iR1 ns) r Q := by
  obtain ⟨xs, r1, e, ⟨ds, e2, k, rfl, l, l2, q⟩⟩ := h.ex
  refine ⟨_, _, _, ?_, q⟩
  unfold iR1
  simp only [e, e2, Option.bind_some]
  exact if_pos ⟨by omega, by omega, by rw [sizeLine_eq]; omega⟩
theorem wi_r2 {Q : List PyData → Nms → Option Nat → Prop} (h : wN ns r fun xs r1 => wDrs r1 xs fun ds => ∃ k l : Int, ds = [.int k, .int l] ∧ -1000000000 ≤ k ∧ k ≤ 1000000000 ∧ -1000000000 ≤ l ∧ l ≤ 1000000000 ∧ l - k ≤ 16777216 ∧ Q (rangeD k (l - k).toNat) r1 none) : wI (iR2 ns) r Q := by
  obtain ⟨xs, r1, e, ⟨ds, e2, k, l, rfl, l1, l2, l3, l4, l5, q⟩⟩ := h.ex
  refine ⟨_, _, _, ?_, q⟩
  unfold iR2
  simp only [e, e2, Option.bind_some]
  exact if_pos ⟨⟨by omega, by omega, by omega, by omega⟩, by rw [sizeLine_eq]; omega⟩
/-- a loop by its invariant -/
theorem wloop {g0 : DenG} {Q : Nms → Prop} (I : Nat → Nms → Prop) : ∀ (ds : List PyData) (n : Nat) (r : Nms), I n r →
    (∀ i d r2, ds[i]? = some d → I (n + i) r2 → wG g0 d r2 fun r3 => wS u r3 (I (n + i + 1)) T Q (I (n + i + 1))) → (∀ r2, I (n + ds.length) r2 → Q r2) →
    ∃ o, loopD g0 u ds r = some o ∧ toO Q T (fun _ => False) (fun _ => False) o
  | [], n, r, h0, _, he => ⟨.nx r, rfl, he r h0⟩
  | d :: ds, n, r, h0, hs, he => by
    obtain ⟨r3, e3, ⟨o, e4, q⟩⟩ := (hs 0 d r rfl h0).ex
    have go : ∀ r4, I (n + 0 + 1) r4 → ∃ o, loopD g0 u ds r4 = some o ∧ toO Q T (fun _ => False) (fun _ => False) o := fun r4 h4 =>
      wloop I ds (n + 1) r4 h4 (fun i d r2 a b => by
        have := hs (i + 1) d r2 (by simpa using a) (by rw [show n + (i + 1) = n + 1 + i by omega]; exact b)
        rw [show n + (i + 1) + 1 = n + 1 + i + 1 by omega] at this
        exact this) fun r2 a => he r2 (by rw [List.length_cons, show n + (ds.length + 1) = n + 1 + ds.length by omega]; exact a)
    unfold loopD
    simp only [e3, e4, Option.bind_some]
    cases o with
    | nx r4 => exact go r4 q
    | ct r4 => exact go r4 q
    | bk r4 => exact ⟨_, rfl, q⟩
    | rt x r4 => exact ⟨_, rfl, q⟩
theorem ws_for {fi : DenI} {g0 : DenG} (h : wI fi r fun ds r1 uo => ∃ I : Nat → Nms → Prop, I 0 r1 ∧ (∀ i d r2, ds[i]? = some d → I i r2 → wG g0 d r2 fun r3 => wS u r3 (I (i + 1)) (fun x r4 => T x (unlck uo r4)) (fun r4 => N (unlck uo r4)) (I (i + 1))) ∧ (∀ r2, I ds.length r2 → N (unlck uo r2))) :
    wS (dFor fi g0 u) r N T B C := by
  obtain ⟨ds, r1, uo, e, I, h0, hs, he⟩ := h.ex
  obtain ⟨o, e2, q⟩ := wloop (u := u) (T := fun x r4 => T x (unlck uo r4)) (Q := fun r4 => N (unlck uo r4)) I ds 0 r1 h0 (fun i d r2 a b => by rw [Nat.zero_add] at b ⊢; exact hs i d r2 a b) (fun r2 a => he r2 (by rwa [Nat.zero_add] at a))
  refine ⟨o.map (unlck uo), by unfold dFor; simp only [e, e2, Option.bind_some, Option.map_some], ?_⟩
  cases o with
  | nx r4 => exact q
  | ct r4 => exact q.elim
  | bk r4 => exact q.elim
  | rt x r4 => exact q
/-- a comprehension by its invariant -/
theorem wcomp {vs : List Nat} {g0 : DenG} (I : Nat → List PyData → Nms → Prop) : ∀ (ds : List PyData) (n : Nat) (acc : List PyData) (r : Nms), I n acc r →
    (∀ i d acc r2, ds[i]? = some d → I (n + i) acc r2 → wG g0 d r2 fun r3 => wT t r3 fun b r4 => (b = true → wD f r4 fun x r5 => wFz x r5 fun y r6 => I (n + i + 1) (acc ++ [y]) (wipeE vs r6)) ∧ (b = false → I (n + i + 1) acc (wipeE vs r4))) →
    ∃ xs r2, compD vs g0 t f ds r = some (xs, r2) ∧ I (n + ds.length) (acc ++ xs) r2
  | [], n, acc, r, h0, _ => ⟨[], r, rfl, by simpa using h0⟩
  | d :: ds, n, acc, r, h0, hs => by
    obtain ⟨r3, e3, ⟨b, r4, e4, q1, q2⟩⟩ := (hs 0 d acc r rfl h0).ex
    have go : ∀ acc r5, I (n + 0 + 1) acc r5 → ∃ xs r2, compD vs g0 t f ds r5 = some (xs, r2) ∧ I (n + (ds.length + 1)) (acc ++ xs) r2 := fun acc r5 h5 => by
      obtain ⟨xs, r2, a, b⟩ := wcomp I ds (n + 1) acc r5 h5 (fun i d acc r2 a b => by
        have := hs (i + 1) d acc r2 (by simpa using a) (by rw [show n + (i + 1) = n + 1 + i by omega]; exact b)
        rw [show n + (i + 1) + 1 = n + 1 + i + 1 by omega] at this
        exact this)
      exact ⟨xs, r2, a, by rw [show n + (ds.length + 1) = n + 1 + ds.length by omega]; exact b⟩
    unfold compD
    simp only [e3, e4, Option.bind_some]
    cases b with
    | true =>
      obtain ⟨x, r5, e5, ⟨y, r6, e6, q⟩⟩ := (q1 rfl).ex
      obtain ⟨xs, r2, a, b⟩ := go _ _ q
      refine ⟨y :: xs, r2, ?_, by simpa using b⟩
      rw [if_pos rfl, show (dFrz f r4).bind vOf = some (y, r6) by unfold dFrz; rw [e5]; exact e6]
      simp only [Option.bind_some, a, Option.map_some]
    | false =>
      obtain ⟨xs, r2, a, b⟩ := go _ _ (q2 rfl)
      exact ⟨xs, r2, by rw [if_neg Bool.false_ne_true]; exact a, b⟩
theorem wd_lc {vs : List Nat} {fi : DenI} {g0 : DenG} (h : wI fi r fun ds r1 uo => noOb vs r1 = true ∧ ∃ I : Nat → List PyData → Nms → Prop, I 0 [] (wipeE vs r1) ∧
    (∀ i d acc r2, ds[i]? = some d → I i acc r2 → wG g0 d r2 fun r3 => wT t r3 fun b r4 => (b = true → wD f r4 fun x r5 => wFz x r5 fun y r6 => I (i + 1) (acc ++ [y]) (wipeE vs r6)) ∧ (b = false → I (i + 1) acc (wipeE vs r4))) ∧
    (∀ xs r2, I ds.length xs r2 → Q (.tmp (.lst xs)) (unlck uo (restE vs r1 r2)))) : wD (dLc vs fi g0 t f) r Q := by
  obtain ⟨ds, r1, uo, e, no, I, h0, hs, he⟩ := h.ex
  obtain ⟨xs, r2, a, b⟩ := wcomp (vs := vs) I ds 0 [] (wipeE vs r1) h0 (fun i d acc r2 a b => by rw [Nat.zero_add] at b ⊢; exact hs i d acc r2 a b)
  rw [Nat.zero_add, List.nil_append] at b
  exact ⟨_, _, by unfold dLc; simp only [e, Option.bind_some]; rw [if_pos no, a] <;> rfl, he xs r2 b⟩
/-- a comprehension that keeps its state: what is kept and what becomes of it, as functions -/
theorem wd_lcf {vs : List Nat} {fi : DenI} {g0 : DenG} (h : wI fi r fun ds r1 uo => noOb vs r1 = true ∧ ∃ (keep : PyData → Bool) (val : PyData → PyData),
    (∀ d ∈ ds, wG g0 d (wipeE vs r1) fun r3 => wT t r3 fun b r4 => b = keep d ∧ (b = true → wD f r4 fun x r5 => wFz x r5 fun y r6 => y = val d ∧ wipeE vs r6 = wipeE vs r1) ∧ (b = false → wipeE vs r4 = wipeE vs r1)) ∧
    Q (.tmp (.lst ((ds.filter keep).map val))) (unlck uo (restE vs r1 (wipeE vs r1)))) : wD (dLc vs fi g0 t f) r Q := by
  refine wd_lc ?_
  obtain ⟨ds, r1, uo, e, no, keep, val, hs, hq⟩ := h.ex
  refine ⟨ds, r1, uo, e, no, fun i acc r2 => acc = ((ds.take i).filter keep).map val ∧ r2 = wipeE vs r1, ⟨by simp, rfl⟩, fun i d acc r2 hd ⟨e1, e2⟩ => ?_, fun xs r2 ⟨e1, e2⟩ => ?_⟩
  · subst e2 e1
    obtain ⟨r3, e3, ⟨b, r4, e4, eb, q1, q2⟩⟩ := (hs d (List.mem_of_getElem? hd)).ex
    refine ⟨r3, e3, ⟨b, r4, e4, fun hb => ?_, fun hb => ?_⟩⟩
    · obtain ⟨x, r5, e5, ⟨y, r6, e6, ey, er⟩⟩ := (q1 hb).ex
      refine ⟨x, r5, e5, ⟨y, r6, e6, ?_, er⟩⟩
      rw [List.take_add_one, hd, Option.toList_some, List.filter_append, List.map_append, ey]
      rw [eb] at hb
      simp [List.filter_cons, hb]
    · refine ⟨?_, q2 hb⟩
      rw [List.take_add_one, hd, Option.toList_some, List.filter_append]
      rw [eb] at hb
      simp [List.filter_cons, hb]
  · subst e1 e2
    rw [List.take_length]
    exact hq
/-! defs -/
theorem wf_run {n : Nat} {u : DenS} {ds : List PyData} {Q : R → Prop} (e : env0 n (ds.map .fz) = r) (h : wS u r (fun _ => Q (.val .none)) (fun x r1 => wO (KV.ret (.rt x r1)) fun z => Q z.1) (fun _ => False) (fun _ => False)) : wF (runP n u) ds Q := by
  obtain ⟨o, e1, q⟩ := h.ex
  subst e
  cases o with
  | nx r1 => exact ⟨_, by unfold runP; simp only [e1, Option.bind_some]; rfl, q⟩
  | rt x r1 => obtain ⟨z, e2, q⟩ := wO.ex q; exact ⟨_, by unfold runP; simp only [e1, Option.bind_some, e2, Option.map_some], q⟩
  | bk r1 => exact q.elim
  | ct r1 => exact q.elim
theorem wb_run {n : Nat} {u : DenS} {c : Ob} {ds : List PyData} {Q : R → Ob → Prop} (e : env0 n (.own c :: ds.map .fz) = r) (h : wS u r (fun r1 => ∃ c', r1[0]? = some (.own c') ∧ Q (.val .none) c') (fun x r1 => wO (ret (.rt x r1)) fun z => ∃ c', z.2[0]? = some (.own c') ∧ Q z.1 c') (fun _ => False) (fun _ => False)) : wB (runB n u) c ds Q := by
  obtain ⟨o, e1, q⟩ := h.ex
  subst e
  cases o with
  | nx r1 => obtain ⟨c', e2, q⟩ := q; exact ⟨_, c', by unfold runB; simp only [e1, Option.bind_some, ret, e2], q⟩
  | rt x r1 => obtain ⟨z, e2, c', e3, q⟩ := wO.ex q; exact ⟨_, c', by unfold runB; simp only [e1, Option.bind_some, e2, e3], q⟩
  | bk r1 => exact q.elim
  | ct r1 => exact q.elim
theorem wr_val {r : Nms} {d : PyData} {Q : R × Nms → Prop} (h : Q (.val d, r)) : wO (ret (.rt (.val d) r)) Q := ⟨_, rfl, h⟩
theorem wr_tmp {r : Nms} {c : Ob} {Q : R × Nms → Prop} (h : Q (.tmp c, r)) : wO (ret (.rt (.tmp c) r)) Q := ⟨_, rfl, h⟩
theorem wr_own {r : Nms} {c : Ob} {Q : R × Nms → Prop} (e : r[i]? = some (.own c)) (h : Q (.tmp c, r.set i .un)) : wO (ret (.rt (.slot i) r)) Q := ⟨_, by unfold ret; simp only [e], h⟩
theorem wr_fz {r : Nms} {d : PyData} {Q : R × Nms → Prop} (e : r[i]? = some (.fz d)) (h : Q (.val d, r)) : wO (ret (.rt (.slot i) r)) Q := ⟨_, by unfold ret; simp only [e], h⟩
theorem wf_eq {F : List PyData → Option R} {ds : List PyData} {z : R} {Q : R → Prop} (e : F ds = some z) (h : Q z) : wF F ds Q := ⟨z, e, h⟩
theorem wf_get {F : List PyData → Option R} {ds : List PyData} {z : R} (h : wF F ds fun y => y = z) : F ds = some z := by
  obtain ⟨y, e, rfl⟩ := h.ex; exact e
theorem wb_get {G : Ob → List PyData → Option (R × Ob)} {c : Ob} {ds : List PyData} {Q : R → Ob → Prop} (h : wB G c ds Q) : ∃ z c', G c ds = some (z, c') ∧ Q z c' := h.ex
theorem wo_eq {α : Type} {o : Option α} {z : α} {Q : α → Prop} (e : o = some z) (h : Q z) : wO o Q := ⟨z, e, h⟩
/-! operators -/
variable {QR : R → Prop} {a b : Int} {xs ys : List PyData}
theorem wo_add (h : QR (.val (.int (a + b)))) : wO (opAdd (.int a) (.int b)) QR := ⟨_, rfl, h⟩
theorem wo_addL (l : xs.length + ys.length ≤ 16777216) (h : QR (.tmp (.lst (xs ++ ys)))) : wO (opAdd (.list xs) (.list ys)) QR := ⟨_, if_pos (by rw [sizeLine_eq]; exact l), h⟩
theorem wo_addT (l : xs.length + ys.length ≤ 16777216) (h : QR (.val (.tuple (xs ++ ys)))) : wO (opAdd (.tuple xs) (.tuple ys)) QR := ⟨_, if_pos (by rw [sizeLine_eq]; exact l), h⟩
theorem wo_sub (h : QR (.val (.int (a - b)))) : wO (opSub (.int a) (.int b)) QR := ⟨_, rfl, h⟩
theorem wo_mul (l : -18446744073709551616 < b ∧ b < 18446744073709551616) (h : QR (.val (.int (a * b)))) : wO (opMul (.int a) (.int b)) QR := ⟨_, if_pos (.inr l), h⟩
theorem wo_mod (l : 0 < b) (h : QR (.val (.int (a % b)))) : wO (opMod (.int a) (.int b)) QR := ⟨_, by
  unfold opMod KV.opI; simp [show b ≠ 0 by omega]; exact Int.fmod_eq_emod_of_nonneg _ (by omega), h⟩
theorem wo_div (l : 0 < b ∧ b < 1073741824) (h : QR (.val (.int (a / b)))) : wO (opDiv (.int a) (.int b)) QR := ⟨_, by
  unfold opDiv KV.opI; simp [show b ≠ 0 by omega, show b.natAbs < 1073741824 by omega]; exact Int.fdiv_eq_ediv_of_nonneg _ (by omega), h⟩
theorem wo_neg (h : QR (.val (.int (-a)))) : wO (opNeg (.int a)) QR := ⟨_, rfl, h⟩
theorem wo_c {p : Int → Int → Bool} (h : QR (.val (.bool (p a b)))) : wO (opC p (.int a) (.int b)) QR := ⟨_, rfl, h⟩
theorem wo_isN (h : QR (.val (.bool (isNon d)))) : wO (opIsN d .none) QR := ⟨_, rfl, h⟩
theorem wo_notN (h : QR (.val (.bool (!isNon d)))) : wO (opNotN d .none) QR := ⟨_, rfl, h⟩
theorem wo_eqI (h : QR (.val (.bool (decide (a = b))))) : wO (opEq (.int a) (.int b)) QR := ⟨_, by
  unfold opEq; rw [if_pos (by show min 0 0 ≤ 60; decide)]; rfl, h⟩
theorem wo_neI (h : QR (.val (.bool (!decide (a = b))))) : wO (opNe (.int a) (.int b)) QR := ⟨_, by
  unfold opNe; rw [if_pos (by show min 0 0 ≤ 60; decide)]; rfl, h⟩
theorem wo_lenL (h : QR (.val (.int xs.length))) : wO (opLen [.list xs]) QR := ⟨_, rfl, h⟩
theorem wo_lenT (h : QR (.val (.int xs.length))) : wO (opLen [.tuple xs]) QR := ⟨_, rfl, h⟩
theorem wo_intI (h : QR (.val (.int a))) : wO (opInt [.int a]) QR := ⟨_, rfl, h⟩
theorem wo_tupL (h : QR (.val (.tuple xs))) : wO (opTuple [.list xs]) QR := ⟨_, rfl, h⟩
theorem wo_tupT (h : QR (.val (.tuple xs))) : wO (opTuple [.tuple xs]) QR := ⟨_, rfl, h⟩
theorem wo_lstL (h : QR (.tmp (.lst xs))) : wO (opList [.list xs]) QR := ⟨_, rfl, h⟩
theorem wo_lstT (h : QR (.tmp (.lst xs))) : wO (opList [.tuple xs]) QR := ⟨_, rfl, h⟩
theorem wo_ixT (e : atI xs a = some d) (h : QR (.val d)) : wO (opIx (.tuple xs) (.int a)) QR := ⟨_, by unfold opIx seqOf; simp only [Option.bind_some, e, Option.map_some], h⟩
theorem wo_ixL (e : atI xs a = some d) (h : QR (.val d)) : wO (opIx (.list xs) (.int a)) QR := ⟨_, by unfold opIx seqOf; simp only [Option.bind_some, e, Option.map_some], h⟩
theorem boolsOf_map' {α : Type} (p : α → Bool) : ∀ xs : List α, boolsOf (xs.map fun x => .bool (p x)) = some (xs.map p)
  | [] => rfl
  | x :: xs => by show Option.map _ (boolsOf (xs.map fun x => .bool (p x))) = _; rw [boolsOf_map' p xs]; rfl
theorem wo_all {α : Type} {p : α → Bool} {zs : List α} (h : QR (.val (.bool (zs.all p)))) : wO (opAll [.list (zs.map fun x => .bool (p x))]) QR := ⟨_, by
  unfold opAll; simp only [boolsOf_map', Option.map_some, List.all_map, Function.comp_def, id], h⟩
theorem wo_any {α : Type} {p : α → Bool} {zs : List α} (h : QR (.val (.bool (zs.any p)))) : wO (opAny [.list (zs.map fun x => .bool (p x))]) QR := ⟨_, by
  unfold opAny; simp only [boolsOf_map', Option.map_some, List.any_map, Function.comp_def, id], h⟩
end
end KV

end

section
/-! KS1: sorted(set(xs)), xs a list of ints or of tuples of ints. -/
namespace KV
open PySem PySem.Spec PyProof.Rows L2
section
variable {P : Program} {w : World} {A : Around} {E : Value → Shared → Prop} {s : Shared}
/-- a set as it is made -/
abbrev bareSet (w : World) : Obj := { cls := .type "set", dict := none, data := .set #[] 0 (.fresh 0 0 (!w.params.followText "set-order")) }
/-- set(xs) of a list of ints, with what its order is made of -/
theorem set_ints_list {l : Addr} {its : Array Value} (ns : List Int) {Q : Value → Shared → Prop} (calm : A.handled = none) (at_l : s.heap.IsList l its) (vals : IntsAre its.toList ns) (few : ns.length + 1 < scanBound)
    (after : ∀ (h2 : Heap) (tk c : Nat), SetR w h2 s.heap.objs.size (fun j => decide (j ∈ ns)) c → c ≤ ns.length → (∀ b o, s.heap.get? b = some o → h2.get? b = some o) → Q (.ref s.heap.objs.size) { s with heap := h2, toks := tk }) :
    wpAny (model P w) A (call (.type "set") [.ref l]) Q E s := by
  have size_its : its.size = ns.length := (Array.length_toList (xs := its)).symm.trans vals.length
  have f0 := F.called_set.mro
  obtain ⟨_, _, f0⟩ := f0
  have f1 := F.called_set.made
  have f2 := F.called_set.sub
  have f3 := F.called_set.notType
  have f4 := F.called_set.canCreate
  have f5 := F.typeCall_set_1 (.ref l)
  refine wpAny_call (codeAny_of_tree ?_)
  show wpAny _ _ (callAny (.type "set") _) _ _ _
  refine wpAny_pure ⟨Code.quiet_builtin _ (by decide +kernel), codeAny_builtin F.entry_type_call ?_⟩
  rw [Around.under_plain (weight_type_call_type "set" [.ref l] []) rfl]
  repeat (any_goals (first | assumption | wp_step))
  refine codeAny_mono (code_set_led1 (.ref l) (E := E) (Q₁ := fun v t => v = .ref s.heap.objs.size ∧ t = { s with heap := s.heap.push (bareSet w) }) ⟨rfl, rfl⟩) fun got s1 h1 => ?_
  cases got with
  | error e => exact h1
  | ok fl =>
    cases fl with
    | ret v1 =>
      obtain ⟨rfl, rfl⟩ := h1
      have there : (s.heap.push (bareSet w)).get? s.heap.objs.size = some (bareSet w) := Heap.get?_push_size _ rfl
      have tyS : Shared.TypeIs { s with heap := s.heap.push (bareSet w) } (.ref s.heap.objs.size) "set" := ⟨_, there, rfl⟩
      have g1 := F.called_set.init.lookup
      have g2 := F.called_set.init.bind (.ref s.heap.objs.size)
      repeat (any_goals (first | assumption | wp_step))
      refine codeAny_mono (codeAny_call_builtin (R := wants (fun v t => v = .none ∧ ∃ h2 tk c, t = { s with heap := h2, toks := tk } ∧ SetR w h2 s.heap.objs.size (fun j => decide (j ∈ ns)) c ∧ c ≤ ns.length ∧ (∀ b o, s.heap.get? b = some o → h2.get? b = some o)) E)
        F.called_set.init.plain F.entry_set_init (check_set_init_1 tyS ?_)) fun got2 s2 h2 => ?_
      · obtain ⟨⟨cl, dc, da, sl⟩, e0, e1, n0, e2⟩ := at_l
        simp only at e1 e2
        subst e1; subst e2
        have e3 : (s.heap.push (bareSet w)).get? l = some { cls := .type "list", dict := dc, data := .seq its n0, slots := sl } := Heap.get?_push_of_some _ e0
        have u1 := F.sub_list_set
        have u2 := F.sub_list_frozenset
        have u3 : (Value.type "list" == Value.type "dict") = false := by decide
        have at1 : (s.heap.push (bareSet w)).IsList l its := ⟨_, e3, rfl, n0, rfl⟩
        unfold Builtin.«set.__init__» noKeywords Builtin.Frozenset.updateFrom
        generalize hpi : pyIter = pI
        wp_walk
        subst hpi
        refine wpAny_pyIter_list at1 ?_
        refine wpAny_bind (wpAny_runValue ?_)
        have lt0 : l < s.heap.objs.size := Heap.lt_size e0
        have sz1 : (s.heap.push (bareSet w)).objs.size = s.heap.objs.size + 1 := Heap.size_push ..
        have ne1 : l ≠ (s.heap.push (bareSet w)).objs.size := by rw [sz1]; exact Nat.ne_of_lt (Nat.lt_succ_of_lt lt0)
        have out1 : s.heap.objs.size ∉ [(s.heap.push (bareSet w)).objs.size, l] := by
          rw [sz1]; simp only [List.mem_cons, List.not_mem_nil, or_false, not_or]; exact ⟨Nat.ne_of_lt (Nat.lt_succ_self _), Nat.ne_of_gt lt0⟩
        refine set_update_ints ((Walks.list (by simp [calm]) _ l ne1 its).toS) s.heap.objs.size out1 ns size_its few (fun i v hv => ?_) (its.size - 0) 0 _ (by omega) (Nat.zero_le _)
          ⟨⟨_, Heap.get?_push_size _ rfl, rfl, rfl⟩, (at1.push _)⟩ ⟨0, Nat.le_refl 0, setR_new_at (Heap.get?_push_of_some _ there)⟩ ?_
        · have hi : i < ns.length := by rw [← size_its]; exact (Array.getElem?_eq_some_iff.mp hv).1
          obtain ⟨t, et⟩ := vals.get i _ (List.getElem?_eq_getElem hi)
          rw [Array.getElem?_toList, hv] at et
          exact ⟨ns[i], t, List.getElem?_eq_getElem hi, Option.some.inj et⟩
        · intro s3 c3 mv le3 R3
          obtain ⟨h3, gen3, dr3, tk3, os3⟩ := s3
          have q1 : gen3 = s.gens := mv.gens
          have q2 : dr3 = s.drawn := mv.drawn
          have q3 : os3 = s.os := mv.os
          subst q1; subst q2; subst q3
          show wpAny _ _ _ _ _ _
          refine wpAny_pure ?_
          show wpAny _ _ (PySem.ret Value.none) _ _ _
          rw [size_its] at le3
          refine wpAny_pure ⟨rfl, h3, tk3, c3, rfl, R3, le3, fun b o e => ?_⟩
          have ltb := Heap.lt_size e
          exact mv.heap b o (by rw [sz1]; simp only [List.mem_cons, List.not_mem_nil, or_false, not_or]; exact ⟨Nat.ne_of_lt ltb, Nat.ne_of_lt (Nat.lt_succ_of_lt ltb)⟩) (Heap.get?_push_of_some _ (Heap.get?_push_of_some _ e))
      · cases got2 with
        | error e => exact h2
        | ok fl2 =>
          cases fl2 with
          | ret v2 =>
            obtain ⟨rfl, h3, tk3, c3, rfl, R3, le3, keep3⟩ := h2
            repeat (any_goals (first | assumption | wp_step))
            exact after _ _ _ R3 le3 keep3
          | _ => exact h2.elim
    | _ => exact h1.elim
end
section
variable {X : Cx}
def rSetI (K : PySem.W.Frag) (w : World) : List V → Hp → VK → Prop := fun xs H Q => ∃ (l : Addr) (ns : List Int), xs = [V.ref l] ∧ SqL K H l (ns.map V.int) ∧ ns.length < 64 ∧
  ∀ a c, H a = none → c < 64 → Q (.ref a) (upd H a (SetO w a (fun j => decide (j ∈ ns)) c))
theorem cr_setI (hc : X.calm = true) : CallR X (.type "set") (rSetI X.K X.w) := by
  intro pins s σ H xs us Q I r h
  obtain ⟨l, ns, rfl, hl, few, q⟩ := h
  rw [Vals.ref1 r]
  obtain ⟨its, rv, pl, hz⟩ := I.list hl
  have free : H s.heap.objs.size = none := I.hok.fresh (Nat.le_refl _)
  refine set_ints_list (P := X.prog) ns (I.ok.hd hc) pl.isList (by simpa using ints_of_vals rv) (by unfold scanBound; omega) fun h2 tk c R le k => ?_
  exact ⟨.ref s.heap.objs.size, upd H s.heap.objs.size (SetO X.w s.heap.objs.size _ c), I.laid (t' := tk) k (Nat.le_refl _) (setO_new R), rfl, q _ c free (by omega)⟩
end
end KV

end

section
/-! KS2: sorted(set(xs)) by data. -/
namespace KV
open PySem PySem.Spec PyProof.Rows L2
/-- lists of ints by their order -/
def lexB : List Int → List Int → Bool
  | [], [] => false
  | [], _ :: _ => true
  | _ :: _, [] => false
  | a :: r, b :: q => if a < b then true else if b < a then false else lexB r q
theorem lexB_irr : ∀ a : List Int, lexB a a = false
  | [] => rfl
  | a :: r => by unfold lexB; rw [if_neg (Int.lt_irrefl _), if_neg (Int.lt_irrefl _)]; exact lexB_irr r
theorem lexB_trans : ∀ a b c : List Int, lexB a b = true → lexB b c = true → lexB a c = true
  | [], [], _, h, _ => by simp [lexB] at h
  | [], _ :: _, [], _, h => by simp [lexB] at h
  | [], _ :: _, _ :: _, _, _ => rfl
  | _ :: _, [], _, h, _ => by simp [lexB] at h
  | _ :: _, _ :: _, [], _, h => by simp [lexB] at h
  | a :: r, b :: q, c :: p, h1, h2 => by
    unfold lexB at h1 h2 ⊢
    by_cases k1 : a < b
    · by_cases k2 : b < c
      · rw [if_pos (by omega)]
      · rw [if_neg k2] at h2
        by_cases k3 : c < b
        · rw [if_pos k3] at h2; cases h2
        · rw [if_pos (by omega)]
    · rw [if_neg k1] at h1
      by_cases k4 : b < a
      · rw [if_pos k4] at h1; cases h1
      · rw [if_neg k4] at h1
        by_cases k2 : b < c
        · rw [if_pos (by omega)]
        · rw [if_neg k2] at h2
          by_cases k3 : c < b
          · rw [if_pos k3] at h2; cases h2
          · rw [if_neg k3] at h2
            rw [if_neg (by omega), if_neg (by omega)]
            exact lexB_trans r q p h1 h2
theorem lexB_tri : ∀ a b : List Int, lexB a b = true ∨ a = b ∨ lexB b a = true
  | [], [] => .inr (.inl rfl)
  | [], _ :: _ => .inl rfl
  | _ :: _, [] => .inr (.inr rfl)
  | a :: r, b :: q => by
    unfold lexB
    by_cases k1 : a < b
    · rw [if_pos k1]; exact .inl rfl
    · by_cases k2 : b < a
      · rw [if_pos k2]; exact .inr (.inr (if_pos k2))
      · rw [if_neg k1, if_neg k2, if_neg k2, if_neg k1]
        have e : a = b := by omega
        rcases lexB_tri r q with h | h | h
        · exact .inl h
        · exact .inr (.inl (by rw [e, h]))
        · exact .inr (.inr h)
/-- an insertion that drops what is there -/
def insD {α : Type} (lt : α → α → Bool) (x : α) : List α → List α
  | [] => [x]
  | y :: r => if lt x y = true then x :: y :: r else if lt y x = true then y :: insD lt x r else y :: r
def sortD {α : Type} (lt : α → α → Bool) : List α → List α
  | [] => []
  | x :: r => insD lt x (sortD lt r)
structure LtOk {α : Type} (lt : α → α → Bool) : Prop where
  irr : ∀ a, lt a a = false
  trans : ∀ a b c, lt a b = true → lt b c = true → lt a c = true
  tri : ∀ a b, lt a b = true ∨ a = b ∨ lt b a = true
section
variable {α : Type} {lt : α → α → Bool}
theorem insD_mem (o : LtOk lt) (x : α) : ∀ (l : List α) (z : α), z ∈ insD lt x l ↔ z = x ∨ z ∈ l
  | [], z => by simp [insD]
  | y :: r, z => by
    unfold insD
    split
    · simp
    · split
      · rw [List.mem_cons, insD_mem o x r z, List.mem_cons]
        constructor
        · rintro (h | h | h)
          · exact .inr (.inl h)
          · exact .inl h
          · exact .inr (.inr h)
        · rintro (h | h | h)
          · exact .inr (.inl h)
          · exact .inl h
          · exact .inr (.inr h)
      · rename_i h1 h2
        have e : x = y := by
          rcases o.tri x y with h | h | h
          · exact absurd h h1
          · exact h
          · exact absurd h h2
        subst e
        simp
theorem insD_sorted (o : LtOk lt) (x : α) : ∀ l : List α, l.Pairwise (fun a b => lt a b = true) → (insD lt x l).Pairwise (fun a b => lt a b = true)
  | [], _ => by simp [insD]
  | y :: r, h => by
    obtain ⟨h1, h2⟩ := List.pairwise_cons.mp h
    unfold insD
    split
    · rename_i k
      exact List.pairwise_cons.mpr ⟨fun z hz => by
        rcases List.mem_cons.mp hz with e | e
        · rw [e]; exact k
        · exact o.trans _ _ _ k (h1 z e), h⟩
    · split
      · rename_i k
        exact List.pairwise_cons.mpr ⟨fun z hz => by
          rcases (insD_mem o x r z).mp hz with e | e
          · rw [e]; exact k
          · exact h1 z e, insD_sorted o x r h2⟩
      · exact h
theorem sortD_mem (o : LtOk lt) : ∀ (l : List α) (z : α), z ∈ sortD lt l ↔ z ∈ l
  | [], z => by simp [sortD]
  | x :: r, z => by unfold sortD; rw [insD_mem o, sortD_mem o r z, List.mem_cons]
theorem sortD_sorted (o : LtOk lt) : ∀ l : List α, (sortD lt l).Pairwise (fun a b => lt a b = true)
  | [] => List.Pairwise.nil
  | x :: r => insD_sorted o x _ (sortD_sorted o r)
theorem sorted_uniq (o : LtOk lt) : ∀ l m : List α, l.Pairwise (fun a b => lt a b = true) → m.Pairwise (fun a b => lt a b = true) → (∀ z, z ∈ l ↔ z ∈ m) → l = m
  | [], [], _, _, _ => rfl
  | [], y :: m, _, _, h => absurd ((h y).mpr (by simp)) (by simp)
  | x :: l, [], _, _, h => absurd ((h x).mp (by simp)) (by simp)
  | x :: l, y :: m, h1, h2, h => by
    obtain ⟨a1, a2⟩ := List.pairwise_cons.mp h1
    obtain ⟨b1, b2⟩ := List.pairwise_cons.mp h2
    have e : x = y := by
      rcases List.mem_cons.mp ((h x).mp (by simp)) with q | q
      · exact q
      · rcases List.mem_cons.mp ((h y).mpr (by simp)) with p | p
        · exact p.symm
        · have := o.trans _ _ _ (a1 y p) (b1 x q)
          rw [o.irr] at this; cases this
    subst e
    rw [sorted_uniq o l m a2 b2 fun z => ⟨fun hz => ?_, fun hz => ?_⟩]
    · rcases List.mem_cons.mp ((h z).mp (by simp [hz])) with q | q
      · subst q; have := a1 z hz; rw [o.irr] at this; cases this
      · exact q
    · rcases List.mem_cons.mp ((h z).mpr (by simp [hz])) with q | q
      · subst q; have := b1 z hz; rw [o.irr] at this; cases this
      · exact q
end
def ltI (a b : Int) : Bool := decide (a < b)
theorem ltI_ok : LtOk ltI := ⟨fun a => decide_eq_false (by omega), fun a b c h1 h2 => by unfold ltI at *; simp at *; omega, fun a b => by unfold ltI; simp; omega⟩
theorem lexB_ok : LtOk lexB := ⟨lexB_irr, lexB_trans, lexB_tri⟩
theorem code_lexB {B : Int} : ∀ a b : List Int, a.length = b.length → TS.Bd B a → TS.Bd B b → (TS.code B a < TS.code B b ↔ lexB a b = true)
  | [], [], _, _, _ => by simp [lexB]
  | [], _ :: _, h, _, _ => by simp at h
  | _ :: _, [], h, _, _ => by simp at h
  | a :: r, b :: q, h, h1, h2 => by
    have hl : r.length = q.length := by simpa using h
    unfold lexB
    by_cases k1 : a < b
    · rw [if_pos k1]; exact ⟨fun _ => rfl, fun _ => TS.code_lt hl h1.tail h2.tail k1⟩
    · rw [if_neg k1]
      by_cases k2 : b < a
      · rw [if_pos k2]
        have := TS.code_lt hl.symm h2.tail h1.tail k2
        exact ⟨fun z => by omega, fun z => by cases z⟩
      · rw [if_neg k2]
        have e : a = b := by omega
        subst e
        rw [TS.code_same hl]
        exact code_lexB r q hl h1.tail h2.tail
/-! data -/
def intsD : List PyData → Option (List Int)
  | [] => some []
  | .int i :: r => (intsD r).map (i :: ·)
  | _ => none
theorem intsD_some : ∀ {ds : List PyData} {ns : List Int}, intsD ds = some ns → ds = ns.map .int
  | [], ns, h => by cases h; rfl
  | .int i :: r, ns, h => by
    unfold intsD at h
    obtain ⟨ms, h1, h2⟩ := Option.map_eq_some_iff.mp h
    rw [intsD_some h1, ← h2]; rfl
  | .none :: _, _, h => by cases h
  | .bool _ :: _, _, h => by cases h
  | .str _ :: _, _, h => by cases h
  | .list _ :: _, _, h => by cases h
  | .tuple _ :: _, _, h => by cases h
  | .dict _ :: _, _, h => by cases h
theorem intsD_map : ∀ ns : List Int, intsD (ns.map .int) = some ns
  | [] => rfl
  | n :: ns => by show Option.map _ (intsD (ns.map .int)) = _; rw [intsD_map ns]; rfl
def tupD (k : List Int) : PyData := .tuple (k.map .int)
def tupsD : List PyData → Option (List (List Int))
  | [] => some []
  | .tuple ds :: r => (intsD ds).bind fun k => (tupsD r).map (k :: ·)
  | _ => none
theorem tupsD_some : ∀ {ds : List PyData} {ks : List (List Int)}, tupsD ds = some ks → ds = ks.map tupD
  | [], ns, h => by cases h; rfl
  | .tuple ds :: r, ns, h => by
    unfold tupsD at h
    obtain ⟨k, h1, h⟩ := Option.bind_eq_some_iff.mp h
    obtain ⟨ms, h2, h3⟩ := Option.map_eq_some_iff.mp h
    rw [tupsD_some h2, ← h3, intsD_some h1]; rfl
  | .none :: _, _, h => by cases h
  | .bool _ :: _, _, h => by cases h
  | .str _ :: _, _, h => by cases h
  | .list _ :: _, _, h => by cases h
  | .int _ :: _, _, h => by cases h
  | .dict _ :: _, _, h => by cases h
theorem tupsD_map : ∀ ks : List (List Int), tupsD (ks.map tupD) = some ks
  | [] => rfl
  | k :: ks => by
    show (intsD (k.map .int)).bind (fun k => (tupsD (ks.map tupD)).map (k :: ·)) = _
    rw [intsD_map, tupsD_map ks]; rfl
/-- tuples of one length from 1, of numbers from 0 -/
def evenK : List (List Int) → Bool
  | [] => true
  | k :: r => decide (1 ≤ k.length) && (k :: r).all fun j => decide (j.length = k.length) && j.all fun n => decide (0 ≤ n)
theorem evenK_bd {ks : List (List Int)} (h : evenK ks = true) : ∃ (d : Nat) (B : Int), 1 ≤ d ∧ ∀ k ∈ ks, k.length = d ∧ TS.Bd B k := by
  cases ks with
  | nil => exact ⟨1, 1, Nat.le_refl _, fun k hk => (by cases hk)⟩
  | cons k0 r =>
    unfold evenK at h
    simp only [Bool.and_eq_true, decide_eq_true_eq, List.all_eq_true] at h
    obtain ⟨h0, h1⟩ := h
    have bd : ∀ l : List (List Int), ∃ B : Int, ∀ k ∈ l, ∀ n ∈ k, n < B := by
      intro l
      induction l with
      | nil => exact ⟨0, fun k hk => (by cases hk)⟩
      | cons k l ih =>
        obtain ⟨B, hB⟩ := ih
        have b1 : ∀ k : List Int, ∃ B : Int, ∀ n ∈ k, n < B := by
          intro k
          induction k with
          | nil => exact ⟨0, fun n hn => (by cases hn)⟩
          | cons n k ih =>
            obtain ⟨B, hB⟩ := ih
            refine ⟨max B (n + 1), fun m hm => ?_⟩
            rcases List.mem_cons.mp hm with e | e
            · omega
            · have := hB m e; omega
        obtain ⟨C, hC⟩ := b1 k
        refine ⟨max B C, fun j hj n hn => ?_⟩
        rcases List.mem_cons.mp hj with e | e
        · subst e; have := hC n hn; omega
        · have := hB j e n hn; omega
    obtain ⟨B, hB⟩ := bd (k0 :: r)
    exact ⟨k0.length, B, h0, fun k hk => ⟨(h1 k hk).1, fun n hn => ⟨(h1 k hk).2 n hn, hB k hk n hn⟩⟩⟩
def opSSl (ds : List PyData) : Option R := match intsD ds with
  | some ns => some (.tmp (.lst ((sortD ltI ns).map .int)))
  | none => match tupsD ds with
    | some ks => if evenK ks = true then some (.tmp (.lst ((sortD lexB ks).map tupD))) else none
    | none => none
def opSS : PyData → Option R
  | .list ds => if ds.length < 64 then opSSl ds else none
  | _ => none
theorem opSS_int {ns : List Int} (h : ns.length < 64) : opSS (.list (ns.map .int)) = some (.tmp (.lst ((sortD ltI ns).map .int))) := by
  unfold opSS opSSl; simp only [List.length_map, h, if_true, intsD_map]
theorem opSS_tup {k : List Int} {ks : List (List Int)} (h : (k :: ks).length < 64) (he : evenK (k :: ks) = true) : opSS (.list ((k :: ks).map tupD)) = some (.tmp (.lst ((sortD lexB (k :: ks)).map tupD))) := by
  have e : intsD ((k :: ks).map tupD) = none := rfl
  unfold opSS opSSl; simp only [List.length_map, h, if_true, e, tupsD_map, he]
theorem opSS_nil : opSS (.list []) = some (.tmp (.lst [])) := rfl
section
variable {X : Cx} {a : Expr} {f : Den} {pos p p2 q : Pos}
theorem RpAll.tups {K : PySem.W.Frag} {H : Hp} : ∀ {vs : List V} {ks : List (List Int)}, RpAll K H vs (ks.map tupD) → ∃ L : List (Addr × List Int), vs = L.map (fun p => V.ref p.1) ∧ L.map (·.2) = ks ∧ ∀ p ∈ L, SqT K H p.1 (p.2.map V.int)
  | _, [], h => by cases h; exact ⟨[], rfl, rfl, fun p hp => (by cases hp)⟩
  | _, k :: ks, h => by
    cases h with
    | cons h1 h2 =>
      obtain ⟨L, e1, e2, e3⟩ := RpAll.tups h2
      cases h1 with
      | @tup b us ds s r =>
        have e := RpAll.ints_of r
        refine ⟨(b, k) :: L, by rw [e1]; rfl, by rw [List.map_cons, e2], fun p hp => ?_⟩
        rcases List.mem_cons.mp hp with z | z
        · subst z; rw [← e]; exact s
        · exact e3 p z
theorem RpAll.of_tups {K : PySem.W.Frag} {H : Hp} : ∀ {L : List (Addr × List Int)}, (∀ p ∈ L, SqT K H p.1 (p.2.map V.int)) → RpAll K H (L.map fun p => V.ref p.1) ((L.map (·.2)).map tupD)
  | [], _ => .nil
  | p :: L, h => .cons (.tup (h p (List.mem_cons_self ..)) (RpAll.ints _)) (RpAll.of_tups fun q hq => h q (List.mem_cons_of_mem _ hq))
theorem ex_ss (hc : X.calm = true) (hu : X.A.units + 64 < cLine) (hg : Gl X "sorted") (hm : X.mg "sorted" = none) (hg2 : Gl X "set") (hm2 : X.mg "set" = none) (hv : bootBuiltins ("sorted" : Str) = some (.builtin "sorted")) (hv2 : bootBuiltins ("set" : Str) = some (.type "set")) (ha : Ex X a f)
    (he : starEach [a] X.env = [(false, eval a X.env)] := by rfl) (hpl : (backTo q (starEach [] X.env)).any (·.1) = false := by rfl)
    (he2 : starEach [.Call (.Name "set" p2) [a] [] q] X.env = [(false, eval (.Call (.Name "set" p2) [a] [] q) X.env)] := by rfl) (hpl2 : (backTo pos (starEach [] X.env)).any (·.1) = false := by rfl) :
    Ex X (.Call (.Name "sorted" p) [.Call (.Name "set" p2) [a] [] q] [] pos) (dUn f opSS) := by
  refine ⟨fun pins s σ H Q I hw => ?_⟩
  obtain ⟨O, r, z, r', E, hf, k⟩ := hw
  obtain ⟨x, d, q1, q3, q5⟩ := un_inv hf
  cases d with
  | list ds =>
    have q5 : (if ds.length < 64 then opSSl ds else none) = some z := q5
    by_cases hl : ds.length < 64
    · rw [if_pos hl] at q5
      unfold opSSl at q5
      cases hi : intsD ds with
      | some ns =>
        rw [hi] at q5
        cases q5
        have eds := intsD_some hi
        subst eds
        rw [List.length_map] at hl
        refine (pe_callB (cr_sortedSet hc) hg hm hv (pa_cons (pe_callTy (cr_setI hc) hg2 hm2 hv2 (pa_cons ha pa_nil he) (by decide) (by decide) he hpl) pa_nil he2) (by decide) (by decide) he2 hpl2).run pins s σ H Q I ?_
        refine ⟨O, r, x, r', E, q1, fun H1 O1 v st1 E1 kp1 ro1 => ?_⟩
        obtain ⟨l, vs, rfl, hq, ra⟩ := (ro1.deref E1 q3).list
        have ev := RpAll.ints_of ra
        subst ev
        refine ⟨l, ns, rfl, hq, hl, fun b c hb hc64 => ⟨b, _, c, rfl, upd_same, hc64, fun ms p hs hm hlen hp => ?_⟩⟩
        have em : ms = sortD ltI ns := sorted_uniq ltI_ok _ _ (hs.imp fun {a b} h => decide_eq_true h) (sortD_sorted ltI_ok ns) fun z => by
          rw [hm, sortD_mem ltI_ok, decide_eq_true_iff]
        subst em
        have hp1 : H1 p = none := by
          by_cases e : p = b
          · rw [e, upd_same] at hp; cases hp
          · rw [upd_ne e] at hp; exact hp
        have sm : Same H1 (upd (upd H1 b (SetO X.w b (fun j => decide (j ∈ ns)) c)) p (.lst ((sortD ltI ns).map V.int))) := fun c u e => by
          rw [upd_ne (ne_of_none e hp1), upd_ne (ne_of_none e hb)]; exact e
        obtain ⟨O3, st3, E3, ro3⟩ := NewR.done (x := .tmp (.lst ((sortD ltI ns).map .int))) (v := .ref p) ⟨sm, p, rfl, hp1, _, upd_same, RpAll.ints _⟩ E1
        exact k _ O3 _ (st1.trans st3) E3 kp1 ro3
      | none =>
        rw [hi] at q5
        cases ht : tupsD ds with
        | none => rw [ht] at q5; cases q5
        | some ks =>
          rw [ht] at q5
          have q5 : (if evenK ks = true then some (R.tmp (.lst ((sortD lexB ks).map tupD))) else none) = some z := q5
          by_cases hev : evenK ks = true
          · rw [if_pos hev] at q5
            cases q5
            have eds := tupsD_some ht
            subst eds
            rw [List.length_map] at hl
            obtain ⟨dd, B, hd, hB⟩ := evenK_bd hev
            refine (pe_callB (cr_sortedT hc) hg hm hv (pa_cons (pe_callTy (cr_setOfT hc hu) hg2 hm2 hv2 (pa_cons ha pa_nil he) (by decide) (by decide) he hpl) pa_nil he2) (by decide) (by decide) he2 hpl2).run pins s σ H Q I ?_
            refine ⟨O, r, x, r', E, q1, fun H1 O1 v st1 E1 kp1 ro1 => ?_⟩
            obtain ⟨l, vs, rfl, hq, ra⟩ := (ro1.deref E1 q3).list
            obtain ⟨L0, ev, ek, hsq⟩ := RpAll.tups ra
            subst ev ek
            refine ⟨l, L0, rfl, hq, hsq, by rw [List.length_map] at hl; exact hl, fun b L hb hsub hall => ⟨b, L, dd, B, rfl, upd_same, fun p hp => ?_, hd, fun p hp => hB _ (List.mem_map.mpr ⟨p, hsub p hp, rfl⟩), fun L' p pm nd hfew pw hp => ?_⟩⟩
            · have : Same H1 (upd H1 b (SetTO X.prog X.w b L)) := same_upd hb
              exact SqT.fx (Fx.of_same this) (hsq p (hsub p hp))
            · have hp1 : H1 p = none := by
                by_cases e : p = b
                · rw [e, upd_same] at hp; cases hp
                · rw [upd_ne e] at hp; exact hp
              have sub : ∀ p ∈ L', p ∈ L0 := fun p hp => hsub p (pm.mem_iff.mp hp)
              have bd : ∀ p ∈ L', p.2.length = dd ∧ TS.Bd B p.2 := fun p hp => hB _ (List.mem_map.mpr ⟨p, sub p hp, rfl⟩)
              have em : L'.map (·.2) = sortD lexB (L0.map (·.2)) := by
                refine sorted_uniq lexB_ok _ _ ?_ (sortD_sorted lexB_ok _) fun z => ?_
                · rw [List.pairwise_map]
                  rw [List.nodup_iff_pairwise_ne, List.pairwise_map] at nd
                  refine (pw.and nd).imp_of_mem fun {a b} ma mb ⟨h1, h2⟩ => ?_
                  have la := bd a ma
                  have lb := bd b mb
                  rcases lexB_tri a.2 b.2 with h | h | h
                  · exact h
                  · exact absurd h h2
                  · have := (code_lexB _ _ (by rw [la.1, lb.1]) lb.2 la.2).mpr h
                    omega
                · rw [sortD_mem lexB_ok]
                  constructor
                  · intro hz
                    obtain ⟨p, hp, e⟩ := List.mem_map.mp hz
                    exact List.mem_map.mpr ⟨p, sub p hp, e⟩
                  · intro hz
                    obtain ⟨p, hp, e⟩ := List.mem_map.mp hz
                    have := hall p hp
                    rw [e] at this
                    obtain ⟨p', hp', e'⟩ := List.mem_map.mp this
                    exact List.mem_map.mpr ⟨p', pm.mem_iff.mpr hp', e'⟩
              have sm : Same H1 (upd (upd H1 b (SetTO X.prog X.w b L)) p (.lst (L'.map fun q => V.ref q.1))) := fun c u e => by
                rw [upd_ne (ne_of_none e hp1), upd_ne (ne_of_none e hb)]; exact e
              have ra2 := RpAll.of_tups (K := X.K) (H := upd (upd H1 b (SetTO X.prog X.w b L)) p (.lst (L'.map fun q => V.ref q.1))) (L := L') fun p hp => SqT.fx (Fx.of_same sm) (hsq p (sub p hp))
              rw [em] at ra2
              obtain ⟨O3, st3, E3, ro3⟩ := NewR.done (x := .tmp (.lst ((sortD lexB (L0.map (·.2))).map tupD))) (v := .ref p) ⟨sm, p, rfl, hp1, _, upd_same, ra2⟩ E1
              exact k _ O3 _ (st1.trans st3) E3 kp1 ro3
          · rw [if_neg hev] at q5; cases q5
    · rw [if_neg hl] at q5; cases q5
  | none => cases q5
  | bool _ => cases q5
  | int _ => cases q5
  | str _ => cases q5
  | tuple _ => cases q5
  | dict _ => cases q5
end
end KV

end

section
/-! KS3: list(range(n)). -/
namespace KV
open PySem PySem.Spec PyProof.Rows L2
section
variable {X : Cx} {a : Expr} {f : Den} {pos p p2 q : Pos}
def opLR : PyData → Option R
  | .int j => if 0 ≤ j ∧ j ≤ 16777216 then some (.tmp (.lst (rangeD 0 j.toNat))) else none
  | _ => none
theorem rgV_rp {K : PySem.W.Frag} {H : Hp} (j : Int) : RpAll K H (rgV 0 j) (rangeD 0 j.toNat) := by
  unfold rgV rangeD
  rw [Int.sub_zero]
  generalize List.range j.toNat = l
  induction l with
  | nil => exact .nil
  | cons n l ih => exact .cons (.int _) ih
theorem ex_lr (hc : X.calm = true) (hg : Gl X "list") (hm : X.mg "list" = none) (hg2 : Gl X "range") (hm2 : X.mg "range" = none) (ha : Ex X a f)
    (na : starEach [a] X.env = (false, eval a X.env) :: starEach [] X.env := by rfl) (na2 : starEach [.Call (.Name "range" p2) [a] [] q] X.env = (false, eval (.Call (.Name "range" p2) [a] [] q) X.env) :: starEach [] X.env := by rfl) :
    Ex X (.Call (.Name "list" p) [.Call (.Name "range" p2) [a] [] q] [] pos) (dUn f opLR) := by
  refine ⟨fun pins s σ H Q I hw => (pe_listRg hc hg hm (prg_1 hg2 hm2 ha na) na2).run pins s σ H Q I ?_⟩
  obtain ⟨O, r, z, r', E, hf, k⟩ := hw
  obtain ⟨x, d, q1, q3, q5⟩ := un_inv hf
  refine ⟨O, r, x, r', E, q1, fun H1 O1 v st1 E1 kp1 ro1 => ?_⟩
  have bp := ro1.deref E1 q3
  cases d with
  | int j =>
    have e := bp.int
    subst e
    have q5 : (if 0 ≤ j ∧ j ≤ 16777216 then some (R.tmp (.lst (rangeD 0 j.toNat))) else none) = some z := q5
    by_cases c : 0 ≤ j ∧ j ≤ 16777216
    · rw [if_pos c] at q5
      cases q5
      refine ⟨j, rfl, RgOk.of_le (by omega) (by omega) (by omega) (by omega), fun p hp => ?_⟩
      obtain ⟨O3, st3, E3, ro3⟩ := (new_lst hp (rgV_rp j)).done E1
      exact k _ O3 _ (st1.trans st3) E3 kp1 ro3
    · rw [if_neg c] at q5; cases q5
  | none => cases q5
  | bool _ => cases q5
  | str _ => cases q5
  | list _ => cases q5
  | tuple _ => cases q5
  | dict _ => cases q5
end
end KV

end

section
/-! KS4: a list of lists that are told; the first one of them is changed when it was looked at. -/
namespace KV
open PySem PySem.Spec PyProof.Rows L2
section
variable {X : Cx} {e a : Expr} {t : TE} {ts : TS} {st : Stmt} {pos : Pos} {io : Bool}
/-- what e gives is locked at once -/
theorem pe_lock (h : PE X e t) : PE X e (fun σ H Q => t σ H fun v H1 => ∃ p u, v = .ref p ∧ H1 p = some u ∧ Mut (some u) ∧ ∀ od, (∀ o' u', X.H_0 p ≠ some (.frz o' u')) → Q v (upd H1 p (.frz od u))) := by
  refine ⟨fun pins s σ H Q I hw => thn (h.run pins s σ H _ I hw) ?_⟩
  intro v s1 hh
  obtain ⟨v', H1, I1, rv, p, u, rfl, hu, mu, k⟩ := hh
  obtain ⟨od, I2⟩ := I1.lock hu mu
  exact ⟨_, _, I2, rv, k od (I1.nofrz hu mu)⟩
/-- what is locked is free again ahead of a statement -/
theorem ps_free (h : PS X st ts) : PS X st (fun D σ H => ∃ p od u, H p = some (.frz od u) ∧ (∀ o' u', X.H_0 p ≠ some (.frz o' u')) ∧ ts D σ (upd H p u)) := by
  refine ⟨fun pins s σ H D I hw => ?_⟩
  obtain ⟨p, od, u, hp, hn, k⟩ := hw
  exact h.run pins s σ _ D (I.unlock hp hn) k
def getAll {α : Type} (σ : List (Option α)) : List Nat → Option (List α)
  | [] => some []
  | i :: is => match σ[i]? with
    | some (some v) => (getAll σ is).map (v :: ·)
    | _ => none
def getFz (r : Nms) : List Nat → Option (List PyData)
  | [] => some []
  | i :: is => match r[i]? with
    | some (.fz d) => (getFz r is).map (d :: ·)
    | _ => none
theorem getFz_get {K : PySem.W.Frag} {H : Hp} {O : Addr → Prop} {r : Nms} {σ : L2.St} (E : EnvOk K H O r σ) : ∀ {is : List Nat} {ds : List PyData}, getFz r is = some ds → ∃ vs, getAll σ is = some vs ∧ RpAll K H vs ds
  | [], ds, h => by cases h; exact ⟨[], rfl, .nil⟩
  | i :: is, ds, h => by
    unfold getFz at h
    split at h
    · rename_i d q
      obtain ⟨es, h1, h2⟩ := Option.map_eq_some_iff.mp h
      subst h2
      obtain ⟨vs, h3, h4⟩ := getFz_get E h1
      obtain ⟨v, e1, x, e2, rp⟩ := E.ok i _ q
      subst e2
      exact ⟨x :: vs, by unfold getAll; rw [e1]; simp only [h3, Option.map_some], .cons rp h4⟩
    · cases h
theorem getAll_set {σ : L2.St} {i : Nat} {v : Option V} : ∀ {is : List Nat}, i ∉ is → getAll (σ.set i v) is = getAll σ is
  | [], _ => rfl
  | j :: is, h => by
    unfold getAll
    rw [List.getElem?_set_ne (fun z => h (by rw [z]; simp)), getAll_set fun z => h (List.mem_cons_of_mem _ z)]
/-- a call of a pure def upon names -/
structure PCall (X : Cx) (e : Expr) (is : List Nat) (F : List PyData → Option R) : Prop where
  pe : PE X e (fun σ H Q => ∃ vs ds z, getAll σ is = some vs ∧ RpAll X.K H vs ds ∧ F ds = some z ∧ ∀ H' w, NewR X.K H H' w z → Q w H')
structure PVars (X : Cx) (es : List Expr) (is : List Nat) : Prop where
  pa : PA X es (fun σ H Q => ∃ vs, getAll σ is = some vs ∧ Q vs H)
theorem pvars_nil : PVars X [] [] := ⟨⟨fun pos pins s σ H Q I hw => by obtain ⟨vs, h, q⟩ := hw; cases h; exact pa_nil.run pos pins s σ H Q I q⟩⟩
theorem pvars_cons {es : List Expr} {i : Nat} {is : List Nat} (h : PE X e (tVar i)) (r : PVars X es is) (hs : starEach (e :: es) X.env = (false, eval e X.env) :: starEach es X.env := by rfl) : PVars X (e :: es) (i :: is) := by
  refine ⟨⟨fun pos pins s σ H Q I hw => (pa_cons h r.pa hs).run pos pins s σ H Q I ?_⟩⟩
  obtain ⟨vs, h, q⟩ := hw
  unfold getAll at h
  split at h
  · rename_i v e
    obtain ⟨us, h1, h2⟩ := Option.map_eq_some_iff.mp h
    subst h2
    exact ⟨v, e, us, h1, q⟩
  · cases h
theorem pcall {k : Nat} {f : Addr} {fd : FuncData} {ps : List Str} {F : List PyData → Option R} {x : Str} {p : Pos} {es : List Expr} {is : List Nat} (hF : FnP X.prog X.w X.K X.mg X.base k f fd ps F) (hgd : X.A.guards = some []) (hr : Room k X.A) (hm : X.mg x = some (.ref f)) (hk : PySem.W.keepIn X.K (.ref f) = true) (hb : Binds X.K fd ps [])
    (ha : PVars X (e :: es) is) (hl : is.length = ps.length) (hg : Gl X x := by rfl) (hdb : (x == ("__debug__" : Str)) = false := by decide) (he : starEach (e :: es) X.env = (false, eval e X.env) :: starEach es X.env := by rfl) (hpl : (backTo pos (starEach es X.env)).any (·.1) = false := by rfl) :
    PCall X (.Call (.Name x p) (e :: es) [] pos) is F := by
  refine ⟨⟨fun pins s σ H Q I hw => (pe_callG hF hgd hr hg hm hk hb .nil pass0 ha.pa hdb he hpl).run pins s σ H Q I ?_⟩⟩
  obtain ⟨vs, ds, z, h1, h2, h3, k⟩ := hw
  refine ⟨vs, h1, ds, z, by rw [List.append_nil]; exact h2, ?_, h3, k⟩
  rw [← hl, ← h2.length]
  have : ∀ (is : List Nat) (vs : List V), getAll σ is = some vs → vs.length = is.length := by
    intro is
    induction is with
    | nil => intro vs h; cases h; rfl
    | cons i is ih =>
      intro vs h
      unfold getAll at h
      split at h
      · obtain ⟨us, h1, h2⟩ := Option.map_eq_some_iff.mp h
        subst h2
        rw [List.length_cons, List.length_cons, ih us h1]
      · cases h
  exact this is vs h1
/-- .. by keywords -/
structure KVars (X : Cx) (kws : List Keyword) (is : List Nat) : Prop where
  pk : PK X kws (fun σ H Q => ∃ vs, getAll σ is = some vs ∧ Q vs H)
theorem kvars_nil : KVars X [] [] := ⟨⟨fun pos pins s σ H Q I hw => by obtain ⟨vs, h, q⟩ := hw; cases h; exact pk_nil.run pos pins s σ H Q I q⟩⟩
theorem kvars_cons {kws : List Keyword} {nm : Option Str} {kpos : Pos} {i : Nat} {is : List Nat} (h : PE X e (tVar i)) (r : KVars X kws is) : KVars X (⟨nm, e, kpos⟩ :: kws) (i :: is) := by
  refine ⟨⟨fun pos pins s σ H Q I hw => (pk_cons h r.pk).run pos pins s σ H Q I ?_⟩⟩
  obtain ⟨vs, h, q⟩ := hw
  unfold getAll at h
  split at h
  · rename_i v e
    obtain ⟨us, h1, h2⟩ := Option.map_eq_some_iff.mp h
    subst h2
    exact ⟨v, e, us, h1, q⟩
  · cases h
theorem getAll_length {σ : L2.St} : ∀ {is : List Nat} {vs : List V}, getAll σ is = some vs → vs.length = is.length
  | [], vs, h => by cases h; rfl
  | i :: is, vs, h => by
    unfold getAll at h
    split at h
    · obtain ⟨us, h1, h2⟩ := Option.map_eq_some_iff.mp h
      subst h2
      rw [List.length_cons, List.length_cons, getAll_length h1]
    · cases h
theorem pcallK {k n : Nat} {f : Addr} {fd : FuncData} {ps ks : List Str} {F : List PyData → Option R} {x : Str} {p : Pos} {kws : List Keyword} {is js : List Nat} (hF : FnP X.prog X.w X.K X.mg X.base k f fd ps F) (hgd : X.A.guards = some []) (hr : Room k X.A) (hm : X.mg x = some (.ref f)) (hk : PySem.W.keepIn X.K (.ref f) = true)
    (hb : KBinds X.K fd ps ks (pickK js 0 n) (pickK js 0 n)) (ha : KVars X kws is) (hn : is.length = n) (hl : ∀ vs : List PyData, vs.length = n → (pick js vs).length = ps.length) (hg : Gl X x := by rfl) (hall : (backToKw pos (keywordEach kws X.env)).all (·.1.isSome) = true := by rfl) (hks : (backToKw pos (keywordEach kws X.env)).filterMap (·.1) = ks := by rfl)
    (hdb : (x == ("__debug__" : Str)) = false := by decide) (hpl : ((backTo pos (starEach [] X.env)).any (·.1) || (backToKw pos (keywordEach kws X.env)).any (·.1.isNone)) = false := by rfl) :
    PCall X (.Call (.Name x p) [] kws pos) is (fun ds => F (pick js ds)) := by
  refine ⟨⟨fun pins s σ H Q I hw => (pe_callK0 hF hgd hr hg hm hk hb pass0 ha.pk hall hks hdb hpl).run pins s σ H Q I ?_⟩⟩
  obtain ⟨vs, ds, z, h1, h2, h3, kk⟩ := hw
  refine ⟨vs, h1, ?_⟩
  show spP X.K ps.length F (pickK js 0 n [] vs) H Q E0
  unfold pickK
  have lv : vs.length = n := by rw [← hn]; exact getAll_length h1
  rw [if_pos ⟨rfl, lv⟩]
  exact ⟨_, z, h2.pick js, hl _ (by rw [← h2.length]; exact lv), h3, kk⟩
/-! the lists that are told -/
abbrev Tell := List Nat × (List PyData → Option R)
def tmpL : R → Option (List PyData)
  | .tmp (.lst ds) => some ds
  | _ => none
theorem tmpL_some {x : R} {ds : List PyData} (h : tmpL x = some ds) : x = .tmp (.lst ds) := by
  cases x with
  | tmp c => cases c with | lst es => cases h; rfl
  | val _ => cases h
  | slot _ => cases h
def tellD (r : Nms) : List Tell → Option (List (List PyData))
  | [] => some []
  | c :: cs => (getFz r c.1).bind fun as => (c.2 as).bind fun x => (tmpL x).bind fun ds => (tellD r cs).map (ds :: ·)
inductive PCalls (X : Cx) : List Expr → List Tell → Prop
  | nil : PCalls X [] []
  | cons {e : Expr} {es : List Expr} {c : Tell} {cs : List Tell} : PCall X e c.1 c.2 → PCalls X es cs → starEach (e :: es) X.env = (false, eval e X.env) :: starEach es X.env → PCalls X (e :: es) (c :: cs)
def tTells (X : Cx) (cs : List Tell) : TA := fun σ H Q => ∃ (O : Addr → Prop) (r : Nms) (dss : List (List PyData)), EnvOk X.K H O r σ ∧ tellD r cs = some dss ∧
  ∀ H' ws, Same H H' → RpAll X.K H' ws (dss.map .list) → (∀ w0 wr d0 dr, ws = w0 :: wr → dss = d0 :: dr → ∃ p xs od, w0 = .ref p ∧ H p = none ∧ H' p = some (.frz od (.lst xs)) ∧ xs.length = d0.length ∧ ∀ o' u', X.H_0 p ≠ some (.frz o' u')) → Q ws H'
theorem pa_tells : ∀ {es : List Expr} {cs : List Tell}, PCalls X es cs → PA X es (tTells X cs)
  | _, _, .nil => by
    refine ⟨fun pos pins s σ H Q I hw => ?_⟩
    obtain ⟨O, r, dss, E, hd, k⟩ := hw
    cases hd
    exact pa_nil.run pos pins s σ H Q I (k H [] (Same.refl H) .nil fun _ _ _ _ z => by cases z)
  | _, _, @PCalls.cons _ e es c cs h1 h2 hs => by
    refine ⟨fun pos pins s σ H Q I hw => (pa_cons (pe_lock h1.pe) (pa_tells h2) hs).run pos pins s σ H Q I ?_⟩
    obtain ⟨O, r, dss, E, hd, k⟩ := hw
    unfold tellD at hd
    obtain ⟨as, q1, hd⟩ := Option.bind_eq_some_iff.mp hd
    obtain ⟨x, q2, hd⟩ := Option.bind_eq_some_iff.mp hd
    obtain ⟨ds, q3, hd⟩ := Option.bind_eq_some_iff.mp hd
    obtain ⟨dr, q4, hd⟩ := Option.map_eq_some_iff.mp hd
    subst hd
    have := tmpL_some q3
    subst this
    obtain ⟨vs, g1, g2⟩ := getFz_get E q1
    refine ⟨vs, as, _, g1, g2, q2, fun H1 w nr => ?_⟩
    obtain ⟨sm, p, rfl, hp, xs, hx, rx⟩ := nr
    refine ⟨p, .lst xs, rfl, hx, trivial, fun od hn => ?_⟩
    have sm2 : Same H (upd H1 p (.frz od (.lst xs))) := fun b o eb => by rw [upd_ne (ne_of_none eb hp)]; exact sm b o eb
    refine ⟨O, r, dr, E.same sm2, q4, fun H2 ws sm3 ra _ => ?_⟩
    have hp2 : H2 p = some (.frz od (.lst xs)) := sm3 _ _ upd_same
    have fx : Fx H1 H2 := by
      refine ⟨fun b o u eb => sm3 _ _ ?_, fun b ys eb => sm3 _ _ ?_⟩
      · rw [upd_ne (fun z => by rw [z, hx] at eb; cases eb)]; exact eb
      · rw [upd_ne (fun z => by rw [z, hx] at eb; cases eb)]; exact eb
    refine k H2 (.ref p :: ws) (fun b o eb => sm3 _ _ (sm2 b o eb)) (.cons (.lst (.inl ⟨od, hp2⟩) (rx.fx fx)) ra) fun w0 wr d0 dr' e1 e2 => ?_
    cases e1; cases e2
    exact ⟨p, xs, od, rfl, hp, hp2, rx.length, hn⟩
/-! the three statements -/
def dTell (i : Nat) (cs : List Tell) (F : List PyData → Option R) (js : List Nat) : DenS := fun r => (tellD r cs).bind fun dss => (getFz r js).bind fun dvs =>
  if (dss ≠ [] ∧ dss.length ≤ sizeLine ∧ (dss.headD []).length < sizeLine ∧ dvs.length ≤ sizeLine) then (F [.list (dss.map .list), .list dvs]).bind fun z => match z with
    | .val (.bool true) => (setSl i .un r).map .nx
    | .val (.bool false) => (setSl i .un r).map (.rt (.val (.bool false)))
    | _ => none
  else none
theorem bx_tell {i k0 : Nat} {f : Addr} {fd : FuncData} {ps : List Str} {F : List PyData → Option R} {w : DenS} {rest : List Stmt} {x sm : Str} {es vs : List Expr} {ec : Expr} {tc : TE} {cs : List Tell} {js : List Nat} {px lp p1 q1 q2 q3 q4 q5 q6 q7 q8 a1 a2 a3 a4 a6 a7 : Pos} {kk kj}
    (hN : X.N.Nodup) (hi : X.N[i]? = some x) (hx : Loc X.env.scope x) (h0 : io = true → i ≠ 0) (hcs : PCalls X es cs)
    (hF : FnP X.prog X.w X.K X.mg X.base k0 f fd ps F) (hps : ps.length = 2) (hgd : X.A.guards = some []) (hr : Room k0 X.A) (hm : X.mg sm = some (.ref f)) (hk : PySem.W.keepIn X.K (.ref f) = true) (hb : Binds X.K fd ps []) (hg : Gl X sm)
    (hv2 : PE X (.Name x q2) (tVar i)) (hv3 : PE X (.Name x a1) (tVar i)) (hvs : PVars X vs js) (hij : i ∉ js) (hec : PE X ec tc) (htc : ∀ σ H Q, (∀ H' v, Same H H' → Q v H') → tc σ H Q) (hrest : Bx io X rest w)
    (s1 : swapsWith (.List es lp) (some (.Name x px)) p1.line X.env = pure false := by rfl) (s2 : X.fn x = true ∨ X.env.scope.names.lookup x = some .local := by first | exact .inl rfl | exact .inr rfl | assumption)
    (s3 : starEach [.Name x q2, .List vs q3] X.env = (false, eval (.Name x q2) X.env) :: starEach [.List vs q3] X.env := by rfl) (s4 : starEach [.List vs q3] X.env = (false, eval (.List vs q3) X.env) :: starEach [] X.env := by rfl)
    (s5 : (backTo q4 (starEach [.List vs q3] X.env)).any (·.1) = false := by rfl) (hdb : (sm == ("__debug__" : Str)) = false := by decide)
    (b1 : attributeBase (.Subscript (.Name x a1) (.Constant (.int 0) kk a2) a3) ("append" : Str) X.env (eval (.Subscript (.Name x a1) (.Constant (.int 0) kk a2) a3) X.env) = eval (.Subscript (.Name x a1) (.Constant (.int 0) kk a2) a3) X.env := by rfl)
    (b2 : ((backTo a6 (starEach [ec] X.env)).all (fun x => !x.1) && (backToKw a6 (keywordEach [] X.env)).all (fun x => x.1.isSome) && decide ([ec].length + ([] : List Keyword).length + (if ([] : List Keyword).isEmpty then 0 else 1) < 30)) = true := by rfl)
    (b3 : (a4.endLine == a6.line) = true := by rfl) (b4 : starEach [ec] X.env = (false, eval ec X.env) :: starEach [] X.env := by rfl) (b5 : (backTo a6 (starEach [] X.env)).any (·.1) = false := by rfl)
    (s6 : swapsWith (.Call (.Attribute (.Subscript (.Name x a1) (.Constant (.int 0) kk a2) a3) ("append" : Str) a4) [ec] [] a6) none a7.line X.env = pure false := by rfl) :
    Bx io X (.Assign [.Name x px] (.List es lp) p1 :: .If (.UnaryOp .Not (.Call (.Name sm q1) [.Name x q2, .List vs q3] [] q4) q5) [.Return (some (.Constant (.bool false) kj q6)) q7] [] q8 ::
      .Expr (.Call (.Attribute (.Subscript (.Name x a1) (.Constant (.int 0) kk a2) a3) ("append" : Str) a4) [ec] [] a6) a7 :: rest) (dSeq (dTell i cs F js) w) := by
  refine ⟨fun pins s σ H D I hw => (pss_cons (ps_set hN hi hx (pe_lock (pe_lst (pa_tells hcs))) s1 s2) (pss_cons (ps_if (pt_not (pt_val (pe_callG hF hgd hr hg hm hk hb .nil pass0 (pa_cons hv2 (pa_cons (pe_lock (pe_lst hvs.pa)) pa_nil s4) s3) hdb s3 s5))) (pss_one (ps_ret pe_bl)) pss_nil)
    (pss_cons (ps_free (ps_expr (pe_bm PySem.F.plainAttrs_list PySem.F.slot_list_append PySem.F.type_list_append mt_append (pe_ix ix_list hv3 pe_int (fun _ _ => rfl)) (pa_cons hec pa_nil b4) b1 b2 b3 b4 b5) s6)) hrest))).run pins s σ H D I ?_⟩
  obtain ⟨O, r, o, E, hf, k⟩ := hw
  unfold dSeq dTell at hf
  obtain ⟨o1, hf1, hf⟩ := Option.bind_eq_some_iff.mp hf
  obtain ⟨dss, d1, hf1⟩ := Option.bind_eq_some_iff.mp hf1
  obtain ⟨dvs, d2, hf1⟩ := Option.bind_eq_some_iff.mp hf1
  have hz := Classical.byContradiction fun c => by rw [if_neg c] at hf1; exact nomatch hf1
  rw [if_pos hz] at hf1
  obtain ⟨z0, z1, z2, z3⟩ := hz
  obtain ⟨z, d3, hf1⟩ := Option.bind_eq_some_iff.mp hf1
  refine ⟨O, r, dss, E, d1, fun H1 ws sm1 ra hd => ?_⟩
  refine ⟨by rw [ra.length, List.length_map]; exact z1, fun q hq => ⟨q, .lst ws, rfl, upd_same, trivial, fun od hn => ?_⟩⟩
  have eu : upd (upd H1 q (.lst ws)) q (.frz od (.lst ws)) = upd H1 q (.frz od (.lst ws)) := by
    funext b
    by_cases hb : b = q
    · subst hb; rw [upd_same, upd_same]
    · rw [upd_ne hb, upd_ne hb, upd_ne hb]
  rw [eu]
  have hil : i < σ.length := by
    rw [← E.len]
    cases hs : setSl i .un r with
    | some r' => exact (setSl_some hs).2.1
    | none =>
      rw [hs] at hf1
      cases z with
      | val d =>
        cases d with
        | bool b => cases b <;> cases hf1
        | _ => cases hf1
      | _ => cases hf1
  have eσ : (σ.set i (some (V.ref q)))[i]? = some (some (.ref q)) := List.getElem?_set_self hil
  have sm2 : Same H1 (upd H1 q (.frz od (.lst ws))) := same_upd hq
  refine ⟨.ref q, eσ, ?_⟩
  have E2 : EnvOk X.K (upd H1 q (.frz od (.lst ws))) O r σ := (E.same sm1).same sm2
  obtain ⟨us, g1, g2⟩ := getFz_get E2 d2
  refine ⟨us, by rw [getAll_set hij]; exact g1, by rw [g2.length]; exact z3, fun q' hq' => ⟨q', .lst us, rfl, upd_same, trivial, fun od' hn' => ?_⟩⟩
  have eu' : upd (upd (upd H1 q (.frz od (.lst ws))) q' (.lst us)) q' (.frz od' (.lst us)) = upd (upd H1 q (.frz od (.lst ws))) q' (.frz od' (.lst us)) := by
    funext b
    by_cases hb : b = q'
    · subst hb; rw [upd_same, upd_same]
    · rw [upd_ne hb, upd_ne hb, upd_ne hb]
  rw [eu']
  have sm3 : Same (upd H1 q (.frz od (.lst ws))) (upd (upd H1 q (.frz od (.lst ws))) q' (.frz od' (.lst us))) := same_upd hq'
  have sm13 : Same H1 (upd (upd H1 q (.frz od (.lst ws))) q' (.frz od' (.lst us))) := fun b o eb => sm3 _ _ (sm2 b o eb)
  refine ⟨[.list (dss.map .list), .list dvs], z, .cons (.lst (.inl ⟨od, sm3 _ _ upd_same⟩) (ra.fx (Fx.of_same sm13))) (.cons (.lst (.inl ⟨od', upd_same⟩) (g2.fx (Fx.of_same sm3))) .nil), hps.symm ▸ rfl, d3, fun H4 wv nr => ?_⟩
  cases z with
  | slot _ => cases hf1
  | tmp _ => cases hf1
  | val d =>
    cases d with
    | bool b =>
      obtain ⟨sm4, rb⟩ := nr
      cases rb
      have smA : Same H H4 := fun b o eb => sm4 _ _ (sm13 _ _ (sm1 b o eb))
      refine ⟨b, rfl, ?_⟩
      cases b with
      | false =>
        obtain ⟨r2, e2, e3⟩ := Option.map_eq_some_iff.mp hf1
        subst e3
        cases hf
        obtain ⟨e4, _, e5⟩ := setSl_some e2
        subst e4
        exact k H4 O (σ.set i (some (.ref q))) (.bl false) (Stp.of_same smA) ((E.same smA).store trivial fun c z => by cases z) (KeepS.store e5 h0) (.bl false)
      | true =>
        obtain ⟨r2, e2, e3⟩ := Option.map_eq_some_iff.mp hf1
        subst e3
        obtain ⟨e4, _, e5⟩ := setSl_some e2
        subst e4
        have hf : w (r.set i .un) = some o := hf
        obtain ⟨d0, dr, ed⟩ : ∃ d0 dr, dss = d0 :: dr := by
          cases dss with
          | nil => exact absurd rfl z0
          | cons d0 dr => exact ⟨d0, dr, rfl⟩
        subst ed
        cases ra with
        | @cons w0 wr _ _ ra0 rar =>
          obtain ⟨p, xs, odp, rfl, hp0, hp1, hlen, hnp⟩ := hd w0 wr d0 dr rfl rfl
          have hp4 : H4 p = some (.frz odp (.lst xs)) := sm4 _ _ (sm13 _ _ hp1)
          have hq4 : H4 q = some (.frz od (.lst (.ref p :: wr))) := sm4 _ _ (sm3 _ _ upd_same)
          have npq : q ≠ p := fun z => by rw [z, hp1] at hq; cases hq
          refine ⟨p, odp, .lst xs, hp4, hnp, .ref q, eσ, ?_⟩
          refine ⟨q, .ref p :: wr, 0, .ref p, rfl, rfl, .inl (.inr ⟨od, by rw [upd_ne npq]; exact hq4⟩), (by simp [L2.atI, ixN]), .inl ⟨rfl, xs, SqL.of upd_same⟩, htc _ _ _ fun H6 v sm6 => ?_⟩
          have hp6 : H6 p = some (.lst xs) := sm6 _ _ upd_same
          refine ⟨p, xs, v, rfl, rfl, hp6, by rw [hlen]; exact z2, ?_⟩
          have smF : Same H (upd H6 p (.lst (xs ++ [v]))) := fun b o eb => by
            have nb : b ≠ p := ne_of_none eb hp0
            rw [upd_ne nb]
            exact sm6 _ _ (by rw [upd_ne nb]; exact smA b o eb)
          exact ⟨O, r.set i .un, o, (E.same smF).store trivial fun c z => (by cases z), hf, k.pre (Stp.of_same smF) (KeepS.store e5 h0)⟩
    | _ => cases hf1
end
end KV
namespace KV
open PySem PySem.Spec PyProof.Rows L2
section
variable {X : Cx} {ss : List Stmt} {io : Bool} {u : DenS}
/-- a name's thing stands still from here on -/
def dGf (i : Nat) : DenS := fun r => match r[i]? with
  | some (.own c) => some (.nx (r.set i (.fz c.data)))
  | some (.fz _) => some (.nx r)
  | _ => none
theorem bx_ghost {i : Nat} (h : Bx io X ss u) : Bx io X ss (dSeq (dGf i) u) := by
  refine ⟨fun pins s σ H D I hw => ?_⟩
  obtain ⟨O, r, o, E, hf, k⟩ := hw
  unfold dSeq dGf at hf
  cases q : r[i]? with
  | none => rw [q] at hf; cases hf
  | some sl =>
    rw [q] at hf
    cases sl with
    | un => cases hf
    | lck c => cases hf
    | fz d => exact h.run pins s σ H D I ⟨O, r, o, E, hf, k⟩
    | own c =>
      have hf : u (r.set i (.fz c.data)) = some o := hf
      obtain ⟨v, e1, p, e2, ob, op⟩ := E.ok i _ q
      subst e2
      obtain ⟨u0, hu⟩ : ∃ u0, H p = some u0 := by
        cases z : H p with
        | none => have := ob.mut; rw [z] at this; exact this.elim
        | some u0 => exact ⟨u0, rfl⟩
      obtain ⟨od, I2⟩ := I.lock hu (by have := ob.mut; rw [hu] at this; exact this)
      obtain ⟨rp, fx⟩ := lock_rp (od := od) ob hu
      have E2 : EnvOk X.K H O (r.set i .un) σ := E.set (fun _ _ => trivial) rfl
      have E3 : EnvOk X.K (upd H p (.frz od u0)) (fun b => O b ∧ b ≠ p) (r.set i .un) σ := E2.freeze fx fun j t e h1 h2 h3 => by
        have hl : i < r.length := (List.getElem?_eq_some_iff.mp q).1
        by_cases hj : i = j
        · subst hj
          rw [List.getElem?_set_self hl] at h1
          cases h1; cases h2
        · rw [List.getElem?_set_ne hj] at h1
          exact hj (E.sep i j _ _ c e p q h1 rfl h2 e1 h3)
      have E4 : EnvOk X.K (upd H p (.frz od u0)) (fun b => O b ∧ b ≠ p) (r.set i (.fz c.data)) σ := by
        have := E3.set (i := i) (s := .fz c.data) (fun v hv' => by rw [e1] at hv'; cases hv'; exact ⟨_, rfl, rp⟩) rfl
        rw [List.set_set] at this
        exact this
      exact h.run pins s σ _ D I2 ⟨_, _, o, E4, hf, k.pre (Stp.freeze op) (KeepS.of (Keep.set fun c' z => by rw [q] at z; cases z))⟩
end
end KV

end

section
/-! KS5: zip and enumerate. -/
namespace KV
open PySem PySem.Spec PyProof.Rows L2
def zipD (xs ys : List PyData) : List PyData := (xs.zip ys).map fun p => .tuple [p.1, p.2]
theorem zipD_get {xs ys : List PyData} {i : Nat} {d : PyData} (h : (zipD xs ys)[i]? = some d) : ∃ x y, xs[i]? = some x ∧ ys[i]? = some y ∧ d = .tuple [x, y] := by
  unfold zipD at h
  rw [List.getElem?_map] at h
  obtain ⟨⟨x, y⟩, h1, h2⟩ := Option.map_eq_some_iff.mp h
  obtain ⟨h3, h4⟩ := List.getElem?_zip_eq_some.mp h1
  exact ⟨x, y, h3, h4, h2.symm⟩
theorem zipD_none {xs ys : List PyData} {i : Nat} (h : (zipD xs ys)[i]? = none) : xs.length ≤ i ∨ ys.length ≤ i := by
  unfold zipD at h
  rw [List.getElem?_eq_none_iff, List.length_map, List.length_zip] at h
  omega
theorem zipD_length (xs ys : List PyData) : (zipD xs ys).length = min xs.length ys.length := by
  unfold zipD; rw [List.length_map, List.length_zip]
def iZip2 (fs : Denv) : DenI := fun r => (fs r).bind fun (ds, r1) => match ds with
  | [.list xs, .list ys] => if xs.length ≤ sizeLine then some (zipD xs ys, r1, none) else none
  | [.tuple xs, .tuple ys] => if xs.length ≤ sizeLine then some (zipD xs ys, r1, none) else none
  | _ => none
theorem pair_rp {K : PySem.W.Frag} {H : Hp} {T : Addr} {x y : V} {dx dy : PyData} (hT : H T = none) (rx : Rp K H x dx) (ry : Rp K H y dy) : Same H (upd H T (.tup [x, y])) ∧ Rp K (upd H T (.tup [x, y])) (.ref T) (.tuple [dx, dy]) := by
  have sm : Same H (upd H T (.tup [x, y])) := same_upd hT
  exact ⟨sm, .tup (SqT.of upd_same) (.cons (rx.fx (Fx.of_same sm)) (.cons (ry.fx (Fx.of_same sm)) .nil))⟩
theorem jok_zip {K : PySem.W.Frag} {a b : Addr} {vs us : List V} {xs ys : List PyData} {H0 : Hp} {r0 : Nms} {σ0 : L2.St} (h : FzL K H0 a vs) (ra : RpAll K H0 vs xs) (h2 : FzL K H0 b us) (rb : RpAll K H0 us ys) : JOk K (Itz K a b) (zipD xs ys) H0 r0 σ0 := by
  intro H O r σ fx E kp lk i
  have h' := h.fx fx
  have h2' := h2.fx fx
  have ra' := ra.fx fx
  have rb' := rb.fx fx
  refine ⟨fun d hd => ?_, fun hd => ⟨vs, us, h'.sq, h2'.sq, by rw [ra.length, rb.length]; exact zipD_none hd⟩⟩
  obtain ⟨x, y, e1, e2, e3⟩ := zipD_get hd
  obtain ⟨v, hv, rp⟩ := ra'.get' e1
  obtain ⟨u, hu, rq⟩ := rb'.get' e2
  refine ⟨⟨vs, us, v, u, h'.sq, h2'.sq, hv, hu⟩, fun z H' hy => ?_⟩
  obtain ⟨T, v', u', rfl, hT, rfl, k1, k2⟩ := hy
  have q1 := k1 vs h'.sq
  have q2 := k2 us h2'.sq
  rw [hv] at q1; rw [hu] at q2
  cases q1; cases q2
  subst e3
  exact pair_rp hT rp rq
theorem jok_zipT {K : PySem.W.Frag} {a b : Addr} {vs us : List V} {xs ys : List PyData} {H0 : Hp} {r0 : Nms} {σ0 : L2.St} (h : SqT K H0 a vs) (ra : RpAll K H0 vs xs) (h2 : SqT K H0 b us) (rb : RpAll K H0 us ys) : JOk K (RZ.ItzT K a b) (zipD xs ys) H0 r0 σ0 := by
  intro H O r σ fx E kp lk i
  have h' := SqT.fx fx h
  have h2' := SqT.fx fx h2
  have ra' := ra.fx fx
  have rb' := rb.fx fx
  refine ⟨fun d hd => ?_, fun hd => ⟨vs, us, h', h2', by rw [ra.length, rb.length]; exact zipD_none hd⟩⟩
  obtain ⟨x, y, e1, e2, e3⟩ := zipD_get hd
  obtain ⟨v, hv, rp⟩ := ra'.get' e1
  obtain ⟨u, hu, rq⟩ := rb'.get' e2
  refine ⟨⟨vs, us, v, u, h', h2', hv, hu⟩, fun z H' hy => ?_⟩
  obtain ⟨T, v', u', rfl, hT, rfl, k1, k2⟩ := hy
  have q1 := k1 vs h'
  have q2 := k2 us h2'
  rw [hv] at q1; rw [hu] at q2
  cases q1; cases q2
  subst e3
  exact pair_rp hT rp rq
section
variable {X : Cx} {e e2 : Expr} {p pos tpos : Pos} {elts : List Expr} {kk : Nat} {fs : Denv}
theorem ix_zip (hg : Gl X "zip") (hm : X.mg "zip" = none) (ha : Exv X [e, e2] fs)
    (hs : starEach [e, e2] X.env = (false, eval e X.env) :: starEach [e2] X.env := by rfl) (hpl : (backTo pos (starEach [e2] X.env)).any (·.1) = false := by rfl) : Ix X (.Tuple elts kk tpos) (.Call (.Name "zip" p) [e, e2] [] pos) (iZip2 fs) := by
  refine ⟨fun pins s σ H Q I hw => (RZ.pi_zipA hg hm ha hs hpl).run pins s σ H Q I ?_⟩
  obtain ⟨O, r, ds, r', u, E, hf, k⟩ := hw
  unfold iZip2 at hf
  obtain ⟨⟨as, r1⟩, q1, hf⟩ := Option.bind_eq_some_iff.mp hf
  have key : ∀ xs ys, (as = [.list xs, .list ys] ∨ as = [.tuple xs, .tuple ys]) → xs.length ≤ sizeLine → ds = zipD xs ys ∧ r' = r1 ∧ u = none → RZ.iZipA X.K (tXv X.K fs) σ H Q := by
    intro xs ys hc hl he
    obtain ⟨e1, e2, e3⟩ := he
    subst e1 e2 e3
    have hz : (zipD xs ys).length ≤ sizeLine := by rw [zipD_length]; omega
    refine ⟨O, r, as, _, E, q1, fun H1 O1 vs st1 E1 kp1 ro1 => ?_⟩
    rcases hc with rfl | rfl
    · cases ro1 with
      | cons h1 t => cases t with
        | cons h2 t => cases t with
          | nil =>
            cases h1 with
            | @lst a vs _ f1 g1 => cases h2 with
              | @lst b us _ f2 g2 => exact ⟨a, b, vs, us, rfl, .inl ⟨f1.sq, f2.sq, k H1 O1 _ st1 E1 kp1 hz (fun _ z => nomatch z) (jok_zip f1 g1 f2 g2)⟩⟩
    · cases ro1 with
      | cons h1 t => cases t with
        | cons h2 t => cases t with
          | nil =>
            cases h1 with
            | @tup a vs _ f1 g1 => cases h2 with
              | @tup b us _ f2 g2 => exact ⟨a, b, vs, us, rfl, .inr ⟨f1, f2, k H1 O1 _ st1 E1 kp1 hz (fun _ z => nomatch z) (jok_zipT f1 g1 f2 g2)⟩⟩
  dsimp only at hf
  split at hf
  · rename_i xs ys
    by_cases c : xs.length ≤ sizeLine
    · rw [if_pos c] at hf; cases hf; exact key xs ys (.inl rfl) c ⟨rfl, rfl, rfl⟩
    · rw [if_neg c] at hf; cases hf
  · rename_i xs ys
    by_cases c : xs.length ≤ sizeLine
    · rw [if_pos c] at hf; cases hf; exact key xs ys (.inr rfl) c ⟨rfl, rfl, rfl⟩
    · rw [if_neg c] at hf; cases hf
  · cases hf
def enumD (xs : List PyData) : List PyData := (List.range xs.length).zipWith (fun i x => .tuple [.int (i : Nat), x]) xs
theorem enumD_get {xs : List PyData} {i : Nat} {d : PyData} (h : (enumD xs)[i]? = some d) : ∃ x, xs[i]? = some x ∧ d = .tuple [.int (i : Nat), x] := by
  unfold enumD at h
  rw [List.getElem?_zipWith] at h
  cases h1 : (List.range xs.length)[i]? with
  | none => rw [h1] at h; cases h
  | some j =>
    have hj : j = i := by
      obtain ⟨a, b⟩ := List.getElem?_eq_some_iff.mp h1
      rw [List.getElem_range] at b; exact b.symm
    subst hj
    rw [h1] at h
    cases h2 : xs[j]? with
    | none => rw [h2] at h; cases h
    | some x => rw [h2] at h; cases h; exact ⟨x, rfl, rfl⟩
theorem enumD_length (xs : List PyData) : (enumD xs).length = xs.length := by unfold enumD; simp
def iEnumL (fs : Denv) : DenI := fun r => (fs r).bind fun (ds, r1) => match ds with
  | [.list xs] => if xs.length ≤ sizeLine then some (enumD xs, r1, none) else none
  | _ => none
theorem jok_enum {K : PySem.W.Frag} {a : Addr} {vs : List V} {xs : List PyData} {H0 : Hp} {r0 : Nms} {σ0 : L2.St} (h : FzL K H0 a vs) (ra : RpAll K H0 vs xs) : JOk K (Ite K a) (enumD xs) H0 r0 σ0 := by
  intro H O r σ fx E kp lk i
  have h' := h.fx fx
  have ra' := ra.fx fx
  refine ⟨fun d hd => ?_, fun hd => ⟨vs, h'.sq, by rw [ra.length, ← enumD_length]; exact List.getElem?_eq_none_iff.mp hd⟩⟩
  obtain ⟨x, e1, e3⟩ := enumD_get hd
  obtain ⟨v, hv, rp⟩ := ra'.get' e1
  refine ⟨⟨vs, v, h'.sq, hv⟩, fun z H' hy => ?_⟩
  obtain ⟨T, v', rfl, hT, rfl, k1⟩ := hy
  have q1 := k1 vs h'.sq
  rw [hv] at q1
  cases q1
  subst e3
  exact pair_rp hT (.int _) rp
theorem ix_enum (hg : Gl X "enumerate") (hm : X.mg "enumerate" = none) (ha : Exv X [e] fs) (hs : starEach [e] X.env = [(false, eval e X.env)] := by rfl) : Ix X (.Tuple elts kk tpos) (.Call (.Name "enumerate" p) [e] [] pos) (iEnumL fs) := by
  refine ⟨fun pins s σ H Q I hw => (pi_enum hg hm ha hs).run pins s σ H Q I ?_⟩
  obtain ⟨O, r, ds, r', u, E, hf, k⟩ := hw
  unfold iEnumL at hf
  obtain ⟨⟨as, r1⟩, q1, hf⟩ := Option.bind_eq_some_iff.mp hf
  dsimp only at hf
  split at hf
  · rename_i xs
    by_cases c : xs.length ≤ sizeLine
    · rw [if_pos c] at hf; cases hf
      refine ⟨O, r, [.list xs], _, E, q1, fun H1 O1 vs st1 E1 kp1 ro1 => ?_⟩
      cases ro1 with
      | cons h1 t => cases t with
        | nil => cases h1 with
          | @lst a vs _ f1 g1 => exact ⟨a, vs, rfl, f1.sq, k H1 O1 _ st1 E1 kp1 (by rw [enumD_length]; exact c) (fun _ z => nomatch z) (jok_enum f1 g1)⟩
    · rw [if_neg c] at hf; cases hf
  · cases hf
/-! what they walk, in the calculus -/
theorem wi_zipL {r : Nms} {Q : List PyData → Nms → Option Nat → Prop} (h : wV fs r fun ds r1 => ∃ xs ys, ds = [.list xs, .list ys] ∧ xs.length ≤ 16777216 ∧ Q (zipD xs ys) r1 none) : wI (iZip2 fs) r Q := by
  obtain ⟨ds, r1, e, xs, ys, rfl, l, q⟩ := h.ex
  exact ⟨_, _, _, by unfold iZip2; simp only [e, Option.bind_some]; exact if_pos (by rw [sizeLine_eq]; exact l), q⟩
theorem wi_zipT {r : Nms} {Q : List PyData → Nms → Option Nat → Prop} (h : wV fs r fun ds r1 => ∃ xs ys, ds = [.tuple xs, .tuple ys] ∧ xs.length ≤ 16777216 ∧ Q (zipD xs ys) r1 none) : wI (iZip2 fs) r Q := by
  obtain ⟨ds, r1, e, xs, ys, rfl, l, q⟩ := h.ex
  exact ⟨_, _, _, by unfold iZip2; simp only [e, Option.bind_some]; exact if_pos (by rw [sizeLine_eq]; exact l), q⟩
theorem wi_enum {r : Nms} {Q : List PyData → Nms → Option Nat → Prop} (h : wV fs r fun ds r1 => ∃ xs, ds = [.list xs] ∧ xs.length ≤ 16777216 ∧ Q (enumD xs) r1 none) : wI (iEnumL fs) r Q := by
  obtain ⟨ds, r1, e, xs, rfl, l, q⟩ := h.ex
  exact ⟨_, _, _, by unfold iEnumL; simp only [e, Option.bind_some]; exact if_pos (by rw [sizeLine_eq]; exact l), q⟩
/-! the calculus for the further ones -/
theorem wo_lr {QR : R → Prop} {a : Int} (l : 0 ≤ a ∧ a ≤ 16777216) (h : QR (.tmp (.lst (rangeD 0 a.toNat)))) : wO (opLR (.int a)) QR := ⟨_, if_pos l, h⟩
theorem ws_gf_own {i : Nat} {ds : List PyData} {r r1 : Nms} {N B C : Nms → Prop} {T : R → Nms → Prop} (e : r[i]? = some (.own (.lst ds))) (e2 : r.set i (.fz (.list ds)) = r1) (h : N r1) : wS (dGf i) r N T B C := ⟨.nx r1, by unfold dGf; simp only [e]; rw [← e2]; rfl, h⟩
theorem ws_gf_fz {i : Nat} {d : PyData} {r : Nms} {N B C : Nms → Prop} {T : R → Nms → Prop} (e : r[i]? = some (.fz d)) (h : N r) : wS (dGf i) r N T B C := ⟨.nx r, by unfold dGf; simp only [e], h⟩
theorem ws_tell {i : Nat} {cs : List Tell} {F : List PyData → Option R} {js : List Nat} {r r1 : Nms} {N B C : Nms → Prop} {T : R → Nms → Prop} {dss : List (List PyData)} {dvs : List PyData} (e1 : tellD r cs = some dss) (e2 : getFz r js = some dvs) (e3 : dss ≠ [] ∧ dss.length ≤ sizeLine ∧ (dss.headD []).length < sizeLine ∧ dvs.length ≤ sizeLine)
    (e4 : F [.list (dss.map .list), .list dvs] = some (.val (.bool true))) (e5 : setSl i .un r = some r1) (h : N r1) : wS (dTell i cs F js) r N T B C := ⟨.nx r1, by unfold dTell; simp only [e1, e2, Option.bind_some]; rw [if_pos e3, e4, Option.bind_some]; show Option.map _ _ = _; rw [e5]; rfl, h⟩
end
end KV

end

section
/-! KX: the calculus' steps, one after another. -/
namespace KV
open PySem PySem.Spec PyProof.Rows L2
def nlk : Sl → Bool
  | .lck _ => false
  | _ => true
theorem setSl_nlk {i : Nat} {s t : Sl} {r : Nms} (e : r[i]? = some s) (h : nlk s = true) : setSl i t r = some (r.set i t) := by
  unfold setSl
  rw [e]
  cases s with
  | lck c => cases h
  | _ => rfl
section
variable {f g h : Den} {r r1 : Nms} {Q : R → Nms → Prop} {op : Op2} {d e : PyData} {i j k : Nat} {N B C : Nms → Prop} {T : R → Nms → Prop} {u w : DenS} {t s : DenT} {gs hs : Denv} {ns : Dens} {x : R} {sl : Sl}
theorem wput_v {Q : Nms → Prop} (e : r[i]? = some sl) (hn : nlk sl = true) (e2 : r.set i (.fz d) = r1) (h : Q r1) : wPut i (.val d) r Q := by
  subst e2; exact wput_val (setSl_nlk e hn) h
theorem wput_t {c : Ob} {Q : Nms → Prop} (e : r[i]? = some sl) (hn : nlk sl = true) (e2 : r.set i (.own c) = r1) (h : Q r1) : wPut i (.tmp c) r Q := by
  subst e2; exact wput_tmp (setSl_nlk e hn) h
theorem wg_nm (e : r[i]? = some sl) (hn : nlk sl = true) (e2 : r.set i (.fz d) = r1) {Q : Nms → Prop} (h : Q r1) : wG (gN i) d r Q := by
  subst e2; exact wg_name (setSl_nlk e hn) h
structure wParP (i j : Nat) (ds : List PyData) (r : Nms) (Q : Nms → Prop) : Prop where
  ex : ∃ d e, ds = [d, e] ∧ wPut i (.val d) r fun r1 => wPut j (.val e) r1 Q
theorem wparp {Q : Nms → Prop} (h : wPut i (.val d) r fun r1 => wPut j (.val e) r1 Q) : wParP i j [d, e] r Q := ⟨_, _, rfl, h⟩
theorem ws_par' (h : wV gs r fun ds r1 => wParP i j ds r1 N) : wS (dPar i j gs) r N T B C := by
  refine ws_par ?_
  obtain ⟨ds, r1, e0, ⟨d, e, rfl, ⟨s, r2, e1, e2, ⟨s', r3, e3, e4, q⟩⟩⟩⟩ := h.ex
  cases e1; cases e3
  exact ⟨[d, e], r1, e0, d, e, r2, r3, rfl, e2, e4, q⟩
structure wParP3 (i j k : Nat) (ds : List PyData) (r : Nms) (Q : Nms → Prop) : Prop where
  ex : ∃ d e e', ds = [d, e, e'] ∧ wPut i (.val d) r fun r1 => wPut j (.val e) r1 fun r2 => wPut k (.val e') r2 Q
theorem wparp3 {e' : PyData} {Q : Nms → Prop} (h : wPut i (.val d) r fun r1 => wPut j (.val e) r1 fun r2 => wPut k (.val e') r2 Q) : wParP3 i j k [d, e, e'] r Q := ⟨_, _, _, rfl, h⟩
theorem ws_par3' (h : wV gs r fun ds r1 => wParP3 i j k ds r1 N) : wS (dPar3 i j k gs) r N T B C := by
  refine ws_par3 ?_
  obtain ⟨ds, r1, e0, ⟨d, e, e', rfl, ⟨s, r2, e1, e2, ⟨s', r3, e3, e4, ⟨s'', r4, e5, e6, q⟩⟩⟩⟩⟩ := h.ex
  cases e1; cases e3; cases e5
  exact ⟨[d, e, e'], r1, e0, d, e, e', r2, r3, r4, rfl, e2, e4, e6, q⟩
structure wCB (G : Ob → List PyData → Option (R × Ob)) (i : Nat) (ds : List PyData) (r : Nms) (Q : R → Nms → Prop) : Prop where
  ex : ∃ c, r[i]? = some (.own c) ∧ wB G c ds fun z c' => Q z (r.set i (.own c'))
theorem wcb {G : Ob → List PyData → Option (R × Ob)} {c : Ob} {ds : List PyData} (e : r[i]? = some (.own c)) (h : wB G c ds fun z c' => Q z (r.set i (.own c'))) : wCB G i ds r Q := ⟨c, e, h⟩
theorem wd_callB' {G : Ob → List PyData → Option (R × Ob)} {c : Ob} (e0 : r[i]? = some (.own c)) (h : wV gs r fun ds r1 => wCB G i ds r1 Q) : wD (dCallB G i gs) r Q := by
  refine wd_callB e0 ?_
  obtain ⟨ds, r1, e, ⟨c1, e1, q⟩⟩ := h.ex
  exact ⟨ds, r1, e, c1, e1, q⟩
structure wApp (i : Nat) (d : PyData) (r : Nms) (Q : R → Nms → Prop) : Prop where
  ex : ∃ ds, r[i]? = some (.own (.lst ds)) ∧ ds.length < sizeLine ∧ Q (.val .none) (r.set i (.own (.lst (ds ++ [d]))))
theorem wapp {ds : List PyData} (e : r[i]? = some (.own (.lst ds))) (e2 : r.set i (.own (.lst (ds ++ [d]))) = r1) (h : Q (.val .none) r1) (hl : ds.length < sizeLine) : wApp i d r Q := ⟨ds, e, hl, by rw [e2]; exact h⟩
theorem wd_app' {ds0 : List PyData} (e0 : r[i]? = some (.own (.lst ds0))) (h : wD f r fun x r1 => wFz x r1 fun d r2 => wApp i d r2 Q) : wD (dApp i f) r Q := by
  refine wd_app e0 ?_
  obtain ⟨x, r1, e, ⟨d, r2, e1, ⟨ds, e2, l, q⟩⟩⟩ := h.ex
  exact ⟨x, r1, e, ⟨d, r2, e1, ds, e2, l, q⟩⟩
structure wTD (ds : List PyData) (Q : PyData → Prop) : Prop where
  ex : ds.length ≤ sizeLine ∧ Q (.tuple ds)
theorem wd_tup' (h : wV gs r fun ds r1 => Q (.val (.tuple ds)) r1 ∧ ds.length ≤ sizeLine) : wD (dTup gs) r Q := wd_tup (by
  obtain ⟨ds, r1, e, q, l⟩ := h.ex
  exact ⟨ds, r1, e, l, q⟩)
theorem wd_lst' (h : wV gs r fun ds r1 => Q (.tmp (.lst ds)) r1 ∧ ds.length ≤ sizeLine) : wD (dLst gs) r Q := wd_lst (by
  obtain ⟨ds, r1, e, q, l⟩ := h.ex
  exact ⟨ds, r1, e, l, q⟩)
theorem ws_gf_own' {ds : List PyData} (e : r[i]? = some (.own (.lst ds))) (e2 : r.set i (.fz (.list ds)) = r1) (h : N r1) : wS (dGf i) r N T B C := ws_gf_own e e2 h
theorem rest_wipe (r : Nms) : ∀ vs : List Nat, restE vs r (wipeE vs r) = r := fun vs => by
  refine List.ext_getElem? fun j => ?_
  by_cases h : j ∈ vs
  · by_cases hl : j < r.length
    · rw [restE_mem h (by rw [wipeE_length]; exact hl), List.getD_eq_getElem?_getD, List.getElem?_eq_getElem hl]; rfl
    · rw [List.getElem?_eq_none (by rw [restE_length, wipeE_length]; omega), List.getElem?_eq_none (by omega)]
  · rw [restE_ne h, wipeE_ne h]
/-- a comprehension that keeps its state -/
theorem wd_lcf' {vs : List Nat} {fi : DenI} {g0 : DenG} (h : wI fi r fun ds r1 uo => noOb vs r1 = true ∧ ∃ (keep : PyData → Bool) (val : PyData → PyData),
    (∀ d ∈ ds, wG g0 d (wipeE vs r1) fun r3 => wT t r3 fun b r4 => b = keep d ∧ (b = true → wD f r4 fun x r5 => wFz x r5 fun y r6 => y = val d ∧ wipeE vs r6 = wipeE vs r1) ∧ (b = false → wipeE vs r4 = wipeE vs r1)) ∧
    Q (.tmp (.lst ((ds.filter keep).map val))) (unlck uo r1)) : wD (dLc vs fi g0 t f) r Q := by
  refine wd_lcf ?_
  obtain ⟨ds, r1, uo, e, no, keep, val, hs, hq⟩ := h.ex
  exact ⟨ds, r1, uo, e, no, keep, val, hs, by rw [rest_wipe]; exact hq⟩
/-- .. without a test -/
theorem wd_lcm {vs : List Nat} {fi : DenI} {g0 : DenG} (h : wI fi r fun ds r1 uo => noOb vs r1 = true ∧ ∃ (val : PyData → PyData),
    (∀ d ∈ ds, wG g0 d (wipeE vs r1) fun r3 => wD f r3 fun x r5 => wFz x r5 fun y r6 => y = val d ∧ wipeE vs r6 = wipeE vs r1) ∧
    Q (.tmp (.lst (ds.map val))) (unlck uo r1)) : wD (dLc vs fi g0 tYesD f) r Q := by
  refine wd_lcf' ?_
  obtain ⟨ds, r1, uo, e, no, val, hs, hq⟩ := h.ex
  refine ⟨ds, r1, uo, e, no, fun _ => true, val, fun d hd => ?_, by rw [List.filter_eq_self.mpr fun _ _ => rfl]; exact hq⟩
  obtain ⟨r3, e3, q⟩ := (hs d hd).ex
  exact ⟨r3, e3, wt_yes ⟨rfl, fun _ => q, fun h => by cases h⟩⟩
structure wOwn (i : Nat) (r : Nms) (P : Prop) : Prop where
  ex : (∃ ds0, r[i]? = some (.own (.lst ds0))) ∧ P
theorem wown {ds : List PyData} {P : Prop} (e : r[i]? = some (.own (.lst ds))) (h : P) : wOwn i r P := ⟨⟨_, e⟩, h⟩
structure wSI (i : Nat) (d : PyData) (y : R) (r : Nms) (Q : Nms → Prop) : Prop where
  ex : ∃ k ds j, y = .val (.int k) ∧ r[i]? = some (.own (.lst ds)) ∧ ixN ds.length k = some j ∧ Q (r.set i (.own (.lst (ds.set j d))))
theorem wsi {ds : List PyData} {k : Int} {j : Nat} {Q : Nms → Prop} (e : r[i]? = some (.own (.lst ds))) (e2 : ixN ds.length k = some j) (e3 : r.set i (.own (.lst (ds.set j d))) = r1) (h : Q r1) : wSI i d (.val (.int k)) r Q := ⟨_, _, _, rfl, e, e2, by rw [e3]; exact h⟩
theorem ws_setIx' (h : wD f r fun x r1 => wFz x r1 fun d r2 => wOwn i r2 (wD g r2 fun y r3 => wSI i d y r3 N)) : wS (dSetIx i f g) r N T B C := by
  refine ws_setIx ?_
  obtain ⟨x, r1, e, ⟨d, r2, e2, ⟨⟨ds0, e3⟩, ⟨y, r3, e4, ⟨k, ds, j, e5, e6, e7, q⟩⟩⟩⟩⟩ := h.ex
  exact ⟨x, r1, e, ⟨d, r2, e2, ds0, e3, ⟨y, r3, e4, k, ds, j, e5, e6, e7, q⟩⟩⟩
/-- a cut behind a statement -/
theorem ws_cut {M : Nms → Prop} (h : wS u r M T B C) (k : ∀ r1, M r1 → wS w r1 N T B C) : wS (dSeq u w) r N T B C := ws_seq (h.mono k (fun _ _ q => q) (fun _ q => q) (fun _ q => q))
theorem ws_for' {fi : DenI} {g0 : DenG} (h : wI fi r fun ds r1 uo => ∃ I : Nat → Nms → Prop, I 0 r1 ∧ (∀ i d r2, ds[i]? = some d → I i r2 → wG g0 d r2 fun r3 => wS u r3 (I (i + 1)) (fun x r4 => T x (unlck uo r4)) (fun r4 => N (unlck uo r4)) (I (i + 1))) ∧ (∀ r2, I ds.length r2 → N (unlck uo r2))) :
    wS (dFor fi g0 u) r N T B C := ws_for h
structure wRg (ds : List PyData) (r : Nms) (Q : List PyData → Nms → Option Nat → Prop) : Prop where
  ex : ∃ k : Int, ds = [.int k] ∧ k ≤ 16777216 ∧ -1000000000 ≤ k ∧ Q (rangeD 0 k.toNat) r none
theorem wrg {k : Int} {Q : List PyData → Nms → Option Nat → Prop} (h1 : k ≤ 16777216) (h2 : -1000000000 ≤ k) (h : Q (rangeD 0 k.toNat) r none) : wRg [.int k] r Q := ⟨k, rfl, h1, h2, h⟩
theorem wi_r1' {Q : List PyData → Nms → Option Nat → Prop} (h : wN ns r fun xs r1 => wDrs r1 xs fun ds => wRg ds r1 Q) : wI (iR1 ns) r Q := wi_r1 (by
  obtain ⟨xs, r1, e, ⟨ds, e2, ⟨k, e3, l, l2, q⟩⟩⟩ := h.ex
  exact ⟨xs, r1, e, ⟨ds, e2, k, e3, l, l2, q⟩⟩)
structure wRg2 (ds : List PyData) (r : Nms) (Q : List PyData → Nms → Option Nat → Prop) : Prop where
  ex : ∃ k l : Int, ds = [.int k, .int l] ∧ -1000000000 ≤ k ∧ k ≤ 1000000000 ∧ -1000000000 ≤ l ∧ l ≤ 1000000000 ∧ l - k ≤ 16777216 ∧ Q (rangeD k (l - k).toNat) r none
theorem wrg2 {k l : Int} {Q : List PyData → Nms → Option Nat → Prop} (h1 : -1000000000 ≤ k) (h2 : k ≤ 1000000000) (h3 : -1000000000 ≤ l) (h4 : l ≤ 1000000000) (h5 : l - k ≤ 16777216) (h : Q (rangeD k (l - k).toNat) r none) : wRg2 [.int k, .int l] r Q := ⟨k, l, rfl, h1, h2, h3, h4, h5, h⟩
theorem wi_r2' {Q : List PyData → Nms → Option Nat → Prop} (h : wN ns r fun xs r1 => wDrs r1 xs fun ds => wRg2 ds r1 Q) : wI (iR2 ns) r Q := wi_r2 (by
  obtain ⟨xs, r1, e, ⟨ds, e2, ⟨k, l, e3, q⟩⟩⟩ := h.ex
  exact ⟨xs, r1, e, ⟨ds, e2, k, l, e3, q⟩⟩)
theorem range_at {i n : Nat} {d : PyData} (h : (rangeD 0 n)[i]? = some d) : i < n ∧ d = .int (i : Nat) := by
  rw [rangeD_get] at h
  by_cases c : i < n
  · rw [if_pos c] at h; cases h; exact ⟨c, by rw [Int.zero_add]⟩
  · rw [if_neg c] at h; cases h
theorem ws_forI {fi : DenI} {g0 : DenG} (h : wI fi r fun ds r1 uo => uo = none ∧ ∃ I : Nat → Nms → Prop, I 0 r1 ∧ (∀ i d r2, ds[i]? = some d → I i r2 → wG g0 d r2 fun r3 => wS u r3 (I (i + 1)) T N (I (i + 1))) ∧ (∀ r2, I ds.length r2 → N r2)) :
    wS (dFor fi g0 u) r N T B C := ws_for (by
  obtain ⟨ds, r1, uo, e, e0, q⟩ := h.ex
  subst e0
  exact ⟨ds, r1, none, e, q⟩)
theorem wo_isT {A : String} {b : Bool} {Q : Bool → Prop} (e : isT A d = some b) (h : Q b) : wO (isT A d) Q := ⟨b, e, h⟩
theorem wo_isT2 {A A' : String} {b : Bool} {Q : Bool → Prop} (e : isT2 A A' d = some b) (h : Q b) : wO (isT2 A A' d) Q := ⟨b, e, h⟩
structure wSame (r2 r1 : Nms) (P : Prop) : Prop where
  ex : r2 = r1 ∧ P
theorem wsame {P : Prop} (h : P) : wSame r r P := ⟨rfl, h⟩
theorem wt_andP {Q : Bool → Nms → Prop} (h : wT t r fun b r1 => wT s r1 fun b' r2 => wSame r2 r1 (Q (b && b') r1)) : wT (dAnd t s) r Q := wt_and' (by
  obtain ⟨b, r1, e, ⟨b', r2, e2, ⟨e3, q⟩⟩⟩ := h.ex
  exact ⟨b, r1, e, ⟨b', r2, e2, e3, q⟩⟩)
theorem wt_orP {Q : Bool → Nms → Prop} (h : wT t r fun b r1 => wT s r1 fun b' r2 => wSame r2 r1 (Q (b || b') r1)) : wT (dOr t s) r Q := wt_or' (by
  obtain ⟨b, r1, e, ⟨b', r2, e2, ⟨e3, q⟩⟩⟩ := h.ex
  exact ⟨b, r1, e, ⟨b', r2, e2, e3, q⟩⟩)
theorem wd_chP {op2 : Op2} (h0 : wD f r fun x r1 => wSt x r1 fun x r1 => ∃ dx, x = .val dx ∧ wD g r1 fun y r2 => wSt y r2 fun y r2 => ∃ dy, y = .val dy ∧ wO (op dx dy) fun z => ∃ k, z = .val (.bool k) ∧ wD h r2 fun w r3 => wDr r3 w fun dw => wO (op2 dy dw) fun z2 => ∃ k2, z2 = .val (.bool k2) ∧ wSame r3 r2 (Q (.val (.bool (k && k2))) r2)) : wD (dCh f g h op op2) r Q := wd_ch' (by
  refine h0.mono fun x r1 ⟨q⟩ => ⟨?_⟩
  obtain ⟨dx, ex, q⟩ := q
  refine ⟨dx, ex, q.mono fun y r2 ⟨q⟩ => ⟨?_⟩⟩
  obtain ⟨dy, ey, q⟩ := q
  refine ⟨dy, ey, q.mono fun z ⟨k, ez, q⟩ => ⟨k, ez, q.mono fun w r3 ⟨dw, e5, ⟨z2, e6, k2, e7, ⟨e8, q⟩⟩⟩ => ⟨dw, e5, ⟨z2, e6, k2, e7, e8, q⟩⟩⟩⟩)
theorem and_dec {p : Prop} [Decidable p] {A B : Prop} (h : (p → A) ∧ (¬ p → B)) : (decide p = true → A) ∧ (decide p = false → B) := ⟨fun e => h.1 (of_decide_eq_true e), fun e => h.2 (of_decide_eq_false e)⟩
theorem and_ndec {p : Prop} [Decidable p] {A B : Prop} (h : (p → B) ∧ (¬ p → A)) : ((!decide p) = true → A) ∧ ((!decide p) = false → B) := ⟨fun e => h.2 (by simpa using e), fun e => h.1 (by simpa using e)⟩
theorem and_t {A B : Prop} (h : A) : (true = true → A) ∧ (true = false → B) := ⟨fun _ => h, fun e => nomatch e⟩
theorem and_f {A B : Prop} (h : B) : (false = true → A) ∧ (false = false → B) := ⟨fun e => (nomatch e), fun _ => h⟩
end
end KV

end

section
/-! KDat: keys and rows of numbers as data. -/
namespace KV
open PySem PySem.Spec PyProof.Rows L2
def keyD (p : Int × Int) : PyData := .tuple [.int p.1, .int p.2]
def ltK (p q : Int × Int) : Bool := lexB [p.1, p.2] [q.1, q.2]
def KeysOk (b : Nat) (ks : List (Int × Int)) : Prop := ks.length ≤ b ∧ ∀ p ∈ ks, 0 ≤ p.1 ∧ 0 ≤ p.2
theorem insD_length {α : Type} (lt : α → α → Bool) (x : α) : ∀ l : List α, (insD lt x l).length ≤ l.length + 1
  | [] => Nat.le_refl _
  | y :: r => by
    unfold insD
    have := insD_length lt x r
    split
    · simp
    · split
      · simp; omega
      · simp
theorem sortD_length {α : Type} (lt : α → α → Bool) : ∀ l : List α, (sortD lt l).length ≤ l.length
  | [] => Nat.le_refl _
  | x :: r => by
    have := sortD_length lt r
    have := insD_length lt x (sortD lt r)
    unfold sortD
    rw [List.length_cons]; omega
theorem keyD_tup (ks : List (Int × Int)) : ks.map keyD = (ks.map fun p => [p.1, p.2]).map tupD := by
  rw [List.map_map]; rfl
theorem ltK_ok : LtOk ltK := ⟨fun a => lexB_irr _, fun a b c h1 h2 => lexB_trans _ _ _ h1 h2, fun a b => by
  rcases lexB_tri [a.1, a.2] [b.1, b.2] with h | h | h
  · exact .inl h
  · refine .inr (.inl ?_)
    simp at h
    exact Prod.ext h.1 h.2
  · exact .inr (.inr h)⟩
theorem ltK_iff (p q : Int × Int) : ltK p q = true ↔ p.1 < q.1 ∨ (p.1 = q.1 ∧ p.2 < q.2) := by
  unfold ltK lexB lexB lexB
  by_cases h : p.1 < q.1
  · simp [h]
  · by_cases h2 : q.1 < p.1
    · simp [h, h2]; omega
    · have e : p.1 = q.1 := by omega
      by_cases h3 : p.2 < q.2
      · simp [h, h2, h3, e]
      · by_cases h4 : q.2 < p.2
        · simp [h, h2, h3, h4]
        · simp [h, h2, h3, h4]
theorem sortD_map (ks : List (Int × Int)) : sortD lexB (ks.map fun p => [p.1, p.2]) = (sortD ltK ks).map fun p => [p.1, p.2] := by
  have ins : ∀ (x : Int × Int) (l : List (Int × Int)), insD lexB [x.1, x.2] (l.map fun p => [p.1, p.2]) = (insD ltK x l).map fun p => [p.1, p.2] := by
    intro x l
    induction l with
    | nil => rfl
    | cons y l ih =>
      show (if lexB [x.1, x.2] [y.1, y.2] = true then _ else if lexB [y.1, y.2] [x.1, x.2] = true then _ else _) = List.map _ (if ltK x y = true then _ else if ltK y x = true then _ else _)
      by_cases h : ltK x y = true
      · rw [if_pos h, if_pos (show lexB [x.1, x.2] [y.1, y.2] = true from h)]; rfl
      · rw [if_neg h, if_neg (show ¬ lexB [x.1, x.2] [y.1, y.2] = true from h)]
        by_cases h2 : ltK y x = true
        · rw [if_pos h2, if_pos (show lexB [y.1, y.2] [x.1, x.2] = true from h2), ih]; rfl
        · rw [if_neg h2, if_neg (show ¬ lexB [y.1, y.2] [x.1, x.2] = true from h2)]; rfl
  induction ks with
  | nil => rfl
  | cons x l ih => unfold sortD; rw [List.map_cons]; show insD lexB [x.1, x.2] (sortD lexB (l.map fun p => [p.1, p.2])) = _; rw [ih, ins]
theorem ss_keys {ks : List (Int × Int)} (h : KeysOk 63 ks) : opSS (.list (ks.map keyD)) = some (.tmp (.lst ((sortD ltK ks).map keyD))) := by
  cases ks with
  | nil => rfl
  | cons k ks =>
    rw [keyD_tup, keyD_tup, ← sortD_map]
    refine opSS_tup (by have := h.1; simp at this ⊢; omega) ?_
    unfold evenK
    simp only [Bool.and_eq_true, decide_eq_true_eq, List.all_eq_true]
    refine ⟨by simp, fun j hj => ?_⟩
    have hj : j ∈ (k :: ks).map fun p => [p.1, p.2] := hj
    obtain ⟨p, hp, e⟩ := List.mem_map.mp hj
    subst e
    have := h.2 p hp
    refine ⟨rfl, fun n hn => ?_⟩
    simp at hn
    rcases hn with rfl | rfl
    · exact this.1
    · exact this.2
theorem KeysOk.sort {b : Nat} {ks : List (Int × Int)} (h : KeysOk b ks) : KeysOk b (sortD ltK ks) := ⟨Nat.le_trans (sortD_length _ _) h.1, fun p hp => h.2 p ((sortD_mem ltK_ok ks p).mp hp)⟩
theorem KeysOk.mono {b c : Nat} {ks : List (Int × Int)} (h : KeysOk b ks) (hc : b ≤ c) : KeysOk c ks := ⟨Nat.le_trans h.1 hc, h.2⟩
theorem KeysOk.filter {b : Nat} {ks : List (Int × Int)} (h : KeysOk b ks) (p : Int × Int → Bool) : KeysOk b (ks.filter p) := ⟨Nat.le_trans (List.length_filter_le ..) h.1, fun q hq => h.2 q (List.mem_filter.mp hq).1⟩
theorem KeysOk.add {b : Nat} {ks : List (Int × Int)} {p : Int × Int} (h : KeysOk b ks) (hp : 0 ≤ p.1 ∧ 0 ≤ p.2) : KeysOk (b + 1) (ks ++ [p]) := ⟨by rw [List.length_append]; have := h.1; simp; omega, fun q hq => by
  rcases List.mem_append.mp hq with m | m
  · exact h.2 q m
  · simp at m; rw [m]; exact hp⟩
/-- a version: its lists have at most b items -/
def belowD : Option (List (Int × Int)) → PyData
  | none => .none
  | some ts => .tuple (ts.map keyD)
structure Ver where
  keys : List (Int × Int)
  heads : List Int
  trust : Option (List (Int × Int))
  marks : List Int
  gone : List Int
def verD (v : Ver) : PyData := .tuple [.tuple (v.keys.map keyD), .tuple (v.heads.map .int), belowD v.trust, .tuple (v.marks.map .int), .tuple (v.gone.map .int)]
structure VerOk (b : Nat) (v : Ver) : Prop where
  keys : KeysOk b v.keys
  heads : v.heads.length ≤ b
  trust : ∀ ts, v.trust = some ts → KeysOk b ts
  marks : v.marks.length ≤ b
  gone : v.gone.length ≤ b
theorem VerOk.mono {b c : Nat} {v : Ver} (h : VerOk b v) (hc : b ≤ c) : VerOk c v := ⟨h.keys.mono hc, Nat.le_trans h.heads hc, fun ts e => (h.trust ts e).mono hc, Nat.le_trans h.marks hc, Nat.le_trans h.gone hc⟩
/-- a line, a zone -/
def lineD (p : Int × Ver) : PyData := .tuple [.int p.1, verD p.2]
structure Zn where
  line : List (Int × Ver)
  servers : Int
  tries : Int
  lag : Int
  kl : Int
  rl : Int
def zoneD (z : Zn) : PyData := .tuple [.tuple (z.line.map lineD), .int z.servers, .int z.tries, .int z.lag, .int z.kl, .int z.rl]
def VOk (b : Nat) (last : Bool) (v : Ver) : Prop := VerOk b v ∧ (v.trust = none ↔ last = true)
/-- a line whose last time is m -/
structure LnOk (b : Nat) (last : Bool) (m : Int) (ln : List (Int × Ver)) : Prop where
  first : ∃ v r, ln = (0, v) :: r
  up : ln.Pairwise fun p q => p.1 < q.1
  le : ∀ p ∈ ln, 0 ≤ p.1 ∧ p.1 ≤ m
  ends : ∃ l v, ln = l ++ [(m, v)]
  ver : ∀ p ∈ ln, VOk b last p.2
theorem LnOk.mono {b c : Nat} {last : Bool} {m : Int} {ln : List (Int × Ver)} (h : LnOk b last m ln) (hc : b ≤ c) : LnOk c last m ln := ⟨h.first, h.up, h.le, h.ends, fun p hp => ⟨(h.ver p hp).1.mono hc, (h.ver p hp).2⟩⟩
theorem LnOk.one {b : Nat} {last : Bool} {v : Ver} (h : VOk b last v) : LnOk b last 0 [(0, v)] := ⟨⟨v, [], rfl⟩, by simp, by simp, ⟨[], v, rfl⟩, by simpa using h⟩
theorem LnOk.add {b : Nat} {last : Bool} {m m' : Int} {ln : List (Int × Ver)} {v : Ver} (h : LnOk b last m ln) (hm : 0 ≤ m ∧ m < m') (hv : VOk b last v) : LnOk b last m' (ln ++ [(m', v)]) := by
  obtain ⟨⟨v0, r0, e0⟩, up, le, _, ver⟩ := h
  refine ⟨⟨v0, r0 ++ [(m', v)], by rw [e0]; rfl⟩, ?_, fun p hp => ?_, ⟨ln, v, rfl⟩, fun p hp => ?_⟩
  · rw [List.pairwise_append]
    refine ⟨up, by simp, fun p hp q hq => ?_⟩
    simp at hq
    subst hq
    have := le p hp
    show p.1 < m'
    omega
  · rcases List.mem_append.mp hp with q | q
    · have := le p q; omega
    · simp at q; subst q; exact ⟨by show 0 ≤ m'; omega, Int.le_refl _⟩
  · rcases List.mem_append.mp hp with q | q
    · exact ver p q
    · simp at q; subst q; exact hv
structure ZnOk (b : Nat) (last : Bool) (many : Nat) (z : Zn) : Prop where
  len : z.line.length ≤ many
  line : ∃ m, LnOk b last m z.line ∧ m ≤ 7 * many
  servers : 1 ≤ z.servers ∧ z.servers ≤ 3
  tries : 1 ≤ z.tries ∧ z.tries ≤ z.servers
  lag : 0 ≤ z.lag ∧ z.lag ≤ 8
  kl : 1 ≤ z.kl ∧ z.kl ≤ 5
  rl : 1 ≤ z.rl ∧ z.rl ≤ 5
/-! lists of data that are maps -/
theorem filter_map_key (ks : List (Int × Int)) (p : PyData → Bool) : (ks.map keyD).filter p = (ks.filter fun k => p (keyD k)).map keyD := by
  rw [List.filter_map]; rfl
theorem filter_map_int (ns : List Int) (p : PyData → Bool) : (ns.map PyData.int).filter p = (ns.filter fun k => p (.int k)).map PyData.int := by
  rw [List.filter_map]; rfl
def fstD : PyData → PyData
  | .tuple (d :: _) => d
  | _ => .none
theorem map_fstD (ks : List (Int × Int)) : (ks.map keyD).map fstD = (ks.map (·.1)).map .int := by
  rw [List.map_map, List.map_map]; rfl
section
variable {QR : R → Prop} {a b : Int} {xs : List PyData} {ns : List Int}
theorem wo_eqNil (h : QR (.val (.bool xs.isEmpty))) : wO (opEq (.list xs) (.list [])) QR := ⟨_, by
  unfold opEq; rw [if_pos (Nat.le_trans (Nat.min_le_right _ _) (by decide))]
  have : PyData.eqv (.list xs) (.list []) = xs.isEmpty := by cases xs <;> rfl
  rw [this], h⟩
theorem wo_neNil (h : QR (.val (.bool (!xs.isEmpty)))) : wO (opNe (.list xs) (.list [])) QR := ⟨_, by
  unfold opNe; rw [if_pos (Nat.le_trans (Nat.min_le_right _ _) (by decide))]
  have : PyData.eqv (.list xs) (.list []) = xs.isEmpty := by cases xs <;> rfl
  rw [this], h⟩
theorem eqv_int (i k : Int) : PyData.eqv (.int i) (.int k) = decide (i = k) := rfl
theorem any_int (ns : List Int) (k : Int) : ((ns.map PyData.int).any fun y => PyData.eqv y (.int k)) = decide (k ∈ ns) := by
  rw [List.any_map]
  induction ns with
  | nil => rfl
  | cons n ns ih =>
    rw [List.any_cons, ih]
    show (decide (n = k) || _) = _
    by_cases h : n = k
    · subst h; simp
    · have : k ≠ n := fun e => h e.symm
      simp [h, this]
theorem wo_inT (h : QR (.val (.bool (decide (a ∈ ns))))) : wO (opIn (.int a) (.tuple (ns.map .int))) QR := ⟨_, by
  unfold opIn seqOf; rw [Option.bind_some, if_pos (Nat.le_trans (Nat.min_le_right _ _) (show (PyData.int a).depth ≤ 60 from by show 0 ≤ 60; omega)), any_int], h⟩
theorem wo_inL (h : QR (.val (.bool (decide (a ∈ ns))))) : wO (opIn (.int a) (.list (ns.map .int))) QR := ⟨_, by
  unfold opIn seqOf; rw [Option.bind_some, if_pos (Nat.le_trans (Nat.min_le_right _ _) (show (PyData.int a).depth ≤ 60 from by show 0 ≤ 60; omega)), any_int], h⟩
theorem wo_notInT (h : QR (.val (.bool (!decide (a ∈ ns))))) : wO (opNotIn (.int a) (.tuple (ns.map .int))) QR := ⟨_, by
  unfold opNotIn seqOf; rw [Option.bind_some, if_pos (Nat.le_trans (Nat.min_le_right _ _) (show (PyData.int a).depth ≤ 60 from by show 0 ≤ 60; omega)), any_int], h⟩
theorem wo_notInL (h : QR (.val (.bool (!decide (a ∈ ns))))) : wO (opNotIn (.int a) (.list (ns.map .int))) QR := ⟨_, by
  unfold opNotIn seqOf; rw [Option.bind_some, if_pos (Nat.le_trans (Nat.min_le_right _ _) (show (PyData.int a).depth ≤ 60 from by show 0 ≤ 60; omega)), any_int], h⟩
/-- keys by their numbers -/
def numIs (k : Int) : PyData → Bool
  | .tuple (.int a :: _) => decide (a = k)
  | _ => false
def numNot (k : Int) : PyData → Bool
  | .tuple (.int a :: _) => !decide (a = k)
  | _ => false
theorem filter_numIs (ks : List (Int × Int)) (k : Int) : ((ks.map keyD).filter (numIs k)).map id = (ks.filter fun p => decide (p.1 = k)).map keyD := by
  rw [filter_map_key, List.map_id]; rfl
theorem filter_numNot (ks : List (Int × Int)) (k : Int) : ((ks.map keyD).filter (numNot k)).map id = (ks.filter fun p => !decide (p.1 = k)).map keyD := by
  rw [filter_map_key, List.map_id]; rfl
end
end KV

end

section
/-! KDat2: data of bounded depth; lists for tuples; what a zone's line tells. -/
namespace KV
open PySem PySem.Spec PyProof.Rows L2
def okD : Nat → PyData → Bool
  | 0, _ => false
  | n + 1, .list xs => decide (xs.length ≤ 16777216) && xs.all (okD n)
  | n + 1, .tuple xs => decide (xs.length ≤ 16777216) && xs.all (okD n)
  | _ + 1, .dict _ => false
  | _ + 1, _ => true
theorem okD_list {n : Nat} {xs : List PyData} (h : okD (n + 1) (.list xs) = true) : xs.length ≤ 16777216 ∧ ∀ x ∈ xs, okD n x = true := by
  simpa [okD] using h
theorem okD_tuple {n : Nat} {xs : List PyData} (h : okD (n + 1) (.tuple xs) = true) : xs.length ≤ 16777216 ∧ ∀ x ∈ xs, okD n x = true := by
  simpa [okD] using h
theorem okD_mkL {n : Nat} {xs : List PyData} (h : xs.length ≤ 16777216) (k : ∀ x ∈ xs, okD n x = true) : okD (n + 1) (.list xs) = true := by
  simpa [okD] using And.intro h k
theorem okD_mkT {n : Nat} {xs : List PyData} (h : xs.length ≤ 16777216) (k : ∀ x ∈ xs, okD n x = true) : okD (n + 1) (.tuple xs) = true := by
  simpa [okD] using And.intro h k
theorem depthAll_le {n : Nat} : ∀ xs : List PyData, (∀ x ∈ xs, x.depth ≤ n) → PyData.depthAll xs ≤ n
  | [], _ => Nat.zero_le _
  | x :: xs, h => by
    have h1 := h x (by simp)
    have h2 := depthAll_le xs fun y hy => h y (by simp [hy])
    show max (PyData.depth x) (PyData.depthAll xs) ≤ n
    omega
theorem okD_depth : ∀ (n : Nat) (d : PyData), okD n d = true → d.depth ≤ n
  | 0, _, h => by simp [okD] at h
  | n + 1, .list xs, h => Nat.succ_le_succ (depthAll_le xs fun x hx => okD_depth n x ((okD_list h).2 x hx))
  | n + 1, .tuple xs, h => Nat.succ_le_succ (depthAll_le xs fun x hx => okD_depth n x ((okD_tuple h).2 x hx))
  | n + 1, .none, _ => Nat.zero_le _
  | n + 1, .bool _, _ => Nat.zero_le _
  | n + 1, .int _, _ => Nat.zero_le _
  | n + 1, .str _, _ => Nat.zero_le _
  | n + 1, .dict _, h => by simp [okD] at h
theorem eqvAll_refl : ∀ xs : List PyData, (∀ x ∈ xs, PyData.eqv x x = true) → PyData.eqvAll xs xs = true
  | [], _ => rfl
  | x :: xs, h => by
    show (PyData.eqv x x && PyData.eqvAll xs xs) = true
    rw [h x (by simp), eqvAll_refl xs fun y hy => h y (by simp [hy])]; rfl
theorem okD_eqv : ∀ (n : Nat) (d : PyData), okD n d = true → PyData.eqv d d = true
  | 0, _, h => by simp [okD] at h
  | n + 1, .list xs, h => eqvAll_refl xs fun x hx => okD_eqv n x ((okD_list h).2 x hx)
  | n + 1, .tuple xs, h => eqvAll_refl xs fun x hx => okD_eqv n x ((okD_tuple h).2 x hx)
  | n + 1, .none, _ => rfl
  | n + 1, .bool b, _ => by show (b == b) = true; simp
  | n + 1, .int i, _ => by show (i == i) = true; simp
  | n + 1, .str s, _ => by show (s == s) = true; simp
  | n + 1, .dict _, h => by simp [okD] at h
theorem okD_mono : ∀ (n m : Nat) (d : PyData), n ≤ m → okD n d = true → okD m d = true
  | 0, _, _, _, h => by simp [okD] at h
  | n + 1, 0, _, h, _ => by omega
  | n + 1, m + 1, .list xs, hm, h => okD_mkL (okD_list h).1 fun x hx => okD_mono n m x (by omega) ((okD_list h).2 x hx)
  | n + 1, m + 1, .tuple xs, hm, h => okD_mkT (okD_tuple h).1 fun x hx => okD_mono n m x (by omega) ((okD_tuple h).2 x hx)
  | n + 1, m + 1, .none, _, _ => rfl
  | n + 1, m + 1, .bool _, _, _ => rfl
  | n + 1, m + 1, .int _, _, _ => rfl
  | n + 1, m + 1, .str _, _, _ => rfl
  | n + 1, m + 1, .dict _, _, h => by simp [okD] at h
/-- lists for tuples -/
def toLs : Nat → PyData → PyData
  | 0, d => d
  | n + 1, .list xs => .list (xs.map (toLs n))
  | n + 1, .tuple xs => .list (xs.map (toLs n))
  | _ + 1, d => d
def resLs : Nat → PyData → R
  | n + 1, .list xs => .tmp (.lst (xs.map (toLs n)))
  | n + 1, .tuple xs => .tmp (.lst (xs.map (toLs n)))
  | _, d => .val d
theorem resLs_fz {n : Nat} {d : PyData} {r : Nms} {Q : PyData → Nms → Prop} (h : Q (toLs n d) r) : wFz (resLs n d) r Q := by
  cases n with
  | zero => exact wfz_val h
  | succ n =>
    cases d with
    | list xs => exact wfz_tmp h
    | tuple xs => exact wfz_tmp h
    | none => exact wfz_val h
    | bool _ => exact wfz_val h
    | int _ => exact wfz_val h
    | str _ => exact wfz_val h
    | dict _ => exact wfz_val h
theorem toLs_ok : ∀ (n m : Nat) (d : PyData), okD m d = true → okD m (toLs n d) = true
  | 0, _, _, h => h
  | n + 1, 0, _, h => by simp [okD] at h
  | n + 1, m + 1, .list xs, h => okD_mkL (by rw [List.length_map]; exact (okD_list h).1) fun x hx => by
    obtain ⟨y, hy, rfl⟩ := List.mem_map.mp hx
    exact toLs_ok n m y ((okD_list h).2 y hy)
  | n + 1, m + 1, .tuple xs, h => okD_mkL (by rw [List.length_map]; exact (okD_tuple h).1) fun x hx => by
    obtain ⟨y, hy, rfl⟩ := List.mem_map.mp hx
    exact toLs_ok n m y ((okD_tuple h).2 y hy)
  | n + 1, m + 1, .none, h => h
  | n + 1, m + 1, .bool _, h => h
  | n + 1, m + 1, .int _, h => h
  | n + 1, m + 1, .str _, h => h
  | n + 1, m + 1, .dict _, h => h
section
variable {QR : R → Prop} {a b : Bool} {d e : PyData} {n : Nat}
theorem wo_eqB (h : QR (.val (.bool (a == b)))) : wO (opEq (.bool a) (.bool b)) QR := ⟨_, by
  unfold opEq; rw [if_pos (by show min 0 0 ≤ 60; decide)]; rfl, h⟩
theorem wo_neB (h : QR (.val (.bool (!(a == b))))) : wO (opNe (.bool a) (.bool b)) QR := ⟨_, by
  unfold opNe; rw [if_pos (by show min 0 0 ≤ 60; decide)]; rfl, h⟩
theorem wo_eqSame (hd : okD n d = true) (hn : n ≤ 60) (h : QR (.val (.bool true))) : wO (opEq d d) QR := ⟨_, by
  have := okD_depth n d hd
  unfold opEq; rw [if_pos (by omega), okD_eqv n d hd], h⟩
theorem wo_neSame (hd : okD n d = true) (hn : n ≤ 60) (h : QR (.val (.bool false))) : wO (opNe d d) QR := ⟨_, by
  have := okD_depth n d hd
  unfold opNe; rw [if_pos (by omega), okD_eqv n d hd]; rfl, h⟩
end
/-! what a zone's line tells -/
structure ZLike (Z : PyData) (n : Nat) (ts : Nat → Int) (lag : Int) : Prop where
  z0 : ∃ L, opIx Z (.int 0) = some (.val L) ∧ opLen [L] = some (.val (.int n)) ∧ ∀ i : Nat, i < n → ∃ E, opIx L (.int i) = some (.val E) ∧ opIx E (.int 0) = some (.val (.int (ts i)))
  z3 : opIx Z (.int 3) = some (.val (.int lag))
def tellB (n : Nat) (ts : Nat → Int) (lag v t : Int) : Bool := decide (0 ≤ v ∧ v < n ∧ ts v.toNat ≤ t ∧ (v + 1 < n → t < ts (v + 1).toNat + lag))
end KV

end

section
/-! KS6: sorted of ints, also backwards; xs[::-1]; xs.pop(i); sorted(set(t)) of a tuple. -/
namespace KV
open PySem PySem.Spec PyProof.Rows L2
def insI (x : Int) : List Int → List Int
  | [] => [x]
  | y :: r => if x ≤ y then x :: y :: r else y :: insI x r
def srtI : List Int → List Int
  | [] => []
  | x :: r => insI x (srtI r)
theorem insI_perm (x : Int) : ∀ l : List Int, (insI x l).Perm (x :: l)
  | [] => .refl _
  | y :: r => by
    unfold insI
    split
    · exact .refl _
    · exact ((insI_perm x r).cons y).trans (.swap x y r)
theorem srtI_perm : ∀ l : List Int, (srtI l).Perm l
  | [] => .refl _
  | x :: r => (insI_perm x _).trans ((srtI_perm r).cons x)
theorem insI_sorted (x : Int) : ∀ l : List Int, l.Pairwise (· ≤ ·) → (insI x l).Pairwise (· ≤ ·)
  | [], _ => by simp [insI]
  | y :: r, h => by
    obtain ⟨h1, h2⟩ := List.pairwise_cons.mp h
    unfold insI
    split
    · rename_i k
      exact List.pairwise_cons.mpr ⟨fun z hz => by
        rcases List.mem_cons.mp hz with e | e
        · rw [e]; exact k
        · have := h1 z e; omega, h⟩
    · exact List.pairwise_cons.mpr ⟨fun z hz => by
        rcases List.mem_cons.mp ((insI_perm x r).mem_iff.mp hz) with e | e
        · rw [e]; omega
        · exact h1 z e, insI_sorted x r h2⟩
theorem srtI_sorted : ∀ l : List Int, (srtI l).Pairwise (· ≤ ·)
  | [] => List.Pairwise.nil
  | x :: r => insI_sorted x _ (srtI_sorted r)
theorem sorted_perm_eq : ∀ l m : List Int, l.Perm m → l.Pairwise (· ≤ ·) → m.Pairwise (· ≤ ·) → l = m
  | [], m, h, _, _ => by rw [List.nil_perm.mp h]
  | x :: l, [], h, _, _ => absurd h.length_eq (by simp)
  | x :: l, y :: m, h, h1, h2 => by
    obtain ⟨a1, a2⟩ := List.pairwise_cons.mp h1
    obtain ⟨b1, b2⟩ := List.pairwise_cons.mp h2
    have e : x = y := by
      have hx : x ∈ y :: m := h.mem_iff.mp (by simp)
      have hy : y ∈ x :: l := h.mem_iff.mpr (by simp)
      rcases List.mem_cons.mp hx with q | q
      · exact q
      · rcases List.mem_cons.mp hy with p | p
        · exact p.symm
        · have := a1 y p; have := b1 x q; omega
    subst e
    rw [sorted_perm_eq l m (List.perm_cons _ |>.mp h) a2 b2]
theorem srtI_uniq {l m : List Int} (h : m.Perm l) (hs : m.Pairwise (· ≤ ·)) : m = srtI l := sorted_perm_eq _ _ (h.trans (srtI_perm l).symm) hs (srtI_sorted l)
theorem srtI_rev {l m : List Int} (h : m.Perm l) (hs : m.Pairwise (· ≥ ·)) : m = (srtI l).reverse := by
  have := srtI_uniq (l := l) (m := m.reverse) ((List.reverse_perm m).trans h) (by rw [List.pairwise_reverse]; exact hs)
  rw [← this, List.reverse_reverse]
def opSrt : OpN := fun ds => match ds with
  | [.list xs] => (intsD xs).map fun ns => .tmp (.lst ((srtI ns).map .int))
  | _ => none
def opSrtR : PyData → Option R := fun d => match d with
  | .list xs => (intsD xs).map fun ns => .tmp (.lst ((srtI ns).reverse.map .int))
  | _ => none
def opRev : PyData → Option R := fun d => match d with
  | .list xs => some (.tmp (.lst xs.reverse))
  | _ => none
section
variable {X : Cx} {a e : Expr} {f g : Den} {pos p p2 q : Pos}
theorem c_sorted : CallR X (.builtin "sorted") (rDN X.K opSrt) := by
  intro pins s σ H xs us Q I r h
  obtain ⟨ds, z, ba, ho, k⟩ := h
  cases ba with
  | nil => cases ho
  | @cons v vs d ds bp bt =>
    cases bt with
    | cons _ _ => cases d <;> cases ho
    | nil =>
      cases d with
      | list xs =>
        obtain ⟨ns, h1, h2⟩ := Option.map_eq_some_iff.mp ho
        subst h2
        have := intsD_some h1
        subst this
        obtain ⟨l, vs, rfl, hq, ra⟩ := bp.list
        have ev := RpAll.ints_of ra
        subst ev
        refine cr_sortedI pins s σ H _ us Q I r ⟨l, ns, rfl, hq, fun ns' p hp hs hn => ?_⟩
        rw [srtI_uniq hp hs]
        exact k _ _ (new_lst hn (RpAll.ints _))
      | _ => cases ho
theorem ex_sortRev {kpos : Pos} {kk : Nat} {kp : Pos} (hg : Gl X "sorted") (hm : X.mg "sorted" = none) (hv : bootBuiltins ("sorted" : Str) = some (.builtin "sorted")) (ha : Ex X a f)
    (he : backTo pos (starEach [a] X.env) = (false, eval a X.env) :: backTo pos (starEach [] X.env) := by rfl) (hpl : (backTo pos (starEach [a] X.env)).any (·.1) = false := by rfl)
    (hall : (backToKw pos (keywordEach [⟨some "reverse", .Constant (.bool true) kk kp, kpos⟩] X.env)).all (·.1.isSome) = true := by rfl) (hnone : (backToKw pos (keywordEach [⟨some "reverse", .Constant (.bool true) kk kp, kpos⟩] X.env)).any (·.1.isNone) = false := by rfl)
    (hks : (backToKw pos (keywordEach [⟨some "reverse", .Constant (.bool true) kk kp, kpos⟩] X.env)).filterMap (·.1) = [Str.ofString "reverse"] := by rfl)
    (hs : starEach [a] X.env = (false, eval a X.env) :: starEach [] X.env := by rfl) :
    Ex X (.Call (.Name "sorted" p) [a] [⟨some "reverse", .Constant (.bool true) kk kp, kpos⟩] pos) (dUn f opSrtR) := by
  refine ⟨fun pins s σ H Q I hw => (pe_callBK (cr_sortedRev (b := true)) hg hm hv (pa_cons ha pa_nil hs) (pk_cons pe_bl pk_nil) (by decide) (by decide) he hpl hall hnone hks).run pins s σ H Q I ?_⟩
  obtain ⟨O, r, z, r', E, hf, k⟩ := hw
  obtain ⟨x, d, q1, q3, q5⟩ := un_inv hf
  refine ⟨O, r, x, r', E, q1, fun H1 O1 v st1 E1 kp1 ro1 => ?_⟩
  have bp := ro1.deref E1 q3
  cases d with
  | list xs =>
    obtain ⟨ns, h1, h2⟩ := Option.map_eq_some_iff.mp q5
    subst h2
    have := intsD_some h1
    subst this
    obtain ⟨l, vs, rfl, hq, ra⟩ := bp.list
    have ev := RpAll.ints_of ra
    subst ev
    refine ⟨l, ns, rfl, rfl, hq, fun ns' p hp hs hn => ?_⟩
    rw [srtI_rev hp hs]
    obtain ⟨O3, st3, E3, ro3⟩ := (new_lst hn (RpAll.ints _)).done E1
    exact k _ O3 _ (st1.trans st3) E3 kp1 ro3
  | none => cases q5
  | bool _ => cases q5
  | str _ => cases q5
  | int _ => cases q5
  | tuple _ => cases q5
  | dict _ => cases q5
theorem ex_rev {k : Nat} {p1 p2 p3 : Pos} (ha : Ex X e f) : Ex X (.Subscript e (.Slice none none (some (.UnaryOp .USub (.Constant (.int 1) k p1) p2)) p3) pos) (dUn f opRev) := by
  refine ⟨fun pins s σ H Q I hw => (pe_revL ha).run pins s σ H Q I ?_⟩
  obtain ⟨O, r, z, r', E, hf, k⟩ := hw
  obtain ⟨x, d, q1, q3, q5⟩ := un_inv hf
  refine ⟨O, r, x, r', E, q1, fun H1 O1 v st1 E1 kp1 ro1 => ?_⟩
  have bp := ro1.deref E1 q3
  cases d with
  | list xs =>
    cases q5
    obtain ⟨l, vs, rfl, hq, ra⟩ := bp.list
    refine ⟨l, vs, rfl, hq, fun p hn => ?_⟩
    obtain ⟨O3, st3, E3, ro3⟩ := (new_lst hn ra.reverse).done E1
    exact k _ O3 _ (st1.trans st3) E3 kp1 ro3
  | none => cases q5
  | bool _ => cases q5
  | str _ => cases q5
  | int _ => cases q5
  | tuple _ => cases q5
  | dict _ => cases q5
/-- xs.pop(i) -/
def dPop (i : Nat) (g : Den) : Den := fun r => (ownL r i).bind fun _ => (g r).bind fun (y, r1) => (intOf y).bind fun k => (ownL r1 i).bind fun ds => if -(2 ^ 63) ≤ k ∧ k < 2 ^ 63 then (seqIndex? k ds.length).bind fun j => (ds[j]?).map fun d => (.val d, r1.set i (.own (.lst (ds.eraseIdx j)))) else none
theorem ex_pop {i : Nat} {x : Str} {px apos cpos : Pos} (hv : PE X (.Name x px) (tVar i)) (he : Ex X e g) (hbase : attributeBase (.Name x px) ("pop" : Str) X.env (eval (.Name x px) X.env) = eval (.Name x px) X.env := by rfl)
    (hfew : ((backTo cpos (starEach [e] X.env)).all (fun x => !x.1) && (backToKw cpos (keywordEach [] X.env)).all (fun x => x.1.isSome)
      && decide ([e].length + ([] : List Keyword).length + (if ([] : List Keyword).isEmpty then 0 else 1) < 30)) = true := by rfl)
    (hline : (apos.endLine == cpos.line) = true := by rfl) (hs : starEach [e] X.env = (false, eval e X.env) :: starEach [] X.env := by rfl) (hplain : (backTo cpos (starEach [] X.env)).any (·.1) = false := by rfl) :
    Ex X (.Call (.Attribute (.Name x px) ("pop" : Str) apos) [e] [] cpos) (dPop i g) := by
  refine ⟨fun pins s σ H Q I hw => (pe_bm PySem.F.plainAttrs_list PySem.F.slot_list_pop PySem.F.type_list_pop mt_popAt hv (pa_cons he pa_nil hs) hbase hfew hline hs hplain).run pins s σ H Q I ?_⟩
  obtain ⟨O, r, z, r', E, hf, k⟩ := hw
  unfold dPop at hf
  obtain ⟨ds0, q0, hf1⟩ := Option.bind_eq_some_iff.mp hf
  obtain ⟨⟨y, r1⟩, q1, hf2⟩ := Option.bind_eq_some_iff.mp hf1
  obtain ⟨kk, q2, hf3⟩ := Option.bind_eq_some_iff.mp hf2
  obtain ⟨ds, q4, hf4⟩ := Option.bind_eq_some_iff.mp hf3
  have := intOf_some q2
  subst this
  have q0 := ownL_some q0
  have q4 := ownL_some q4
  by_cases hz : -(2 ^ 63) ≤ kk ∧ kk < 2 ^ 63
  · rw [if_pos hz] at hf4
    obtain ⟨j, q5, hf5⟩ := Option.bind_eq_some_iff.mp hf4
    obtain ⟨d, q6, hf6⟩ := Option.map_eq_some_iff.mp hf5
    cases hf6
    obtain ⟨v, e1, p0, e2, ⟨vs0, hp0, _⟩, _⟩ := E.ok i _ q0
    subst e2
    refine ⟨.ref p0, e1, .inl ⟨rfl, vs0, SqL.of hp0⟩, O, r, .val (.int kk), r1, E, q1, fun H1 O1 w st1 E1 kp1 ro1 => ?_⟩
    have ro1 : Rp X.K H1 w (.int kk) := ro1
    cases ro1
    obtain ⟨v1, e3, p1, e4, ⟨vs, hp, ra⟩, op⟩ := E1.ok i _ q4
    rw [e1] at e3; cases e3; cases e4
    obtain ⟨u, hu, ru⟩ := ra.get' q6
    refine ⟨p0, vs, kk, j, u, rfl, rfl, hp, hz.1, hz.2, by rw [ra.length]; exact q5, hu, ?_⟩
    have fx : Fx H1 (upd H1 p0 (.lst (vs.eraseIdx j))) := ⟨fun b o' u e => by rw [upd_ne (fun z => by rw [z, hp] at e; cases e)]; exact e, fun b xs e => by rw [upd_ne (fun z => by rw [z, hp] at e; cases e)]; exact e⟩
    obtain ⟨st2, E2⟩ := own_write (c' := .lst (ds.eraseIdx j)) E1 q4 e1 ⟨vs.eraseIdx j, upd_same, (ra.fx fx).eraseIdx j⟩
    exact k _ O1 u (st1.trans st2) E2 (kp1.trans (Keep.set fun c1 z => by rw [q4] at z; cases z)) (Rp.fx fx ru)
  · rw [if_neg hz] at hf4; cases hf4
end
end KV

end

section
/-! KS8: a, b = x, y where what is new stays changeable. -/
namespace KV
open PySem PySem.Spec PyProof.Rows L2
theorem EnvOk.less {K : PySem.W.Frag} {H : Hp} {O : Addr → Prop} {r : Nms} {σ : L2.St} {p : Addr} (E : EnvOk K H O r σ) (hn : ∀ (i : Nat) (s : Sl) (e : Ob), r[i]? = some s → s.ob = some e → σ[i]? ≠ some (some (.ref p))) : EnvOk K H (fun b => O b ∧ b ≠ p) r σ := by
  refine ⟨E.len, fun i s q => ?_, E.sep, fun b hb => E.mt b hb.1⟩
  obtain ⟨v, e1, z⟩ := E.ok i s q
  refine ⟨v, e1, ?_⟩
  cases s with
  | un => trivial
  | fz d => exact z
  | own c => obtain ⟨q', e2, ob, op⟩ := z; subst e2; exact ⟨q', rfl, ob, op, fun h => hn i _ c q rfl (by rw [e1, h])⟩
  | lck c => obtain ⟨q', e2, ob, op⟩ := z; subst e2; exact ⟨q', rfl, ob, op, fun h => hn i _ c q rfl (by rw [e1, h])⟩
theorem EnvOk.more {K : PySem.W.Frag} {H : Hp} {O : Addr → Prop} {r : Nms} {σ : L2.St} {p : Addr} (E : EnvOk K H O r σ) (hm : Mut (H p)) : EnvOk K H (fun b => O b ∨ b = p) r σ :=
  ⟨E.len, fun i s q => let ⟨v, e1, z⟩ := E.ok i s q; ⟨v, e1, z.mono fun _ => .inl⟩, E.sep, fun b h => by
    rcases h with h | rfl
    · exact E.mt b h
    · exact hm⟩
def slOf : R → Option Sl
  | .val d => some (.fz d)
  | .tmp c => some (.own c)
  | .slot _ => none
def dParO (i j : Nat) (f g : Den) : DenS := fun r => (f r).bind fun (x, r1) => (g r1).bind fun (y, r2) => (slOf x).bind fun s => (slOf y).bind fun t => ((setSl i s r2).bind (setSl j t)).map .nx
section
variable {X : Cx} {a b : Expr} {f g : Den} {io : Bool}
/-- two stores, one behind the other -/
theorem two_stores {K : PySem.W.Frag} {H : Hp} {O : Addr → Prop} {r r1 r2 : Nms} {σ : L2.St} {i j : Nat} {s t : Sl} {v w : V} (E : EnvOk K H O r σ) (hij : i ≠ j) (q1 : setSl i s r = some r1) (q2 : setSl j t r1 = some r2) (hs : SlOk K H O (some v) s) (ht : SlOk K H O (some w) t)
    (ns : ∀ c, s.ob = some c → ∀ (k : Nat) u e p, r[k]? = some u → u.ob = some e → v = .ref p → σ[k]? ≠ some (some (.ref p))) (nt : ∀ c, t.ob = some c → ∀ (k : Nat) u e p, r[k]? = some u → u.ob = some e → w = .ref p → σ[k]? ≠ some (some (.ref p)))
    (nst : ∀ c e, s.ob = some c → t.ob = some e → v ≠ w) : EnvOk K H O r2 ((σ.set i (some v)).set j (some w)) := by
  obtain ⟨e1, l1, k1⟩ := setSl_some q1
  obtain ⟨e2, l2, k2⟩ := setSl_some q2
  subst e1 e2
  have E1 := E.store (i := i) hs fun c hc k u e p h1 h2 _ h4 => ns c hc k u e p h1 h2 h4
  refine E1.store (i := j) ht fun c hc k u e p h1 h2 h3 h4 => ?_
  by_cases hk : k = i
  · subst hk
    have hl2 : k < σ.length := by rw [← E.len]; exact l1
    rw [List.getElem?_set_self l1] at h1
    rw [List.getElem?_set_self hl2]
    cases h1
    intro z
    have := Option.some.inj (Option.some.inj z)
    exact nst e c h2 hc (by rw [this, h4])
  · rw [List.getElem?_set_ne (Ne.symm hk)] at h1 ⊢
    exact nt c hc k u e p h1 h2 h4
theorem sx_parO {i j : Nat} {x y : Str} {px py pt pos : Pos} {kt k2 pt2} (hc : X.calm = true) (hN : X.N.Nodup) (hi : X.N[i]? = some x) (hj : X.N[j]? = some y) (hij : i ≠ j) (hx : X.env.scope.names.lookup x = some .local) (hy : X.env.scope.names.lookup y = some .local)
    (ha : Ex X a f) (hb : Ex X b g) (hw : swappedStores [.Tuple [.Name x px, .Name y py] kt pt] (.Tuple [a, b] k2 pt2) X.env = pure (some [x, y])) (h0 : io = true → i ≠ 0 ∧ j ≠ 0 := by decide)
    (s1 : starEach [a, b] X.env = (false, eval a X.env) :: starEach [b] X.env := by rfl) (s2 : starEach [b] X.env = (false, eval b X.env) :: starEach [] X.env := by rfl)
    (hs : swapsWithSole [.Tuple [.Name x px, .Name y py] kt pt] (.Tuple [a, b] k2 pt2) pos.line X.env = pure false := by rfl) :
    Sx io X (.Assign [.Tuple [.Name x px, .Name y py] kt pt] (.Tuple [a, b] k2 pt2) pos) (dParO i j f g) := by
  refine ⟨fun pins s σ H D I hh => (ps_par hc hN hi hj hij hx hy (pa_cons ha (pa_cons hb pa_nil s2) s1) hw hs).run pins s σ H D I ?_⟩
  obtain ⟨O, r, o, E, hf, k⟩ := hh
  unfold dParO at hf
  obtain ⟨⟨xx, r1⟩, q1, hf1⟩ := Option.bind_eq_some_iff.mp hf
  obtain ⟨⟨yy, r2⟩, q2, hf2⟩ := Option.bind_eq_some_iff.mp hf1
  obtain ⟨sx, q3, hf3⟩ := Option.bind_eq_some_iff.mp hf2
  obtain ⟨sy, q4, hf4⟩ := Option.bind_eq_some_iff.mp hf3
  obtain ⟨r4, q5, e⟩ := Option.map_eq_some_iff.mp hf4
  subst e
  obtain ⟨r3, q6, q7⟩ := Option.bind_eq_some_iff.mp q5
  have kps : ∀ (σ : L2.St) (v w : V) (ra : Nms), Keep r ra → ra = r2 → KeepS io r σ r4 ((σ.set i (some v)).set j (some w)) := fun σ v w ra kp e => by
    subst e
    obtain ⟨e1, _, k1⟩ := setSl_some q6
    obtain ⟨e2, _, k2⟩ := setSl_some q7
    subst e1 e2
    exact ((KeepS.of kp).trans (KeepS.store k1 fun z => (h0 z).1)).trans (KeepS.store k2 fun z => (h0 z).2)
  cases xx with
  | slot _ => cases q3
  | val d =>
    cases q3
    refine ⟨O, r, .val d, r1, E, q1, fun H1 O1 v st1 E1 kp1 ro1 => ⟨O1, r1, yy, r2, E1, q2, fun H2 O2 w st2 E2 kp2 ro2 => ⟨v, w, rfl, ?_⟩⟩⟩
    have rv : Rp X.K H2 v d := Rp.fx (E1.fxOf st2) ro1
    refine k H2 O2 _ (st1.trans st2) ?_ (kps σ v w r2 (kp1.trans kp2) rfl)
    cases yy with
    | slot _ => cases q4
    | val d2 =>
      cases q4
      exact two_stores E2 hij q6 q7 ⟨v, rfl, rv⟩ ⟨w, rfl, ro2⟩ (fun c z => by cases z) (fun c z => by cases z) (fun c e z => by cases z)
    | tmp c2 =>
      cases q4
      obtain ⟨q, rfl, ob, oq, hn⟩ := ro2
      exact two_stores E2 hij q6 q7 ⟨v, rfl, rv⟩ ⟨q, rfl, ob, oq⟩ (fun c z => by cases z) (fun c z kk u e p h1 h2 h3 => by cases h3; exact hn kk u e h1 h2) (fun c e z => by cases z)
  | tmp c1 =>
    cases q3
    refine ⟨O, r, .tmp c1, r1, E, q1, fun H1 O1 v st1 E1 kp1 ro1 => ?_⟩
    obtain ⟨p, rfl, ob1, op1, hn1⟩ := ro1
    have E1' := E1.less hn1
    refine ⟨_, r1, yy, r2, E1', q2, fun H2 O2 w st2 E2 kp2 ro2 => ⟨.ref p, w, rfl, ?_⟩⟩
    obtain ⟨u0, hu⟩ : ∃ u0, H1 p = some u0 := by
      cases z : H1 p with
      | none => have := ob1.mut; rw [z] at this; exact this.elim
      | some u0 => exact ⟨u0, rfl⟩
    have hp2 : H2 p = some u0 := st2.keep p u0 hu fun z => z.2 rfl
    have nO2 : ¬ O2 p := fun z => by
      rcases st2.own p z with q | q
      · exact q.2 rfl
      · rw [hu] at q; cases q
    have ob2 : ObOk X.K H2 p c1 := ob1.fx (E1'.fxOf st2) (hp2.trans hu.symm)
    have E3 := E2.more (p := p) (by have := ob2.mut; exact this)
    have nslot : ∀ (kk : Nat) (u : Sl) (e : Ob), r2[kk]? = some u → u.ob = some e → σ[kk]? ≠ some (some (.ref p)) := fun kk u e h1 h2 h3 => by
      obtain ⟨v', e1, z⟩ := E2.ok kk u h1
      rw [h3] at e1; cases e1
      cases u with
      | un => cases h2
      | fz _ => cases h2
      | own c => obtain ⟨q, e2, _, oq⟩ := z; cases e2; exact nO2 oq
      | lck c => obtain ⟨q, e2, _, oq⟩ := z; cases e2; exact nO2 oq
    have st : Stp H O H2 (fun b => O2 b ∨ b = p) := by
      have st2' : Stp H1 O1 H2 (fun b => O2 b ∨ b = p) := ⟨fun b o h n => st2.keep b o h fun z => n z.1, fun b z => by
        rcases z with z | rfl
        · rcases st2.own b z with q | q
          · exact .inl q.1
          · exact .inr q
        · exact .inl op1⟩
      exact st1.trans st2'
    refine k H2 _ _ st ?_ (kps σ (.ref p) w r2 (kp1.trans kp2) rfl)
    cases yy with
    | slot _ => cases q4
    | val d2 =>
      cases q4
      exact two_stores E3 hij q6 q7 ⟨p, rfl, ob2, .inr rfl⟩ ⟨w, rfl, ro2⟩ (fun c z kk u e p' h1 h2 h3 => by cases h3; exact nslot kk u e h1 h2) (fun c z => by cases z) (fun c e z1 z => by cases z)
    | tmp c2 =>
      cases q4
      obtain ⟨q, rfl, ob, oq, hn⟩ := ro2
      exact two_stores E3 hij q6 q7 ⟨p, rfl, ob2, .inr rfl⟩ ⟨q, rfl, ob, .inl oq⟩ (fun c z kk u e p' h1 h2 h3 => by cases h3; exact nslot kk u e h1 h2) (fun c z kk u e p' h1 h2 h3 => by cases h3; exact hn kk u e h1 h2) (fun c e z1 z h => by cases h; exact nO2 oq)
end
end KV

end

section
/-! KDat3: tuples for lists; the calculus for what KS6 to KS8 bring. -/
namespace KV
open PySem PySem.Spec PyProof.Rows L2
/-- tuples for lists -/
def toTp : Nat → PyData → PyData
  | 0, d => d
  | n + 1, .list xs => .tuple (xs.map (toTp n))
  | n + 1, .tuple xs => .tuple (xs.map (toTp n))
  | _ + 1, d => d
section
variable {f g : Den} {r r1 : Nms} {Q : R → Nms → Prop} {i j : Nat} {N B C : Nms → Prop} {T : R → Nms → Prop} {d : PyData}
structure wPopE (i : Nat) (y : R) (r : Nms) (Q : R → Nms → Prop) : Prop where
  ex : ∃ k ds j d, y = .val (.int k) ∧ r[i]? = some (.own (.lst ds)) ∧ (-1000000 ≤ k ∧ k ≤ 1000000) ∧ seqIndex? k ds.length = some j ∧ ds[j]? = some d ∧ Q (.val d) (r.set i (.own (.lst (ds.eraseIdx j))))
theorem wpop_e {ds : List PyData} {k : Int} {jj : Nat} (e : r[i]? = some (.own (.lst ds))) (hk : -1000000 ≤ k ∧ k ≤ 1000000) (e1 : seqIndex? k ds.length = some jj) (e2 : ds[jj]? = some d) (e3 : r.set i (.own (.lst (ds.eraseIdx jj))) = r1) (h : Q (.val d) r1) : wPopE i (.val (.int k)) r Q :=
  ⟨k, ds, jj, d, rfl, e, hk, e1, e2, by rw [e3]; exact h⟩
theorem wd_pop {ds0 : List PyData} (e0 : r[i]? = some (.own (.lst ds0))) (h : wD g r fun y r1 => wPopE i y r1 Q) : wD (dPop i g) r Q := by
  obtain ⟨y, r1, e, ⟨k, ds, jj, d, rfl, e1, hk, e2, e3, q⟩⟩ := h.ex
  refine ⟨.val d, _, ?_, q⟩
  unfold dPop ownL
  simp only [e0, e, e1, Option.bind_some, intOf, e2, e3, Option.map_some]
  exact if_pos (by omega)
structure wPut2 (i j : Nat) (x y : R) (r : Nms) (Q : Nms → Prop) : Prop where
  ex : wPut i x r fun r1 => wPut j y r1 Q
theorem wput2 {x y : R} {Q : Nms → Prop} (h : wPut i x r fun r1 => wPut j y r1 Q) : wPut2 i j x y r Q := ⟨h⟩
theorem ws_parO (h : wD f r fun x r1 => wD g r1 fun y r2 => wPut2 i j x y r2 N) : wS (dParO i j f g) r N T B C := by
  obtain ⟨x, r1, e, ⟨y, r2, e2, ⟨⟨s, r3, e3, e4, ⟨t, r4, e5, e6, q⟩⟩⟩⟩⟩ := h.ex
  refine ⟨.nx r4, ?_, q⟩
  have h1 : slOf x = some s := by cases x <;> exact e3
  have h2 : slOf y = some t := by cases y <;> exact e5
  unfold dParO
  simp only [e, e2, h1, h2, e4, e6, Option.bind_some, Option.map_some]
theorem wo_srt {ns : List Int} {QR : R → Prop} (h : QR (.tmp (.lst ((srtI ns).map .int)))) : wO (opSrt [.list (ns.map .int)]) QR := ⟨_, by show Option.map _ (intsD (ns.map .int)) = _; rw [intsD_map]; rfl, h⟩
theorem wo_srtR {ns : List Int} {QR : R → Prop} (h : QR (.tmp (.lst ((srtI ns).reverse.map .int)))) : wO (opSrtR (.list (ns.map .int))) QR := ⟨_, by show Option.map _ (intsD (ns.map .int)) = _; rw [intsD_map]; rfl, h⟩
theorem wo_rev {xs : List PyData} {QR : R → Prop} (h : QR (.tmp (.lst xs.reverse))) : wO (opRev (.list xs)) QR := ⟨_, rfl, h⟩
theorem and_nt {A B : Prop} (h : B) : ((!true) = true → A) ∧ ((!true) = false → B) := ⟨fun e => (nomatch e), fun _ => h⟩
theorem and_nf {A B : Prop} (h : A) : ((!false) = true → A) ∧ ((!false) = false → B) := ⟨fun _ => h, fun e => (nomatch e)⟩
end
end KV

end

section
/-! KS14: xs.insert(i, y), a tuple times an int, a module's tuple of texts, box defs that call themselves. -/
namespace KV
open PySem PySem.Spec PyProof.Rows L2
section
variable {X : Cx} {e a b : Expr} {f g h : Den} {pos : Pos}
def opMulT : Op2 := fun x y => match x, y with
  | .tuple xs, .int k => if xs ≠ [] ∧ 2 ≤ k ∧ k ≤ 1000 ∧ xs.length ≤ 1000 then some (.val (.tuple (List.replicate k.toNat xs).flatten)) else none
  | x, y => opMul x y
theorem RpAll.rep {K : PySem.W.Frag} {H : Hp} {vs : List V} {ds : List PyData} (r : RpAll K H vs ds) : ∀ n : Nat, RpAll K H (List.replicate n vs).flatten (List.replicate n ds).flatten
  | 0 => .nil
  | n + 1 => by
    rw [List.replicate_succ, List.replicate_succ, List.flatten_cons, List.flatten_cons]
    exact r.append (RpAll.rep r n)
theorem o_mulT : OpR X (binaryOp .Mult) (rD2 X.K opMulT) := by
  intro pins s σ H x y v u Q I rx ry hw
  obtain ⟨dx, dy, z, bx, b, ho, k⟩ := hw
  unfold opMulT at ho
  split at ho
  · split at ho
    · rename_i xs kk hc
      cases ho
      obtain ⟨p, vs, rfl, h1, r1⟩ := bx.tuple
      have hl := r1.length
      refine op_repT pins s σ H _ _ v u Q I rx ry ⟨p, kk, vs, rfl, b.int, h1, fun z => hc.1 (List.eq_nil_of_length_eq_zero (by rw [← hl, z]; rfl)), hc.2.1, hc.2.2.1, by rw [hl]; exact hc.2.2.2, fun p hp => k _ _ (new_tup hp (r1.rep _))⟩
    · cases ho
  · exact o_mul pins s σ H x y v u Q I rx ry ⟨_, _, z, bx, b, ho, k⟩
/-- xs.insert(i, y) -/
def dIns (i : Nat) (g h : Den) : Den := fun r => (ownL r i).bind fun _ => (g r).bind fun (y, r1) => (intOf y).bind fun k => ((dFrz h r1).bind vOf).bind fun (d, r2) => (ownL r2 i).bind fun ds =>
  if 0 ≤ k ∧ k < 2 ^ 63 ∧ ds.length < sizeLine then some (.val .none, r2.set i (.own (.lst (ds.take k.toNat ++ [d] ++ ds.drop k.toNat)))) else none
theorem RpAll.takeR {K : PySem.W.Frag} {H : Hp} : ∀ {vs : List V} {ds : List PyData} (r : RpAll K H vs ds) (n : Nat), RpAll K H (vs.take n) (ds.take n)
  | _, _, .nil, n => by rw [List.take_nil, List.take_nil]; exact .nil
  | _, _, .cons _ _, 0 => .nil
  | _, _, .cons h r, n + 1 => .cons h (RpAll.takeR r n)
theorem RpAll.dropR {K : PySem.W.Frag} {H : Hp} : ∀ {vs : List V} {ds : List PyData} (r : RpAll K H vs ds) (n : Nat), RpAll K H (vs.drop n) (ds.drop n)
  | _, _, .nil, n => by rw [List.drop_nil, List.drop_nil]; exact .nil
  | _, _, .cons h r, 0 => .cons h r
  | _, _, .cons _ r, n + 1 => RpAll.dropR r n
theorem ex_ins {i : Nat} {x : Str} {px apos cpos : Pos} (hv : PE X (.Name x px) (tVar i)) (he : Ex X e g) (hb : Ex X b h) (hbase : attributeBase (.Name x px) ("insert" : Str) X.env (eval (.Name x px) X.env) = eval (.Name x px) X.env := by rfl)
    (hfew : ((backTo cpos (starEach [e, b] X.env)).all (fun x => !x.1) && (backToKw cpos (keywordEach [] X.env)).all (fun x => x.1.isSome)
      && decide ([e, b].length + ([] : List Keyword).length + (if ([] : List Keyword).isEmpty then 0 else 1) < 30)) = true := by rfl)
    (hline : (apos.endLine == cpos.line) = true := by rfl) (hs : starEach [e, b] X.env = (false, eval e X.env) :: starEach [b] X.env := by rfl) (hs2 : starEach [b] X.env = (false, eval b X.env) :: starEach [] X.env := by rfl) (hplain : (backTo cpos (starEach [b] X.env)).any (·.1) = false := by rfl) :
    Ex X (.Call (.Attribute (.Name x px) ("insert" : Str) apos) [e, b] [] cpos) (dIns i g h) := by
  refine ⟨fun pins s σ H Q I hw => (pe_bm PySem.F.plainAttrs_list PySem.F.slot_list_insert PySem.F.type_list_insert mt_insert hv (pa_cons he (pa_cons (ex_frz hb) pa_nil hs2) hs) hbase hfew hline hs hplain).run pins s σ H Q I ?_⟩
  obtain ⟨O, r, z, r', E, hf, k⟩ := hw
  unfold dIns at hf
  obtain ⟨ds0, q0, hf1⟩ := Option.bind_eq_some_iff.mp hf
  obtain ⟨⟨y, r1⟩, q1, hf2⟩ := Option.bind_eq_some_iff.mp hf1
  obtain ⟨kk, q2, hf3⟩ := Option.bind_eq_some_iff.mp hf2
  obtain ⟨⟨d, r2⟩, q3, hf4⟩ := Option.bind_eq_some_iff.mp hf3
  obtain ⟨y3, q31, q32⟩ := Option.bind_eq_some_iff.mp q3
  have := vOf_some q32
  subst this
  obtain ⟨ds, q4, hf5⟩ := Option.bind_eq_some_iff.mp hf4
  have := intOf_some q2
  subst this
  have q0 := ownL_some q0
  have q4 := ownL_some q4
  by_cases hz : 0 ≤ kk ∧ kk < 2 ^ 63 ∧ ds.length < sizeLine
  · rw [if_pos hz] at hf5
    cases hf5
    obtain ⟨v, e1, p0, e2, ⟨vs0, hp0, _⟩, _⟩ := E.ok i _ q0
    subst e2
    refine ⟨.ref p0, e1, .inl ⟨rfl, vs0, SqL.of hp0⟩, O, r, .val (.int kk), r1, E, q1, fun H1 O1 w st1 E1 kp1 ro1 => ?_⟩
    have ro1 : Rp X.K H1 w (.int kk) := ro1
    cases ro1
    refine ⟨O1, r1, .val d, r2, E1, q31, fun H2 O2 w2 st2 E2 kp2 ro2 => ?_⟩
    have ro2 : Rp X.K H2 w2 d := ro2
    obtain ⟨v1, e3, p1, e4, ⟨vs, hp, ra⟩, op⟩ := E2.ok i _ q4
    rw [e1] at e3; cases e3; cases e4
    refine ⟨p0, vs, kk, w2, rfl, rfl, hp, by rw [ra.length]; exact hz.2.2, hz.1, hz.2.1, ?_⟩
    have fx : Fx H2 (upd H2 p0 (.lst (vs.take kk.toNat ++ [w2] ++ vs.drop kk.toNat))) := ⟨fun b o' u e => by rw [upd_ne (fun z => by rw [z, hp] at e; cases e)]; exact e, fun b xs e => by rw [upd_ne (fun z => by rw [z, hp] at e; cases e)]; exact e⟩
    obtain ⟨st3, E3⟩ := own_write (c' := .lst (ds.take kk.toNat ++ [d] ++ ds.drop kk.toNat)) E2 q4 e1 ⟨_, upd_same, (((ra.fx fx).takeR _).append (.cons (Rp.fx fx ro2) .nil)).append ((ra.fx fx).dropR _)⟩
    exact k _ O2 .non ((st1.trans st2).trans st3) E3 ((kp1.trans kp2).trans (Keep.set fun c1 z => by rw [q4] at z; cases z)) .non
  · rw [if_neg hz] at hf5; cases hf5
/-! a module's tuple of texts -/
def TupC (K : PySem.W.Frag) (mg : Str → Option Value) (x : Str) (ss : List Str) : Prop :=
  ∃ (a : Addr) (o : Obj) (its : Array Value) (n : Nat), mg x = some (.ref a) ∧ K.lookup a = some o ∧ o.cls = .type "tuple" ∧ o.data = .seq its n ∧ its.size ≤ sizeLine ∧ Vals (ss.map V.str) its.toList
theorem RpAll.strs {K : PySem.W.Frag} {H : Hp} : ∀ ss : List Str, RpAll K H (ss.map V.str) (ss.map PyData.str)
  | [] => .nil
  | s :: r => .cons (.str s) (RpAll.strs r)
theorem ex_tupc {x : Str} {ss : List Str} (h : TupC X.K X.mg x ss) (hg : Gl X x := by rfl) (hd : (x == ("__debug__" : Str)) = false := by decide) : Ex X (.Name x pos) (dC (.tuple (ss.map .str))) := by
  obtain ⟨a, o, its, n, h1, h2, h3, h4, h5, h6⟩ := h
  exact ex_glob h1 (v := .ref a) rfl (fun H => .tup (.inr ⟨o, its, n, h2, h3, h4, h5, h6⟩) (RpAll.strs ss)) hg hd
def strsB : List Str → List Value → Bool
  | [], [] => true
  | s :: r, .str y _ :: vs => decide (y = s) && strsB r vs
  | _, _ => false
theorem strsB_ok : ∀ {ss : List Str} {vs : List Value}, strsB ss vs = true → Vals (ss.map V.str) vs
  | [], [], _ => .nil
  | s :: r, .str y t :: vs, h => by
    obtain ⟨h1, h2⟩ := Bool.and_eq_true_iff.mp h
    have := of_decide_eq_true h1
    subst this
    exact .cons ⟨t, rfl⟩ (strsB_ok h2)
  | [], _ :: _, h => by cases h
  | _ :: _, [], h => by cases h
  | _ :: _, .none :: _, h => by cases h
  | _ :: _, .bool _ :: _, h => by cases h
  | _ :: _, .int _ _ :: _, h => by cases h
  | _ :: _, .ref _ :: _, h => by cases h
def tupB (K : PySem.W.Frag) (p : Str × List Str) : Bool := match PySem.W.nsIn K mainGlobals p.1 with
  | some (some (.ref a)) => (match K.lookup a with
    | some ⟨.type t, _, .seq its _, _⟩ => decide (t = "tuple") && (decide (its.size ≤ sizeLine) && strsB p.2 its.toList)
    | _ => false)
  | _ => false
theorem tupB_ok {K : PySem.W.Frag} {h : Heap} {mg : Str → Option Value} (X : K.In h) (G : h.Ns mainGlobals mg) {p : Str × List Str} (c : tupB K p = true) : TupC K mg p.1 p.2 := by
  unfold tupB at c
  split at c
  · rename_i a e
    split at c
    · rename_i t d its n sl l
      obtain ⟨c1, c2⟩ := Bool.and_eq_true_iff.mp c
      obtain ⟨c2, c3⟩ := Bool.and_eq_true_iff.mp c2
      have := of_decide_eq_true c1
      subst this
      exact ⟨a, _, its, n, PySem.W.mg_of X G e, l, rfl, rfl, of_decide_eq_true c2, strsB_ok c3⟩
    · cases c
  · cases c
end
end KV

end

section
/-! KS15: enumerate(tuple). -/
namespace PySem
open Sem (wp)
open AutoSeq1 (wpAny_loadPart')
theorem meets_enumerate_newT (l : Addr) (items : Array Value) (n : Nat) (dct : Option Addr) (sl : Array (Option Value)) :
    Meets (Builtin.«enumerate.__new__» ⟨[.type "enumerate", .ref l], []⟩) (fun _ R s => s.heap.get? l = some { cls := .type "tuple", dict := dct, data := .seq items n, slots := sl } ∧
      R (.ok (.ret (.ref (s.heap.push { cls := .type "tuple_iterator", data := .fields #[.ref l, .int 0 0] }).objs.size)))
        { s with heap := (s.heap.push { cls := .type "tuple_iterator", data := .fields #[.ref l, .int 0 0] }).push { cls := .type "enumerate", data := .fields #[.none, .bool false, .ref s.heap.objs.size, rawInt 0, .none, .none] } }) :=
  .of_wp fun prog w A R s h => by
    obtain ⟨hp, g, d, tk, os⟩ := s; obtain ⟨hl, h⟩ := h
    have hsub := sub_enumerate
    have hL : Heap.IsTuple (Shared.heap ⟨hp, g, d, tk, os⟩) l items := ⟨_, hl, rfl, n, rfl⟩
    wp_walk using wpAny_loadPart' hl
    refine wpAny_stack_any fun st => wpAny_pure ?_
    split
    · rename_i c _ _ _ _ _
      cases (c == Value.type "enumerate")
      · wp_walk using wpAny_loadPart' hl, wpAny_pyIter_tuple hL
        exact ⟨_, rfl, h⟩
      · wp_walk using wpAny_loadPart' hl, wpAny_pyIter_tuple hL
        exact ⟨_, rfl, h⟩
    · wp_walk using wpAny_loadPart' hl, wpAny_pyIter_tuple hL
      exact ⟨_, rfl, h⟩
section
variable {prog : Program} {w : World} {A : Around} {E : Value → Shared → Prop} {s : Shared}
theorem call_enumerate_tuple {l : Addr} {items : Array Value} {Q : Value → Shared → Prop} (hL : s.heap.IsTuple l items)
    (h : ∀ h', IsEnum h' (s.heap.objs.size + 1) s.heap.objs.size 0 .none → h'.IsTupleIter s.heap.objs.size l 0 → h'.objs.size = s.heap.objs.size + 2 →
      (∀ b o, s.heap.get? b = some o → h'.get? b = some o) → Q (.ref (s.heap.objs.size + 1)) { s with heap := h' }) :
    wpAny (model prog w) A (call (.type "enumerate") [.ref l]) Q E s := by
  obtain ⟨⟨c, dct, dt, sl⟩, hl, hc, n, hd⟩ := hL
  replace hc : c = .type "tuple" := hc
  replace hd : dt = .seq items n := hd
  subst hc hd
  refine callType_new F.called_enumerate (by decide) (F.typeCall_enumerate_1 _) (F.newCall_enumerate_1 _) (fun obj => F.args_object_init_2 obj _) F.entry_enumerate_new
    (meets_enumerate_newT l items n dct sl) ⟨hl, ?_⟩
  have hz : (s.heap.push { cls := .type "tuple_iterator", data := .fields #[.ref l, .int 0 0] }).objs.size = s.heap.objs.size + 1 := Heap.size_push ..
  show _ ∧ _
  rw [hz]
  have he : IsEnum ((s.heap.push { cls := .type "tuple_iterator", data := .fields #[.ref l, .int 0 0] }).push
      { cls := .type "enumerate", data := .fields #[.none, .bool false, .ref s.heap.objs.size, rawInt 0, .none, .none] }) (s.heap.objs.size + 1) s.heap.objs.size 0 .none := by
    have := Heap.get?_push_size (s.heap.push { cls := .type "tuple_iterator", data := .fields #[.ref l, .int 0 0] })
      (o := { cls := .type "enumerate", data := .fields #[.none, .bool false, .ref s.heap.objs.size, rawInt 0, .none, .none] }) rfl
    rw [hz] at this; exact this
  refine ⟨⟨_, he, rfl⟩, h _ he ⟨_, Heap.get?_push_of_some _ (Heap.get?_push_size _ rfl), rfl, rfl⟩ (by rw [Heap.size_push, hz]) fun b o x => Heap.get?_push_of_some _ (Heap.get?_push_of_some _ x)⟩
theorem wpAny_nextOf_tuple_item {it l : Addr} {i : Nat} {items} {x : Value} {Q : Value → Shared → Prop} (hit : s.heap.IsTupleIter it l i)
    (hl : s.heap.IsTuple l items) (hx : items[i]? = some x)
    (hQ : ∀ h', h'.IsTupleIter it l (i + 1) → Heap.SameBut it s.heap h' → Q x { s with heap := h' }) :
    wpAny (model prog w) A (Builtin.SmallTypes.nextOf (.ref it)) Q E s := by
  obtain ⟨o, ho, hc, hd⟩ := id hit
  obtain ⟨ol, hol, _, nl, hdl⟩ := hl
  unfold Builtin.SmallTypes.nextOf
  refine wpAny_bind (wpAny_callSpecial?_slot (name := Str.ofString "__next__") hit.typeIs F.slot_tuple_iterator_next
    (wpAny_call_entry F.slot_tuple_iterator_next hit.typeIs F.entry_tuple_iterator_next ?_ (F.args_tuple_iterator_next_1 _)))
  show wpAny _ _ (field (.ref it) 0 >>= _) _ _ s
  refine wpAny_bind (wpAny_field ho hd (x := .ref l) rfl ?_)
  show wpAny _ _ (if (Value.ref l == Value.none) = true then _ else _) _ _ s
  rw [if_neg (show ¬ ((Value.ref l == Value.none) = true) from Bool.false_ne_true)]
  show wpAny _ _ (field (.ref it) 1 >>= _) _ _ s
  refine wpAny_bind (wpAny_field ho hd (x := .int i 0) rfl ?_)
  show wpAny _ _ (seqItems? (.ref l) >>= _) _ _ s
  refine wpAny_bind (wpAny_seqItems hol hdl ?_)
  simp only [Int.toNat_natCast, hx]
  refine wpAny_bind (wpAny_setField ho hd (by simp) (wpAny_pure ⟨x, rfl, wpAny_pure (hQ _ ?_ (Heap.SameBut.update ..))⟩))
  exact ⟨_, Heap.get?_update_self _ ho (Obj.isFreed_of_fields (Obj.data_mapFields hd _)), (Obj.cls_mapFields ..).trans hc, by
    rw [Obj.data_mapFields hd]; simp [rawInt]⟩
theorem wpAny_nextOf_tuple_end {it l : Addr} {i : Nat} {items} {Q : Value → Shared → Prop} (hh : A.handled = none)
    (hit : s.heap.IsTupleIter it l i) (hl : s.heap.IsTuple l items) (hx : items[i]? = none)
    (hE : ∀ h' e, Heap.ExtBut it s.heap h' → (∃ o, h'.get? e = some o ∧ o.cls = .type "StopIteration") → E (.ref e) { s with heap := h' }) :
    wpAny (model prog w) A (Builtin.SmallTypes.nextOf (.ref it)) Q E s := by
  obtain ⟨o, ho, hc, hd⟩ := id hit
  obtain ⟨ol, hol, _, nl, hdl⟩ := hl
  unfold Builtin.SmallTypes.nextOf
  refine wpAny_bind (wpAny_callSpecial?_slot (name := Str.ofString "__next__") hit.typeIs F.slot_tuple_iterator_next
    (wpAny_call_entry F.slot_tuple_iterator_next hit.typeIs F.entry_tuple_iterator_next ?_ (F.args_tuple_iterator_next_1 _)))
  show wpAny _ _ (field (.ref it) 0 >>= _) _ _ s
  refine wpAny_bind (wpAny_field ho hd (x := .ref l) rfl ?_)
  show wpAny _ _ (if (Value.ref l == Value.none) = true then _ else _) _ _ s
  rw [if_neg (show ¬ ((Value.ref l == Value.none) = true) from Bool.false_ne_true)]
  show wpAny _ _ (field (.ref it) 1 >>= _) _ _ s
  refine wpAny_bind (wpAny_field ho hd (x := .int i 0) rfl ?_)
  show wpAny _ _ (seqItems? (.ref l) >>= _) _ _ s
  refine wpAny_bind (wpAny_seqItems hol hdl ?_)
  simp only [Int.toNat_natCast, hx]
  refine wpAny_bind (wpAny_rule (wpAny_bind (wpAny_setField ho hd (by simp) ?_)))
  show wpAny _ _ (newExc (.type "StopIteration") [] >>= _) _ _ _
  refine wpAny_bind ?_
  simp only [newExc, newTuple]
  refine wpAny_bind (wpAny_newObj_type ?_ (by size_fits))
  refine wpAny_bind (m := firstArgMember _ _) (wpAny_of_eq (a := Value.none) (by first | rfl | (simp only [firstArgMember]; rfl)) ?_)
  refine wpAny_newObj_type ?_ (by size_fits)
  simp only [raiseNew]
  refine wpAny_bind (wpAny_handled ?_)
  first | rw [show A.in1.handled = none from hh] | rw [hh]
  refine wpAny_bind (wpAny_pure (wpAny_throw ?_))
  exact hE _ _ (((Heap.SameBut.update ..).extBut.push _).push _) ⟨_, Heap.get?_push_size _ rfl, rfl⟩
end
theorem Draws.tuple {prog : Program} {w : World} {A : Around} (hh : A.handled = none) (it l : Addr) (hne : l ≠ it) (items : Array Value) :
    Draws prog w A it [it, l] items.size (fun i v => items[i]? = some v) (fun i h => h.IsTupleIter it l i ∧ h.IsTuple l items) where
  live := fun _ _ st => let ⟨o, ho, _⟩ := st.1; ⟨o, ho⟩
  frame := fun _ _ _ st hk => ⟨st.1.at fun o e => hk it (by simp) o e, let ⟨o, ho, r⟩ := st.2; ⟨o, hk l (by simp) o ho, r⟩⟩
  item := fun i s Q E hi st hQ => by
    refine wpAny_nextOf_tuple_item st.1 st.2 (x := items[i]) (by simp [hi]) fun h' hit' hs' => ?_
    exact hQ _ h' s.toks (by simp [hi]) ⟨hit', st.2.extBut hs'.extBut hne⟩ hs'
  done := fun s Q E st hE => wpAny_nextOf_tuple_end hh st.1 st.2 (by simp) hE
end PySem
namespace L2
open PySem PySem.Spec PyProof.Rows
/-- the tuple at a, each item in a new pair -/
def IteT (K : PySem.W.Frag) (a : Addr) : It :=
  ⟨fun i H => ∃ (xs : List V) (x : V), SqT K H a xs ∧ xs[i]? = some x, fun i H v H' => ∃ T x, v = .ref T ∧ H T = none ∧ H' = upd H T (.tup [.int (i : Nat), x]) ∧ ∀ xs, SqT K H a xs → xs[i]? = some x, fun i H => ∃ xs : List V, SqT K H a xs ∧ xs.length ≤ i⟩
theorem turn_enumT {P : Program} {w : World} {K : PySem.W.Frag} {elts : List Expr} {kk : Nat} {tpos : Pos} (a e it : Addr) (hai : a ≠ it) (hae : a ≠ e) :
    Turn P w K (.Tuple elts kk tpos) (IteT K a) [e, it] e (fun i h => (∃ old, IsEnum h e it ((i : Nat) : Int) old) ∧ h.IsTupleIter it a i ∧ e ≠ it) where
  mem := by simp
  obj := fun i h st b hb => by
    obtain ⟨⟨old, he⟩, ⟨o, ho, hc, hd⟩, _⟩ := st
    have e' : b = e ∨ b = it := by simpa using hb
    rcases e' with z | z
    · rw [z]; exact ⟨_, he, fun v q => nomatch q⟩
    · rw [z]; exact ⟨o, ho, fun v q => by rw [hd] at q; cases q⟩
  keep := fun i h h' st k => let ⟨⟨old, he⟩, hi, hne⟩ := st; ⟨⟨old, k e (by simp) _ he⟩, hi.at fun o q => k it (by simp) o q, hne⟩
  item := by
    intro X hP hw hK hc i pins s σ H E I hf st hg
    subst hP hw hK
    obtain ⟨⟨old, he⟩, hit, hne⟩ := st
    obtain ⟨xs, x, hq, hx⟩ := hg
    obtain ⟨its, rv, p, hz⟩ := I.tuple hq
    obtain ⟨u, hu, ru⟩ := rv.get hx
    have hel : e < s.heap.objs.size := Heap.lt_size he
    have hil : it < s.heap.objs.size := by obtain ⟨_, q, _⟩ := hit; exact Heap.lt_size q
    have hi : i < its.toArray.size := by
      rw [List.size_toArray]
      exact (List.getElem?_eq_some_iff.mp hu).1
    have D := PySem.Draws.tuple (prog := X.prog) (w := X.w) (A := X.A.in1) (I.ok.hd hc) it a hai its.toArray
    refine wpAny_pyNext_enum_itemD D he ⟨hit, show s.heap.IsTuple a its.toArray from p⟩ hi hne (fun z => by simp at z; rcases z with z | z; exact hne z; exact hae z.symm) fun x' h' tk hx' ho hit' hT hsz hk => ?_
    have ex : x' = u := by
      have hx' : its.toArray[i]? = some x' := hx'
      have : its[i]? = some x' := by simpa using hx'
      rw [hu] at this; cases this; rfl
    subst ex
    refine ⟨_, rfl, wpAny_letOwnedTupleGo_enum (s := { s with heap := h', toks := tk + 1 }) ho fun h'' he' sb => ?_⟩
    have hT2 : h''.get? s.heap.objs.size = some { cls := .type "tuple", data := .seq #[.int i tk, x'] } := (sb.2 _ (Nat.ne_of_gt hel)).trans hT
    have new : ObjOk X.prog X.w (upd H s.heap.objs.size (.tup [.int (i : Nat), x])) h'' s.heap.objs.size (.tup [.int (i : Nat), x]) :=
      ⟨by show 2 ≤ sizeLine; decide, [.int i tk, x'], .cons ⟨_, rfl⟩ (.cons ru .nil), ⟨_, hT2, rfl, _, rfl⟩⟩
    have I1 : Inv X pins σ (upd H s.heap.objs.size (.tup [.int (i : Nat), x])) { s with heap := h'', toks := tk + 1 } :=
      I.turnedNew (ch := [e, it]) (fun b ob hb q => (sb.2 b (fun z => hb (by simp [z]))).trans (hk b ob (fun z => hb (by simp [z])) (fun z => hb (by simp [z])) q)) hf (Nat.le_refl _) new
    refine ⟨.ref s.heap.objs.size, _, I1, rfl, ⟨_, x, rfl, I.hok.fresh (Nat.le_refl _), rfl, fun ys hy => by rw [I.tuple_inj hy hq]; exact hx⟩, ⟨⟨x', ?_⟩, hit'.1.at fun o q => (sb.2 it (Ne.symm hne)).trans q, hne⟩, fun b hb => ?_⟩
    · have e1 : ((i + 1 : Nat) : Int) = (i : Int) + 1 := by omega
      rw [e1]; exact he'
    · have hb' : b < s.heap.objs.size := by
        have e' : b = e ∨ b = it := by simpa using hb
        rcases e' with z | z
        · rw [z]; exact hel
        · rw [z]; exact hil
      rw [upd_ne (Nat.ne_of_lt hb')]
      exact (hf b hb).1
  done := by
    intro X hP hw hK hc i pins s σ H E I hf st hg
    subst hP hw hK
    obtain ⟨⟨old, he⟩, hit, hne⟩ := st
    obtain ⟨xs, hq, hx⟩ := hg
    obtain ⟨its, rv, p, hz⟩ := I.tuple hq
    obtain ⟨f0, f1, f2, f3, f4, f5⟩ := hf it (by simp)
    have hl := rv.length
    have hT : s.TypeIs (.ref e) "enumerate" := ⟨_, he, rfl⟩
    unfold pyNext
    refine wpAny_bind (wpAny_attempt (wpAny_callSpecial?_slot (name := Str.ofString "__next__") hT F.slot_enumerate_next
      (wpAny_call_entry F.slot_enumerate_next hT F.entry_enumerate_next ?_ (F.args_enumerate_next_1 _))))
    show wpAny _ _ (field (.ref e) 2 >>= _) _ _ _
    refine wpAny_bind (wpAny_field he rfl (x := .ref it) rfl ?_)
    refine wpAny_bind (wpAny_nextOf_tuple_end (I.ok.hd hc) hit (show s.heap.IsTuple a its.toArray from p) (by simp; omega) fun h' x he' hx' => ?_)
    obtain ⟨o, ho, hc'⟩ := hx'
    refine wpAny_bind (wpAny_isInstance (T := "StopIteration") (b := true) ⟨o, ho, hc'⟩ isSubtype_stop ?_)
    exact wpAny_pure ⟨rfl, I.turned (t' := s.toks) (fun b o hb q => he' b o hb q) f0 f1 f3 f4 f5⟩
  self := fun A i s Q E st h => let ⟨⟨_, he⟩, _⟩ := st; wpAny_pyIter_enum he h
def iEnumTt (K : PySem.W.Frag) (ta : TA) : TI := fun σ H R => ta σ H fun vs H1 => ∃ a xs, vs = [.ref a] ∧ SqT K H1 a xs ∧ R (IteT K a) H1
theorem pi_enumT {X : Cx} {e : Expr} {ta : TA} {p pos tpos : Pos} {elts : List Expr} {kk : Nat} (hg : Gl X "enumerate") (hm : X.mg "enumerate" = none) (ha : PA X [e] ta) (hs : starEach [e] X.env = [(false, eval e X.env)] := by rfl) :
    PI X (.Tuple elts kk tpos) (.Call (.Name "enumerate" p) [e] [] pos) (iEnumTt X.K ta) := by
  refine ⟨fun pins s σ H R I h => ?_⟩
  refine Call_ (ld_blt I hg hm boot_enumerate (PyProof.Rows.callWith_type1 (thn (ha.run pos pins s σ H _ I h) fun us s1 ⟨vs, H1, I1, r1, q1⟩ => ?_) hs rfl))
  obtain ⟨a, xs, ex, hq, q⟩ := q1
  subst ex
  cases r1 with
  | cons r rr =>
    cases rr
    cases r
    obtain ⟨its, rv, p', hz⟩ := I1.tuple hq
    have hal : a < s1.heap.objs.size := by obtain ⟨o, ho, _⟩ := (show s1.heap.IsTuple a its.toArray from p'); exact Heap.lt_size ho
    refine call_enumerate_tuple (show s1.heap.IsTuple a its.toArray from p') fun h' he hit hsz hk => wpAny_pyIter_enum he ?_
    have I2 : Inv X pins σ H1 { s1 with heap := h' } := I1.kept (t' := s1.toks) hk
    refine ⟨s1.heap.objs.size + 1, [s1.heap.objs.size + 1, s1.heap.objs.size], _, _, H1, rfl, I2, turn_enumT a (s1.heap.objs.size + 1) s1.heap.objs.size (Nat.ne_of_lt hal) (Nat.ne_of_lt (Nat.lt_succ_of_lt hal)), ⟨⟨.none, he⟩, hit, Nat.succ_ne_self _⟩, fun b hb => ?_, q⟩
    have e' : b = s1.heap.objs.size + 1 ∨ b = s1.heap.objs.size := by simpa using hb
    have hle : s1.heap.objs.size ≤ b := by
      rcases e' with z | z
      · rw [z]; exact Nat.le_add_right _ _
      · rw [z]; exact Nat.le_refl _
    exact I1.fpOk hle (I1.hok.fresh hle)
end L2
namespace KV
open PySem PySem.Spec PyProof.Rows L2
section
variable {X : Cx} {e : Expr} {fs : Denv} {elts : List Expr} {kk : Nat} {p pos tpos : Pos}
def iEnumT (fs : Denv) : DenI := fun r => (fs r).bind fun (ds, r1) => match ds with
  | [.tuple xs] => if xs.length ≤ sizeLine then some (enumD xs, r1, none) else none
  | _ => none
theorem jok_enumT {K : PySem.W.Frag} {a : Addr} {vs : List V} {xs : List PyData} {H0 : Hp} {r0 : Nms} {σ0 : L2.St} (h : SqT K H0 a vs) (ra : RpAll K H0 vs xs) : JOk K (IteT K a) (enumD xs) H0 r0 σ0 := by
  intro H O r σ fx E kp lk i
  have h' : SqT K H a vs := KV.SqT.fx fx h
  have ra' := ra.fx fx
  refine ⟨fun d hd => ?_, fun hd => ⟨vs, h', by rw [ra.length, ← enumD_length]; exact List.getElem?_eq_none_iff.mp hd⟩⟩
  obtain ⟨x, e1, e3⟩ := enumD_get hd
  obtain ⟨v, hv, rp⟩ := ra'.get' e1
  refine ⟨⟨vs, v, h', hv⟩, fun z H' hy => ?_⟩
  obtain ⟨T, v', rfl, hT, rfl, k1⟩ := hy
  have q1 := k1 vs h'
  rw [hv] at q1
  cases q1
  subst e3
  exact pair_rp hT (.int _) rp
theorem ix_enumT (hg : Gl X "enumerate") (hm : X.mg "enumerate" = none) (ha : Exv X [e] fs) (hs : starEach [e] X.env = [(false, eval e X.env)] := by rfl) : Ix X (.Tuple elts kk tpos) (.Call (.Name "enumerate" p) [e] [] pos) (iEnumT fs) := by
  refine ⟨fun pins s σ H Q I hw => (pi_enumT hg hm ha hs).run pins s σ H Q I ?_⟩
  obtain ⟨O, r, ds, r', u, E, hf, k⟩ := hw
  unfold iEnumT at hf
  obtain ⟨⟨as, r1⟩, q1, hf⟩ := Option.bind_eq_some_iff.mp hf
  dsimp only at hf
  split at hf
  · rename_i xs
    by_cases c : xs.length ≤ sizeLine
    · rw [if_pos c] at hf; cases hf
      refine ⟨O, r, [.tuple xs], _, E, q1, fun H1 O1 vs st1 E1 kp1 ro1 => ?_⟩
      cases ro1 with
      | cons h1 t => cases t with
        | nil => cases h1 with
          | @tup a vs _ f1 g1 => exact ⟨a, vs, rfl, f1, k H1 O1 _ st1 E1 kp1 (by rw [enumD_length]; exact c) (fun _ z => nomatch z) (jok_enumT f1 g1)⟩
    · rw [if_neg c] at hf; cases hf
  · cases hf
theorem wi_enumT {r : Nms} {Q : List PyData → Nms → Option Nat → Prop} (h : wV fs r fun ds r1 => ∃ xs, ds = [.tuple xs] ∧ xs.length ≤ 16777216 ∧ Q (enumD xs) r1 none) : wI (iEnumT fs) r Q := by
  obtain ⟨ds, r1, e, xs, rfl, l, q⟩ := h.ex
  exact ⟨_, _, _, by unfold iEnumT; simp only [e, Option.bind_some]; exact if_pos (by rw [sizeLine_eq]; exact l), q⟩
end
end KV

end

section
/-! KS17: guards by the goal's head. -/
namespace KV
open PySem PySem.Spec PyProof.Rows L2
section
variable {r : Nms} {i : Nat}
theorem gS {u : DenS} {N B C : Nms → Prop} {T : R → Nms → Prop} (h : wS u r N T B C) : wS u r N T B C := h
theorem gD {f : Den} {Q : R → Nms → Prop} (h : wD f r Q) : wD f r Q := h
theorem gO {α : Type} {o : Option α} {Q : α → Prop} (h : wO o Q) : wO o Q := h
end
end KV

end

section
/-! the walk, printed by gen.py over the KV layer -/
namespace KL
open PySem PySem.Spec PyProof.Rows L2 KV
def top (i : Nat) : Stmt := PySem.Challenge.pw_keyturns_k01_forms_or_not.main.body.getD i (.Pass ⟨0, 0, 0, 0⟩)

theorem pts1 {X : Cx} {c : Expr} {t : DenT} (h : Tx X c t) : PTs X [c] (tT X.K t) := pts_one h
theorem fnP_none {P : Program} {w : World} {K : PySem.W.Frag} {mg : Str → Option Value} {base : Heap} {k : Nat} {f : Addr} {fd : FuncData} {ps : List Str} : FnP P w K mg base k f fd ps (fun _ => none) :=
  ⟨fun _ _ _ _ h => (by obtain ⟨_, _, _, _, z, _⟩ := h; cases z), fun _ _ _ _ _ _ _ _ _ _ _ _ _ _ h => (by obtain ⟨_, _, _, _, z, _⟩ := h; cases z)⟩
theorem fnB_none {P : Program} {w : World} {K : PySem.W.Frag} {mg : Str → Option Value} {base : Heap} {k : Nat} {f : Addr} {fd : FuncData} {ps : List Str} : FnB P w K mg base k f fd ps (fun _ _ => none) :=
  ⟨fun _ _ _ _ h => (by obtain ⟨_, _, _, _, _, _, _, _, _, _, z, _⟩ := h; cases z), fun _ _ _ _ _ _ _ _ _ _ _ _ _ _ h => (by obtain ⟨_, _, _, _, _, _, _, _, _, _, z, _⟩ := h; cases z)⟩
def blkB (N : List Str) (sn : List (Str × NameKind)) (names : List (Str × NameKind)) (own : List (Str × Nat)) : Bool :=
  names.all (fun y => decide (names.lookup y.1 = some y.2)) && own.all (fun p => decide (N[p.2]? = some p.1)) && names.all (fun y => !decide (y.2 = .free) || decide (sn.lookup y.1 = some .cell) || decide (sn.lookup y.1 = some .free))
  && names.all (fun y => !(decide (y.2 = .local) || decide (y.2 = .cell)) || decide (y.1 ∈ own.map (·.1)) || !decide (y.1 ∈ N))
theorem blk_of {N : List Str} {sc scope : Scope} {own : List (Str × Nat)} (h0 : scope.kind = .function) (h : blkB N sc.names scope.names own = true) : BlkOk N sc scope own := by
  unfold blkB at h
  simp only [Bool.and_eq_true, List.all_eq_true, Bool.or_eq_true, Bool.not_eq_true', decide_eq_true_eq, decide_eq_false_iff_not, Bool.or_eq_false_iff] at h
  obtain ⟨⟨⟨h1, h2⟩, h3⟩, h4⟩ := h
  refine ⟨h0, h1, h2, fun y hy e => ?_, fun y hy e => ?_⟩
  · rcases h3 y hy with (z | z) | z
    · exact absurd e z
    · exact .inl z
    · exact .inr z
  · rcases h4 y hy with (z | z) | z
    · rcases e with e | e
      · exact absurd e z.1
      · exact absurd e z.2
    · exact .inl z
    · exact .inr z
structure Ok (P : Program) (w : World) (K : PySem.W.Frag) (mg : Str → Option Value) (base : Heap) (k : Nat) (x : Str) (ps : List Str) (st : Stmt) (f : Addr) (fd : FuncData) (F : List PyData → Option KV.R) : Prop where
  m : mg x = some (.ref f)
  kp : PySem.W.keepIn K (.ref f) = true
  b : Binds K fd ps []
  D : FunD K x x (defArgs st) (defBody st) (defScope st) [] [] f fd
  run : FnP P w K mg base k f fd ps F
structure OkB (P : Program) (w : World) (K : PySem.W.Frag) (mg : Str → Option Value) (base : Heap) (k : Nat) (x : Str) (ps : List Str) (st : Stmt) (f : Addr) (fd : FuncData) (G : Ob → List PyData → Option (KV.R × Ob)) : Prop where
  m : mg x = some (.ref f)
  kp : PySem.W.keepIn K (.ref f) = true
  b : Binds K fd ps []
  D : FunD K x x (defArgs st) (defBody st) (defScope st) [] [] f fd
  run : FnB P w K mg base k f fd ps G

abbrev s_is_whole : Stmt := top 8
theorem sc_is_whole : FnScope ["thing"] ["thing"] (defScope s_is_whole) := ⟨rfl, rfl, rfl, by decide +kernel, rfl, by decide +kernel, by decide +kernel⟩
def g_is_whole : DenS := dRet (dV (dAnd (dB (dIsi (dVar 0) "int")) (dB (dV (dNot (dB (dIsi (dVar 0) "bool")))))))
def F_is_whole : List PyData → Option KV.R := runP 1 g_is_whole
abbrev s_is_number : Stmt := top 9
theorem sc_is_number : FnScope ["thing"] ["thing"] (defScope s_is_number) := ⟨rfl, rfl, rfl, by decide +kernel, rfl, by decide +kernel, by decide +kernel⟩
def g_is_number : DenS := dRet (dV (dAnd (dB (dCall F_is_whole (vCons (dVar 0) (vNil)))) (dB (dBin (dVar 0) (dC (.int 0)) opGe))))
def F_is_number : List PyData → Option KV.R := runP 1 g_is_number
abbrev s_rises : Stmt := top 10
theorem sc_rises : FnScope ["some", "one", "other"] ["some"] (defScope s_rises) := ⟨rfl, rfl, rfl, by decide +kernel, rfl, by decide +kernel, by decide +kernel⟩
def g_rises : DenS := dRet (dCB (dCons (dLc [1, 2] (iZip2 (vCons (dVar 0) (vCons (dSlice (dVar 0) (some (dC (.int 1))) none) (vNil)))) (gT (gsCons (gN 1) (gsCons (gN 2) (gsNil)))) (tYesD) (dBin (dVar 1) (dVar 2) opLt)) (dNil)) opAll)
def F_rises : List PyData → Option KV.R := runP 3 g_rises
abbrev s_is_key : Stmt := top 11
theorem sc_is_key : FnScope ["thing", "part"] ["thing"] (defScope s_is_key) := ⟨rfl, rfl, rfl, by decide +kernel, rfl, by decide +kernel, by decide +kernel⟩
def g_is_key : DenS := dRet (dV (dAnd (dB (dIsi (dVar 0) "tuple")) (dAnd (dB (dBin (dCB (dCons (dVar 0) (dNil)) opLen) (dC (.int 2)) opEq)) (dB (dCB (dCons (dLc [1] (iSeq (dVar 0)) (gN 1) (tYesD) (dCall F_is_number (vCons (dVar 1) (vNil)))) (dNil)) opAll)))))
def F_is_key : List PyData → Option KV.R := runP 2 g_is_key
abbrev s_are_keys : Stmt := top 12
theorem sc_are_keys : FnScope ["thing", "part", "number", "way"] ["thing"] (defScope s_are_keys) := ⟨rfl, rfl, rfl, by decide +kernel, rfl, by decide +kernel, by decide +kernel⟩
def g_are_keys : DenS := dSeq (dIf (dOr (dNot (dB (dIsi (dVar 0) "tuple"))) (dNot (dB (dCB (dCons (dLc [1] (iSeq (dVar 0)) (gN 1) (tYesD) (dCall F_is_key (vCons (dVar 1) (vNil)))) (dNil)) opAll)))) (dRet (dC (.bool false))) (dNext)) (dRet (dCall F_rises (vCons (dLc [2, 3] (iSeq (dVar 0)) (gT (gsCons (gN 2) (gsCons (gN 3) (gsNil)))) (tYesD) (dVar 2)) (vNil))))
def F_are_keys : List PyData → Option KV.R := runP 4 g_are_keys
abbrev s_are_numbers : Stmt := top 13
theorem sc_are_numbers : FnScope ["thing", "part"] ["thing"] (defScope s_are_numbers) := ⟨rfl, rfl, rfl, by decide +kernel, rfl, by decide +kernel, by decide +kernel⟩
def g_are_numbers : DenS := dRet (dV (dAnd (dB (dIsi (dVar 0) "tuple")) (dAnd (dB (dCB (dCons (dLc [1] (iSeq (dVar 0)) (gN 1) (tYesD) (dCall F_is_whole (vCons (dVar 1) (vNil)))) (dNil)) opAll)) (dB (dCall F_rises (vCons (dVar 0) (vNil)))))))
def F_are_numbers : List PyData → Option KV.R := runP 2 g_are_numbers
abbrev s_is_version : Stmt := top 14
theorem sc_is_version : FnScope ["thing", "keys", "heads", "trust", "marks", "gone", "numbers", "number", "way"] ["thing"] (defScope s_is_version) := ⟨rfl, rfl, rfl, by decide +kernel, rfl, by decide +kernel, by decide +kernel⟩
def g_is_version : DenS := dSeq (dIf (dOr (dNot (dB (dIsi (dVar 0) "tuple"))) (dB (dBin (dCB (dCons (dVar 0) (dNil)) opLen) (dC (.int 5)) opNe))) (dRet (dC (.bool false))) (dNext)) (dSeq (dAsg (dVar 0) (gT (gsCons (gN 1) (gsCons (gN 2) (gsCons (gN 3) (gsCons (gN 4) (gsCons (gN 5) (gsNil)))))))) (dSeq (dIf (dOr (dNot (dB (dCall F_are_keys (vCons (dVar 1) (vNil))))) (dOr (dNot (dB (dCall F_are_numbers (vCons (dVar 2) (vNil))))) (dOr (dNot (dB (dCall F_are_numbers (vCons (dVar 4) (vNil))))) (dNot (dB (dCall F_are_numbers (vCons (dVar 5) (vNil)))))))) (dRet (dC (.bool false))) (dNext)) (dSeq (dSet 6 (dLc [7, 8] (iSeq (dVar 1)) (gT (gsCons (gN 7) (gsCons (gN 8) (gsNil)))) (tYesD) (dVar 7))) (dRet (dV (dAnd (dB (dCB (dCons (dLc [7] (iSeq (dVar 5)) (gN 7) (tYesD) (dBin (dVar 7) (dVar 6) opIn)) (dNil)) opAll)) (dB (dV (dOr (dB (dBin (dVar 3) (dC .none) opIsN)) (dB (dCall F_are_keys (vCons (dVar 3) (vNil)))))))))))))
def F_is_version : List PyData → Option KV.R := runP 9 g_is_version
abbrev s_is_line : Stmt := top 15
theorem sc_is_line : FnScope ["thing", "part", "times", "time", "version"] ["thing"] (defScope s_is_line) := ⟨rfl, rfl, rfl, by decide +kernel, rfl, by decide +kernel, by decide +kernel⟩
def g_is_line : DenS := dSeq (dIf (dOr (dNot (dB (dIsi (dVar 0) "tuple"))) (dB (dBin (dVar 0) (dTup (vNil)) opEq))) (dRet (dC (.bool false))) (dNext)) (dSeq (dFor (iSeq (dVar 0)) (gN 1) (dIf (dOr (dNot (dB (dIsi (dVar 1) "tuple"))) (dOr (dB (dBin (dCB (dCons (dVar 1) (dNil)) opLen) (dC (.int 2)) opNe)) (dOr (dNot (dB (dCall F_is_number (vCons (dBin (dVar 1) (dC (.int 0)) opIx) (vNil))))) (dNot (dB (dCall F_is_version (vCons (dBin (dVar 1) (dC (.int 1)) opIx) (vNil)))))))) (dRet (dC (.bool false))) (dNext))) (dSeq (dSet 2 (dLc [3, 4] (iSeq (dVar 0)) (gT (gsCons (gN 3) (gsCons (gN 4) (gsNil)))) (tYesD) (dVar 3))) (dRet (dV (dAnd (dB (dBin (dBin (dVar 2) (dC (.int 0)) opIx) (dC (.int 0)) opEq)) (dB (dCall F_rises (vCons (dVar 2) (vNil)))))))))
def F_is_line : List PyData → Option KV.R := runP 5 g_is_line
abbrev s_is_zone : Stmt := top 16
theorem sc_is_zone : FnScope ["thing", "servers", "tries", "lag", "keys_life", "rest_life", "part"] ["thing"] (defScope s_is_zone) := ⟨rfl, rfl, rfl, by decide +kernel, rfl, by decide +kernel, by decide +kernel⟩
def g_is_zone : DenS := dSeq (dIf (dOr (dNot (dB (dIsi (dVar 0) "tuple"))) (dOr (dB (dBin (dCB (dCons (dVar 0) (dNil)) opLen) (dC (.int 6)) opNe)) (dNot (dB (dCall F_is_line (vCons (dBin (dVar 0) (dC (.int 0)) opIx) (vNil))))))) (dRet (dC (.bool false))) (dNext)) (dSeq (dIf (dNot (dB (dCB (dCons (dLc [6] (iSeq (dSlice (dVar 0) (some (dC (.int 1))) none)) (gN 6) (tYesD) (dCall F_is_number (vCons (dVar 6) (vNil)))) (dNil)) opAll))) (dRet (dC (.bool false))) (dNext)) (dSeq (dAsg (dSlice (dVar 0) (some (dC (.int 1))) none) (gT (gsCons (gN 1) (gsCons (gN 2) (gsCons (gN 3) (gsCons (gN 4) (gsCons (gN 5) (gsNil)))))))) (dRet (dV (dAnd (dB (dCh (dC (.int 1)) (dVar 2) (dVar 1) opLe opLe)) (dAnd (dB (dBin (dVar 4) (dC (.int 1)) opGe)) (dB (dBin (dVar 5) (dC (.int 1)) opGe))))))))
def F_is_zone : List PyData → Option KV.R := runP 7 g_is_zone
abbrev s_fits_place : Stmt := top 17
theorem sc_fits_place : FnScope ["zone", "is_last", "time", "version"] ["zone", "is_last"] (defScope s_fits_place) := ⟨rfl, rfl, rfl, by decide +kernel, rfl, by decide +kernel, by decide +kernel⟩
def g_fits_place : DenS := dRet (dCB (dCons (dLc [2, 3] (iSeq (dBin (dVar 0) (dC (.int 0)) opIx)) (gT (gsCons (gN 2) (gsCons (gN 3) (gsNil)))) (tYesD) (dBin (dBin (dBin (dVar 3) (dC (.int 2)) opIx) (dC .none) opIsN) (dVar 1) opEq)) (dNil)) opAll)
def F_fits_place : List PyData → Option KV.R := runP 4 g_fits_place
abbrev s_is_world : Stmt := top 18
theorem sc_is_world : FnScope ["thing", "zones", "anchors", "rule", "zone", "at"] ["thing"] (defScope s_is_world) := ⟨rfl, rfl, rfl, by decide +kernel, rfl, by decide +kernel, by decide +kernel⟩
def g_is_world : DenS := dSeq (dIf (dOr (dNot (dB (dIsi (dVar 0) "tuple"))) (dB (dBin (dCB (dCons (dVar 0) (dNil)) opLen) (dC (.int 3)) opNe))) (dRet (dC (.bool false))) (dNext)) (dSeq (dAsg (dVar 0) (gT (gsCons (gN 1) (gsCons (gN 2) (gsCons (gN 3) (gsNil)))))) (dSeq (dIf (dOr (dNot (dB (dIsi (dVar 1) "tuple"))) (dOr (dB (dBin (dVar 1) (dTup (vNil)) opEq)) (dNot (dB (dCB (dCons (dLc [4] (iSeq (dVar 1)) (gN 4) (tYesD) (dCall F_is_zone (vCons (dVar 4) (vNil)))) (dNil)) opAll))))) (dRet (dC (.bool false))) (dNext)) (dSeq (dIf (dOr (dNot (dB (dCall F_are_keys (vCons (dVar 2) (vNil))))) (dOr (dB (dBin (dVar 2) (dTup (vNil)) opEq)) (dOr (dNot (dB (dIsi (dVar 3) "str"))) (dB (dBin (dVar 3) (dC (.tuple ([("any" : Str), ("each" : Str)].map .str))) opNotIn))))) (dRet (dC (.bool false))) (dNext)) (dRet (dCB (dCons (dLc [5, 4] (iEnumT (vCons (dVar 1) (vNil))) (gT (gsCons (gN 5) (gsCons (gN 4) (gsNil)))) (tYesD) (dCall F_fits_place (vCons (dVar 4) (vCons (dBin (dVar 5) (dBin (dCB (dCons (dVar 1) (dNil)) opLen) (dC (.int 1)) opSub) opEq) (vNil))))) (dNil)) opAll)))))
def F_is_world : List PyData → Option KV.R := runP 6 g_is_world
abbrev s__law_box : Stmt := top 20
theorem sc__law_box : FnScope ["_law_script", "_law_k", "_law_cell"] ["_law_script", "_law_k"] (defScope s__law_box) := ⟨rfl, rfl, rfl, by decide +kernel, rfl, by decide +kernel, by decide +kernel⟩
def g__law_box : DenS := dSeq (dSet 2 (dIfE (dB (dBin (dVar 1) (dCB (dCons (dVar 0) (dNil)) opLen) opLt)) (dBin (dVar 0) (dVar 1) opIx) (dC (.int 0)))) (dRet (dLst (vCons (dBin (dCB (dCons (dVar 2) (dNil)) opAbs) (dCB (dCons (dBin (dCB (dCons (dVar 2) (dNil)) opAbs) (dBin (dC (.int 10)) (dC (.int 18)) opPow) opGe) (dNil)) opInt) opMul) (vCons (dBin (dBin (dBin (dCB (dCons (dVar 2) (dNil)) opInt) (dC (.int 2305843009213693951)) opMod) (dBin (dC (.int 39373)) (dVar 1) opMul) opAdd) (dC (.int 43)) opAdd) (vCons (dC (.int 0)) (vNil))))))
def F__law_box : List PyData → Option KV.R := runP 3 g__law_box
abbrev s__law_take : Stmt := top 21
theorem sc__law_take : FnScope ["_law_box_here", "_law_below", "_law_found", "_law_once", "_law_rest", "_law_twice"] ["_law_box_here", "_law_below"] (defScope s__law_take) := ⟨rfl, rfl, rfl, by decide +kernel, rfl, by decide +kernel, by decide +kernel⟩
def g__law_take : DenS := dSeq (dIf (dB (dBin (dBin (dVar 0) (dC (.int 0)) opIx) (dC (.int 0)) opGt)) (dSeq (dSet 2 (dBin (dCB (dCons (dBin (dVar 0) (dC (.int 0)) opIx) (dNil)) opInt) (dVar 1) opMod)) (dSeq (dSetIx 0 (dBin (dBin (dVar 0) (dC (.int 0)) opIx) (dVar 1) opDiv) (dC (.int 0))) (dRet (dVar 2)))) (dNext)) (dSeq (dSetIx 0 (dBin (dBin (dVar 0) (dC (.int 2)) opIx) (dC (.int 1)) opAdd) (dC (.int 2))) (dSeq (dSet 3 (dBin (dCB (dCons (dBin (dBin (dBin (dVar 0) (dC (.int 1)) opIx) (dBin (dC (.int 48271)) (dBin (dVar 0) (dC (.int 2)) opIx) opMul) opAdd) (dBin (dC (.int 39373)) (dBin (dVar 0) (dC (.int 2)) opIx) opAdd) opMul) (dNil)) opInt) (dC (.int 2147483647)) opMod)) (dSeq (dSet 4 (dBin (dBin (dCB (dCons (dVar 3) (dNil)) opInt) (dC (.int 40009)) opMod) (dC (.int 7)) opAdd)) (dSeq (dSet 5 (dBin (dCB (dCons (dBin (dBin (dBin (dVar 3) (dBin (dVar 0) (dC (.int 2)) opIx) opAdd) (dBin (dBin (dVar 0) (dC (.int 1)) opIx) (dC (.int 1000003)) opDiv) opAdd) (dVar 4) opMul) (dNil)) opInt) (dC (.int 2147483629)) opMod)) (dRet (dBin (dCB (dCons (dBin (dBin (dCB (dCons (dBin (dBin (dVar 5) (dC (.int 48271)) opMul) (dVar 3) opAdd) (dNil)) opInt) (dC (.int 2147483587)) opMod) (dC (.int 64)) opDiv) (dNil)) opInt) (dVar 1) opMod))))))
def G__law_take : Ob → List PyData → Option (KV.R × Ob) := runB 6 g__law_take
abbrev s__law_pick : Stmt := top 22
theorem sc__law_pick : FnScope ["_law_box_here", "_law_some"] ["_law_box_here", "_law_some"] (defScope s__law_pick) := ⟨rfl, rfl, rfl, by decide +kernel, rfl, by decide +kernel, by decide +kernel⟩
def g__law_pick : DenS := dRet (dBin (dVar 1) (dCallB G__law_take 0 (vCons (dCB (dCons (dVar 1) (dNil)) opLen) (vNil))) opIx)
def G__law_pick : Ob → List PyData → Option (KV.R × Ob) := runB 2 g__law_pick
abbrev s__law_same : Stmt := top 23
theorem sc__law_same : FnScope ["_law_found", "_law_due", "_law_mine", "_law_its"] ["_law_found", "_law_due"] (defScope s__law_same) := ⟨rfl, rfl, rfl, by decide +kernel, rfl, by decide +kernel, by decide +kernel⟩
def g__law_same (F : List PyData → Option KV.R) : DenS := dSeq (dIf (dB (dIsi2 (dVar 1) "list" "tuple")) (dSeq (dIf (dOr (dB (dBin (dIsi (dVar 0) "list") (dIsi (dVar 1) "list") opNe)) (dB (dBin (dIsi (dVar 0) "tuple") (dIsi (dVar 1) "tuple") opNe))) (dRet (dC (.bool false))) (dNext)) (dRet (dV (dAnd (dB (dBin (dCB (dCons (dVar 0) (dNil)) opLen) (dCB (dCons (dVar 1) (dNil)) opLen) opEq)) (dB (dCB (dCons (dLc [2, 3] (iZip2 (vCons (dVar 0) (vCons (dVar 1) (vNil)))) (gT (gsCons (gN 2) (gsCons (gN 3) (gsNil)))) (tYesD) (dCall F (vCons (dVar 2) (vCons (dVar 3) (vNil))))) (dNil)) opAll)))))) (dNext)) (dSeq (dIf (dOr (dB (dBin (dVar 1) (dC .none) opIsN)) (dB (dIsi2 (dVar 1) "bool" "str"))) (dRet (dV (dAnd (dB (dBin (dVar 0) (dVar 1) opEq)) (dAnd (dB (dBin (dIsi (dVar 0) "bool") (dIsi (dVar 1) "bool") opEq)) (dB (dBin (dBin (dVar 0) (dC .none) opIsN) (dBin (dVar 1) (dC .none) opIsN) opEq)))))) (dNext)) (dRet (dV (dAnd (dB (dIsi (dVar 0) "int")) (dAnd (dB (dV (dNot (dB (dIsi (dVar 0) "bool"))))) (dB (dBin (dVar 0) (dVar 1) opEq)))))))
def Fz__law_same : Nat → List PyData → Option KV.R
  | 0 => fun _ => none
  | n + 1 => runP 4 (g__law_same (Fz__law_same n))
abbrev F__law_same : List PyData → Option KV.R := Fz__law_same 12
abbrev s__law_row : Stmt := top 24
theorem sc__law_row : FnScope ["_law_some"] ["_law_some"] (defScope s__law_row) := ⟨rfl, rfl, rfl, by decide +kernel, rfl, by decide +kernel, by decide +kernel⟩
def g__law_row : DenS := dRet (dCB (dCons (dUn (dVar 0) opSS) (dNil)) opTuple)
def F__law_row : List PyData → Option KV.R := runP 1 g__law_row
abbrev s__law_begin_of : Stmt := top 25
theorem sc__law_begin_of : FnScope ["_law_box_here", "_law_trust_so", "_law_is_last", "_law_keys_so", "_law_heads", "_law_marks", "_law_below", "_law_key"] ["_law_box_here", "_law_trust_so", "_law_is_last"] (defScope s__law_begin_of) := ⟨rfl, rfl, rfl, by decide +kernel, rfl, by decide +kernel, by decide +kernel⟩
def g__law_begin_of : DenS := dSeq (dSet 3 (dCB (dCons (dVar 1) (dNil)) opList)) (dSeq (dIf (dB (dBin (dCallB G__law_take 0 (vCons (dC (.int 2)) (vNil))) (dC (.int 0)) opEq)) (dDrop (dApp 3 (dTup (vCons (dC (.int 9)) (vCons (dCallB G__law_take 0 (vCons (dC (.int 2)) (vNil))) (vNil)))))) (dNext)) (dSeq (dSet 4 (dLc [7] (iSeq (dVar 1)) (gN 7) (tYesD) (dBin (dVar 7) (dC (.int 0)) opIx))) (dSeq (dSet 5 (dBin (dLc [7] (iSeq (dVar 3)) (gN 7) (dB (dBin (dCallB G__law_take 0 (vCons (dC (.int 3)) (vNil))) (dC (.int 0)) opGt)) (dBin (dVar 7) (dC (.int 0)) opIx)) (dVar 4) opAdd)) (dSeq (dSet 6 (dCallB G__law_pick 0 (vCons (dLst (vCons (dTup (vCons (dTup (vCons (dC (.int 1)) (vCons (dC (.int 0)) (vNil)))) (vNil))) (vCons (dTup (vCons (dTup (vCons (dC (.int 1)) (vCons (dC (.int 0)) (vNil)))) (vNil))) (vCons (dTup (vCons (dTup (vCons (dC (.int 1)) (vCons (dC (.int 0)) (vNil)))) (vCons (dTup (vCons (dC (.int 2)) (vCons (dC (.int 1)) (vNil)))) (vNil)))) (vNil))))) (vNil)))) (dSeq (dSet 6 (dIfE (dB (dVar 2)) (dC .none) (dVar 6))) (dRet (dTup (vCons (dCall F__law_row (vCons (dVar 3) (vNil))) (vCons (dCall F__law_row (vCons (dVar 4) (vNil))) (vCons (dVar 6) (vCons (dCall F__law_row (vCons (dVar 5) (vNil))) (vCons (dTup (vNil)) (vNil)))))))))))))
def G__law_begin_of : Ob → List PyData → Option (KV.R × Ob) := runB 8 g__law_begin_of
abbrev s__law_without : Stmt := top 26
theorem sc__law_without : FnScope ["_law_some", "_law_number", "_law_own"] ["_law_some", "_law_number"] (defScope s__law_without) := ⟨rfl, rfl, rfl, by decide +kernel, rfl, by decide +kernel, by decide +kernel⟩
def g__law_without : DenS := dRet (dCB (dCons (dLc [2] (iSeq (dVar 0)) (gN 2) (dB (dBin (dVar 2) (dVar 1) opNe)) (dVar 2)) (dNil)) opTuple)
def F__law_without : List PyData → Option KV.R := runP 3 g__law_without
abbrev s__law_changed : Stmt := top 27
theorem sc__law_changed : FnScope ["_law_box_here", "_law_told_so", "_law_keys_so", "_law_heads", "_law_below", "_law_marks", "_law_gone", "_law_number", "_law_way", "_law_own", "_law_left", "_law_put", "_law_key"] ["_law_box_here", "_law_told_so"] (defScope s__law_changed) := ⟨rfl, rfl, rfl, by decide +kernel, rfl, by decide +kernel, by decide +kernel⟩
def g__law_changed : DenS := dSeq (dAsg (dVar 1) (gT (gsCons (gN 2) (gsCons (gN 3) (gsCons (gN 4) (gsCons (gN 5) (gsCons (gN 6) (gsNil)))))))) (dSeq (dAsg (dTup (vCons (dBin (dC (.int 1)) (dCallB G__law_take 0 (vCons (dC (.int 5)) (vNil))) opAdd) (vCons (dCallB G__law_take 0 (vCons (dC (.int 12)) (vNil))) (vNil)))) (gT (gsCons (gN 7) (gsCons (gN 8) (gsNil))))) (dSeq (dSet 9 (dLc [12] (iSeq (dVar 2)) (gN 12) (dB (dBin (dBin (dVar 12) (dC (.int 0)) opIx) (dVar 7) opEq)) (dVar 12))) (dSeq (dIf (dAnd (dB (dBin (dVar 8) (dC (.int 3)) opLt)) (dB (dBin (dVar 9) (dLst (vNil)) opEq))) (dRet (dTup (vCons (dCall F__law_row (vCons (dBin (dCB (dCons (dVar 2) (dNil)) opList) (dLst (vCons (dTup (vCons (dVar 7) (vCons (dCallB G__law_take 0 (vCons (dC (.int 2)) (vNil))) (vNil)))) (vNil))) opAdd) (vNil))) (vCons (dVar 3) (vCons (dVar 4) (vCons (dVar 5) (vCons (dVar 6) (vNil)))))))) (dNext)) (dSeq (dIf (dAnd (dB (dBin (dVar 8) (dC (.int 3)) opEq)) (dB (dBin (dCB (dCons (dVar 2) (dNil)) opLen) (dC (.int 1)) opGt))) (dSeq (dSet 10 (dCB (dCons (dLc [12] (iSeq (dVar 2)) (gN 12) (dB (dBin (dBin (dVar 12) (dC (.int 0)) opIx) (dVar 7) opNe)) (dVar 12)) (dNil)) opTuple)) (dRet (dTup (vCons (dVar 10) (vCons (dVar 3) (vCons (dVar 4) (vCons (dVar 5) (vCons (dCall F__law_without (vCons (dVar 6) (vCons (dVar 7) (vNil)))) (vNil))))))))) (dNext)) (dSeq (dIf (dB (dBin (dVar 8) (dC (.int 6)) opLt)) (dSeq (dSet 11 (dIfE (dB (dBin (dVar 7) (dVar 3) opIn)) (dCall F__law_without (vCons (dVar 3) (vCons (dVar 7) (vNil)))) (dCall F__law_row (vCons (dBin (dCB (dCons (dVar 3) (dNil)) opList) (dLst (vCons (dVar 7) (vNil))) opAdd) (vNil))))) (dRet (dTup (vCons (dVar 2) (vCons (dVar 11) (vCons (dVar 4) (vCons (dVar 5) (vCons (dVar 6) (vNil))))))))) (dNext)) (dSeq (dIf (dB (dBin (dVar 8) (dC (.int 9)) opLt)) (dSeq (dSet 11 (dIfE (dB (dBin (dVar 7) (dVar 5) opIn)) (dCall F__law_without (vCons (dVar 5) (vCons (dVar 7) (vNil)))) (dCall F__law_row (vCons (dBin (dCB (dCons (dVar 5) (dNil)) opList) (dLst (vCons (dVar 7) (vNil))) opAdd) (vNil))))) (dRet (dTup (vCons (dVar 2) (vCons (dVar 3) (vCons (dVar 4) (vCons (dVar 11) (vCons (dVar 6) (vNil))))))))) (dNext)) (dSeq (dIf (dAnd (dB (dBin (dVar 8) (dC (.int 9)) opEq)) (dB (dBin (dVar 9) (dLst (vNil)) opNe))) (dSeq (dSet 11 (dIfE (dB (dBin (dVar 7) (dVar 6) opIn)) (dCall F__law_without (vCons (dVar 6) (vCons (dVar 7) (vNil)))) (dCall F__law_row (vCons (dBin (dCB (dCons (dVar 6) (dNil)) opList) (dLst (vCons (dVar 7) (vNil))) opAdd) (vNil))))) (dRet (dTup (vCons (dVar 2) (vCons (dVar 3) (vCons (dVar 4) (vCons (dVar 5) (vCons (dVar 11) (vNil))))))))) (dNext)) (dSeq (dIf (dOr (dB (dBin (dVar 4) (dC .none) opIsN)) (dB (dBin (dVar 8) (dC (.int 9)) opEq))) (dRet (dTup (vCons (dVar 2) (vCons (dVar 3) (vCons (dVar 4) (vCons (dVar 5) (vCons (dVar 6) (vNil)))))))) (dNext)) (dSeq (dSet 10 (dCB (dCons (dLc [12] (iSeq (dVar 4)) (gN 12) (dB (dBin (dBin (dVar 12) (dC (.int 0)) opIx) (dVar 7) opNe)) (dVar 12)) (dNil)) opTuple)) (dSeq (dIf (dB (dBin (dCB (dCons (dVar 10) (dNil)) opLen) (dCB (dCons (dVar 4) (dNil)) opLen) opEq)) (dSet 10 (dCall F__law_row (vCons (dBin (dCB (dCons (dVar 4) (dNil)) opList) (dLst (vCons (dTup (vCons (dVar 7) (vCons (dCallB G__law_take 0 (vCons (dC (.int 2)) (vNil))) (vNil)))) (vNil))) opAdd) (vNil)))) (dNext)) (dRet (dTup (vCons (dVar 2) (vCons (dVar 3) (vCons (dVar 10) (vCons (dVar 5) (vCons (dVar 6) (vNil))))))))))))))))))
def G__law_changed : Ob → List PyData → Option (KV.R × Ob) := runB 13 g__law_changed
abbrev s__law_zone : Stmt := top 28
theorem sc__law_zone : FnScope ["_law_box_here", "_law_trust_so", "_law_is_last", "_law_many", "_law_told_so", "_law_at", "_law_line", "_law_turn", "_law_again", "_law_servers_so", "_law_lives"] ["_law_box_here", "_law_trust_so", "_law_is_last", "_law_many"] (defScope s__law_zone) := ⟨rfl, rfl, rfl, by decide +kernel, rfl, by decide +kernel, by decide +kernel⟩
def g__law_zone : DenS := dSeq (dPar 4 5 (vCons (dCallB G__law_begin_of 0 (vCons (dVar 1) (vCons (dVar 2) (vNil)))) (vCons (dC (.int 0)) (vNil)))) (dSeq (dSet 6 (dLst (vCons (dTup (vCons (dC (.int 0)) (vCons (dVar 4) (vNil)))) (vNil)))) (dSeq (dFor (iR1 (dCons (dCallB G__law_take 0 (vCons (dVar 3) (vNil))) (dNil))) (gN 7) (dSeq (dSet 5 (dBin (dBin (dVar 5) (dC (.int 1)) opAdd) (dCallB G__law_take 0 (vCons (dC (.int 7)) (vNil))) opAdd)) (dSeq (dFor (iR1 (dCons (dBin (dC (.int 1)) (dCallB G__law_take 0 (vCons (dC (.int 2)) (vNil))) opAdd) (dNil))) (gN 8) (dSet 4 (dCallB G__law_changed 0 (vCons (dVar 4) (vNil))))) (dDrop (dApp 6 (dTup (vCons (dVar 5) (vCons (dVar 4) (vNil))))))))) (dSeq (dSet 9 (dBin (dC (.int 1)) (dCallB G__law_take 0 (vCons (dC (.int 3)) (vNil))) opAdd)) (dSeq (dSet 10 (dTup (vCons (dBin (dC (.int 1)) (dCallB G__law_take 0 (vCons (dC (.int 5)) (vNil))) opAdd) (vCons (dBin (dC (.int 1)) (dCallB G__law_take 0 (vCons (dC (.int 5)) (vNil))) opAdd) (vNil))))) (dRet (dBin (dTup (vCons (dCB (dCons (dVar 6) (dNil)) opTuple) (vCons (dVar 9) (vCons (dBin (dC (.int 1)) (dCallB G__law_take 0 (vCons (dVar 9) (vNil))) opAdd) (vCons (dCallB G__law_take 0 (vCons (dC (.int 4)) (vNil))) (vNil)))))) (dVar 10) opAdd))))))
def G__law_zone : Ob → List PyData → Option (KV.R × Ob) := runB 11 g__law_zone
abbrev s__law_world_of : Stmt := top 30
theorem sc__law_world_of : FnScope ["_law_box_here", "_law_count", "_law_many", "_law_trust_so", "_law_anchors_so", "_law_zones_so", "_law_place"] ["_law_box_here", "_law_count", "_law_many"] (defScope s__law_world_of) := ⟨rfl, rfl, rfl, by decide +kernel, rfl, by decide +kernel, by decide +kernel⟩
def g__law_world_of : DenS := dSeq (dSet 3 (dCallB G__law_pick 0 (vCons (dLst (vCons (dTup (vCons (dTup (vCons (dC (.int 7)) (vCons (dC (.int 0)) (vNil)))) (vNil))) (vCons (dTup (vCons (dTup (vCons (dC (.int 7)) (vCons (dC (.int 0)) (vNil)))) (vCons (dTup (vCons (dC (.int 8)) (vCons (dC (.int 1)) (vNil)))) (vNil)))) (vCons (dTup (vCons (dTup (vCons (dC (.int 1)) (vCons (dC (.int 0)) (vNil)))) (vNil))) (vCons (dTup (vCons (dTup (vCons (dC (.int 1)) (vCons (dC (.int 0)) (vNil)))) (vCons (dTup (vCons (dC (.int 2)) (vCons (dC (.int 1)) (vNil)))) (vNil)))) (vNil)))))) (vNil)))) (dSeq (dParO 4 5 (dVar 3) (dLst (vNil))) (dSeq (dFor (iR1 (dCons (dVar 1) (dNil))) (gN 6) (dSeq (dDrop (dApp 5 (dCallB G__law_zone 0 (vCons (dVar 3) (vCons (dBin (dBin (dVar 6) (dC (.int 1)) opAdd) (dVar 1) opEq) (vCons (dVar 2) (vNil))))))) (dSet 3 (dBin (dBin (dBin (dBin (dBin (dVar 5) (dUn (dC (.int 1)) opNeg) opIx) (dC (.int 0)) opIx) (dC (.int 0)) opIx) (dC (.int 1)) opIx) (dC (.int 2)) opIx)))) (dRet (dTup (vCons (dCB (dCons (dVar 5) (dNil)) opTuple) (vCons (dVar 4) (vCons (dBin (dLst (vCons (dC (.str ("any" : Str))) (vCons (dC (.str ("each" : Str))) (vNil)))) (dCallB G__law_take 0 (vCons (dC (.int 2)) (vNil))) opIx) (vNil))))))))
def G__law_world_of : Ob → List PyData → Option (KV.R × Ob) := runB 7 g__law_world_of
abbrev s__law_world : Stmt := top 29
theorem sc__law_world : FnScope ["_law_box_here", "_law_most_zones", "_law_many"] ["_law_box_here", "_law_most_zones", "_law_many"] (defScope s__law_world) := ⟨rfl, rfl, rfl, by decide +kernel, rfl, by decide +kernel, by decide +kernel⟩
def g__law_world : DenS := dRet (dCallB G__law_world_of 0 (vCons (dBin (dC (.int 1)) (dCallB G__law_take 0 (vCons (dVar 1) (vNil))) opAdd) (vCons (dVar 2) (vNil))))
def G__law_world : Ob → List PyData → Option (KV.R × Ob) := runB 3 g__law_world
abbrev s__law_is_int : Stmt := top 31
theorem sc__law_is_int : FnScope ["_law_matter"] ["_law_matter"] (defScope s__law_is_int) := ⟨rfl, rfl, rfl, by decide +kernel, rfl, by decide +kernel, by decide +kernel⟩
def g__law_is_int : DenS := dRet (dV (dAnd (dB (dIsi (dVar 0) "int")) (dAnd (dB (dV (dNot (dB (dIsi (dVar 0) "bool"))))) (dB (dBin (dVar 0) (dC (.int 0)) opGe)))))
def F__law_is_int : List PyData → Option KV.R := runP 1 g__law_is_int
abbrev s__law_is_key : Stmt := top 32
theorem sc__law_is_key : FnScope ["_law_matter"] ["_law_matter"] (defScope s__law_is_key) := ⟨rfl, rfl, rfl, by decide +kernel, rfl, by decide +kernel, by decide +kernel⟩
def g__law_is_key : DenS := dRet (dV (dAnd (dB (dIsi (dVar 0) "tuple")) (dAnd (dB (dBin (dCB (dCons (dVar 0) (dNil)) opLen) (dC (.int 2)) opEq)) (dAnd (dB (dCall F__law_is_int (vCons (dBin (dVar 0) (dC (.int 0)) opIx) (vNil)))) (dB (dCall F__law_is_int (vCons (dBin (dVar 0) (dC (.int 1)) opIx) (vNil))))))))
def F__law_is_key : List PyData → Option KV.R := runP 1 g__law_is_key
abbrev s__law_climbs : Stmt := top 33
theorem sc__law_climbs : FnScope ["_law_some"] ["_law_some"] (defScope s__law_climbs) := ⟨rfl, rfl, rfl, by decide +kernel, rfl, by decide +kernel, by decide +kernel⟩
def g__law_climbs : DenS := dRet (dBin (dVar 0) (dUn (dVar 0) opSS) opEq)
def F__law_climbs : List PyData → Option KV.R := runP 1 g__law_climbs
abbrev s__law_are_keys : Stmt := top 34
theorem sc__law_are_keys : FnScope ["_law_matter", "_law_one"] ["_law_matter"] (defScope s__law_are_keys) := ⟨rfl, rfl, rfl, by decide +kernel, rfl, by decide +kernel, by decide +kernel⟩
def g__law_are_keys : DenS := dSeq (dIf (dOr (dNot (dB (dIsi (dVar 0) "tuple"))) (dNot (dB (dCB (dCons (dLc [1] (iSeq (dVar 0)) (gN 1) (tYesD) (dCall F__law_is_key (vCons (dVar 1) (vNil)))) (dNil)) opAll)))) (dRet (dC (.bool false))) (dNext)) (dRet (dV (dAnd (dB (dCall F__law_climbs (vCons (dCB (dCons (dVar 0) (dNil)) opList) (vNil)))) (dB (dCall F__law_climbs (vCons (dLc [1] (iSeq (dVar 0)) (gN 1) (tYesD) (dBin (dVar 1) (dC (.int 0)) opIx)) (vNil)))))))
def F__law_are_keys : List PyData → Option KV.R := runP 2 g__law_are_keys
abbrev s__law_are_ints : Stmt := top 35
theorem sc__law_are_ints : FnScope ["_law_matter", "_law_one"] ["_law_matter"] (defScope s__law_are_ints) := ⟨rfl, rfl, rfl, by decide +kernel, rfl, by decide +kernel, by decide +kernel⟩
def g__law_are_ints : DenS := dSeq (dIf (dNot (dB (dIsi (dVar 0) "tuple"))) (dRet (dC (.bool false))) (dNext)) (dSeq (dIf (dNot (dB (dCB (dCons (dLc [1] (iSeq (dVar 0)) (gN 1) (tYesD) (dV (dAnd (dB (dIsi (dVar 1) "int")) (dB (dV (dNot (dB (dIsi (dVar 1) "bool")))))))) (dNil)) opAll))) (dRet (dC (.bool false))) (dNext)) (dRet (dCall F__law_climbs (vCons (dCB (dCons (dVar 0) (dNil)) opList) (vNil)))))
def F__law_are_ints : List PyData → Option KV.R := runP 2 g__law_are_ints
abbrev s__law_is_told : Stmt := top 36
theorem sc__law_is_told : FnScope ["_law_matter", "_law_own", "_law_key", "_law_number"] ["_law_matter"] (defScope s__law_is_told) := ⟨rfl, rfl, rfl, by decide +kernel, rfl, by decide +kernel, by decide +kernel⟩
def g__law_is_told : DenS := dSeq (dIf (dOr (dNot (dB (dIsi (dVar 0) "tuple"))) (dOr (dB (dBin (dCB (dCons (dVar 0) (dNil)) opLen) (dC (.int 5)) opNe)) (dNot (dB (dCall F__law_are_keys (vCons (dBin (dVar 0) (dC (.int 0)) opIx) (vNil))))))) (dRet (dC (.bool false))) (dNext)) (dSeq (dIf (dOr (dNot (dB (dCall F__law_are_ints (vCons (dBin (dVar 0) (dC (.int 1)) opIx) (vNil))))) (dOr (dNot (dB (dCall F__law_are_ints (vCons (dBin (dVar 0) (dC (.int 3)) opIx) (vNil))))) (dNot (dB (dCall F__law_are_ints (vCons (dBin (dVar 0) (dC (.int 4)) opIx) (vNil))))))) (dRet (dC (.bool false))) (dNext)) (dSeq (dSet 1 (dLc [2] (iSeq (dBin (dVar 0) (dC (.int 0)) opIx)) (gN 2) (tYesD) (dBin (dVar 2) (dC (.int 0)) opIx))) (dRet (dV (dAnd (dB (dCB (dCons (dLc [3] (iSeq (dBin (dVar 0) (dC (.int 4)) opIx)) (gN 3) (tYesD) (dBin (dVar 3) (dVar 1) opIn)) (dNil)) opAll)) (dB (dV (dOr (dB (dBin (dBin (dVar 0) (dC (.int 2)) opIx) (dC .none) opIsN)) (dB (dCall F__law_are_keys (vCons (dBin (dVar 0) (dC (.int 2)) opIx) (vNil))))))))))))
def F__law_is_told : List PyData → Option KV.R := runP 4 g__law_is_told
abbrev s__law_is_row : Stmt := top 37
theorem sc__law_is_row : FnScope ["_law_matter", "_law_one", "_law_times"] ["_law_matter"] (defScope s__law_is_row) := ⟨rfl, rfl, rfl, by decide +kernel, rfl, by decide +kernel, by decide +kernel⟩
def g__law_is_row : DenS := dSeq (dIf (dOr (dNot (dB (dIsi (dVar 0) "tuple"))) (dB (dBin (dCB (dCons (dVar 0) (dNil)) opLen) (dC (.int 0)) opEq))) (dRet (dC (.bool false))) (dNext)) (dSeq (dFor (iSeq (dVar 0)) (gN 1) (dIf (dOr (dNot (dB (dIsi (dVar 1) "tuple"))) (dOr (dB (dBin (dCB (dCons (dVar 1) (dNil)) opLen) (dC (.int 2)) opNe)) (dOr (dNot (dB (dCall F__law_is_int (vCons (dBin (dVar 1) (dC (.int 0)) opIx) (vNil))))) (dNot (dB (dCall F__law_is_told (vCons (dBin (dVar 1) (dC (.int 1)) opIx) (vNil)))))))) (dRet (dC (.bool false))) (dNext))) (dSeq (dSet 2 (dLc [1] (iSeq (dVar 0)) (gN 1) (tYesD) (dBin (dVar 1) (dC (.int 0)) opIx))) (dRet (dV (dAnd (dB (dBin (dBin (dVar 2) (dC (.int 0)) opIx) (dC (.int 0)) opEq)) (dB (dCall F__law_climbs (vCons (dVar 2) (vNil)))))))))
def F__law_is_row : List PyData → Option KV.R := runP 3 g__law_is_row
abbrev s__law_is_site : Stmt := top 38
theorem sc__law_is_site : FnScope ["_law_matter", "_law_one"] ["_law_matter"] (defScope s__law_is_site) := ⟨rfl, rfl, rfl, by decide +kernel, rfl, by decide +kernel, by decide +kernel⟩
def g__law_is_site : DenS := dSeq (dIf (dOr (dNot (dB (dIsi (dVar 0) "tuple"))) (dOr (dB (dBin (dCB (dCons (dVar 0) (dNil)) opLen) (dC (.int 6)) opNe)) (dNot (dB (dCall F__law_is_row (vCons (dBin (dVar 0) (dC (.int 0)) opIx) (vNil))))))) (dRet (dC (.bool false))) (dNext)) (dSeq (dIf (dNot (dB (dCB (dCons (dLc [1] (iSeq (dSlice (dVar 0) (some (dC (.int 1))) none)) (gN 1) (tYesD) (dCall F__law_is_int (vCons (dVar 1) (vNil)))) (dNil)) opAll))) (dRet (dC (.bool false))) (dNext)) (dRet (dV (dAnd (dB (dCh (dC (.int 0)) (dBin (dVar 0) (dC (.int 2)) opIx) (dBin (dVar 0) (dC (.int 1)) opIx) opLt opLe)) (dAnd (dB (dBin (dBin (dVar 0) (dC (.int 4)) opIx) (dC (.int 0)) opGt)) (dB (dBin (dBin (dVar 0) (dC (.int 5)) opIx) (dC (.int 0)) opGt)))))))
def F__law_is_site : List PyData → Option KV.R := runP 2 g__law_is_site
abbrev s__law_is_globe : Stmt := top 39
theorem sc__law_is_globe : FnScope ["_law_matter", "_law_last", "_law_bare", "_law_site", "_law_one"] ["_law_matter"] (defScope s__law_is_globe) := ⟨rfl, rfl, rfl, by decide +kernel, rfl, by decide +kernel, by decide +kernel⟩
def g__law_is_globe : DenS := dSeq (dIf (dOr (dNot (dB (dIsi (dVar 0) "tuple"))) (dOr (dB (dBin (dCB (dCons (dVar 0) (dNil)) opLen) (dC (.int 3)) opNe)) (dOr (dNot (dB (dIsi (dBin (dVar 0) (dC (.int 0)) opIx) "tuple"))) (dB (dBin (dBin (dVar 0) (dC (.int 0)) opIx) (dTup (vNil)) opEq))))) (dRet (dC (.bool false))) (dNext)) (dSeq (dIf (dOr (dNot (dB (dCB (dCons (dLc [4] (iSeq (dBin (dVar 0) (dC (.int 0)) opIx)) (gN 4) (tYesD) (dCall F__law_is_site (vCons (dVar 4) (vNil)))) (dNil)) opAll))) (dOr (dNot (dB (dCall F__law_are_keys (vCons (dBin (dVar 0) (dC (.int 1)) opIx) (vNil))))) (dB (dBin (dBin (dVar 0) (dC (.int 1)) opIx) (dTup (vNil)) opEq)))) (dRet (dC (.bool false))) (dNext)) (dSeq (dIf (dOr (dNot (dB (dIsi (dBin (dVar 0) (dC (.int 2)) opIx) "str"))) (dB (dBin (dBin (dVar 0) (dC (.int 2)) opIx) (dTup (vCons (dC (.str ("any" : Str))) (vCons (dC (.str ("each" : Str))) (vNil)))) opNotIn))) (dRet (dC (.bool false))) (dNext)) (dSeq (dSet 1 (dBin (dBin (dVar 0) (dC (.int 0)) opIx) (dUn (dC (.int 1)) opNeg) opIx)) (dSeq (dSet 2 (dLc [4] (iSeq (dBin (dVar 1) (dC (.int 0)) opIx)) (gN 4) (tYesD) (dBin (dBin (dBin (dVar 4) (dC (.int 1)) opIx) (dC (.int 2)) opIx) (dC .none) opIsN))) (dSeq (dFor (iSeq (dSlice (dBin (dVar 0) (dC (.int 0)) opIx) none (some (dUn (dC (.int 1)) opNeg)))) (gN 3) (dSet 2 (dBin (dVar 2) (dLc [4] (iSeq (dBin (dVar 3) (dC (.int 0)) opIx)) (gN 4) (tYesD) (dBin (dBin (dBin (dVar 4) (dC (.int 1)) opIx) (dC (.int 2)) opIx) (dC .none) opNotN)) opAdd))) (dRet (dCB (dCons (dVar 2) (dNil)) opAll)))))))
def F__law_is_globe : List PyData → Option KV.R := runP 5 g__law_is_globe
abbrev s__law_odd : Stmt := top 40
theorem sc__law_odd : FnScope ["_law_box_here", "_law_some"] ["_law_box_here"] (defScope s__law_odd) := ⟨rfl, rfl, rfl, by decide +kernel, rfl, by decide +kernel, by decide +kernel⟩
def g__law_odd : DenS := dSeq (dSet 1 (dLst (vCons (dC .none) (vCons (dC (.bool true)) (vCons (dC (.bool false)) (vCons (dUn (dC (.int 1)) opNeg) (vCons (dC (.int 0)) (vCons (dC (.int 1)) (vCons (dC (.int 2)) (vCons (dC (.int 5)) (vCons (dBin (dC (.int 10)) (dC (.int 20)) opPow) (vCons (dC (.str ("" : Str))) (vCons (dC (.str ("any" : Str))) (vCons (dC (.str ("each" : Str))) (vCons (dC (.str ("Any" : Str))) (vCons (dC (.str ("keys" : Str))) (vCons (dTup (vNil)) (vCons (dLst (vNil)) (vCons (dTup (vCons (dC (.int 1)) (vNil))) (vCons (dTup (vCons (dC (.int 1)) (vCons (dC (.int 0)) (vNil)))) (vNil))))))))))))))))))))) (dRet (dCallB G__law_pick 0 (vCons (dBin (dVar 1) (dLst (vCons (dTup (vCons (dTup (vCons (dC (.int 1)) (vCons (dC (.int 0)) (vNil)))) (vNil))) (vCons (dTup (vCons (dTup (vCons (dC (.int 1)) (vCons (dC (.int 0)) (vNil)))) (vCons (dTup (vCons (dC (.int 1)) (vCons (dC (.int 1)) (vNil)))) (vNil)))) (vCons (dTup (vCons (dTup (vCons (dC (.int 2)) (vCons (dC (.int 0)) (vNil)))) (vCons (dTup (vCons (dC (.int 1)) (vCons (dC (.int 0)) (vNil)))) (vNil)))) (vCons (dTup (vCons (dC (.bool true)) (vCons (dC (.int 0)) (vNil)))) (vCons (dTup (vCons (dC (.int 1)) (vCons (dC (.bool false)) (vNil)))) (vCons (dLst (vCons (dC (.int 1)) (vCons (dC (.int 0)) (vNil)))) (vCons (dTup (vCons (dC (.int 7)) (vCons (dC (.int 9)) (vNil)))) (vNil))))))))) opAdd) (vNil))))
def G__law_odd : Ob → List PyData → Option (KV.R × Ob) := runB 2 g__law_odd
abbrev s__law_bent : Stmt := top 41
theorem sc__law_bent : FnScope ["_law_box_here", "_law_matter", "_law_way", "_law_spot", "_law_some"] ["_law_box_here", "_law_matter"] (defScope s__law_bent) := ⟨rfl, rfl, rfl, by decide +kernel, rfl, by decide +kernel, by decide +kernel⟩
def g__law_bent (G : Ob → List PyData → Option (KV.R × Ob)) : DenS := dSeq (dSet 2 (dCallB G__law_take 0 (vCons (dC (.int 10)) (vNil)))) (dSeq (dIf (dAnd (dB (dIsi2 (dVar 1) "list" "tuple")) (dAnd (dB (dBin (dCB (dCons (dVar 1) (dNil)) opLen) (dC (.int 0)) opGt)) (dB (dBin (dVar 2) (dC (.int 1)) opGt)))) (dSeq (dParO 3 4 (dCallB G__law_take 0 (vCons (dCB (dCons (dVar 1) (dNil)) opLen) (vNil))) (dCB (dCons (dVar 1) (dNil)) opList)) (dSeq (dIf (dB (dBin (dVar 2) (dC (.int 2)) opEq)) (dDrop (dPop 4 (dVar 3))) (dIf (dB (dBin (dVar 2) (dC (.int 3)) opEq)) (dDrop (dIns 4 (dVar 3) (dBin (dVar 4) (dVar 3) opIx))) (dIf (dB (dBin (dVar 2) (dC (.int 4)) opEq)) (dSet 4 (dUn (dVar 4) opRev)) (dSetIx 4 (dCallB G 0 (vCons (dBin (dVar 4) (dVar 3) opIx) (vNil))) (dVar 3))))) (dRet (dIfE (dB (dIsi (dVar 1) "tuple")) (dCB (dCons (dVar 4) (dNil)) opTuple) (dVar 4))))) (dNext)) (dSeq (dIf (dAnd (dB (dBin (dVar 2) (dC (.int 0)) opEq)) (dB (dIsi (dVar 1) "tuple"))) (dRet (dCB (dCons (dVar 1) (dNil)) opList)) (dNext)) (dSeq (dIf (dAnd (dB (dBin (dVar 2) (dC (.int 1)) opEq)) (dB (dCall F__law_is_int (vCons (dVar 1) (vNil))))) (dRet (dBin (dVar 1) (dCallB G__law_pick 0 (vCons (dLst (vCons (dC (.int 1)) (vCons (dC (.int 2)) (vCons (dUn (dC (.int 1)) opNeg) (vNil))))) (vNil))) opAdd)) (dNext)) (dRet (dCallB G__law_odd 0 (vNil))))))
def Gz__law_bent : Nat → Ob → List PyData → Option (KV.R × Ob)
  | 0 => fun _ _ => none
  | n + 1 => runB 5 (g__law_bent (Gz__law_bent n))
abbrev G__law_bent : Ob → List PyData → Option (KV.R × Ob) := Gz__law_bent 12
abbrev s__law_judged : Stmt := top 42
theorem sc__law_judged : FnScope ["_law_matter", "_law_told", "_law_due"] ["_law_matter"] (defScope s__law_judged) := ⟨rfl, rfl, rfl, by decide +kernel, rfl, by decide +kernel, by decide +kernel⟩
def g__law_judged : DenS := dSeq (dSet 1 (dLst (vCons (dCall F_is_key (vCons (dVar 0) (vNil))) (vCons (dCall F_is_version (vCons (dVar 0) (vNil))) (vCons (dCall F_is_line (vCons (dVar 0) (vNil))) (vCons (dCall F_is_zone (vCons (dVar 0) (vNil))) (vCons (dCall F_is_world (vCons (dVar 0) (vNil))) (vNil)))))))) (dSeq (dSet 1 (dBin (dVar 1) (dLst (vCons (dCallK F_is_key [0] vNil (vCons (dVar 0) (vNil))) (vCons (dCallK F_is_version [0] vNil (vCons (dVar 0) (vNil))) (vCons (dCallK F_is_line [0] vNil (vCons (dVar 0) (vNil))) (vNil))))) opAdd)) (dSeq (dSet 1 (dBin (dVar 1) (dLst (vCons (dCallK F_is_zone [0] vNil (vCons (dVar 0) (vNil))) (vCons (dCallK F_is_world [0] vNil (vCons (dVar 0) (vNil))) (vNil)))) opAdd)) (dSeq (dSet 2 (dLst (vCons (dCall F__law_is_key (vCons (dVar 0) (vNil))) (vCons (dCall F__law_is_told (vCons (dVar 0) (vNil))) (vCons (dCall F__law_is_row (vCons (dVar 0) (vNil))) (vCons (dCall F__law_is_site (vCons (dVar 0) (vNil))) (vCons (dCall F__law_is_globe (vCons (dVar 0) (vNil))) (vNil)))))))) (dRet (dCall F__law_same (vCons (dVar 1) (vCons (dBin (dVar 2) (dVar 2) opAdd) (vNil))))))))
def F__law_judged : List PyData → Option KV.R := runP 3 g__law_judged
abbrev s__law_right : Stmt := top 43
theorem sc__law_right : FnScope ["_law_box_here", "_law_globe", "_law_site", "_law_told", "_law_some", "_law_turn", "_law_bent_here", "_law_matter", "_law_before"] ["_law_box_here"] (defScope s__law_right) := ⟨rfl, rfl, rfl, by decide +kernel, rfl, by decide +kernel, by decide +kernel⟩
def g__law_right : DenS := dSeq (dSet 1 (dCallB G__law_world 0 (vCons (dC (.int 3)) (vCons (dC (.int 3)) (vNil))))) (dSeq (dSet 2 (dCallB G__law_pick 0 (vCons (dCB (dCons (dBin (dVar 1) (dC (.int 0)) opIx) (dNil)) opList) (vNil)))) (dSeq (dSet 3 (dBin (dCallB G__law_pick 0 (vCons (dCB (dCons (dBin (dVar 2) (dC (.int 0)) opIx) (dNil)) opList) (vNil))) (dC (.int 1)) opIx)) (dSeq (dSet 4 (dLst (vCons (dVar 1) (vCons (dVar 2) (vCons (dBin (dVar 2) (dC (.int 0)) opIx) (vCons (dVar 3) (vCons (dBin (dVar 1) (dC (.int 1)) opIx) (vCons (dTup (vCons (dC (.int 3)) (vCons (dC (.int 0)) (vNil)))) (vCons (dBin (dBin (dSlice (dVar 1) none (some (dC (.int 1)))) (dTup (vCons (dTup (vNil)) (vNil))) opAdd) (dSlice (dVar 1) (some (dC (.int 2))) none) opAdd) (vCons (dBin (dTup (vCons (dBin (dBin (dVar 1) (dC (.int 0)) opIx) (dC (.int 2)) opMulT) (vNil))) (dSlice (dVar 1) (some (dC (.int 1))) none) opAdd) (vNil))))))))))) (dSeq (dSet 4 (dBin (dVar 4) (dLc [5] (iR1 (dCons (dC (.int 6)) (dNil))) (gN 5) (tYesD) (dCallB G__law_odd 0 (vNil))) opAdd)) (dSeq (dFor (iR1 (dCons (dC (.int 30)) (dNil))) (gN 5) (dSeq (dSet 6 (dCallB G__law_bent 0 (vCons (dCallB G__law_pick 0 (vCons (dSlice (dVar 4) none (some (dC (.int 5)))) (vNil))) (vNil)))) (dDrop (dApp 4 (dIfE (dB (dBin (dCallB G__law_take 0 (vCons (dC (.int 3)) (vNil))) (dC (.int 0)) opEq)) (dCallB G__law_bent 0 (vCons (dVar 6) (vNil))) (dVar 6)))))) (dSeq (dIf (dNot (dB (dCall F__law_is_globe (vCons (dVar 1) (vNil))))) (dRet (dC (.bool false))) (dNext)) (dSeq (dSet 4 (dBin (dVar 4) (dLst (vCons (dTup (vCons (dTup (vCons (dTup (vCons (dC (.int 1)) (vCons (dC (.int 0)) (vNil)))) (vCons (dTup (vCons (dC (.int 1)) (vCons (dC (.int 1)) (vNil)))) (vNil)))) (vCons (dTup (vNil)) (vCons (dC .none) (vCons (dTup (vNil)) (vCons (dTup (vNil)) (vNil))))))) (vCons (dTup (vCons (dTup (vCons (dTup (vCons (dC (.int 1)) (vCons (dC (.int 0)) (vNil)))) (vNil))) (vCons (dTup (vCons (dUn (dC (.int 2)) opNeg) (vCons (dC (.int 5)) (vNil)))) (vCons (dTup (vNil)) (vCons (dTup (vCons (dUn (dC (.int 1)) opNeg) (vCons (dC (.int 0)) (vNil)))) (vCons (dTup (vCons (dC (.int 1)) (vNil))) (vNil))))))) (vCons (dTup (vCons (dTup (vNil)) (vCons (dTup (vNil)) (vCons (dTup (vNil)) (vCons (dTup (vNil)) (vCons (dTup (vNil)) (vNil))))))) (vNil))))) opAdd)) (dSeq (dFor (iSeq (dBin (dVar 4) (dLst (vCons (dTup (vCons (dBin (dVar 2) (dC (.int 0)) opIx) (vCons (dC (.int 1)) (vCons (dC (.int 2)) (vCons (dC (.int 0)) (vCons (dC (.int 1)) (vCons (dC (.int 1)) (vNil)))))))) (vCons (dTup (vCons (dBin (dVar 2) (dC (.int 0)) opIx) (vCons (dC (.int 2)) (vCons (dC (.int 2)) (vCons (dC (.int 0)) (vCons (dC (.int 1)) (vCons (dC (.int 0)) (vNil)))))))) (vCons (dTup (vCons (dBin (dVar 2) (dC (.int 0)) opIx) (vCons (dC (.int 2)) (vCons (dC (.int 0)) (vCons (dC (.int 0)) (vCons (dC (.int 1)) (vCons (dC (.int 1)) (vNil)))))))) (vNil))))) opAdd)) (gN 7) (dSeq (dSet 8 (dCB (dCons (dVar 7) (dNil)) opRepr)) (dIf (dOr (dNot (dB (dCall F__law_judged (vCons (dVar 7) (vNil))))) (dB (dBin (dCB (dCons (dVar 7) (dNil)) opRepr) (dVar 8) opNe))) (dRet (dC (.bool false))) (dNext)))) (dRet (dC (.bool true)))))))))))
def G__law_right : Ob → List PyData → Option (KV.R × Ob) := runB 9 g__law_right
abbrev s_law : Stmt := top 44
theorem sc_law : FnScope ["_law_script", "_law_k"] ["_law_script"] (defScope s_law) := ⟨rfl, rfl, rfl, by decide +kernel, rfl, by decide +kernel, by decide +kernel⟩
def g_law : DenS := dRet (dCB (dCons (dLc [1] (iR1 (dCons (dBin (dC (.int 1)) (dCB (dCons (dC (.int 2)) (dCons (dCB (dCons (dVar 0) (dNil)) opLen) (dNil))) opMin2) opAdd) (dNil))) (gN 1) (tYesD) (dCallT G__law_right (dCall F__law_box (vCons (dVar 0) (vCons (dVar 1) (vNil)))))) (dNil)) opAll)
def F_law : List PyData → Option KV.R := runP 2 g_law
structure Facts (K : PySem.W.Frag) (mg : Str → Option Value) : Prop where
  f_abs : mg "abs" = none
  f_all : mg "all" = none
  f_bool : mg "bool" = none
  f_enumerate : mg "enumerate" = none
  f_int : mg "int" = none
  f_isinstance : mg "isinstance" = none
  f_len : mg "len" = none
  f_list : mg "list" = none
  f_min : mg "min" = none
  f_range : mg "range" = none
  f_repr : mg "repr" = none
  f_set : mg "set" = none
  f_sorted : mg "sorted" = none
  f_str : mg "str" = none
  f_tuple : mg "tuple" = none
  f_zip : mg "zip" = none
  c_KEY_FIELDS : ∃ t, mg "KEY_FIELDS" = some (.int 2 t)
  c_RULES : TupC K mg "RULES" [("any" : Str), ("each" : Str)]
  c_VERSION_FIELDS : ∃ t, mg "VERSION_FIELDS" = some (.int 5 t)
  c_WORLD_FIELDS : ∃ t, mg "WORLD_FIELDS" = some (.int 3 t)
  c_ZONE_FIELDS : ∃ t, mg "ZONE_FIELDS" = some (.int 6 t)
  d_is_whole : ∃ f fd, mg "is_whole" = some (.ref f) ∧ FunD K "is_whole" "is_whole" (defArgs s_is_whole) (defBody s_is_whole) (defScope s_is_whole) [] [] f fd
  d_is_number : ∃ f fd, mg "is_number" = some (.ref f) ∧ FunD K "is_number" "is_number" (defArgs s_is_number) (defBody s_is_number) (defScope s_is_number) [] [] f fd
  d_rises : ∃ f fd, mg "rises" = some (.ref f) ∧ FunD K "rises" "rises" (defArgs s_rises) (defBody s_rises) (defScope s_rises) [] [] f fd
  d_is_key : ∃ f fd, mg "is_key" = some (.ref f) ∧ FunD K "is_key" "is_key" (defArgs s_is_key) (defBody s_is_key) (defScope s_is_key) [] [] f fd
  d_are_keys : ∃ f fd, mg "are_keys" = some (.ref f) ∧ FunD K "are_keys" "are_keys" (defArgs s_are_keys) (defBody s_are_keys) (defScope s_are_keys) [] [] f fd
  d_are_numbers : ∃ f fd, mg "are_numbers" = some (.ref f) ∧ FunD K "are_numbers" "are_numbers" (defArgs s_are_numbers) (defBody s_are_numbers) (defScope s_are_numbers) [] [] f fd
  d_is_version : ∃ f fd, mg "is_version" = some (.ref f) ∧ FunD K "is_version" "is_version" (defArgs s_is_version) (defBody s_is_version) (defScope s_is_version) [] [] f fd
  d_is_line : ∃ f fd, mg "is_line" = some (.ref f) ∧ FunD K "is_line" "is_line" (defArgs s_is_line) (defBody s_is_line) (defScope s_is_line) [] [] f fd
  d_is_zone : ∃ f fd, mg "is_zone" = some (.ref f) ∧ FunD K "is_zone" "is_zone" (defArgs s_is_zone) (defBody s_is_zone) (defScope s_is_zone) [] [] f fd
  d_fits_place : ∃ f fd, mg "fits_place" = some (.ref f) ∧ FunD K "fits_place" "fits_place" (defArgs s_fits_place) (defBody s_fits_place) (defScope s_fits_place) [] [] f fd
  d_is_world : ∃ f fd, mg "is_world" = some (.ref f) ∧ FunD K "is_world" "is_world" (defArgs s_is_world) (defBody s_is_world) (defScope s_is_world) [] [] f fd
  d__law_box : ∃ f fd, mg "_law_box" = some (.ref f) ∧ FunD K "_law_box" "_law_box" (defArgs s__law_box) (defBody s__law_box) (defScope s__law_box) [] [] f fd
  d__law_take : ∃ f fd, mg "_law_take" = some (.ref f) ∧ FunD K "_law_take" "_law_take" (defArgs s__law_take) (defBody s__law_take) (defScope s__law_take) [] [] f fd
  d__law_pick : ∃ f fd, mg "_law_pick" = some (.ref f) ∧ FunD K "_law_pick" "_law_pick" (defArgs s__law_pick) (defBody s__law_pick) (defScope s__law_pick) [] [] f fd
  d__law_same : ∃ f fd, mg "_law_same" = some (.ref f) ∧ FunD K "_law_same" "_law_same" (defArgs s__law_same) (defBody s__law_same) (defScope s__law_same) [] [] f fd
  d__law_row : ∃ f fd, mg "_law_row" = some (.ref f) ∧ FunD K "_law_row" "_law_row" (defArgs s__law_row) (defBody s__law_row) (defScope s__law_row) [] [] f fd
  d__law_begin_of : ∃ f fd, mg "_law_begin_of" = some (.ref f) ∧ FunD K "_law_begin_of" "_law_begin_of" (defArgs s__law_begin_of) (defBody s__law_begin_of) (defScope s__law_begin_of) [] [] f fd
  d__law_without : ∃ f fd, mg "_law_without" = some (.ref f) ∧ FunD K "_law_without" "_law_without" (defArgs s__law_without) (defBody s__law_without) (defScope s__law_without) [] [] f fd
  d__law_changed : ∃ f fd, mg "_law_changed" = some (.ref f) ∧ FunD K "_law_changed" "_law_changed" (defArgs s__law_changed) (defBody s__law_changed) (defScope s__law_changed) [] [] f fd
  d__law_zone : ∃ f fd, mg "_law_zone" = some (.ref f) ∧ FunD K "_law_zone" "_law_zone" (defArgs s__law_zone) (defBody s__law_zone) (defScope s__law_zone) [] [] f fd
  d__law_world_of : ∃ f fd, mg "_law_world_of" = some (.ref f) ∧ FunD K "_law_world_of" "_law_world_of" (defArgs s__law_world_of) (defBody s__law_world_of) (defScope s__law_world_of) [] [] f fd
  d__law_world : ∃ f fd, mg "_law_world" = some (.ref f) ∧ FunD K "_law_world" "_law_world" (defArgs s__law_world) (defBody s__law_world) (defScope s__law_world) [] [] f fd
  d__law_is_int : ∃ f fd, mg "_law_is_int" = some (.ref f) ∧ FunD K "_law_is_int" "_law_is_int" (defArgs s__law_is_int) (defBody s__law_is_int) (defScope s__law_is_int) [] [] f fd
  d__law_is_key : ∃ f fd, mg "_law_is_key" = some (.ref f) ∧ FunD K "_law_is_key" "_law_is_key" (defArgs s__law_is_key) (defBody s__law_is_key) (defScope s__law_is_key) [] [] f fd
  d__law_climbs : ∃ f fd, mg "_law_climbs" = some (.ref f) ∧ FunD K "_law_climbs" "_law_climbs" (defArgs s__law_climbs) (defBody s__law_climbs) (defScope s__law_climbs) [] [] f fd
  d__law_are_keys : ∃ f fd, mg "_law_are_keys" = some (.ref f) ∧ FunD K "_law_are_keys" "_law_are_keys" (defArgs s__law_are_keys) (defBody s__law_are_keys) (defScope s__law_are_keys) [] [] f fd
  d__law_are_ints : ∃ f fd, mg "_law_are_ints" = some (.ref f) ∧ FunD K "_law_are_ints" "_law_are_ints" (defArgs s__law_are_ints) (defBody s__law_are_ints) (defScope s__law_are_ints) [] [] f fd
  d__law_is_told : ∃ f fd, mg "_law_is_told" = some (.ref f) ∧ FunD K "_law_is_told" "_law_is_told" (defArgs s__law_is_told) (defBody s__law_is_told) (defScope s__law_is_told) [] [] f fd
  d__law_is_row : ∃ f fd, mg "_law_is_row" = some (.ref f) ∧ FunD K "_law_is_row" "_law_is_row" (defArgs s__law_is_row) (defBody s__law_is_row) (defScope s__law_is_row) [] [] f fd
  d__law_is_site : ∃ f fd, mg "_law_is_site" = some (.ref f) ∧ FunD K "_law_is_site" "_law_is_site" (defArgs s__law_is_site) (defBody s__law_is_site) (defScope s__law_is_site) [] [] f fd
  d__law_is_globe : ∃ f fd, mg "_law_is_globe" = some (.ref f) ∧ FunD K "_law_is_globe" "_law_is_globe" (defArgs s__law_is_globe) (defBody s__law_is_globe) (defScope s__law_is_globe) [] [] f fd
  d__law_odd : ∃ f fd, mg "_law_odd" = some (.ref f) ∧ FunD K "_law_odd" "_law_odd" (defArgs s__law_odd) (defBody s__law_odd) (defScope s__law_odd) [] [] f fd
  d__law_bent : ∃ f fd, mg "_law_bent" = some (.ref f) ∧ FunD K "_law_bent" "_law_bent" (defArgs s__law_bent) (defBody s__law_bent) (defScope s__law_bent) [] [] f fd
  d__law_judged : ∃ f fd, mg "_law_judged" = some (.ref f) ∧ FunD K "_law_judged" "_law_judged" (defArgs s__law_judged) (defBody s__law_judged) (defScope s__law_judged) [] [] f fd
  d__law_right : ∃ f fd, mg "_law_right" = some (.ref f) ∧ FunD K "_law_right" "_law_right" (defArgs s__law_right) (defBody s__law_right) (defScope s__law_right) [] [] f fd
  d_law : ∃ f fd, mg "law" = some (.ref f) ∧ FunD K "law" "law" (defArgs s_law) (defBody s_law) (defScope s_law) [] [] f fd
theorem bb_abs : bootBuiltins ("abs" : Str) = some (.builtin "abs") := by decide +kernel
theorem bb_all : bootBuiltins ("all" : Str) = some (.builtin "all") := by decide +kernel
theorem bt_bool : bootBuiltins ("bool" : Str) = some (.type "bool") := by decide +kernel
theorem bt_int : bootBuiltins ("int" : Str) = some (.type "int") := by decide +kernel
theorem bb_len : bootBuiltins ("len" : Str) = some (.builtin "len") := by decide +kernel
theorem bt_list : bootBuiltins ("list" : Str) = some (.type "list") := by decide +kernel
theorem bb_min : bootBuiltins ("min" : Str) = some (.builtin "min") := by decide +kernel
theorem bb_repr : bootBuiltins ("repr" : Str) = some (.builtin "repr") := by decide +kernel
theorem bt_set : bootBuiltins ("set" : Str) = some (.type "set") := by decide +kernel
theorem bb_sorted : bootBuiltins ("sorted" : Str) = some (.builtin "sorted") := by decide +kernel
theorem bt_str : bootBuiltins ("str" : Str) = some (.type "str") := by decide +kernel
theorem bt_tuple : bootBuiltins ("tuple" : Str) = some (.type "tuple") := by decide +kernel
theorem ok_is_whole {P : Program} {w : World} {K : PySem.W.Frag} {mg : Str → Option Value} {base : Heap} (Z : Facts K mg) : ∃ f fd, Ok P w K mg base 1 "is_whole" ["thing"] s_is_whole f fd F_is_whole := by
  obtain ⟨f, fd, hm, FD⟩ := Z.d_is_whole
  refine ⟨f, fd, hm, FD.kp, FD.bindsN (fun _ _ _ _ _ _ us hl => match us, hl with | [_], _ => rfl), FD, fnP_of (k := 0) (He5.fun_of FD) sc_is_whole fun cdv A outer s H hgd hr0 => ⟨_, ?_, fun _ _ h => h⟩⟩
  have hr := hr0
  have hu := hr.units
  exact bx_one (sx_ret (ex_and (ex_isi (ex_var (pv 0)) rfl Z.f_isinstance rfl Z.f_int bt_int) (ex_and1 (ex_not (ex_isi (ex_var (pv 0)) rfl Z.f_isinstance rfl Z.f_bool bt_bool)))))
theorem ok_is_number {P : Program} {w : World} {K : PySem.W.Frag} {mg : Str → Option Value} {base : Heap} (Z : Facts K mg) : ∃ f fd, Ok P w K mg base 2 "is_number" ["thing"] s_is_number f fd F_is_number := by
  obtain ⟨f, fd, hm, FD⟩ := Z.d_is_number
  obtain ⟨f_is_whole, d_is_whole, F_is_whole⟩ := ok_is_whole (P := P) (w := w) (base := base) Z
  refine ⟨f, fd, hm, FD.kp, FD.bindsN (fun _ _ _ _ _ _ us hl => match us, hl with | [_], _ => rfl), FD, fnP_of (k := 1) (He5.fun_of FD) sc_is_number fun cdv A outer s H hgd hr0 => ⟨_, ?_, fun _ _ h => h⟩⟩
  have hr := hr0
  have hu := hr.units
  exact bx_one (sx_ret (ex_and (ex_call (FnG.mono F_is_whole.run (by decide)) hgd hr F_is_whole.m F_is_whole.kp F_is_whole.b (exv_cons (ex_var (pv 0)) (exv_nil)) (vCons_len vNil_len)) (ex_and1 (ex_cmp o_ge (ex_var (pv 0)) (ex_int) (by rfl)))))
theorem ok_rises {P : Program} {w : World} {K : PySem.W.Frag} {mg : Str → Option Value} {base : Heap} (Z : Facts K mg) : ∃ f fd, Ok P w K mg base 1 "rises" ["some"] s_rises f fd F_rises := by
  obtain ⟨f, fd, hm, FD⟩ := Z.d_rises
  refine ⟨f, fd, hm, FD.kp, FD.bindsN (fun _ _ _ _ _ _ us hl => match us, hl with | [_], _ => rfl), FD, fnP_of (k := 0) (He5.fun_of FD) sc_rises fun cdv A outer s H hgd hr0 => ⟨_, ?_, fun _ _ h => h⟩⟩
  have hr := hr0
  have hu := hr.units
  exact bx_one (sx_ret (ex_callB (c_all rfl) rfl Z.f_all bb_all (exs_cons (ex_lc rfl sc_rises.nd (ix_zip rfl Z.f_zip (exv_cons (ex_var (pv 0)) (exv_cons (ex_slice (ex_var (pv 0)) (po1 (ex_int)) po0) (exv_nil)))) (own := [(("one" : Str), 1), (("other" : Str), 2)]) (blk_of rfl rfl) (by decide) (fun _ _ _ _ _ => gx_tup 2 rfl (gxs_cons (gx_name (pg_name sc_rises.nd rfl (.inl rfl))) (gxs_cons (gx_name (pg_name sc_rises.nd rfl (.inl rfl))) (gxs_nil))) (gsCons_len (gsCons_len gsNil_len))) (fun _ _ _ _ _ => pts0) (fun _ _ _ _ _ => ex_cmp o_lt (ex_var (pv 1)) (ex_var (pv 2)) (by rfl))) (exs_nil))))
theorem ok_is_key {P : Program} {w : World} {K : PySem.W.Frag} {mg : Str → Option Value} {base : Heap} (Z : Facts K mg) : ∃ f fd, Ok P w K mg base 3 "is_key" ["thing"] s_is_key f fd F_is_key := by
  obtain ⟨f, fd, hm, FD⟩ := Z.d_is_key
  obtain ⟨t_KEY_FIELDS, c_KEY_FIELDS⟩ := Z.c_KEY_FIELDS
  obtain ⟨f_is_number, d_is_number, F_is_number⟩ := ok_is_number (P := P) (w := w) (base := base) Z
  refine ⟨f, fd, hm, FD.kp, FD.bindsN (fun _ _ _ _ _ _ us hl => match us, hl with | [_], _ => rfl), FD, fnP_of (k := 2) (He5.fun_of FD) sc_is_key fun cdv A outer s H hgd hr0 => ⟨_, ?_, fun _ _ h => h⟩⟩
  have hr := hr0
  have hu := hr.units
  exact bx_one (sx_ret (ex_and (ex_isi (ex_var (pv 0)) rfl Z.f_isinstance rfl Z.f_tuple bt_tuple) (ex_and (ex_cmp (o_eq hu) (ex_callB c_len rfl Z.f_len bb_len (exs_cons (ex_var (pv 0)) (exs_nil))) (ex_glob c_KEY_FIELDS (v := .int 2) ⟨_, rfl⟩ (fun _ => .int _)) (by rfl)) (ex_and1 (ex_callB (c_all rfl) rfl Z.f_all bb_all (exs_cons (ex_lc rfl sc_is_key.nd (KV.ix_seq (ex_var (pv 0))) (own := [(("part" : Str), 1)]) (blk_of rfl rfl) (by decide) (fun _ _ _ _ _ => gx_name (pg_name sc_is_key.nd rfl (.inl rfl))) (fun _ _ _ _ _ => pts0) (fun _ _ _ _ _ => ex_call (FnG.mono F_is_number.run (by decide)) hgd hr F_is_number.m F_is_number.kp F_is_number.b (exv_cons (ex_var (pv 1)) (exv_nil)) (vCons_len vNil_len))) (exs_nil)))))))
theorem ok_are_keys {P : Program} {w : World} {K : PySem.W.Frag} {mg : Str → Option Value} {base : Heap} (Z : Facts K mg) : ∃ f fd, Ok P w K mg base 4 "are_keys" ["thing"] s_are_keys f fd F_are_keys := by
  obtain ⟨f, fd, hm, FD⟩ := Z.d_are_keys
  obtain ⟨f_is_key, d_is_key, F_is_key⟩ := ok_is_key (P := P) (w := w) (base := base) Z
  obtain ⟨f_rises, d_rises, F_rises⟩ := ok_rises (P := P) (w := w) (base := base) Z
  refine ⟨f, fd, hm, FD.kp, FD.bindsN (fun _ _ _ _ _ _ us hl => match us, hl with | [_], _ => rfl), FD, fnP_of (k := 3) (He5.fun_of FD) sc_are_keys fun cdv A outer s H hgd hr0 => ⟨_, ?_, fun _ _ h => h⟩⟩
  have hr := hr0
  have hu := hr.units
  exact bx_cons (sx_if (tx_of_wx (wx_or (tx_not (tx_val (ex_isi (ex_var (pv 0)) rfl Z.f_isinstance rfl Z.f_tuple bt_tuple))) (wx_or1 (tx_not (tx_val (ex_callB (c_all rfl) rfl Z.f_all bb_all (exs_cons (ex_lc rfl sc_are_keys.nd (KV.ix_seq (ex_var (pv 0))) (own := [(("part" : Str), 1)]) (blk_of rfl rfl) (by decide) (fun _ _ _ _ _ => gx_name (pg_name sc_are_keys.nd rfl (.inl rfl))) (fun _ _ _ _ _ => pts0) (fun _ _ _ _ _ => ex_call (FnG.mono F_is_key.run (by decide)) hgd hr F_is_key.m F_is_key.kp F_is_key.b (exv_cons (ex_var (pv 1)) (exv_nil)) (vCons_len vNil_len))) (exs_nil)))))))) (bx_one (sx_ret (ex_bl))) (bx_nil)) (bx_one (sx_ret (ex_call (FnG.mono F_rises.run (by decide)) hgd hr F_rises.m F_rises.kp F_rises.b (exv_cons (ex_lc rfl sc_are_keys.nd (KV.ix_seq (ex_var (pv 0))) (own := [(("number" : Str), 2), (("way" : Str), 3)]) (blk_of rfl rfl) (by decide) (fun _ _ _ _ _ => gx_tup 2 rfl (gxs_cons (gx_name (pg_name sc_are_keys.nd rfl (.inl rfl))) (gxs_cons (gx_name (pg_name sc_are_keys.nd rfl (.inl rfl))) (gxs_nil))) (gsCons_len (gsCons_len gsNil_len))) (fun _ _ _ _ _ => pts0) (fun _ _ _ _ _ => ex_var (pv 2))) (exv_nil)) (vCons_len vNil_len))))
theorem ok_are_numbers {P : Program} {w : World} {K : PySem.W.Frag} {mg : Str → Option Value} {base : Heap} (Z : Facts K mg) : ∃ f fd, Ok P w K mg base 2 "are_numbers" ["thing"] s_are_numbers f fd F_are_numbers := by
  obtain ⟨f, fd, hm, FD⟩ := Z.d_are_numbers
  obtain ⟨f_is_whole, d_is_whole, F_is_whole⟩ := ok_is_whole (P := P) (w := w) (base := base) Z
  obtain ⟨f_rises, d_rises, F_rises⟩ := ok_rises (P := P) (w := w) (base := base) Z
  refine ⟨f, fd, hm, FD.kp, FD.bindsN (fun _ _ _ _ _ _ us hl => match us, hl with | [_], _ => rfl), FD, fnP_of (k := 1) (He5.fun_of FD) sc_are_numbers fun cdv A outer s H hgd hr0 => ⟨_, ?_, fun _ _ h => h⟩⟩
  have hr := hr0
  have hu := hr.units
  exact bx_one (sx_ret (ex_and (ex_isi (ex_var (pv 0)) rfl Z.f_isinstance rfl Z.f_tuple bt_tuple) (ex_and (ex_callB (c_all rfl) rfl Z.f_all bb_all (exs_cons (ex_lc rfl sc_are_numbers.nd (KV.ix_seq (ex_var (pv 0))) (own := [(("part" : Str), 1)]) (blk_of rfl rfl) (by decide) (fun _ _ _ _ _ => gx_name (pg_name sc_are_numbers.nd rfl (.inl rfl))) (fun _ _ _ _ _ => pts0) (fun _ _ _ _ _ => ex_call (FnG.mono F_is_whole.run (by decide)) hgd hr F_is_whole.m F_is_whole.kp F_is_whole.b (exv_cons (ex_var (pv 1)) (exv_nil)) (vCons_len vNil_len))) (exs_nil))) (ex_and1 (ex_call (FnG.mono F_rises.run (by decide)) hgd hr F_rises.m F_rises.kp F_rises.b (exv_cons (ex_var (pv 0)) (exv_nil)) (vCons_len vNil_len))))))
theorem ok_is_version {P : Program} {w : World} {K : PySem.W.Frag} {mg : Str → Option Value} {base : Heap} (Z : Facts K mg) : ∃ f fd, Ok P w K mg base 5 "is_version" ["thing"] s_is_version f fd F_is_version := by
  obtain ⟨f, fd, hm, FD⟩ := Z.d_is_version
  obtain ⟨t_VERSION_FIELDS, c_VERSION_FIELDS⟩ := Z.c_VERSION_FIELDS
  obtain ⟨f_are_keys, d_are_keys, F_are_keys⟩ := ok_are_keys (P := P) (w := w) (base := base) Z
  obtain ⟨f_are_numbers, d_are_numbers, F_are_numbers⟩ := ok_are_numbers (P := P) (w := w) (base := base) Z
  refine ⟨f, fd, hm, FD.kp, FD.bindsN (fun _ _ _ _ _ _ us hl => match us, hl with | [_], _ => rfl), FD, fnP_of (k := 4) (He5.fun_of FD) sc_is_version fun cdv A outer s H hgd hr0 => ⟨_, ?_, fun _ _ h => h⟩⟩
  have hr := hr0
  have hu := hr.units
  exact bx_cons (sx_if (tx_of_wx (wx_or (tx_not (tx_val (ex_isi (ex_var (pv 0)) rfl Z.f_isinstance rfl Z.f_tuple bt_tuple))) (wx_or1 (tx_cmp (o_ne hu) (ex_callB c_len rfl Z.f_len bb_len (exs_cons (ex_var (pv 0)) (exs_nil))) (ex_glob c_VERSION_FIELDS (v := .int 5) ⟨_, rfl⟩ (fun _ => .int _)) (by rfl))))) (bx_one (sx_ret (ex_bl))) (bx_nil)) (bx_cons (sx_asg (ex_var (pv 0)) (gx_tup 5 rfl (gxs_cons (gx_name (pg_name sc_is_version.nd rfl (.inl rfl))) (gxs_cons (gx_name (pg_name sc_is_version.nd rfl (.inl rfl))) (gxs_cons (gx_name (pg_name sc_is_version.nd rfl (.inl rfl))) (gxs_cons (gx_name (pg_name sc_is_version.nd rfl (.inl rfl))) (gxs_cons (gx_name (pg_name sc_is_version.nd rfl (.inl rfl))) (gxs_nil)))))) (gsCons_len (gsCons_len (gsCons_len (gsCons_len (gsCons_len gsNil_len))))))) (bx_cons (sx_if (tx_of_wx (wx_or (tx_not (tx_val (ex_call (FnG.mono F_are_keys.run (by decide)) hgd hr F_are_keys.m F_are_keys.kp F_are_keys.b (exv_cons (ex_var (pv 1)) (exv_nil)) (vCons_len vNil_len)))) (wx_or (tx_not (tx_val (ex_call (FnG.mono F_are_numbers.run (by decide)) hgd hr F_are_numbers.m F_are_numbers.kp F_are_numbers.b (exv_cons (ex_var (pv 2)) (exv_nil)) (vCons_len vNil_len)))) (wx_or (tx_not (tx_val (ex_call (FnG.mono F_are_numbers.run (by decide)) hgd hr F_are_numbers.m F_are_numbers.kp F_are_numbers.b (exv_cons (ex_var (pv 4)) (exv_nil)) (vCons_len vNil_len)))) (wx_or1 (tx_not (tx_val (ex_call (FnG.mono F_are_numbers.run (by decide)) hgd hr F_are_numbers.m F_are_numbers.kp F_are_numbers.b (exv_cons (ex_var (pv 5)) (exv_nil)) (vCons_len vNil_len))))))))) (bx_one (sx_ret (ex_bl))) (bx_nil)) (bx_cons (sx_set sc_is_version.nd rfl (.inr rfl) (ex_lc rfl sc_is_version.nd (KV.ix_seq (ex_var (pv 1))) (own := [(("number" : Str), 7), (("way" : Str), 8)]) (blk_of rfl rfl) (by decide) (fun _ _ _ _ _ => gx_tup 2 rfl (gxs_cons (gx_name (pg_name sc_is_version.nd rfl (.inl rfl))) (gxs_cons (gx_name (pg_name sc_is_version.nd rfl (.inl rfl))) (gxs_nil))) (gsCons_len (gsCons_len gsNil_len))) (fun _ _ _ _ _ => pts0) (fun _ _ _ _ _ => ex_var (pv 7)))) (bx_one (sx_ret (ex_and (ex_callB (c_all rfl) rfl Z.f_all bb_all (exs_cons (ex_lc rfl sc_is_version.nd (KV.ix_seq (ex_var (pv 5))) (own := [(("number" : Str), 7)]) (blk_of rfl rfl) (by decide) (fun _ _ _ _ _ => gx_name (pg_name sc_is_version.nd rfl (.inl rfl))) (fun _ _ _ _ _ => pts0) (fun _ _ _ _ _ => ex_cmp (o_in hu) (ex_var (pv 7)) (ex_var (pv 6)) (by rfl))) (exs_nil))) (ex_and1 (ex_or (ex_cmp o_isN (ex_var (pv 3)) (ex_non) (by rfl)) (ex_and1 (ex_call (FnG.mono F_are_keys.run (by decide)) hgd hr F_are_keys.m F_are_keys.kp F_are_keys.b (exv_cons (ex_var (pv 3)) (exv_nil)) (vCons_len vNil_len)))))))))))
theorem ok_is_line {P : Program} {w : World} {K : PySem.W.Frag} {mg : Str → Option Value} {base : Heap} (Z : Facts K mg) : ∃ f fd, Ok P w K mg base 6 "is_line" ["thing"] s_is_line f fd F_is_line := by
  obtain ⟨f, fd, hm, FD⟩ := Z.d_is_line
  obtain ⟨f_is_number, d_is_number, F_is_number⟩ := ok_is_number (P := P) (w := w) (base := base) Z
  obtain ⟨f_is_version, d_is_version, F_is_version⟩ := ok_is_version (P := P) (w := w) (base := base) Z
  obtain ⟨f_rises, d_rises, F_rises⟩ := ok_rises (P := P) (w := w) (base := base) Z
  refine ⟨f, fd, hm, FD.kp, FD.bindsN (fun _ _ _ _ _ _ us hl => match us, hl with | [_], _ => rfl), FD, fnP_of (k := 5) (He5.fun_of FD) sc_is_line fun cdv A outer s H hgd hr0 => ⟨_, ?_, fun _ _ h => h⟩⟩
  have hr := hr0
  have hu := hr.units
  exact bx_cons (sx_if (tx_of_wx (wx_or (tx_not (tx_val (ex_isi (ex_var (pv 0)) rfl Z.f_isinstance rfl Z.f_tuple bt_tuple))) (wx_or1 (tx_cmp (o_eq hu) (ex_var (pv 0)) (ex_tup (exv_nil)) (by rfl))))) (bx_one (sx_ret (ex_bl))) (bx_nil)) (bx_cons (sx_for PassesOwn.never rfl (KV.ix_seq (ex_var (pv 0))) (gx_name (pg_name sc_is_line.nd rfl (.inl rfl))) (bx_one (sx_if (tx_of_wx (wx_or (tx_not (tx_val (ex_isi (ex_var (pv 1)) rfl Z.f_isinstance rfl Z.f_tuple bt_tuple))) (wx_or (tx_cmp (o_ne hu) (ex_callB c_len rfl Z.f_len bb_len (exs_cons (ex_var (pv 1)) (exs_nil))) (ex_int) (by rfl)) (wx_or (tx_not (tx_val (ex_call (FnG.mono F_is_number.run (by decide)) hgd hr F_is_number.m F_is_number.kp F_is_number.b (exv_cons (ex_ix (ex_var (pv 1)) (ex_int) (fun _ _ => rfl)) (exv_nil)) (vCons_len vNil_len)))) (wx_or1 (tx_not (tx_val (ex_call (FnG.mono F_is_version.run (by decide)) hgd hr F_is_version.m F_is_version.kp F_is_version.b (exv_cons (ex_ix (ex_var (pv 1)) (ex_int) (fun _ _ => rfl)) (exv_nil)) (vCons_len vNil_len))))))))) (bx_one (sx_ret (ex_bl))) (bx_nil)))) (bx_cons (sx_setLc rfl sc_is_line.nd rfl rfl rfl (KV.ix_seq (ex_var (pv 0))) (own := [(("time" : Str), 3), (("version" : Str), 4)]) (blk_of rfl rfl) (by decide) (fun _ _ _ _ _ => gx_tup 2 rfl (gxs_cons (gx_name (pg_name sc_is_line.nd rfl (.inl rfl))) (gxs_cons (gx_name (pg_name sc_is_line.nd rfl (.inl rfl))) (gxs_nil))) (gsCons_len (gsCons_len gsNil_len))) (fun _ _ _ _ _ => pts0) (fun _ _ _ _ _ => ex_var (pv 3))) (bx_one (sx_ret (ex_and (ex_cmp (o_eq hu) (ex_ix (ex_var (pv 2)) (ex_int) (fun _ _ => rfl)) (ex_int) (by rfl)) (ex_and1 (ex_call (FnG.mono F_rises.run (by decide)) hgd hr F_rises.m F_rises.kp F_rises.b (exv_cons (ex_var (pv 2)) (exv_nil)) (vCons_len vNil_len))))))))
theorem ok_is_zone {P : Program} {w : World} {K : PySem.W.Frag} {mg : Str → Option Value} {base : Heap} (Z : Facts K mg) : ∃ f fd, Ok P w K mg base 7 "is_zone" ["thing"] s_is_zone f fd F_is_zone := by
  obtain ⟨f, fd, hm, FD⟩ := Z.d_is_zone
  obtain ⟨t_ZONE_FIELDS, c_ZONE_FIELDS⟩ := Z.c_ZONE_FIELDS
  obtain ⟨f_is_line, d_is_line, F_is_line⟩ := ok_is_line (P := P) (w := w) (base := base) Z
  obtain ⟨f_is_number, d_is_number, F_is_number⟩ := ok_is_number (P := P) (w := w) (base := base) Z
  refine ⟨f, fd, hm, FD.kp, FD.bindsN (fun _ _ _ _ _ _ us hl => match us, hl with | [_], _ => rfl), FD, fnP_of (k := 6) (He5.fun_of FD) sc_is_zone fun cdv A outer s H hgd hr0 => ⟨_, ?_, fun _ _ h => h⟩⟩
  have hr := hr0
  have hu := hr.units
  exact bx_cons (sx_if (tx_of_wx (wx_or (tx_not (tx_val (ex_isi (ex_var (pv 0)) rfl Z.f_isinstance rfl Z.f_tuple bt_tuple))) (wx_or (tx_cmp (o_ne hu) (ex_callB c_len rfl Z.f_len bb_len (exs_cons (ex_var (pv 0)) (exs_nil))) (ex_glob c_ZONE_FIELDS (v := .int 6) ⟨_, rfl⟩ (fun _ => .int _)) (by rfl)) (wx_or1 (tx_not (tx_val (ex_call (FnG.mono F_is_line.run (by decide)) hgd hr F_is_line.m F_is_line.kp F_is_line.b (exv_cons (ex_ix (ex_var (pv 0)) (ex_int) (fun _ _ => rfl)) (exv_nil)) (vCons_len vNil_len)))))))) (bx_one (sx_ret (ex_bl))) (bx_nil)) (bx_cons (sx_if (tx_not (tx_val (ex_callB (c_all rfl) rfl Z.f_all bb_all (exs_cons (ex_lc rfl sc_is_zone.nd (KV.ix_seq (ex_slice (ex_var (pv 0)) (po1 (ex_int)) po0)) (own := [(("part" : Str), 6)]) (blk_of rfl rfl) (by decide) (fun _ _ _ _ _ => gx_name (pg_name sc_is_zone.nd rfl (.inl rfl))) (fun _ _ _ _ _ => pts0) (fun _ _ _ _ _ => ex_call (FnG.mono F_is_number.run (by decide)) hgd hr F_is_number.m F_is_number.kp F_is_number.b (exv_cons (ex_var (pv 6)) (exv_nil)) (vCons_len vNil_len))) (exs_nil))))) (bx_one (sx_ret (ex_bl))) (bx_nil)) (bx_cons (sx_asg (ex_slice (ex_var (pv 0)) (po1 (ex_int)) po0) (gx_tup 5 rfl (gxs_cons (gx_name (pg_name sc_is_zone.nd rfl (.inl rfl))) (gxs_cons (gx_name (pg_name sc_is_zone.nd rfl (.inl rfl))) (gxs_cons (gx_name (pg_name sc_is_zone.nd rfl (.inl rfl))) (gxs_cons (gx_name (pg_name sc_is_zone.nd rfl (.inl rfl))) (gxs_cons (gx_name (pg_name sc_is_zone.nd rfl (.inl rfl))) (gxs_nil)))))) (gsCons_len (gsCons_len (gsCons_len (gsCons_len (gsCons_len gsNil_len))))))) (bx_one (sx_ret (ex_and (ex_chain o_le o_le (ex_int) (ex_var (pv 2)) (ex_var (pv 1))) (ex_and (ex_cmp o_ge (ex_var (pv 4)) (ex_int) (by rfl)) (ex_and1 (ex_cmp o_ge (ex_var (pv 5)) (ex_int) (by rfl)))))))))
theorem ok_fits_place {P : Program} {w : World} {K : PySem.W.Frag} {mg : Str → Option Value} {base : Heap} (Z : Facts K mg) : ∃ f fd, Ok P w K mg base 1 "fits_place" ["zone", "is_last"] s_fits_place f fd F_fits_place := by
  obtain ⟨f, fd, hm, FD⟩ := Z.d_fits_place
  refine ⟨f, fd, hm, FD.kp, FD.bindsN (fun _ _ _ _ _ _ us hl => match us, hl with | [_, _], _ => rfl), FD, fnP_of (k := 0) (He5.fun_of FD) sc_fits_place fun cdv A outer s H hgd hr0 => ⟨_, ?_, fun _ _ h => h⟩⟩
  have hr := hr0
  have hu := hr.units
  exact bx_one (sx_ret (ex_callB (c_all rfl) rfl Z.f_all bb_all (exs_cons (ex_lc rfl sc_fits_place.nd (KV.ix_seq (ex_ix (ex_var (pv 0)) (ex_int) (fun _ _ => rfl))) (own := [(("time" : Str), 2), (("version" : Str), 3)]) (blk_of rfl rfl) (by decide) (fun _ _ _ _ _ => gx_tup 2 rfl (gxs_cons (gx_name (pg_name sc_fits_place.nd rfl (.inl rfl))) (gxs_cons (gx_name (pg_name sc_fits_place.nd rfl (.inl rfl))) (gxs_nil))) (gsCons_len (gsCons_len gsNil_len))) (fun _ _ _ _ _ => pts0) (fun _ _ _ _ _ => ex_cmp (o_eq hu) (ex_cmp o_isN (ex_ix (ex_var (pv 3)) (ex_int) (fun _ _ => rfl)) (ex_non) (by rfl)) (ex_var (pv 1)) (by rfl))) (exs_nil))))
theorem ok_is_world {P : Program} {w : World} {K : PySem.W.Frag} {mg : Str → Option Value} {base : Heap} (Z : Facts K mg) : ∃ f fd, Ok P w K mg base 8 "is_world" ["thing"] s_is_world f fd F_is_world := by
  obtain ⟨f, fd, hm, FD⟩ := Z.d_is_world
  have c_RULES := Z.c_RULES
  obtain ⟨t_WORLD_FIELDS, c_WORLD_FIELDS⟩ := Z.c_WORLD_FIELDS
  obtain ⟨f_are_keys, d_are_keys, F_are_keys⟩ := ok_are_keys (P := P) (w := w) (base := base) Z
  obtain ⟨f_fits_place, d_fits_place, F_fits_place⟩ := ok_fits_place (P := P) (w := w) (base := base) Z
  obtain ⟨f_is_zone, d_is_zone, F_is_zone⟩ := ok_is_zone (P := P) (w := w) (base := base) Z
  refine ⟨f, fd, hm, FD.kp, FD.bindsN (fun _ _ _ _ _ _ us hl => match us, hl with | [_], _ => rfl), FD, fnP_of (k := 7) (He5.fun_of FD) sc_is_world fun cdv A outer s H hgd hr0 => ⟨_, ?_, fun _ _ h => h⟩⟩
  have hr := hr0
  have hu := hr.units
  exact bx_cons (sx_if (tx_of_wx (wx_or (tx_not (tx_val (ex_isi (ex_var (pv 0)) rfl Z.f_isinstance rfl Z.f_tuple bt_tuple))) (wx_or1 (tx_cmp (o_ne hu) (ex_callB c_len rfl Z.f_len bb_len (exs_cons (ex_var (pv 0)) (exs_nil))) (ex_glob c_WORLD_FIELDS (v := .int 3) ⟨_, rfl⟩ (fun _ => .int _)) (by rfl))))) (bx_one (sx_ret (ex_bl))) (bx_nil)) (bx_cons (sx_asg (ex_var (pv 0)) (gx_tup 3 rfl (gxs_cons (gx_name (pg_name sc_is_world.nd rfl (.inr rfl))) (gxs_cons (gx_name (pg_name sc_is_world.nd rfl (.inl rfl))) (gxs_cons (gx_name (pg_name sc_is_world.nd rfl (.inl rfl))) (gxs_nil)))) (gsCons_len (gsCons_len (gsCons_len gsNil_len))))) (bx_cons (sx_if (tx_of_wx (wx_or (tx_not (tx_val (ex_isi (ex_var (pv 1)) rfl Z.f_isinstance rfl Z.f_tuple bt_tuple))) (wx_or (tx_cmp (o_eq hu) (ex_var (pv 1)) (ex_tup (exv_nil)) (by rfl)) (wx_or1 (tx_not (tx_val (ex_callB (c_all rfl) rfl Z.f_all bb_all (exs_cons (ex_lc rfl sc_is_world.nd (KV.ix_seq (ex_var (pv 1))) (own := [(("zone" : Str), 4)]) (blk_of rfl rfl) (by decide) (fun _ _ _ _ _ => gx_name (pg_name sc_is_world.nd rfl (.inl rfl))) (fun _ _ _ _ _ => pts0) (fun _ _ _ _ _ => ex_call (FnG.mono F_is_zone.run (by decide)) hgd hr F_is_zone.m F_is_zone.kp F_is_zone.b (exv_cons (ex_var (pv 4)) (exv_nil)) (vCons_len vNil_len))) (exs_nil))))))))) (bx_one (sx_ret (ex_bl))) (bx_nil)) (bx_cons (sx_if (tx_of_wx (wx_or (tx_not (tx_val (ex_call (FnG.mono F_are_keys.run (by decide)) hgd hr F_are_keys.m F_are_keys.kp F_are_keys.b (exv_cons (ex_var (pv 2)) (exv_nil)) (vCons_len vNil_len)))) (wx_or (tx_cmp (o_eq hu) (ex_var (pv 2)) (ex_tup (exv_nil)) (by rfl)) (wx_or (tx_not (tx_val (ex_isi (ex_var (pv 3)) rfl Z.f_isinstance rfl Z.f_str bt_str))) (wx_or1 (tx_cmp (o_notIn hu) (ex_var (pv 3)) (ex_tupc c_RULES) (by rfl))))))) (bx_one (sx_ret (ex_bl))) (bx_nil)) (bx_one (sx_ret (ex_callB (c_all rfl) rfl Z.f_all bb_all (exs_cons (ex_lc rfl sc_is_world.nd (ix_enumT rfl Z.f_enumerate (exv_cons (ex_var (pv 1)) (exv_nil))) (own := [(("at" : Str), 5), (("zone" : Str), 4)]) (blk_of rfl rfl) (by decide) (fun _ _ _ _ _ => gx_tup 2 rfl (gxs_cons (gx_name (pg_name sc_is_world.nd rfl (.inl rfl))) (gxs_cons (gx_name (pg_name sc_is_world.nd rfl (.inl rfl))) (gxs_nil))) (gsCons_len (gsCons_len gsNil_len))) (fun _ _ _ _ _ => pts0) (fun _ _ _ _ _ => ex_call (FnG.mono F_fits_place.run (by decide)) hgd hr F_fits_place.m F_fits_place.kp F_fits_place.b (exv_cons (ex_var (pv 4)) (exv_cons (ex_cmp (o_eq hu) (ex_var (pv 5)) (ex_bin o_sub (ex_callB c_len rfl Z.f_len bb_len (exs_cons (ex_var (pv 1)) (exs_nil))) (ex_int)) (by rfl)) (exv_nil))) (vCons_len (vCons_len vNil_len)))) (exs_nil))))))))
theorem ok__law_box {P : Program} {w : World} {K : PySem.W.Frag} {mg : Str → Option Value} {base : Heap} (Z : Facts K mg) : ∃ f fd, Ok P w K mg base 1 "_law_box" ["_law_script", "_law_k"] s__law_box f fd F__law_box := by
  obtain ⟨f, fd, hm, FD⟩ := Z.d__law_box
  refine ⟨f, fd, hm, FD.kp, FD.bindsN (fun _ _ _ _ _ _ us hl => match us, hl with | [_, _], _ => rfl), FD, fnP_of (k := 0) (He5.fun_of FD) sc__law_box fun cdv A outer s H hgd hr0 => ⟨_, ?_, fun _ _ h => h⟩⟩
  have hr := hr0
  have hu := hr.units
  exact bx_cons (sx_set sc__law_box.nd rfl (.inl rfl) (ex_if (tx_cmp o_lt (ex_var (pv 1)) (ex_callB c_len rfl Z.f_len bb_len (exs_cons (ex_var (pv 0)) (exs_nil))) (by rfl)) (ex_ix (ex_var (pv 0)) (ex_var (pv 1)) (fun _ _ => rfl)) (ex_int))) (bx_one (sx_ret (ex_lst (exv_cons (ex_bin o_mul (ex_callB c_abs rfl Z.f_abs bb_abs (exs_cons (ex_var (pv 2)) (exs_nil))) (ex_callTy c_int rfl Z.f_int bt_int (exs_cons (ex_cmp o_ge (ex_callB c_abs rfl Z.f_abs bb_abs (exs_cons (ex_var (pv 2)) (exs_nil))) (ex_bin o_pow (ex_int) (ex_int)) (by rfl)) (exs_nil)))) (exv_cons (ex_bin o_add (ex_bin o_add (ex_bin o_mod (ex_callTy c_int rfl Z.f_int bt_int (exs_cons (ex_var (pv 2)) (exs_nil))) (ex_int)) (ex_bin o_mul (ex_int) (ex_var (pv 1)))) (ex_int)) (exv_cons (ex_int) (exv_nil)))))))
theorem ok__law_take {P : Program} {w : World} {K : PySem.W.Frag} {mg : Str → Option Value} {base : Heap} (Z : Facts K mg) : ∃ f fd, OkB P w K mg base 1 "_law_take" ["_law_box_here", "_law_below"] s__law_take f fd G__law_take := by
  obtain ⟨f, fd, hm, FD⟩ := Z.d__law_take
  refine ⟨f, fd, hm, FD.kp, FD.bindsN (fun _ _ _ _ _ _ us hl => match us, hl with | [_, _], _ => rfl), FD, fnB_of (k := 0) (He5.fun_of FD) sc__law_take fun cdv A outer s H hgd hr0 => ⟨_, ?_, fun _ _ _ h => h⟩⟩
  have hr := hr0
  have hu := hr.units
  exact bx_cons (sx_if (tx_cmp o_gt (ex_ix (ex_var (pv 0)) (ex_int) (fun _ _ => rfl)) (ex_int) (by rfl)) (bx_cons (sx_set sc__law_take.nd rfl (.inl rfl) (ex_bin o_mod (ex_callTy c_int rfl Z.f_int bt_int (exs_cons (ex_ix (ex_var (pv 0)) (ex_int) (fun _ _ => rfl)) (exs_nil))) (ex_var (pv 1)))) (bx_cons (sx_setIx (pv 0) (ex_bin o_div (ex_ix (ex_var (pv 0)) (ex_int) (fun _ _ => rfl)) (ex_var (pv 1))) (ex_int)) (bx_one (sx_ret (ex_var (pv 2)))))) (bx_nil)) (bx_cons (sx_setIx (pv 0) (ex_bin o_add (ex_ix (ex_var (pv 0)) (ex_int) (fun _ _ => rfl)) (ex_int)) (ex_int)) (bx_cons (sx_set sc__law_take.nd rfl (.inl rfl) (ex_bin o_mod (ex_callTy c_int rfl Z.f_int bt_int (exs_cons (ex_bin o_mul (ex_bin o_add (ex_ix (ex_var (pv 0)) (ex_int) (fun _ _ => rfl)) (ex_bin o_mul (ex_int) (ex_ix (ex_var (pv 0)) (ex_int) (fun _ _ => rfl)))) (ex_bin o_add (ex_int) (ex_ix (ex_var (pv 0)) (ex_int) (fun _ _ => rfl)))) (exs_nil))) (ex_int))) (bx_cons (sx_set sc__law_take.nd rfl (.inl rfl) (ex_bin o_add (ex_bin o_mod (ex_callTy c_int rfl Z.f_int bt_int (exs_cons (ex_var (pv 3)) (exs_nil))) (ex_int)) (ex_int))) (bx_cons (sx_set sc__law_take.nd rfl (.inl rfl) (ex_bin o_mod (ex_callTy c_int rfl Z.f_int bt_int (exs_cons (ex_bin o_mul (ex_bin o_add (ex_bin o_add (ex_var (pv 3)) (ex_ix (ex_var (pv 0)) (ex_int) (fun _ _ => rfl))) (ex_bin o_div (ex_ix (ex_var (pv 0)) (ex_int) (fun _ _ => rfl)) (ex_int))) (ex_var (pv 4))) (exs_nil))) (ex_int))) (bx_one (sx_ret (ex_bin o_mod (ex_callTy c_int rfl Z.f_int bt_int (exs_cons (ex_bin o_div (ex_bin o_mod (ex_callTy c_int rfl Z.f_int bt_int (exs_cons (ex_bin o_add (ex_bin o_mul (ex_var (pv 5)) (ex_int)) (ex_var (pv 3))) (exs_nil))) (ex_int)) (ex_int)) (exs_nil))) (ex_var (pv 1)))))))))
theorem ok__law_pick {P : Program} {w : World} {K : PySem.W.Frag} {mg : Str → Option Value} {base : Heap} (Z : Facts K mg) : ∃ f fd, OkB P w K mg base 2 "_law_pick" ["_law_box_here", "_law_some"] s__law_pick f fd G__law_pick := by
  obtain ⟨f, fd, hm, FD⟩ := Z.d__law_pick
  obtain ⟨f__law_take, d__law_take, F__law_take⟩ := ok__law_take (P := P) (w := w) (base := base) Z
  refine ⟨f, fd, hm, FD.kp, FD.bindsN (fun _ _ _ _ _ _ us hl => match us, hl with | [_, _], _ => rfl), FD, fnB_of (k := 1) (He5.fun_of FD) sc__law_pick fun cdv A outer s H hgd hr0 => ⟨_, ?_, fun _ _ _ h => h⟩⟩
  have hr := hr0
  have hu := hr.units
  exact bx_one (sx_ret (ex_ix (ex_var (pv 1)) (ex_callBx (FnG.mono F__law_take.run (by decide)) hgd hr F__law_take.m F__law_take.kp F__law_take.b (pv 0) (exv_cons (ex_callB c_len rfl Z.f_len bb_len (exs_cons (ex_var (pv 1)) (exs_nil))) (exv_nil)) (fun r ds r' h => by have := (vCons_len vNil_len) r ds r' h; show ds.length + 1 = 2; omega)) (fun _ _ => rfl)))
theorem ok__law_same {P : Program} {w : World} {K : PySem.W.Frag} {mg : Str → Option Value} {base : Heap} (Z : Facts K mg) : ∃ f fd, Ok P w K mg base 12 "_law_same" ["_law_found", "_law_due"] s__law_same f fd F__law_same := by
  obtain ⟨f, fd, hm, FD⟩ := Z.d__law_same
  have hk := FD.kp
  have hb : Binds K fd ["_law_found", "_law_due"] [] := FD.bindsN (fun _ _ _ _ _ _ us hl => match us, hl with | [_, _], _ => rfl)
  refine ⟨f, fd, hm, hk, hb, FD, ?_⟩
  have all : ∀ n : Nat, FnP P w K mg base (n + 0) f fd ["_law_found", "_law_due"] (Fz__law_same n) := fun n => by
    induction n with
    | zero => exact fnP_none
    | succ n hF =>
      refine FnG.mono (fnP_of (k := n + 0) (He5.fun_of FD) sc__law_same fun cdv A outer s H hgd hr => ⟨_, ?_, fun _ _ h => h⟩) (by omega)
      have hu := hr.units
      exact bx_cons (sx_if (tx_val (ex_isi2 (ex_var (pv 1)) rfl Z.f_isinstance rfl Z.f_list bt_list rfl Z.f_tuple bt_tuple)) (bx_cons (sx_if (tx_of_wx (wx_or (tx_cmp (o_ne hu) (ex_isi (ex_var (pv 0)) rfl Z.f_isinstance rfl Z.f_list bt_list) (ex_isi (ex_var (pv 1)) rfl Z.f_isinstance rfl Z.f_list bt_list) (by rfl)) (wx_or1 (tx_cmp (o_ne hu) (ex_isi (ex_var (pv 0)) rfl Z.f_isinstance rfl Z.f_tuple bt_tuple) (ex_isi (ex_var (pv 1)) rfl Z.f_isinstance rfl Z.f_tuple bt_tuple) (by rfl))))) (bx_one (sx_ret (ex_bl))) (bx_nil)) (bx_one (sx_ret (ex_and (ex_cmp (o_eq hu) (ex_callB c_len rfl Z.f_len bb_len (exs_cons (ex_var (pv 0)) (exs_nil))) (ex_callB c_len rfl Z.f_len bb_len (exs_cons (ex_var (pv 1)) (exs_nil))) (by rfl)) (ex_and1 (ex_callB (c_all rfl) rfl Z.f_all bb_all (exs_cons (ex_lc rfl sc__law_same.nd (ix_zip rfl Z.f_zip (exv_cons (ex_var (pv 0)) (exv_cons (ex_var (pv 1)) (exv_nil)))) (own := [(("_law_mine" : Str), 2), (("_law_its" : Str), 3)]) (blk_of rfl rfl) (by decide) (fun _ _ _ _ _ => gx_tup 2 rfl (gxs_cons (gx_name (pg_name sc__law_same.nd rfl (.inl rfl))) (gxs_cons (gx_name (pg_name sc__law_same.nd rfl (.inl rfl))) (gxs_nil))) (gsCons_len (gsCons_len gsNil_len))) (fun _ _ _ _ _ => pts0) (fun _ _ _ _ _ => ex_call hF hgd hr hm hk hb (exv_cons (ex_var (pv 2)) (exv_cons (ex_var (pv 3)) (exv_nil))) (vCons_len (vCons_len vNil_len)))) (exs_nil)))))))) (bx_nil)) (bx_cons (sx_if (tx_of_wx (wx_or (tx_cmp o_isN (ex_var (pv 1)) (ex_non) (by rfl)) (wx_or1 (tx_val (ex_isi2 (ex_var (pv 1)) rfl Z.f_isinstance rfl Z.f_bool bt_bool rfl Z.f_str bt_str))))) (bx_one (sx_ret (ex_and (ex_cmp (o_eq hu) (ex_var (pv 0)) (ex_var (pv 1)) (by rfl)) (ex_and (ex_cmp (o_eq hu) (ex_isi (ex_var (pv 0)) rfl Z.f_isinstance rfl Z.f_bool bt_bool) (ex_isi (ex_var (pv 1)) rfl Z.f_isinstance rfl Z.f_bool bt_bool) (by rfl)) (ex_and1 (ex_cmp (o_eq hu) (ex_cmp o_isN (ex_var (pv 0)) (ex_non) (by rfl)) (ex_cmp o_isN (ex_var (pv 1)) (ex_non) (by rfl)) (by rfl))))))) (bx_nil)) (bx_one (sx_ret (ex_and (ex_isi (ex_var (pv 0)) rfl Z.f_isinstance rfl Z.f_int bt_int) (ex_and (ex_not (ex_isi (ex_var (pv 0)) rfl Z.f_isinstance rfl Z.f_bool bt_bool)) (ex_and1 (ex_cmp (o_eq hu) (ex_var (pv 0)) (ex_var (pv 1)) (by rfl))))))))
  exact all 12
theorem ok__law_row {P : Program} {w : World} {K : PySem.W.Frag} {mg : Str → Option Value} {base : Heap} (Z : Facts K mg) : ∃ f fd, Ok P w K mg base 1 "_law_row" ["_law_some"] s__law_row f fd F__law_row := by
  obtain ⟨f, fd, hm, FD⟩ := Z.d__law_row
  refine ⟨f, fd, hm, FD.kp, FD.bindsN (fun _ _ _ _ _ _ us hl => match us, hl with | [_], _ => rfl), FD, fnP_of (k := 0) (He5.fun_of FD) sc__law_row fun cdv A outer s H hgd hr0 => ⟨_, ?_, fun _ _ h => h⟩⟩
  have hr := hr0
  have hu := hr.units
  exact bx_one (sx_ret (ex_callTy c_tuple rfl Z.f_tuple bt_tuple (exs_cons (ex_ss rfl hu rfl Z.f_sorted rfl Z.f_set bb_sorted bt_set (ex_var (pv 0))) (exs_nil))))
theorem ok__law_begin_of {P : Program} {w : World} {K : PySem.W.Frag} {mg : Str → Option Value} {base : Heap} (Z : Facts K mg) : ∃ f fd, OkB P w K mg base 3 "_law_begin_of" ["_law_box_here", "_law_trust_so", "_law_is_last"] s__law_begin_of f fd G__law_begin_of := by
  obtain ⟨f, fd, hm, FD⟩ := Z.d__law_begin_of
  obtain ⟨f__law_pick, d__law_pick, F__law_pick⟩ := ok__law_pick (P := P) (w := w) (base := base) Z
  obtain ⟨f__law_row, d__law_row, F__law_row⟩ := ok__law_row (P := P) (w := w) (base := base) Z
  obtain ⟨f__law_take, d__law_take, F__law_take⟩ := ok__law_take (P := P) (w := w) (base := base) Z
  refine ⟨f, fd, hm, FD.kp, FD.bindsN (fun _ _ _ _ _ _ us hl => match us, hl with | [_, _, _], _ => rfl), FD, fnB_of (k := 2) (He5.fun_of FD) sc__law_begin_of fun cdv A outer s H hgd hr0 => ⟨_, ?_, fun _ _ _ h => h⟩⟩
  have hr := hr0
  have hu := hr.units
  exact bx_cons (sx_set sc__law_begin_of.nd rfl (.inl rfl) (ex_callTy c_list rfl Z.f_list bt_list (exs_cons (ex_var (pv 1)) (exs_nil)))) (bx_cons (sx_if (tx_cmp (o_eq hu) (ex_callBx (FnG.mono F__law_take.run (by decide)) hgd hr F__law_take.m F__law_take.kp F__law_take.b (pv 0) (exv_cons (ex_int) (exv_nil)) (fun r ds r' h => by have := (vCons_len vNil_len) r ds r' h; show ds.length + 1 = 2; omega)) (ex_int) (by rfl)) (bx_one (sx_expr (ex_app (pv 3) (ex_tup (exv_cons (ex_int) (exv_cons (ex_callBx (FnG.mono F__law_take.run (by decide)) hgd hr F__law_take.m F__law_take.kp F__law_take.b (pv 0) (exv_cons (ex_int) (exv_nil)) (fun r ds r' h => by have := (vCons_len vNil_len) r ds r' h; show ds.length + 1 = 2; omega)) (exv_nil))))))) (bx_nil)) (bx_cons (sx_setLc rfl sc__law_begin_of.nd rfl rfl rfl (KV.ix_seq (ex_var (pv 1))) (own := [(("_law_key" : Str), 7)]) (blk_of rfl rfl) (by decide) (fun _ _ _ _ _ => gx_name (pg_name sc__law_begin_of.nd rfl (.inl rfl))) (fun _ _ _ _ _ => pts0) (fun _ _ _ _ _ => ex_ix (ex_var (pv 7)) (ex_int) (fun _ _ => rfl))) (bx_cons (sx_set sc__law_begin_of.nd rfl (.inl rfl) (ex_bin o_add (ex_lc rfl sc__law_begin_of.nd (KV.ix_seq (ex_var (pv 3))) (own := [(("_law_key" : Str), 7)]) (blk_of rfl rfl) (by decide) (fun _ _ _ _ _ => gx_name (pg_name sc__law_begin_of.nd rfl (.inl rfl))) (fun _ _ _ _ _ => pts1 (tx_cmp o_gt (ex_callBx (FnG.mono F__law_take.run (by decide)) hgd hr F__law_take.m F__law_take.kp F__law_take.b (pv 0) (exv_cons (ex_int) (exv_nil)) (fun r ds r' h => by have := (vCons_len vNil_len) r ds r' h; show ds.length + 1 = 2; omega)) (ex_int) (by rfl))) (fun _ _ _ _ _ => ex_ix (ex_var (pv 7)) (ex_int) (fun _ _ => rfl))) (ex_var (pv 4)))) (bx_cons (sx_set sc__law_begin_of.nd rfl (.inl rfl) (ex_callBx (FnG.mono F__law_pick.run (by decide)) hgd hr F__law_pick.m F__law_pick.kp F__law_pick.b (pv 0) (exv_cons (ex_lst (exv_cons (ex_tup (exv_cons (ex_tup (exv_cons (ex_int) (exv_cons (ex_int) (exv_nil)))) (exv_nil))) (exv_cons (ex_tup (exv_cons (ex_tup (exv_cons (ex_int) (exv_cons (ex_int) (exv_nil)))) (exv_nil))) (exv_cons (ex_tup (exv_cons (ex_tup (exv_cons (ex_int) (exv_cons (ex_int) (exv_nil)))) (exv_cons (ex_tup (exv_cons (ex_int) (exv_cons (ex_int) (exv_nil)))) (exv_nil)))) (exv_nil))))) (exv_nil)) (fun r ds r' h => by have := (vCons_len vNil_len) r ds r' h; show ds.length + 1 = 2; omega))) (bx_cons (sx_set sc__law_begin_of.nd rfl (.inl rfl) (ex_if (tx_val (ex_var (pv 2))) (ex_non) (ex_var (pv 6)))) (bx_one (sx_ret (ex_tup (exv_cons (ex_call (FnG.mono F__law_row.run (by decide)) hgd hr F__law_row.m F__law_row.kp F__law_row.b (exv_cons (ex_var (pv 3)) (exv_nil)) (vCons_len vNil_len)) (exv_cons (ex_call (FnG.mono F__law_row.run (by decide)) hgd hr F__law_row.m F__law_row.kp F__law_row.b (exv_cons (ex_var (pv 4)) (exv_nil)) (vCons_len vNil_len)) (exv_cons (ex_var (pv 6)) (exv_cons (ex_call (FnG.mono F__law_row.run (by decide)) hgd hr F__law_row.m F__law_row.kp F__law_row.b (exv_cons (ex_var (pv 5)) (exv_nil)) (vCons_len vNil_len)) (exv_cons (ex_tup (exv_nil)) (exv_nil))))))))))))))
theorem ok__law_without {P : Program} {w : World} {K : PySem.W.Frag} {mg : Str → Option Value} {base : Heap} (Z : Facts K mg) : ∃ f fd, Ok P w K mg base 1 "_law_without" ["_law_some", "_law_number"] s__law_without f fd F__law_without := by
  obtain ⟨f, fd, hm, FD⟩ := Z.d__law_without
  refine ⟨f, fd, hm, FD.kp, FD.bindsN (fun _ _ _ _ _ _ us hl => match us, hl with | [_, _], _ => rfl), FD, fnP_of (k := 0) (He5.fun_of FD) sc__law_without fun cdv A outer s H hgd hr0 => ⟨_, ?_, fun _ _ h => h⟩⟩
  have hr := hr0
  have hu := hr.units
  exact bx_one (sx_ret (ex_callTy c_tuple rfl Z.f_tuple bt_tuple (exs_cons (ex_lc rfl sc__law_without.nd (KV.ix_seq (ex_var (pv 0))) (own := [(("_law_own" : Str), 2)]) (blk_of rfl rfl) (by decide) (fun _ _ _ _ _ => gx_name (pg_name sc__law_without.nd rfl (.inl rfl))) (fun _ _ _ _ _ => pts1 (tx_cmp (o_ne hu) (ex_var (pv 2)) (ex_var (pv 1)) (by rfl))) (fun _ _ _ _ _ => ex_var (pv 2))) (exs_nil))))
theorem ok__law_changed {P : Program} {w : World} {K : PySem.W.Frag} {mg : Str → Option Value} {base : Heap} (Z : Facts K mg) : ∃ f fd, OkB P w K mg base 2 "_law_changed" ["_law_box_here", "_law_told_so"] s__law_changed f fd G__law_changed := by
  obtain ⟨f, fd, hm, FD⟩ := Z.d__law_changed
  obtain ⟨f__law_row, d__law_row, F__law_row⟩ := ok__law_row (P := P) (w := w) (base := base) Z
  obtain ⟨f__law_take, d__law_take, F__law_take⟩ := ok__law_take (P := P) (w := w) (base := base) Z
  obtain ⟨f__law_without, d__law_without, F__law_without⟩ := ok__law_without (P := P) (w := w) (base := base) Z
  refine ⟨f, fd, hm, FD.kp, FD.bindsN (fun _ _ _ _ _ _ us hl => match us, hl with | [_, _], _ => rfl), FD, fnB_of (k := 1) (He5.fun_of FD) sc__law_changed fun cdv A outer s H hgd hr0 => ⟨_, ?_, fun _ _ _ h => h⟩⟩
  have hr := hr0
  have hu := hr.units
  exact bx_cons (sx_asg (ex_var (pv 1)) (gx_tup 5 rfl (gxs_cons (gx_name (pg_name sc__law_changed.nd rfl (.inl rfl))) (gxs_cons (gx_name (pg_name sc__law_changed.nd rfl (.inl rfl))) (gxs_cons (gx_name (pg_name sc__law_changed.nd rfl (.inl rfl))) (gxs_cons (gx_name (pg_name sc__law_changed.nd rfl (.inl rfl))) (gxs_cons (gx_name (pg_name sc__law_changed.nd rfl (.inl rfl))) (gxs_nil)))))) (gsCons_len (gsCons_len (gsCons_len (gsCons_len (gsCons_len gsNil_len))))))) (bx_cons (sx_asg (ex_tup (exv_cons (ex_bin o_add (ex_int) (ex_callBx (FnG.mono F__law_take.run (by decide)) hgd hr F__law_take.m F__law_take.kp F__law_take.b (pv 0) (exv_cons (ex_int) (exv_nil)) (fun r ds r' h => by have := (vCons_len vNil_len) r ds r' h; show ds.length + 1 = 2; omega))) (exv_cons (ex_callBx (FnG.mono F__law_take.run (by decide)) hgd hr F__law_take.m F__law_take.kp F__law_take.b (pv 0) (exv_cons (ex_int) (exv_nil)) (fun r ds r' h => by have := (vCons_len vNil_len) r ds r' h; show ds.length + 1 = 2; omega)) (exv_nil)))) (gx_tup 2 rfl (gxs_cons (gx_name (pg_name sc__law_changed.nd rfl (.inr rfl))) (gxs_cons (gx_name (pg_name sc__law_changed.nd rfl (.inl rfl))) (gxs_nil))) (gsCons_len (gsCons_len gsNil_len)))) (bx_cons (sx_setLc rfl sc__law_changed.nd rfl rfl rfl (KV.ix_seq (ex_var (pv 2))) (own := [(("_law_key" : Str), 12)]) (blk_of rfl rfl) (by decide) (fun _ _ _ _ _ => gx_name (pg_name sc__law_changed.nd rfl (.inl rfl))) (fun _ _ _ _ _ => pts1 (tx_cmp (o_eq hu) (ex_ix (ex_var (pv 12)) (ex_int) (fun _ _ => rfl)) (ex_var (pv 7)) (by rfl))) (fun _ _ _ _ _ => ex_var (pv 12))) (bx_cons (sx_if (tx_of_wx (wx_and (tx_cmp o_lt (ex_var (pv 8)) (ex_int) (by rfl)) (wx_and1 (tx_cmp (o_eq hu) (ex_var (pv 9)) (ex_lst (exv_nil)) (by rfl))))) (bx_one (sx_ret (ex_tup (exv_cons (ex_call (FnG.mono F__law_row.run (by decide)) hgd hr F__law_row.m F__law_row.kp F__law_row.b (exv_cons (ex_bin o_add (ex_callTy c_list rfl Z.f_list bt_list (exs_cons (ex_var (pv 2)) (exs_nil))) (ex_lst (exv_cons (ex_tup (exv_cons (ex_var (pv 7)) (exv_cons (ex_callBx (FnG.mono F__law_take.run (by decide)) hgd hr F__law_take.m F__law_take.kp F__law_take.b (pv 0) (exv_cons (ex_int) (exv_nil)) (fun r ds r' h => by have := (vCons_len vNil_len) r ds r' h; show ds.length + 1 = 2; omega)) (exv_nil)))) (exv_nil)))) (exv_nil)) (vCons_len vNil_len)) (exv_cons (ex_var (pv 3)) (exv_cons (ex_var (pv 4)) (exv_cons (ex_var (pv 5)) (exv_cons (ex_var (pv 6)) (exv_nil))))))))) (bx_nil)) (bx_cons (sx_if (tx_of_wx (wx_and (tx_cmp (o_eq hu) (ex_var (pv 8)) (ex_int) (by rfl)) (wx_and1 (tx_cmp o_gt (ex_callB c_len rfl Z.f_len bb_len (exs_cons (ex_var (pv 2)) (exs_nil))) (ex_int) (by rfl))))) (bx_cons (sx_set sc__law_changed.nd rfl (.inl rfl) (ex_callTy c_tuple rfl Z.f_tuple bt_tuple (exs_cons (ex_lc rfl sc__law_changed.nd (KV.ix_seq (ex_var (pv 2))) (own := [(("_law_key" : Str), 12)]) (blk_of rfl rfl) (by decide) (fun _ _ _ _ _ => gx_name (pg_name sc__law_changed.nd rfl (.inl rfl))) (fun _ _ _ _ _ => pts1 (tx_cmp (o_ne hu) (ex_ix (ex_var (pv 12)) (ex_int) (fun _ _ => rfl)) (ex_var (pv 7)) (by rfl))) (fun _ _ _ _ _ => ex_var (pv 12))) (exs_nil)))) (bx_one (sx_ret (ex_tup (exv_cons (ex_var (pv 10)) (exv_cons (ex_var (pv 3)) (exv_cons (ex_var (pv 4)) (exv_cons (ex_var (pv 5)) (exv_cons (ex_call (FnG.mono F__law_without.run (by decide)) hgd hr F__law_without.m F__law_without.kp F__law_without.b (exv_cons (ex_var (pv 6)) (exv_cons (ex_var (pv 7)) (exv_nil))) (vCons_len (vCons_len vNil_len))) (exv_nil)))))))))) (bx_nil)) (bx_cons (sx_if (tx_cmp o_lt (ex_var (pv 8)) (ex_int) (by rfl)) (bx_cons (sx_set sc__law_changed.nd rfl (.inl rfl) (ex_if (tx_cmp (o_in hu) (ex_var (pv 7)) (ex_var (pv 3)) (by rfl)) (ex_call (FnG.mono F__law_without.run (by decide)) hgd hr F__law_without.m F__law_without.kp F__law_without.b (exv_cons (ex_var (pv 3)) (exv_cons (ex_var (pv 7)) (exv_nil))) (vCons_len (vCons_len vNil_len))) (ex_call (FnG.mono F__law_row.run (by decide)) hgd hr F__law_row.m F__law_row.kp F__law_row.b (exv_cons (ex_bin o_add (ex_callTy c_list rfl Z.f_list bt_list (exs_cons (ex_var (pv 3)) (exs_nil))) (ex_lst (exv_cons (ex_var (pv 7)) (exv_nil)))) (exv_nil)) (vCons_len vNil_len)))) (bx_one (sx_ret (ex_tup (exv_cons (ex_var (pv 2)) (exv_cons (ex_var (pv 11)) (exv_cons (ex_var (pv 4)) (exv_cons (ex_var (pv 5)) (exv_cons (ex_var (pv 6)) (exv_nil)))))))))) (bx_nil)) (bx_cons (sx_if (tx_cmp o_lt (ex_var (pv 8)) (ex_int) (by rfl)) (bx_cons (sx_set sc__law_changed.nd rfl (.inl rfl) (ex_if (tx_cmp (o_in hu) (ex_var (pv 7)) (ex_var (pv 5)) (by rfl)) (ex_call (FnG.mono F__law_without.run (by decide)) hgd hr F__law_without.m F__law_without.kp F__law_without.b (exv_cons (ex_var (pv 5)) (exv_cons (ex_var (pv 7)) (exv_nil))) (vCons_len (vCons_len vNil_len))) (ex_call (FnG.mono F__law_row.run (by decide)) hgd hr F__law_row.m F__law_row.kp F__law_row.b (exv_cons (ex_bin o_add (ex_callTy c_list rfl Z.f_list bt_list (exs_cons (ex_var (pv 5)) (exs_nil))) (ex_lst (exv_cons (ex_var (pv 7)) (exv_nil)))) (exv_nil)) (vCons_len vNil_len)))) (bx_one (sx_ret (ex_tup (exv_cons (ex_var (pv 2)) (exv_cons (ex_var (pv 3)) (exv_cons (ex_var (pv 4)) (exv_cons (ex_var (pv 11)) (exv_cons (ex_var (pv 6)) (exv_nil)))))))))) (bx_nil)) (bx_cons (sx_if (tx_of_wx (wx_and (tx_cmp (o_eq hu) (ex_var (pv 8)) (ex_int) (by rfl)) (wx_and1 (tx_cmp (o_ne hu) (ex_var (pv 9)) (ex_lst (exv_nil)) (by rfl))))) (bx_cons (sx_set sc__law_changed.nd rfl (.inl rfl) (ex_if (tx_cmp (o_in hu) (ex_var (pv 7)) (ex_var (pv 6)) (by rfl)) (ex_call (FnG.mono F__law_without.run (by decide)) hgd hr F__law_without.m F__law_without.kp F__law_without.b (exv_cons (ex_var (pv 6)) (exv_cons (ex_var (pv 7)) (exv_nil))) (vCons_len (vCons_len vNil_len))) (ex_call (FnG.mono F__law_row.run (by decide)) hgd hr F__law_row.m F__law_row.kp F__law_row.b (exv_cons (ex_bin o_add (ex_callTy c_list rfl Z.f_list bt_list (exs_cons (ex_var (pv 6)) (exs_nil))) (ex_lst (exv_cons (ex_var (pv 7)) (exv_nil)))) (exv_nil)) (vCons_len vNil_len)))) (bx_one (sx_ret (ex_tup (exv_cons (ex_var (pv 2)) (exv_cons (ex_var (pv 3)) (exv_cons (ex_var (pv 4)) (exv_cons (ex_var (pv 5)) (exv_cons (ex_var (pv 11)) (exv_nil)))))))))) (bx_nil)) (bx_cons (sx_if (tx_of_wx (wx_or (tx_cmp o_isN (ex_var (pv 4)) (ex_non) (by rfl)) (wx_or1 (tx_cmp (o_eq hu) (ex_var (pv 8)) (ex_int) (by rfl))))) (bx_one (sx_ret (ex_tup (exv_cons (ex_var (pv 2)) (exv_cons (ex_var (pv 3)) (exv_cons (ex_var (pv 4)) (exv_cons (ex_var (pv 5)) (exv_cons (ex_var (pv 6)) (exv_nil))))))))) (bx_nil)) (bx_cons (sx_set sc__law_changed.nd rfl (.inl rfl) (ex_callTy c_tuple rfl Z.f_tuple bt_tuple (exs_cons (ex_lc rfl sc__law_changed.nd (KV.ix_seq (ex_var (pv 4))) (own := [(("_law_key" : Str), 12)]) (blk_of rfl rfl) (by decide) (fun _ _ _ _ _ => gx_name (pg_name sc__law_changed.nd rfl (.inl rfl))) (fun _ _ _ _ _ => pts1 (tx_cmp (o_ne hu) (ex_ix (ex_var (pv 12)) (ex_int) (fun _ _ => rfl)) (ex_var (pv 7)) (by rfl))) (fun _ _ _ _ _ => ex_var (pv 12))) (exs_nil)))) (bx_cons (sx_if (tx_cmp (o_eq hu) (ex_callB c_len rfl Z.f_len bb_len (exs_cons (ex_var (pv 10)) (exs_nil))) (ex_callB c_len rfl Z.f_len bb_len (exs_cons (ex_var (pv 4)) (exs_nil))) (by rfl)) (bx_one (sx_set sc__law_changed.nd rfl (.inl rfl) (ex_call (FnG.mono F__law_row.run (by decide)) hgd hr F__law_row.m F__law_row.kp F__law_row.b (exv_cons (ex_bin o_add (ex_callTy c_list rfl Z.f_list bt_list (exs_cons (ex_var (pv 4)) (exs_nil))) (ex_lst (exv_cons (ex_tup (exv_cons (ex_var (pv 7)) (exv_cons (ex_callBx (FnG.mono F__law_take.run (by decide)) hgd hr F__law_take.m F__law_take.kp F__law_take.b (pv 0) (exv_cons (ex_int) (exv_nil)) (fun r ds r' h => by have := (vCons_len vNil_len) r ds r' h; show ds.length + 1 = 2; omega)) (exv_nil)))) (exv_nil)))) (exv_nil)) (vCons_len vNil_len)))) (bx_nil)) (bx_one (sx_ret (ex_tup (exv_cons (ex_var (pv 2)) (exv_cons (ex_var (pv 3)) (exv_cons (ex_var (pv 10)) (exv_cons (ex_var (pv 5)) (exv_cons (ex_var (pv 6)) (exv_nil)))))))))))))))))))
theorem ok__law_zone {P : Program} {w : World} {K : PySem.W.Frag} {mg : Str → Option Value} {base : Heap} (Z : Facts K mg) : ∃ f fd, OkB P w K mg base 4 "_law_zone" ["_law_box_here", "_law_trust_so", "_law_is_last", "_law_many"] s__law_zone f fd G__law_zone := by
  obtain ⟨f, fd, hm, FD⟩ := Z.d__law_zone
  obtain ⟨f__law_begin_of, d__law_begin_of, F__law_begin_of⟩ := ok__law_begin_of (P := P) (w := w) (base := base) Z
  obtain ⟨f__law_changed, d__law_changed, F__law_changed⟩ := ok__law_changed (P := P) (w := w) (base := base) Z
  obtain ⟨f__law_take, d__law_take, F__law_take⟩ := ok__law_take (P := P) (w := w) (base := base) Z
  refine ⟨f, fd, hm, FD.kp, FD.bindsN (fun _ _ _ _ _ _ us hl => match us, hl with | [_, _, _, _], _ => rfl), FD, fnB_of (k := 3) (He5.fun_of FD) sc__law_zone fun cdv A outer s H hgd hr0 => ⟨_, ?_, fun _ _ _ h => h⟩⟩
  have hr := hr0
  have hu := hr.units
  exact bx_cons (sx_par rfl sc__law_zone.nd rfl rfl (by decide) rfl rfl (exv_cons (ex_callBx (FnG.mono F__law_begin_of.run (by decide)) hgd hr F__law_begin_of.m F__law_begin_of.kp F__law_begin_of.b (pv 0) (exv_cons (ex_var (pv 1)) (exv_cons (ex_var (pv 2)) (exv_nil))) (fun r ds r' h => by have := (vCons_len (vCons_len vNil_len)) r ds r' h; show ds.length + 1 = 3; omega)) (exv_cons (ex_int) (exv_nil))) rfl) (bx_cons (sx_set sc__law_zone.nd rfl (.inl rfl) (ex_lst (exv_cons (ex_tup (exv_cons (ex_int) (exv_cons (ex_var (pv 4)) (exv_nil)))) (exv_nil)))) (bx_cons (sx_for PassesOwn.never rfl (ix_range1 rfl Z.f_range (exs_cons (ex_callBx (FnG.mono F__law_take.run (by decide)) hgd hr F__law_take.m F__law_take.kp F__law_take.b (pv 0) (exv_cons (ex_var (pv 3)) (exv_nil)) (fun r ds r' h => by have := (vCons_len vNil_len) r ds r' h; show ds.length + 1 = 2; omega)) (exs_nil))) (gx_name (pg_name sc__law_zone.nd rfl (.inl rfl))) (bx_cons (sx_set sc__law_zone.nd rfl (.inl rfl) (ex_bin o_add (ex_bin o_add (ex_var (pv 5)) (ex_int)) (ex_callBx (FnG.mono F__law_take.run (by decide)) hgd hr F__law_take.m F__law_take.kp F__law_take.b (pv 0) (exv_cons (ex_int) (exv_nil)) (fun r ds r' h => by have := (vCons_len vNil_len) r ds r' h; show ds.length + 1 = 2; omega)))) (bx_cons (sx_for PassesOwn.never rfl (ix_range1 rfl Z.f_range (exs_cons (ex_bin o_add (ex_int) (ex_callBx (FnG.mono F__law_take.run (by decide)) hgd hr F__law_take.m F__law_take.kp F__law_take.b (pv 0) (exv_cons (ex_int) (exv_nil)) (fun r ds r' h => by have := (vCons_len vNil_len) r ds r' h; show ds.length + 1 = 2; omega))) (exs_nil))) (gx_name (pg_name sc__law_zone.nd rfl (.inl rfl))) (bx_one (sx_set sc__law_zone.nd rfl (.inl rfl) (ex_callBx (FnG.mono F__law_changed.run (by decide)) hgd hr F__law_changed.m F__law_changed.kp F__law_changed.b (pv 0) (exv_cons (ex_var (pv 4)) (exv_nil)) (fun r ds r' h => by have := (vCons_len vNil_len) r ds r' h; show ds.length + 1 = 2; omega))))) (bx_one (sx_expr (ex_app (pv 6) (ex_tup (exv_cons (ex_var (pv 5)) (exv_cons (ex_var (pv 4)) (exv_nil)))))))))) (bx_cons (sx_set sc__law_zone.nd rfl (.inl rfl) (ex_bin o_add (ex_int) (ex_callBx (FnG.mono F__law_take.run (by decide)) hgd hr F__law_take.m F__law_take.kp F__law_take.b (pv 0) (exv_cons (ex_int) (exv_nil)) (fun r ds r' h => by have := (vCons_len vNil_len) r ds r' h; show ds.length + 1 = 2; omega)))) (bx_cons (sx_set sc__law_zone.nd rfl (.inl rfl) (ex_tup (exv_cons (ex_bin o_add (ex_int) (ex_callBx (FnG.mono F__law_take.run (by decide)) hgd hr F__law_take.m F__law_take.kp F__law_take.b (pv 0) (exv_cons (ex_int) (exv_nil)) (fun r ds r' h => by have := (vCons_len vNil_len) r ds r' h; show ds.length + 1 = 2; omega))) (exv_cons (ex_bin o_add (ex_int) (ex_callBx (FnG.mono F__law_take.run (by decide)) hgd hr F__law_take.m F__law_take.kp F__law_take.b (pv 0) (exv_cons (ex_int) (exv_nil)) (fun r ds r' h => by have := (vCons_len vNil_len) r ds r' h; show ds.length + 1 = 2; omega))) (exv_nil))))) (bx_one (sx_ret (ex_bin o_add (ex_tup (exv_cons (ex_callTy c_tuple rfl Z.f_tuple bt_tuple (exs_cons (ex_var (pv 6)) (exs_nil))) (exv_cons (ex_var (pv 9)) (exv_cons (ex_bin o_add (ex_int) (ex_callBx (FnG.mono F__law_take.run (by decide)) hgd hr F__law_take.m F__law_take.kp F__law_take.b (pv 0) (exv_cons (ex_var (pv 9)) (exv_nil)) (fun r ds r' h => by have := (vCons_len vNil_len) r ds r' h; show ds.length + 1 = 2; omega))) (exv_cons (ex_callBx (FnG.mono F__law_take.run (by decide)) hgd hr F__law_take.m F__law_take.kp F__law_take.b (pv 0) (exv_cons (ex_int) (exv_nil)) (fun r ds r' h => by have := (vCons_len vNil_len) r ds r' h; show ds.length + 1 = 2; omega)) (exv_nil)))))) (ex_var (pv 10)))))))))
theorem ok__law_world_of {P : Program} {w : World} {K : PySem.W.Frag} {mg : Str → Option Value} {base : Heap} (Z : Facts K mg) : ∃ f fd, OkB P w K mg base 5 "_law_world_of" ["_law_box_here", "_law_count", "_law_many"] s__law_world_of f fd G__law_world_of := by
  obtain ⟨f, fd, hm, FD⟩ := Z.d__law_world_of
  obtain ⟨f__law_pick, d__law_pick, F__law_pick⟩ := ok__law_pick (P := P) (w := w) (base := base) Z
  obtain ⟨f__law_take, d__law_take, F__law_take⟩ := ok__law_take (P := P) (w := w) (base := base) Z
  obtain ⟨f__law_zone, d__law_zone, F__law_zone⟩ := ok__law_zone (P := P) (w := w) (base := base) Z
  refine ⟨f, fd, hm, FD.kp, FD.bindsN (fun _ _ _ _ _ _ us hl => match us, hl with | [_, _, _], _ => rfl), FD, fnB_of (k := 4) (He5.fun_of FD) sc__law_world_of fun cdv A outer s H hgd hr0 => ⟨_, ?_, fun _ _ _ h => h⟩⟩
  have hr := hr0
  have hu := hr.units
  exact bx_cons (sx_set sc__law_world_of.nd rfl (.inl rfl) (ex_callBx (FnG.mono F__law_pick.run (by decide)) hgd hr F__law_pick.m F__law_pick.kp F__law_pick.b (pv 0) (exv_cons (ex_lst (exv_cons (ex_tup (exv_cons (ex_tup (exv_cons (ex_int) (exv_cons (ex_int) (exv_nil)))) (exv_nil))) (exv_cons (ex_tup (exv_cons (ex_tup (exv_cons (ex_int) (exv_cons (ex_int) (exv_nil)))) (exv_cons (ex_tup (exv_cons (ex_int) (exv_cons (ex_int) (exv_nil)))) (exv_nil)))) (exv_cons (ex_tup (exv_cons (ex_tup (exv_cons (ex_int) (exv_cons (ex_int) (exv_nil)))) (exv_nil))) (exv_cons (ex_tup (exv_cons (ex_tup (exv_cons (ex_int) (exv_cons (ex_int) (exv_nil)))) (exv_cons (ex_tup (exv_cons (ex_int) (exv_cons (ex_int) (exv_nil)))) (exv_nil)))) (exv_nil)))))) (exv_nil)) (fun r ds r' h => by have := (vCons_len vNil_len) r ds r' h; show ds.length + 1 = 2; omega))) (bx_cons (sx_parO rfl sc__law_world_of.nd rfl rfl (by decide) rfl rfl (ex_var (pv 3)) (ex_lst (exv_nil)) rfl) (bx_cons (sx_for PassesOwn.never rfl (ix_range1 rfl Z.f_range (exs_cons (ex_var (pv 1)) (exs_nil))) (gx_name (pg_name sc__law_world_of.nd rfl (.inl rfl))) (bx_cons (sx_expr (ex_app (pv 5) (ex_callBx (FnG.mono F__law_zone.run (by decide)) hgd hr F__law_zone.m F__law_zone.kp F__law_zone.b (pv 0) (exv_cons (ex_var (pv 3)) (exv_cons (ex_cmp (o_eq hu) (ex_bin o_add (ex_var (pv 6)) (ex_int)) (ex_var (pv 1)) (by rfl)) (exv_cons (ex_var (pv 2)) (exv_nil)))) (fun r ds r' h => by have := (vCons_len (vCons_len (vCons_len vNil_len))) r ds r' h; show ds.length + 1 = 4; omega)))) (bx_one (sx_set sc__law_world_of.nd rfl (.inl rfl) (ex_ix (ex_ix (ex_ix (ex_ix (ex_ix (ex_var (pv 5)) (ex_un o_neg (ex_int)) (fun _ _ => rfl)) (ex_int) (fun _ _ => rfl)) (ex_int) (fun _ _ => rfl)) (ex_int) (fun _ _ => rfl)) (ex_int) (fun _ _ => rfl)))))) (bx_one (sx_ret (ex_tup (exv_cons (ex_callTy c_tuple rfl Z.f_tuple bt_tuple (exs_cons (ex_var (pv 5)) (exs_nil))) (exv_cons (ex_var (pv 4)) (exv_cons (ex_ix (ex_lst (exv_cons (ex_str) (exv_cons (ex_str) (exv_nil)))) (ex_callBx (FnG.mono F__law_take.run (by decide)) hgd hr F__law_take.m F__law_take.kp F__law_take.b (pv 0) (exv_cons (ex_int) (exv_nil)) (fun r ds r' h => by have := (vCons_len vNil_len) r ds r' h; show ds.length + 1 = 2; omega)) (fun _ _ => rfl)) (exv_nil)))))))))
theorem ok__law_world {P : Program} {w : World} {K : PySem.W.Frag} {mg : Str → Option Value} {base : Heap} (Z : Facts K mg) : ∃ f fd, OkB P w K mg base 6 "_law_world" ["_law_box_here", "_law_most_zones", "_law_many"] s__law_world f fd G__law_world := by
  obtain ⟨f, fd, hm, FD⟩ := Z.d__law_world
  obtain ⟨f__law_take, d__law_take, F__law_take⟩ := ok__law_take (P := P) (w := w) (base := base) Z
  obtain ⟨f__law_world_of, d__law_world_of, F__law_world_of⟩ := ok__law_world_of (P := P) (w := w) (base := base) Z
  refine ⟨f, fd, hm, FD.kp, FD.bindsN (fun _ _ _ _ _ _ us hl => match us, hl with | [_, _, _], _ => rfl), FD, fnB_of (k := 5) (He5.fun_of FD) sc__law_world fun cdv A outer s H hgd hr0 => ⟨_, ?_, fun _ _ _ h => h⟩⟩
  have hr := hr0
  have hu := hr.units
  exact bx_one (sx_ret (ex_callBx (FnG.mono F__law_world_of.run (by decide)) hgd hr F__law_world_of.m F__law_world_of.kp F__law_world_of.b (pv 0) (exv_cons (ex_bin o_add (ex_int) (ex_callBx (FnG.mono F__law_take.run (by decide)) hgd hr F__law_take.m F__law_take.kp F__law_take.b (pv 0) (exv_cons (ex_var (pv 1)) (exv_nil)) (fun r ds r' h => by have := (vCons_len vNil_len) r ds r' h; show ds.length + 1 = 2; omega))) (exv_cons (ex_var (pv 2)) (exv_nil))) (fun r ds r' h => by have := (vCons_len (vCons_len vNil_len)) r ds r' h; show ds.length + 1 = 3; omega)))
theorem ok__law_is_int {P : Program} {w : World} {K : PySem.W.Frag} {mg : Str → Option Value} {base : Heap} (Z : Facts K mg) : ∃ f fd, Ok P w K mg base 1 "_law_is_int" ["_law_matter"] s__law_is_int f fd F__law_is_int := by
  obtain ⟨f, fd, hm, FD⟩ := Z.d__law_is_int
  refine ⟨f, fd, hm, FD.kp, FD.bindsN (fun _ _ _ _ _ _ us hl => match us, hl with | [_], _ => rfl), FD, fnP_of (k := 0) (He5.fun_of FD) sc__law_is_int fun cdv A outer s H hgd hr0 => ⟨_, ?_, fun _ _ h => h⟩⟩
  have hr := hr0
  have hu := hr.units
  exact bx_one (sx_ret (ex_and (ex_isi (ex_var (pv 0)) rfl Z.f_isinstance rfl Z.f_int bt_int) (ex_and (ex_not (ex_isi (ex_var (pv 0)) rfl Z.f_isinstance rfl Z.f_bool bt_bool)) (ex_and1 (ex_cmp o_ge (ex_var (pv 0)) (ex_int) (by rfl))))))
theorem ok__law_is_key {P : Program} {w : World} {K : PySem.W.Frag} {mg : Str → Option Value} {base : Heap} (Z : Facts K mg) : ∃ f fd, Ok P w K mg base 2 "_law_is_key" ["_law_matter"] s__law_is_key f fd F__law_is_key := by
  obtain ⟨f, fd, hm, FD⟩ := Z.d__law_is_key
  obtain ⟨f__law_is_int, d__law_is_int, F__law_is_int⟩ := ok__law_is_int (P := P) (w := w) (base := base) Z
  refine ⟨f, fd, hm, FD.kp, FD.bindsN (fun _ _ _ _ _ _ us hl => match us, hl with | [_], _ => rfl), FD, fnP_of (k := 1) (He5.fun_of FD) sc__law_is_key fun cdv A outer s H hgd hr0 => ⟨_, ?_, fun _ _ h => h⟩⟩
  have hr := hr0
  have hu := hr.units
  exact bx_one (sx_ret (ex_and (ex_isi (ex_var (pv 0)) rfl Z.f_isinstance rfl Z.f_tuple bt_tuple) (ex_and (ex_cmp (o_eq hu) (ex_callB c_len rfl Z.f_len bb_len (exs_cons (ex_var (pv 0)) (exs_nil))) (ex_int) (by rfl)) (ex_and (ex_call (FnG.mono F__law_is_int.run (by decide)) hgd hr F__law_is_int.m F__law_is_int.kp F__law_is_int.b (exv_cons (ex_ix (ex_var (pv 0)) (ex_int) (fun _ _ => rfl)) (exv_nil)) (vCons_len vNil_len)) (ex_and1 (ex_call (FnG.mono F__law_is_int.run (by decide)) hgd hr F__law_is_int.m F__law_is_int.kp F__law_is_int.b (exv_cons (ex_ix (ex_var (pv 0)) (ex_int) (fun _ _ => rfl)) (exv_nil)) (vCons_len vNil_len)))))))
theorem ok__law_climbs {P : Program} {w : World} {K : PySem.W.Frag} {mg : Str → Option Value} {base : Heap} (Z : Facts K mg) : ∃ f fd, Ok P w K mg base 1 "_law_climbs" ["_law_some"] s__law_climbs f fd F__law_climbs := by
  obtain ⟨f, fd, hm, FD⟩ := Z.d__law_climbs
  refine ⟨f, fd, hm, FD.kp, FD.bindsN (fun _ _ _ _ _ _ us hl => match us, hl with | [_], _ => rfl), FD, fnP_of (k := 0) (He5.fun_of FD) sc__law_climbs fun cdv A outer s H hgd hr0 => ⟨_, ?_, fun _ _ h => h⟩⟩
  have hr := hr0
  have hu := hr.units
  exact bx_one (sx_ret (ex_cmp (o_eq hu) (ex_var (pv 0)) (ex_ss rfl hu rfl Z.f_sorted rfl Z.f_set bb_sorted bt_set (ex_var (pv 0))) (by rfl)))
theorem ok__law_are_keys {P : Program} {w : World} {K : PySem.W.Frag} {mg : Str → Option Value} {base : Heap} (Z : Facts K mg) : ∃ f fd, Ok P w K mg base 3 "_law_are_keys" ["_law_matter"] s__law_are_keys f fd F__law_are_keys := by
  obtain ⟨f, fd, hm, FD⟩ := Z.d__law_are_keys
  obtain ⟨f__law_climbs, d__law_climbs, F__law_climbs⟩ := ok__law_climbs (P := P) (w := w) (base := base) Z
  obtain ⟨f__law_is_key, d__law_is_key, F__law_is_key⟩ := ok__law_is_key (P := P) (w := w) (base := base) Z
  refine ⟨f, fd, hm, FD.kp, FD.bindsN (fun _ _ _ _ _ _ us hl => match us, hl with | [_], _ => rfl), FD, fnP_of (k := 2) (He5.fun_of FD) sc__law_are_keys fun cdv A outer s H hgd hr0 => ⟨_, ?_, fun _ _ h => h⟩⟩
  have hr := hr0
  have hu := hr.units
  exact bx_cons (sx_if (tx_of_wx (wx_or (tx_not (tx_val (ex_isi (ex_var (pv 0)) rfl Z.f_isinstance rfl Z.f_tuple bt_tuple))) (wx_or1 (tx_not (tx_val (ex_callB (c_all rfl) rfl Z.f_all bb_all (exs_cons (ex_lc rfl sc__law_are_keys.nd (KV.ix_seq (ex_var (pv 0))) (own := [(("_law_one" : Str), 1)]) (blk_of rfl rfl) (by decide) (fun _ _ _ _ _ => gx_name (pg_name sc__law_are_keys.nd rfl (.inl rfl))) (fun _ _ _ _ _ => pts0) (fun _ _ _ _ _ => ex_call (FnG.mono F__law_is_key.run (by decide)) hgd hr F__law_is_key.m F__law_is_key.kp F__law_is_key.b (exv_cons (ex_var (pv 1)) (exv_nil)) (vCons_len vNil_len))) (exs_nil)))))))) (bx_one (sx_ret (ex_bl))) (bx_nil)) (bx_one (sx_ret (ex_and (ex_call (FnG.mono F__law_climbs.run (by decide)) hgd hr F__law_climbs.m F__law_climbs.kp F__law_climbs.b (exv_cons (ex_callTy c_list rfl Z.f_list bt_list (exs_cons (ex_var (pv 0)) (exs_nil))) (exv_nil)) (vCons_len vNil_len)) (ex_and1 (ex_call (FnG.mono F__law_climbs.run (by decide)) hgd hr F__law_climbs.m F__law_climbs.kp F__law_climbs.b (exv_cons (ex_lc rfl sc__law_are_keys.nd (KV.ix_seq (ex_var (pv 0))) (own := [(("_law_one" : Str), 1)]) (blk_of rfl rfl) (by decide) (fun _ _ _ _ _ => gx_name (pg_name sc__law_are_keys.nd rfl (.inl rfl))) (fun _ _ _ _ _ => pts0) (fun _ _ _ _ _ => ex_ix (ex_var (pv 1)) (ex_int) (fun _ _ => rfl))) (exv_nil)) (vCons_len vNil_len))))))
theorem ok__law_are_ints {P : Program} {w : World} {K : PySem.W.Frag} {mg : Str → Option Value} {base : Heap} (Z : Facts K mg) : ∃ f fd, Ok P w K mg base 2 "_law_are_ints" ["_law_matter"] s__law_are_ints f fd F__law_are_ints := by
  obtain ⟨f, fd, hm, FD⟩ := Z.d__law_are_ints
  obtain ⟨f__law_climbs, d__law_climbs, F__law_climbs⟩ := ok__law_climbs (P := P) (w := w) (base := base) Z
  refine ⟨f, fd, hm, FD.kp, FD.bindsN (fun _ _ _ _ _ _ us hl => match us, hl with | [_], _ => rfl), FD, fnP_of (k := 1) (He5.fun_of FD) sc__law_are_ints fun cdv A outer s H hgd hr0 => ⟨_, ?_, fun _ _ h => h⟩⟩
  have hr := hr0
  have hu := hr.units
  exact bx_cons (sx_if (tx_not (tx_val (ex_isi (ex_var (pv 0)) rfl Z.f_isinstance rfl Z.f_tuple bt_tuple))) (bx_one (sx_ret (ex_bl))) (bx_nil)) (bx_cons (sx_if (tx_not (tx_val (ex_callB (c_all rfl) rfl Z.f_all bb_all (exs_cons (ex_lc rfl sc__law_are_ints.nd (KV.ix_seq (ex_var (pv 0))) (own := [(("_law_one" : Str), 1)]) (blk_of rfl rfl) (by decide) (fun _ _ _ _ _ => gx_name (pg_name sc__law_are_ints.nd rfl (.inl rfl))) (fun _ _ _ _ _ => pts0) (fun _ _ _ _ _ => ex_and (ex_isi (ex_var (pv 1)) rfl Z.f_isinstance rfl Z.f_int bt_int) (ex_and1 (ex_not (ex_isi (ex_var (pv 1)) rfl Z.f_isinstance rfl Z.f_bool bt_bool))))) (exs_nil))))) (bx_one (sx_ret (ex_bl))) (bx_nil)) (bx_one (sx_ret (ex_call (FnG.mono F__law_climbs.run (by decide)) hgd hr F__law_climbs.m F__law_climbs.kp F__law_climbs.b (exv_cons (ex_callTy c_list rfl Z.f_list bt_list (exs_cons (ex_var (pv 0)) (exs_nil))) (exv_nil)) (vCons_len vNil_len)))))
theorem ok__law_is_told {P : Program} {w : World} {K : PySem.W.Frag} {mg : Str → Option Value} {base : Heap} (Z : Facts K mg) : ∃ f fd, Ok P w K mg base 4 "_law_is_told" ["_law_matter"] s__law_is_told f fd F__law_is_told := by
  obtain ⟨f, fd, hm, FD⟩ := Z.d__law_is_told
  obtain ⟨f__law_are_ints, d__law_are_ints, F__law_are_ints⟩ := ok__law_are_ints (P := P) (w := w) (base := base) Z
  obtain ⟨f__law_are_keys, d__law_are_keys, F__law_are_keys⟩ := ok__law_are_keys (P := P) (w := w) (base := base) Z
  refine ⟨f, fd, hm, FD.kp, FD.bindsN (fun _ _ _ _ _ _ us hl => match us, hl with | [_], _ => rfl), FD, fnP_of (k := 3) (He5.fun_of FD) sc__law_is_told fun cdv A outer s H hgd hr0 => ⟨_, ?_, fun _ _ h => h⟩⟩
  have hr := hr0
  have hu := hr.units
  exact bx_cons (sx_if (tx_of_wx (wx_or (tx_not (tx_val (ex_isi (ex_var (pv 0)) rfl Z.f_isinstance rfl Z.f_tuple bt_tuple))) (wx_or (tx_cmp (o_ne hu) (ex_callB c_len rfl Z.f_len bb_len (exs_cons (ex_var (pv 0)) (exs_nil))) (ex_int) (by rfl)) (wx_or1 (tx_not (tx_val (ex_call (FnG.mono F__law_are_keys.run (by decide)) hgd hr F__law_are_keys.m F__law_are_keys.kp F__law_are_keys.b (exv_cons (ex_ix (ex_var (pv 0)) (ex_int) (fun _ _ => rfl)) (exv_nil)) (vCons_len vNil_len)))))))) (bx_one (sx_ret (ex_bl))) (bx_nil)) (bx_cons (sx_if (tx_of_wx (wx_or (tx_not (tx_val (ex_call (FnG.mono F__law_are_ints.run (by decide)) hgd hr F__law_are_ints.m F__law_are_ints.kp F__law_are_ints.b (exv_cons (ex_ix (ex_var (pv 0)) (ex_int) (fun _ _ => rfl)) (exv_nil)) (vCons_len vNil_len)))) (wx_or (tx_not (tx_val (ex_call (FnG.mono F__law_are_ints.run (by decide)) hgd hr F__law_are_ints.m F__law_are_ints.kp F__law_are_ints.b (exv_cons (ex_ix (ex_var (pv 0)) (ex_int) (fun _ _ => rfl)) (exv_nil)) (vCons_len vNil_len)))) (wx_or1 (tx_not (tx_val (ex_call (FnG.mono F__law_are_ints.run (by decide)) hgd hr F__law_are_ints.m F__law_are_ints.kp F__law_are_ints.b (exv_cons (ex_ix (ex_var (pv 0)) (ex_int) (fun _ _ => rfl)) (exv_nil)) (vCons_len vNil_len)))))))) (bx_one (sx_ret (ex_bl))) (bx_nil)) (bx_cons (sx_set sc__law_is_told.nd rfl (.inr rfl) (ex_lc rfl sc__law_is_told.nd (KV.ix_seq (ex_ix (ex_var (pv 0)) (ex_int) (fun _ _ => rfl))) (own := [(("_law_key" : Str), 2)]) (blk_of rfl rfl) (by decide) (fun _ _ _ _ _ => gx_name (pg_name sc__law_is_told.nd rfl (.inl rfl))) (fun _ _ _ _ _ => pts0) (fun _ _ _ _ _ => ex_ix (ex_var (pv 2)) (ex_int) (fun _ _ => rfl)))) (bx_one (sx_ret (ex_and (ex_callB (c_all rfl) rfl Z.f_all bb_all (exs_cons (ex_lc rfl sc__law_is_told.nd (KV.ix_seq (ex_ix (ex_var (pv 0)) (ex_int) (fun _ _ => rfl))) (own := [(("_law_number" : Str), 3)]) (blk_of rfl rfl) (by decide) (fun _ _ _ _ _ => gx_name (pg_name sc__law_is_told.nd rfl (.inl rfl))) (fun _ _ _ _ _ => pts0) (fun _ _ _ _ _ => ex_cmp (o_in hu) (ex_var (pv 3)) (ex_var (pv 1)) (by rfl))) (exs_nil))) (ex_and1 (ex_or (ex_cmp o_isN (ex_ix (ex_var (pv 0)) (ex_int) (fun _ _ => rfl)) (ex_non) (by rfl)) (ex_and1 (ex_call (FnG.mono F__law_are_keys.run (by decide)) hgd hr F__law_are_keys.m F__law_are_keys.kp F__law_are_keys.b (exv_cons (ex_ix (ex_var (pv 0)) (ex_int) (fun _ _ => rfl)) (exv_nil)) (vCons_len vNil_len))))))))))
theorem ok__law_is_row {P : Program} {w : World} {K : PySem.W.Frag} {mg : Str → Option Value} {base : Heap} (Z : Facts K mg) : ∃ f fd, Ok P w K mg base 5 "_law_is_row" ["_law_matter"] s__law_is_row f fd F__law_is_row := by
  obtain ⟨f, fd, hm, FD⟩ := Z.d__law_is_row
  obtain ⟨f__law_climbs, d__law_climbs, F__law_climbs⟩ := ok__law_climbs (P := P) (w := w) (base := base) Z
  obtain ⟨f__law_is_int, d__law_is_int, F__law_is_int⟩ := ok__law_is_int (P := P) (w := w) (base := base) Z
  obtain ⟨f__law_is_told, d__law_is_told, F__law_is_told⟩ := ok__law_is_told (P := P) (w := w) (base := base) Z
  refine ⟨f, fd, hm, FD.kp, FD.bindsN (fun _ _ _ _ _ _ us hl => match us, hl with | [_], _ => rfl), FD, fnP_of (k := 4) (He5.fun_of FD) sc__law_is_row fun cdv A outer s H hgd hr0 => ⟨_, ?_, fun _ _ h => h⟩⟩
  have hr := hr0
  have hu := hr.units
  exact bx_cons (sx_if (tx_of_wx (wx_or (tx_not (tx_val (ex_isi (ex_var (pv 0)) rfl Z.f_isinstance rfl Z.f_tuple bt_tuple))) (wx_or1 (tx_cmp (o_eq hu) (ex_callB c_len rfl Z.f_len bb_len (exs_cons (ex_var (pv 0)) (exs_nil))) (ex_int) (by rfl))))) (bx_one (sx_ret (ex_bl))) (bx_nil)) (bx_cons (sx_for PassesOwn.never rfl (KV.ix_seq (ex_var (pv 0))) (gx_name (pg_name sc__law_is_row.nd rfl (.inl rfl))) (bx_one (sx_if (tx_of_wx (wx_or (tx_not (tx_val (ex_isi (ex_var (pv 1)) rfl Z.f_isinstance rfl Z.f_tuple bt_tuple))) (wx_or (tx_cmp (o_ne hu) (ex_callB c_len rfl Z.f_len bb_len (exs_cons (ex_var (pv 1)) (exs_nil))) (ex_int) (by rfl)) (wx_or (tx_not (tx_val (ex_call (FnG.mono F__law_is_int.run (by decide)) hgd hr F__law_is_int.m F__law_is_int.kp F__law_is_int.b (exv_cons (ex_ix (ex_var (pv 1)) (ex_int) (fun _ _ => rfl)) (exv_nil)) (vCons_len vNil_len)))) (wx_or1 (tx_not (tx_val (ex_call (FnG.mono F__law_is_told.run (by decide)) hgd hr F__law_is_told.m F__law_is_told.kp F__law_is_told.b (exv_cons (ex_ix (ex_var (pv 1)) (ex_int) (fun _ _ => rfl)) (exv_nil)) (vCons_len vNil_len))))))))) (bx_one (sx_ret (ex_bl))) (bx_nil)))) (bx_cons (sx_setLc rfl sc__law_is_row.nd rfl rfl rfl (KV.ix_seq (ex_var (pv 0))) (own := [(("_law_one" : Str), 1)]) (blk_of rfl rfl) (by decide) (fun _ _ _ _ _ => gx_name (pg_name sc__law_is_row.nd rfl (.inl rfl))) (fun _ _ _ _ _ => pts0) (fun _ _ _ _ _ => ex_ix (ex_var (pv 1)) (ex_int) (fun _ _ => rfl))) (bx_one (sx_ret (ex_and (ex_cmp (o_eq hu) (ex_ix (ex_var (pv 2)) (ex_int) (fun _ _ => rfl)) (ex_int) (by rfl)) (ex_and1 (ex_call (FnG.mono F__law_climbs.run (by decide)) hgd hr F__law_climbs.m F__law_climbs.kp F__law_climbs.b (exv_cons (ex_var (pv 2)) (exv_nil)) (vCons_len vNil_len))))))))
theorem ok__law_is_site {P : Program} {w : World} {K : PySem.W.Frag} {mg : Str → Option Value} {base : Heap} (Z : Facts K mg) : ∃ f fd, Ok P w K mg base 6 "_law_is_site" ["_law_matter"] s__law_is_site f fd F__law_is_site := by
  obtain ⟨f, fd, hm, FD⟩ := Z.d__law_is_site
  obtain ⟨f__law_is_int, d__law_is_int, F__law_is_int⟩ := ok__law_is_int (P := P) (w := w) (base := base) Z
  obtain ⟨f__law_is_row, d__law_is_row, F__law_is_row⟩ := ok__law_is_row (P := P) (w := w) (base := base) Z
  refine ⟨f, fd, hm, FD.kp, FD.bindsN (fun _ _ _ _ _ _ us hl => match us, hl with | [_], _ => rfl), FD, fnP_of (k := 5) (He5.fun_of FD) sc__law_is_site fun cdv A outer s H hgd hr0 => ⟨_, ?_, fun _ _ h => h⟩⟩
  have hr := hr0
  have hu := hr.units
  exact bx_cons (sx_if (tx_of_wx (wx_or (tx_not (tx_val (ex_isi (ex_var (pv 0)) rfl Z.f_isinstance rfl Z.f_tuple bt_tuple))) (wx_or (tx_cmp (o_ne hu) (ex_callB c_len rfl Z.f_len bb_len (exs_cons (ex_var (pv 0)) (exs_nil))) (ex_int) (by rfl)) (wx_or1 (tx_not (tx_val (ex_call (FnG.mono F__law_is_row.run (by decide)) hgd hr F__law_is_row.m F__law_is_row.kp F__law_is_row.b (exv_cons (ex_ix (ex_var (pv 0)) (ex_int) (fun _ _ => rfl)) (exv_nil)) (vCons_len vNil_len)))))))) (bx_one (sx_ret (ex_bl))) (bx_nil)) (bx_cons (sx_if (tx_not (tx_val (ex_callB (c_all rfl) rfl Z.f_all bb_all (exs_cons (ex_lc rfl sc__law_is_site.nd (KV.ix_seq (ex_slice (ex_var (pv 0)) (po1 (ex_int)) po0)) (own := [(("_law_one" : Str), 1)]) (blk_of rfl rfl) (by decide) (fun _ _ _ _ _ => gx_name (pg_name sc__law_is_site.nd rfl (.inl rfl))) (fun _ _ _ _ _ => pts0) (fun _ _ _ _ _ => ex_call (FnG.mono F__law_is_int.run (by decide)) hgd hr F__law_is_int.m F__law_is_int.kp F__law_is_int.b (exv_cons (ex_var (pv 1)) (exv_nil)) (vCons_len vNil_len))) (exs_nil))))) (bx_one (sx_ret (ex_bl))) (bx_nil)) (bx_one (sx_ret (ex_and (ex_chain o_lt o_le (ex_int) (ex_ix (ex_var (pv 0)) (ex_int) (fun _ _ => rfl)) (ex_ix (ex_var (pv 0)) (ex_int) (fun _ _ => rfl))) (ex_and (ex_cmp o_gt (ex_ix (ex_var (pv 0)) (ex_int) (fun _ _ => rfl)) (ex_int) (by rfl)) (ex_and1 (ex_cmp o_gt (ex_ix (ex_var (pv 0)) (ex_int) (fun _ _ => rfl)) (ex_int) (by rfl))))))))
theorem ok__law_is_globe {P : Program} {w : World} {K : PySem.W.Frag} {mg : Str → Option Value} {base : Heap} (Z : Facts K mg) : ∃ f fd, Ok P w K mg base 7 "_law_is_globe" ["_law_matter"] s__law_is_globe f fd F__law_is_globe := by
  obtain ⟨f, fd, hm, FD⟩ := Z.d__law_is_globe
  obtain ⟨f__law_are_keys, d__law_are_keys, F__law_are_keys⟩ := ok__law_are_keys (P := P) (w := w) (base := base) Z
  obtain ⟨f__law_is_site, d__law_is_site, F__law_is_site⟩ := ok__law_is_site (P := P) (w := w) (base := base) Z
  refine ⟨f, fd, hm, FD.kp, FD.bindsN (fun _ _ _ _ _ _ us hl => match us, hl with | [_], _ => rfl), FD, fnP_of (k := 6) (He5.fun_of FD) sc__law_is_globe fun cdv A outer s H hgd hr0 => ⟨_, ?_, fun _ _ h => h⟩⟩
  have hr := hr0
  have hu := hr.units
  exact bx_cons (sx_if (tx_of_wx (wx_or (tx_not (tx_val (ex_isi (ex_var (pv 0)) rfl Z.f_isinstance rfl Z.f_tuple bt_tuple))) (wx_or (tx_cmp (o_ne hu) (ex_callB c_len rfl Z.f_len bb_len (exs_cons (ex_var (pv 0)) (exs_nil))) (ex_int) (by rfl)) (wx_or (tx_not (tx_val (ex_isi (ex_ix (ex_var (pv 0)) (ex_int) (fun _ _ => rfl)) rfl Z.f_isinstance rfl Z.f_tuple bt_tuple))) (wx_or1 (tx_cmp (o_eq hu) (ex_ix (ex_var (pv 0)) (ex_int) (fun _ _ => rfl)) (ex_tup (exv_nil)) (by rfl))))))) (bx_one (sx_ret (ex_bl))) (bx_nil)) (bx_cons (sx_if (tx_of_wx (wx_or (tx_not (tx_val (ex_callB (c_all rfl) rfl Z.f_all bb_all (exs_cons (ex_lc rfl sc__law_is_globe.nd (KV.ix_seq (ex_ix (ex_var (pv 0)) (ex_int) (fun _ _ => rfl))) (own := [(("_law_one" : Str), 4)]) (blk_of rfl rfl) (by decide) (fun _ _ _ _ _ => gx_name (pg_name sc__law_is_globe.nd rfl (.inl rfl))) (fun _ _ _ _ _ => pts0) (fun _ _ _ _ _ => ex_call (FnG.mono F__law_is_site.run (by decide)) hgd hr F__law_is_site.m F__law_is_site.kp F__law_is_site.b (exv_cons (ex_var (pv 4)) (exv_nil)) (vCons_len vNil_len))) (exs_nil))))) (wx_or (tx_not (tx_val (ex_call (FnG.mono F__law_are_keys.run (by decide)) hgd hr F__law_are_keys.m F__law_are_keys.kp F__law_are_keys.b (exv_cons (ex_ix (ex_var (pv 0)) (ex_int) (fun _ _ => rfl)) (exv_nil)) (vCons_len vNil_len)))) (wx_or1 (tx_cmp (o_eq hu) (ex_ix (ex_var (pv 0)) (ex_int) (fun _ _ => rfl)) (ex_tup (exv_nil)) (by rfl)))))) (bx_one (sx_ret (ex_bl))) (bx_nil)) (bx_cons (sx_if (tx_of_wx (wx_or (tx_not (tx_val (ex_isi (ex_ix (ex_var (pv 0)) (ex_int) (fun _ _ => rfl)) rfl Z.f_isinstance rfl Z.f_str bt_str))) (wx_or1 (tx_cmp (o_notIn hu) (ex_ix (ex_var (pv 0)) (ex_int) (fun _ _ => rfl)) (ex_tup (exv_cons (ex_str) (exv_cons (ex_str) (exv_nil)))) (by rfl))))) (bx_one (sx_ret (ex_bl))) (bx_nil)) (bx_cons (sx_set sc__law_is_globe.nd rfl (.inl rfl) (ex_ix (ex_ix (ex_var (pv 0)) (ex_int) (fun _ _ => rfl)) (ex_un o_neg (ex_int)) (fun _ _ => rfl))) (bx_cons (sx_setLc rfl sc__law_is_globe.nd rfl rfl rfl (KV.ix_seq (ex_ix (ex_var (pv 1)) (ex_int) (fun _ _ => rfl))) (own := [(("_law_one" : Str), 4)]) (blk_of rfl rfl) (by decide) (fun _ _ _ _ _ => gx_name (pg_name sc__law_is_globe.nd rfl (.inl rfl))) (fun _ _ _ _ _ => pts0) (fun _ _ _ _ _ => ex_cmp o_isN (ex_ix (ex_ix (ex_var (pv 4)) (ex_int) (fun _ _ => rfl)) (ex_int) (fun _ _ => rfl)) (ex_non) (by rfl))) (bx_cons (sx_for PassesOwn.never rfl (KV.ix_seq (ex_slice (ex_ix (ex_var (pv 0)) (ex_int) (fun _ _ => rfl)) po0 (po1 (ex_un o_neg (ex_int))))) (gx_name (pg_name sc__law_is_globe.nd rfl (.inl rfl))) (bx_one (sx_set sc__law_is_globe.nd rfl (.inl rfl) (ex_bin o_add (ex_var (pv 2)) (ex_lc rfl sc__law_is_globe.nd (KV.ix_seq (ex_ix (ex_var (pv 3)) (ex_int) (fun _ _ => rfl))) (own := [(("_law_one" : Str), 4)]) (blk_of rfl rfl) (by decide) (fun _ _ _ _ _ => gx_name (pg_name sc__law_is_globe.nd rfl (.inl rfl))) (fun _ _ _ _ _ => pts0) (fun _ _ _ _ _ => ex_cmp o_notN (ex_ix (ex_ix (ex_var (pv 4)) (ex_int) (fun _ _ => rfl)) (ex_int) (fun _ _ => rfl)) (ex_non) (by rfl))))))) (bx_one (sx_ret (ex_callB (c_all rfl) rfl Z.f_all bb_all (exs_cons (ex_var (pv 2)) (exs_nil))))))))))
theorem ok__law_odd {P : Program} {w : World} {K : PySem.W.Frag} {mg : Str → Option Value} {base : Heap} (Z : Facts K mg) : ∃ f fd, OkB P w K mg base 3 "_law_odd" ["_law_box_here"] s__law_odd f fd G__law_odd := by
  obtain ⟨f, fd, hm, FD⟩ := Z.d__law_odd
  obtain ⟨f__law_pick, d__law_pick, F__law_pick⟩ := ok__law_pick (P := P) (w := w) (base := base) Z
  refine ⟨f, fd, hm, FD.kp, FD.bindsN (fun _ _ _ _ _ _ us hl => match us, hl with | [_], _ => rfl), FD, fnB_of (k := 2) (He5.fun_of FD) sc__law_odd fun cdv A outer s H hgd hr0 => ⟨_, ?_, fun _ _ _ h => h⟩⟩
  have hr := hr0
  have hu := hr.units
  exact bx_cons (sx_set sc__law_odd.nd rfl (.inl rfl) (ex_lst (exv_cons (ex_non) (exv_cons (ex_bl) (exv_cons (ex_bl) (exv_cons (ex_un o_neg (ex_int)) (exv_cons (ex_int) (exv_cons (ex_int) (exv_cons (ex_int) (exv_cons (ex_int) (exv_cons (ex_bin o_pow (ex_int) (ex_int)) (exv_cons (ex_str) (exv_cons (ex_str) (exv_cons (ex_str) (exv_cons (ex_str) (exv_cons (ex_str) (exv_cons (ex_tup (exv_nil)) (exv_cons (ex_lst (exv_nil)) (exv_cons (ex_tup (exv_cons (ex_int) (exv_nil))) (exv_cons (ex_tup (exv_cons (ex_int) (exv_cons (ex_int) (exv_nil)))) (exv_nil))))))))))))))))))))) (bx_one (sx_ret (ex_callBx (FnG.mono F__law_pick.run (by decide)) hgd hr F__law_pick.m F__law_pick.kp F__law_pick.b (pv 0) (exv_cons (ex_bin o_add (ex_var (pv 1)) (ex_lst (exv_cons (ex_tup (exv_cons (ex_tup (exv_cons (ex_int) (exv_cons (ex_int) (exv_nil)))) (exv_nil))) (exv_cons (ex_tup (exv_cons (ex_tup (exv_cons (ex_int) (exv_cons (ex_int) (exv_nil)))) (exv_cons (ex_tup (exv_cons (ex_int) (exv_cons (ex_int) (exv_nil)))) (exv_nil)))) (exv_cons (ex_tup (exv_cons (ex_tup (exv_cons (ex_int) (exv_cons (ex_int) (exv_nil)))) (exv_cons (ex_tup (exv_cons (ex_int) (exv_cons (ex_int) (exv_nil)))) (exv_nil)))) (exv_cons (ex_tup (exv_cons (ex_bl) (exv_cons (ex_int) (exv_nil)))) (exv_cons (ex_tup (exv_cons (ex_int) (exv_cons (ex_bl) (exv_nil)))) (exv_cons (ex_lst (exv_cons (ex_int) (exv_cons (ex_int) (exv_nil)))) (exv_cons (ex_tup (exv_cons (ex_int) (exv_cons (ex_int) (exv_nil)))) (exv_nil)))))))))) (exv_nil)) (fun r ds r' h => by have := (vCons_len vNil_len) r ds r' h; show ds.length + 1 = 2; omega))))
theorem ok__law_bent {P : Program} {w : World} {K : PySem.W.Frag} {mg : Str → Option Value} {base : Heap} (Z : Facts K mg) : ∃ f fd, OkB P w K mg base 15 "_law_bent" ["_law_box_here", "_law_matter"] s__law_bent f fd G__law_bent := by
  obtain ⟨f, fd, hm, FD⟩ := Z.d__law_bent
  obtain ⟨f__law_is_int, d__law_is_int, F__law_is_int⟩ := ok__law_is_int (P := P) (w := w) (base := base) Z
  obtain ⟨f__law_odd, d__law_odd, F__law_odd⟩ := ok__law_odd (P := P) (w := w) (base := base) Z
  obtain ⟨f__law_pick, d__law_pick, F__law_pick⟩ := ok__law_pick (P := P) (w := w) (base := base) Z
  obtain ⟨f__law_take, d__law_take, F__law_take⟩ := ok__law_take (P := P) (w := w) (base := base) Z
  have hk := FD.kp
  have hb : Binds K fd ["_law_box_here", "_law_matter"] [] := FD.bindsN (fun _ _ _ _ _ _ us hl => match us, hl with | [_, _], _ => rfl)
  refine ⟨f, fd, hm, hk, hb, FD, ?_⟩
  have all : ∀ n : Nat, FnB P w K mg base (n + 3) f fd ["_law_box_here", "_law_matter"] (Gz__law_bent n) := fun n => by
    induction n with
    | zero => exact fnB_none
    | succ n hF =>
      refine FnG.mono (fnB_of (k := n + 3) (He5.fun_of FD) sc__law_bent fun cdv A outer s H hgd hr => ⟨_, ?_, fun _ _ _ h => h⟩) (by omega)
      have hu := hr.units
      exact bx_cons (sx_set sc__law_bent.nd rfl (.inl rfl) (ex_callBx (FnG.mono F__law_take.run (by omega)) hgd hr F__law_take.m F__law_take.kp F__law_take.b (pv 0) (exv_cons (ex_int) (exv_nil)) (fun r ds r' h => by have := (vCons_len vNil_len) r ds r' h; show ds.length + 1 = 2; omega))) (bx_cons (sx_if (tx_of_wx (wx_and (tx_val (ex_isi2 (ex_var (pv 1)) rfl Z.f_isinstance rfl Z.f_list bt_list rfl Z.f_tuple bt_tuple)) (wx_and (tx_cmp o_gt (ex_callB c_len rfl Z.f_len bb_len (exs_cons (ex_var (pv 1)) (exs_nil))) (ex_int) (by rfl)) (wx_and1 (tx_cmp o_gt (ex_var (pv 2)) (ex_int) (by rfl)))))) (bx_cons (sx_parO rfl sc__law_bent.nd rfl rfl (by decide) rfl rfl (ex_callBx (FnG.mono F__law_take.run (by omega)) hgd hr F__law_take.m F__law_take.kp F__law_take.b (pv 0) (exv_cons (ex_callB c_len rfl Z.f_len bb_len (exs_cons (ex_var (pv 1)) (exs_nil))) (exv_nil)) (fun r ds r' h => by have := (vCons_len vNil_len) r ds r' h; show ds.length + 1 = 2; omega)) (ex_callTy c_list rfl Z.f_list bt_list (exs_cons (ex_var (pv 1)) (exs_nil))) rfl) (bx_cons (sx_if (tx_cmp (o_eq hu) (ex_var (pv 2)) (ex_int) (by rfl)) (bx_one (sx_expr (ex_pop (pv 4) (ex_var (pv 3))))) (bx_one (sx_if (tx_cmp (o_eq hu) (ex_var (pv 2)) (ex_int) (by rfl)) (bx_one (sx_expr (ex_ins (pv 4) (ex_var (pv 3)) (ex_ix (ex_var (pv 4)) (ex_var (pv 3)) (fun _ _ => rfl))))) (bx_one (sx_if (tx_cmp (o_eq hu) (ex_var (pv 2)) (ex_int) (by rfl)) (bx_one (sx_set sc__law_bent.nd rfl (.inl rfl) (ex_rev (ex_var (pv 4))))) (bx_one (sx_setIx (pv 4) (ex_callBx hF hgd hr hm hk hb (pv 0) (exv_cons (ex_ix (ex_var (pv 4)) (ex_var (pv 3)) (fun _ _ => rfl)) (exv_nil)) (fun r ds r' h => by have := (vCons_len vNil_len) r ds r' h; show ds.length + 1 = 2; omega)) (ex_var (pv 3))))))))) (bx_one (sx_ret (ex_if (tx_val (ex_isi (ex_var (pv 1)) rfl Z.f_isinstance rfl Z.f_tuple bt_tuple)) (ex_callTy c_tuple rfl Z.f_tuple bt_tuple (exs_cons (ex_var (pv 4)) (exs_nil))) (ex_var (pv 4))))))) (bx_nil)) (bx_cons (sx_if (tx_of_wx (wx_and (tx_cmp (o_eq hu) (ex_var (pv 2)) (ex_int) (by rfl)) (wx_and1 (tx_val (ex_isi (ex_var (pv 1)) rfl Z.f_isinstance rfl Z.f_tuple bt_tuple))))) (bx_one (sx_ret (ex_callTy c_list rfl Z.f_list bt_list (exs_cons (ex_var (pv 1)) (exs_nil))))) (bx_nil)) (bx_cons (sx_if (tx_of_wx (wx_and (tx_cmp (o_eq hu) (ex_var (pv 2)) (ex_int) (by rfl)) (wx_and1 (tx_val (ex_call (FnG.mono F__law_is_int.run (by omega)) hgd hr F__law_is_int.m F__law_is_int.kp F__law_is_int.b (exv_cons (ex_var (pv 1)) (exv_nil)) (vCons_len vNil_len)))))) (bx_one (sx_ret (ex_bin o_add (ex_var (pv 1)) (ex_callBx (FnG.mono F__law_pick.run (by omega)) hgd hr F__law_pick.m F__law_pick.kp F__law_pick.b (pv 0) (exv_cons (ex_lst (exv_cons (ex_int) (exv_cons (ex_int) (exv_cons (ex_un o_neg (ex_int)) (exv_nil))))) (exv_nil)) (fun r ds r' h => by have := (vCons_len vNil_len) r ds r' h; show ds.length + 1 = 2; omega))))) (bx_nil)) (bx_one (sx_ret (ex_callBx (FnG.mono F__law_odd.run (by omega)) hgd hr F__law_odd.m F__law_odd.kp F__law_odd.b (pv 0) (exv_nil) (fun r ds r' h => by have := vNil_len r ds r' h; show ds.length + 1 = 1; omega)))))))
  exact all 12
theorem ok__law_judged {P : Program} {w : World} {K : PySem.W.Frag} {mg : Str → Option Value} {base : Heap} (Z : Facts K mg) : ∃ f fd, Ok P w K mg base 13 "_law_judged" ["_law_matter"] s__law_judged f fd F__law_judged := by
  obtain ⟨f, fd, hm, FD⟩ := Z.d__law_judged
  obtain ⟨f__law_is_globe, d__law_is_globe, F__law_is_globe⟩ := ok__law_is_globe (P := P) (w := w) (base := base) Z
  obtain ⟨f__law_is_key, d__law_is_key, F__law_is_key⟩ := ok__law_is_key (P := P) (w := w) (base := base) Z
  obtain ⟨f__law_is_row, d__law_is_row, F__law_is_row⟩ := ok__law_is_row (P := P) (w := w) (base := base) Z
  obtain ⟨f__law_is_site, d__law_is_site, F__law_is_site⟩ := ok__law_is_site (P := P) (w := w) (base := base) Z
  obtain ⟨f__law_is_told, d__law_is_told, F__law_is_told⟩ := ok__law_is_told (P := P) (w := w) (base := base) Z
  obtain ⟨f__law_same, d__law_same, F__law_same⟩ := ok__law_same (P := P) (w := w) (base := base) Z
  obtain ⟨f_is_key, d_is_key, F_is_key⟩ := ok_is_key (P := P) (w := w) (base := base) Z
  obtain ⟨f_is_line, d_is_line, F_is_line⟩ := ok_is_line (P := P) (w := w) (base := base) Z
  obtain ⟨f_is_version, d_is_version, F_is_version⟩ := ok_is_version (P := P) (w := w) (base := base) Z
  obtain ⟨f_is_world, d_is_world, F_is_world⟩ := ok_is_world (P := P) (w := w) (base := base) Z
  obtain ⟨f_is_zone, d_is_zone, F_is_zone⟩ := ok_is_zone (P := P) (w := w) (base := base) Z
  refine ⟨f, fd, hm, FD.kp, FD.bindsN (fun _ _ _ _ _ _ us hl => match us, hl with | [_], _ => rfl), FD, fnP_of (k := 12) (He5.fun_of FD) sc__law_judged fun cdv A outer s H hgd hr0 => ⟨_, ?_, fun _ _ h => h⟩⟩
  have hr := hr0
  have hu := hr.units
  exact bx_cons (sx_set sc__law_judged.nd rfl (.inl rfl) (ex_lst (exv_cons (ex_call (FnG.mono F_is_key.run (by decide)) hgd hr F_is_key.m F_is_key.kp F_is_key.b (exv_cons (ex_var (pv 0)) (exv_nil)) (vCons_len vNil_len)) (exv_cons (ex_call (FnG.mono F_is_version.run (by decide)) hgd hr F_is_version.m F_is_version.kp F_is_version.b (exv_cons (ex_var (pv 0)) (exv_nil)) (vCons_len vNil_len)) (exv_cons (ex_call (FnG.mono F_is_line.run (by decide)) hgd hr F_is_line.m F_is_line.kp F_is_line.b (exv_cons (ex_var (pv 0)) (exv_nil)) (vCons_len vNil_len)) (exv_cons (ex_call (FnG.mono F_is_zone.run (by decide)) hgd hr F_is_zone.m F_is_zone.kp F_is_zone.b (exv_cons (ex_var (pv 0)) (exv_nil)) (vCons_len vNil_len)) (exv_cons (ex_call (FnG.mono F_is_world.run (by decide)) hgd hr F_is_world.m F_is_world.kp F_is_world.b (exv_cons (ex_var (pv 0)) (exv_nil)) (vCons_len vNil_len)) (exv_nil)))))))) (bx_cons (sx_set sc__law_judged.nd rfl (.inl rfl) (ex_bin o_add (ex_var (pv 1)) (ex_lst (exv_cons (ex_callK0 (FnG.mono F_is_key.run (by decide)) hgd hr F_is_key.m F_is_key.kp (kb_of (is := [0]) (m := 0) (n := 1) (ks := [("thing" : Str)]) F_is_key.D (by simp) (fun _ _ _ _ _ _ us ws h1 h2 => match us, ws, h1, h2 with | [], [_], _, _ => rfl)) (kxv_cons (ex_var (pv 0)) (kxv_nil)) (vCons_len vNil_len) (fun cs ds h1 h2 => match cs, ds, h1, h2 with | [], [_], _, _ => rfl)) (exv_cons (ex_callK0 (FnG.mono F_is_version.run (by decide)) hgd hr F_is_version.m F_is_version.kp (kb_of (is := [0]) (m := 0) (n := 1) (ks := [("thing" : Str)]) F_is_version.D (by simp) (fun _ _ _ _ _ _ us ws h1 h2 => match us, ws, h1, h2 with | [], [_], _, _ => rfl)) (kxv_cons (ex_var (pv 0)) (kxv_nil)) (vCons_len vNil_len) (fun cs ds h1 h2 => match cs, ds, h1, h2 with | [], [_], _, _ => rfl)) (exv_cons (ex_callK0 (FnG.mono F_is_line.run (by decide)) hgd hr F_is_line.m F_is_line.kp (kb_of (is := [0]) (m := 0) (n := 1) (ks := [("thing" : Str)]) F_is_line.D (by simp) (fun _ _ _ _ _ _ us ws h1 h2 => match us, ws, h1, h2 with | [], [_], _, _ => rfl)) (kxv_cons (ex_var (pv 0)) (kxv_nil)) (vCons_len vNil_len) (fun cs ds h1 h2 => match cs, ds, h1, h2 with | [], [_], _, _ => rfl)) (exv_nil))))))) (bx_cons (sx_set sc__law_judged.nd rfl (.inl rfl) (ex_bin o_add (ex_var (pv 1)) (ex_lst (exv_cons (ex_callK0 (FnG.mono F_is_zone.run (by decide)) hgd hr F_is_zone.m F_is_zone.kp (kb_of (is := [0]) (m := 0) (n := 1) (ks := [("thing" : Str)]) F_is_zone.D (by simp) (fun _ _ _ _ _ _ us ws h1 h2 => match us, ws, h1, h2 with | [], [_], _, _ => rfl)) (kxv_cons (ex_var (pv 0)) (kxv_nil)) (vCons_len vNil_len) (fun cs ds h1 h2 => match cs, ds, h1, h2 with | [], [_], _, _ => rfl)) (exv_cons (ex_callK0 (FnG.mono F_is_world.run (by decide)) hgd hr F_is_world.m F_is_world.kp (kb_of (is := [0]) (m := 0) (n := 1) (ks := [("thing" : Str)]) F_is_world.D (by simp) (fun _ _ _ _ _ _ us ws h1 h2 => match us, ws, h1, h2 with | [], [_], _, _ => rfl)) (kxv_cons (ex_var (pv 0)) (kxv_nil)) (vCons_len vNil_len) (fun cs ds h1 h2 => match cs, ds, h1, h2 with | [], [_], _, _ => rfl)) (exv_nil)))))) (bx_cons (sx_set sc__law_judged.nd rfl (.inl rfl) (ex_lst (exv_cons (ex_call (FnG.mono F__law_is_key.run (by decide)) hgd hr F__law_is_key.m F__law_is_key.kp F__law_is_key.b (exv_cons (ex_var (pv 0)) (exv_nil)) (vCons_len vNil_len)) (exv_cons (ex_call (FnG.mono F__law_is_told.run (by decide)) hgd hr F__law_is_told.m F__law_is_told.kp F__law_is_told.b (exv_cons (ex_var (pv 0)) (exv_nil)) (vCons_len vNil_len)) (exv_cons (ex_call (FnG.mono F__law_is_row.run (by decide)) hgd hr F__law_is_row.m F__law_is_row.kp F__law_is_row.b (exv_cons (ex_var (pv 0)) (exv_nil)) (vCons_len vNil_len)) (exv_cons (ex_call (FnG.mono F__law_is_site.run (by decide)) hgd hr F__law_is_site.m F__law_is_site.kp F__law_is_site.b (exv_cons (ex_var (pv 0)) (exv_nil)) (vCons_len vNil_len)) (exv_cons (ex_call (FnG.mono F__law_is_globe.run (by decide)) hgd hr F__law_is_globe.m F__law_is_globe.kp F__law_is_globe.b (exv_cons (ex_var (pv 0)) (exv_nil)) (vCons_len vNil_len)) (exv_nil)))))))) (bx_one (sx_ret (ex_call (FnG.mono F__law_same.run (by decide)) hgd hr F__law_same.m F__law_same.kp F__law_same.b (exv_cons (ex_var (pv 1)) (exv_cons (ex_bin o_add (ex_var (pv 2)) (ex_var (pv 2))) (exv_nil))) (vCons_len (vCons_len vNil_len))))))))
theorem ok__law_right {P : Program} {w : World} {K : PySem.W.Frag} {mg : Str → Option Value} {base : Heap} (Z : Facts K mg) : ∃ f fd, OkB P w K mg base 16 "_law_right" ["_law_box_here"] s__law_right f fd G__law_right := by
  obtain ⟨f, fd, hm, FD⟩ := Z.d__law_right
  obtain ⟨f__law_bent, d__law_bent, F__law_bent⟩ := ok__law_bent (P := P) (w := w) (base := base) Z
  obtain ⟨f__law_is_globe, d__law_is_globe, F__law_is_globe⟩ := ok__law_is_globe (P := P) (w := w) (base := base) Z
  obtain ⟨f__law_judged, d__law_judged, F__law_judged⟩ := ok__law_judged (P := P) (w := w) (base := base) Z
  obtain ⟨f__law_odd, d__law_odd, F__law_odd⟩ := ok__law_odd (P := P) (w := w) (base := base) Z
  obtain ⟨f__law_pick, d__law_pick, F__law_pick⟩ := ok__law_pick (P := P) (w := w) (base := base) Z
  obtain ⟨f__law_take, d__law_take, F__law_take⟩ := ok__law_take (P := P) (w := w) (base := base) Z
  obtain ⟨f__law_world, d__law_world, F__law_world⟩ := ok__law_world (P := P) (w := w) (base := base) Z
  refine ⟨f, fd, hm, FD.kp, FD.bindsN (fun _ _ _ _ _ _ us hl => match us, hl with | [_], _ => rfl), FD, fnB_of (k := 15) (He5.fun_of FD) sc__law_right fun cdv A outer s H hgd hr0 => ⟨_, ?_, fun _ _ _ h => h⟩⟩
  have hr := hr0
  have hu := hr.units
  exact bx_cons (sx_set sc__law_right.nd rfl (.inl rfl) (ex_callBx (FnG.mono F__law_world.run (by decide)) hgd hr F__law_world.m F__law_world.kp F__law_world.b (pv 0) (exv_cons (ex_int) (exv_cons (ex_int) (exv_nil))) (fun r ds r' h => by have := (vCons_len (vCons_len vNil_len)) r ds r' h; show ds.length + 1 = 3; omega))) (bx_cons (sx_set sc__law_right.nd rfl (.inl rfl) (ex_callBx (FnG.mono F__law_pick.run (by decide)) hgd hr F__law_pick.m F__law_pick.kp F__law_pick.b (pv 0) (exv_cons (ex_callTy c_list rfl Z.f_list bt_list (exs_cons (ex_ix (ex_var (pv 1)) (ex_int) (fun _ _ => rfl)) (exs_nil))) (exv_nil)) (fun r ds r' h => by have := (vCons_len vNil_len) r ds r' h; show ds.length + 1 = 2; omega))) (bx_cons (sx_set sc__law_right.nd rfl (.inl rfl) (ex_ix (ex_callBx (FnG.mono F__law_pick.run (by decide)) hgd hr F__law_pick.m F__law_pick.kp F__law_pick.b (pv 0) (exv_cons (ex_callTy c_list rfl Z.f_list bt_list (exs_cons (ex_ix (ex_var (pv 2)) (ex_int) (fun _ _ => rfl)) (exs_nil))) (exv_nil)) (fun r ds r' h => by have := (vCons_len vNil_len) r ds r' h; show ds.length + 1 = 2; omega)) (ex_int) (fun _ _ => rfl))) (bx_cons (sx_set sc__law_right.nd rfl (.inl rfl) (ex_lst (exv_cons (ex_var (pv 1)) (exv_cons (ex_var (pv 2)) (exv_cons (ex_ix (ex_var (pv 2)) (ex_int) (fun _ _ => rfl)) (exv_cons (ex_var (pv 3)) (exv_cons (ex_ix (ex_var (pv 1)) (ex_int) (fun _ _ => rfl)) (exv_cons (ex_tup (exv_cons (ex_int) (exv_cons (ex_int) (exv_nil)))) (exv_cons (ex_bin o_add (ex_bin o_add (ex_slice (ex_var (pv 1)) po0 (po1 (ex_int))) (ex_tup (exv_cons (ex_tup (exv_nil)) (exv_nil)))) (ex_slice (ex_var (pv 1)) (po1 (ex_int)) po0)) (exv_cons (ex_bin o_add (ex_tup (exv_cons (ex_bin o_mulT (ex_ix (ex_var (pv 1)) (ex_int) (fun _ _ => rfl)) (ex_int)) (exv_nil))) (ex_slice (ex_var (pv 1)) (po1 (ex_int)) po0)) (exv_nil))))))))))) (bx_cons (sx_set sc__law_right.nd rfl (.inl rfl) (ex_bin o_add (ex_var (pv 4)) (ex_lc rfl sc__law_right.nd (ix_range1 rfl Z.f_range (exs_cons (ex_int) (exs_nil))) (own := [(("_law_turn" : Str), 5)]) (blk_of rfl rfl) (by decide) (fun _ _ _ _ _ => gx_name (pg_name sc__law_right.nd rfl (.inl rfl))) (fun _ _ _ _ _ => pts0) (fun _ _ _ _ _ => ex_callBx (FnG.mono F__law_odd.run (by decide)) hgd hr F__law_odd.m F__law_odd.kp F__law_odd.b (pv 0) (exv_nil) (fun r ds r' h => by have := vNil_len r ds r' h; show ds.length + 1 = 1; omega))))) (bx_cons (sx_for PassesOwn.never rfl (ix_range1 rfl Z.f_range (exs_cons (ex_int) (exs_nil))) (gx_name (pg_name sc__law_right.nd rfl (.inl rfl))) (bx_cons (sx_set sc__law_right.nd rfl (.inl rfl) (ex_callBx (FnG.mono F__law_bent.run (by decide)) hgd hr F__law_bent.m F__law_bent.kp F__law_bent.b (pv 0) (exv_cons (ex_callBx (FnG.mono F__law_pick.run (by decide)) hgd hr F__law_pick.m F__law_pick.kp F__law_pick.b (pv 0) (exv_cons (ex_slice (ex_var (pv 4)) po0 (po1 (ex_int))) (exv_nil)) (fun r ds r' h => by have := (vCons_len vNil_len) r ds r' h; show ds.length + 1 = 2; omega)) (exv_nil)) (fun r ds r' h => by have := (vCons_len vNil_len) r ds r' h; show ds.length + 1 = 2; omega))) (bx_one (sx_expr (ex_app (pv 4) (ex_if (tx_cmp (o_eq hu) (ex_callBx (FnG.mono F__law_take.run (by decide)) hgd hr F__law_take.m F__law_take.kp F__law_take.b (pv 0) (exv_cons (ex_int) (exv_nil)) (fun r ds r' h => by have := (vCons_len vNil_len) r ds r' h; show ds.length + 1 = 2; omega)) (ex_int) (by rfl)) (ex_callBx (FnG.mono F__law_bent.run (by decide)) hgd hr F__law_bent.m F__law_bent.kp F__law_bent.b (pv 0) (exv_cons (ex_var (pv 6)) (exv_nil)) (fun r ds r' h => by have := (vCons_len vNil_len) r ds r' h; show ds.length + 1 = 2; omega)) (ex_var (pv 6)))))))) (bx_cons (sx_if (tx_not (tx_val (ex_call (FnG.mono F__law_is_globe.run (by decide)) hgd hr F__law_is_globe.m F__law_is_globe.kp F__law_is_globe.b (exv_cons (ex_var (pv 1)) (exv_nil)) (vCons_len vNil_len)))) (bx_one (sx_ret (ex_bl))) (bx_nil)) (bx_cons (sx_set sc__law_right.nd rfl (.inl rfl) (ex_bin o_add (ex_var (pv 4)) (ex_lst (exv_cons (ex_tup (exv_cons (ex_tup (exv_cons (ex_tup (exv_cons (ex_int) (exv_cons (ex_int) (exv_nil)))) (exv_cons (ex_tup (exv_cons (ex_int) (exv_cons (ex_int) (exv_nil)))) (exv_nil)))) (exv_cons (ex_tup (exv_nil)) (exv_cons (ex_non) (exv_cons (ex_tup (exv_nil)) (exv_cons (ex_tup (exv_nil)) (exv_nil))))))) (exv_cons (ex_tup (exv_cons (ex_tup (exv_cons (ex_tup (exv_cons (ex_int) (exv_cons (ex_int) (exv_nil)))) (exv_nil))) (exv_cons (ex_tup (exv_cons (ex_un o_neg (ex_int)) (exv_cons (ex_int) (exv_nil)))) (exv_cons (ex_tup (exv_nil)) (exv_cons (ex_tup (exv_cons (ex_un o_neg (ex_int)) (exv_cons (ex_int) (exv_nil)))) (exv_cons (ex_tup (exv_cons (ex_int) (exv_nil))) (exv_nil))))))) (exv_cons (ex_tup (exv_cons (ex_tup (exv_nil)) (exv_cons (ex_tup (exv_nil)) (exv_cons (ex_tup (exv_nil)) (exv_cons (ex_tup (exv_nil)) (exv_cons (ex_tup (exv_nil)) (exv_nil))))))) (exv_nil))))))) (bx_cons (sx_for PassesOwn.never rfl (KV.ix_seq (ex_bin o_add (ex_var (pv 4)) (ex_lst (exv_cons (ex_tup (exv_cons (ex_ix (ex_var (pv 2)) (ex_int) (fun _ _ => rfl)) (exv_cons (ex_int) (exv_cons (ex_int) (exv_cons (ex_int) (exv_cons (ex_int) (exv_cons (ex_int) (exv_nil)))))))) (exv_cons (ex_tup (exv_cons (ex_ix (ex_var (pv 2)) (ex_int) (fun _ _ => rfl)) (exv_cons (ex_int) (exv_cons (ex_int) (exv_cons (ex_int) (exv_cons (ex_int) (exv_cons (ex_int) (exv_nil)))))))) (exv_cons (ex_tup (exv_cons (ex_ix (ex_var (pv 2)) (ex_int) (fun _ _ => rfl)) (exv_cons (ex_int) (exv_cons (ex_int) (exv_cons (ex_int) (exv_cons (ex_int) (exv_cons (ex_int) (exv_nil)))))))) (exv_nil))))))) (gx_name (pg_name sc__law_right.nd rfl (.inl rfl))) (bx_cons (sx_set sc__law_right.nd rfl (.inl rfl) (ex_callB (c_repr hgd hu) rfl Z.f_repr bb_repr (exs_cons (ex_var (pv 7)) (exs_nil)))) (bx_one (sx_if (tx_of_wx (wx_or (tx_not (tx_val (ex_call (FnG.mono F__law_judged.run (by decide)) hgd hr F__law_judged.m F__law_judged.kp F__law_judged.b (exv_cons (ex_var (pv 7)) (exv_nil)) (vCons_len vNil_len)))) (wx_or1 (tx_cmp (o_ne hu) (ex_callB (c_repr hgd hu) rfl Z.f_repr bb_repr (exs_cons (ex_var (pv 7)) (exs_nil))) (ex_var (pv 8)) (by rfl))))) (bx_one (sx_ret (ex_bl))) (bx_nil))))) (bx_one (sx_ret (ex_bl)))))))))))
theorem ok_law {P : Program} {w : World} {K : PySem.W.Frag} {mg : Str → Option Value} {base : Heap} (Z : Facts K mg) : ∃ f fd, Ok P w K mg base 17 "law" ["_law_script"] s_law f fd F_law := by
  obtain ⟨f, fd, hm, FD⟩ := Z.d_law
  obtain ⟨f__law_box, d__law_box, F__law_box⟩ := ok__law_box (P := P) (w := w) (base := base) Z
  obtain ⟨f__law_right, d__law_right, F__law_right⟩ := ok__law_right (P := P) (w := w) (base := base) Z
  refine ⟨f, fd, hm, FD.kp, FD.bindsN (fun _ _ _ _ _ _ us hl => match us, hl with | [_], _ => rfl), FD, fnP_of (k := 16) (He5.fun_of FD) sc_law fun cdv A outer s H hgd hr0 => ⟨_, ?_, fun _ _ h => h⟩⟩
  have hr := hr0
  have hu := hr.units
  exact bx_one (sx_ret (ex_callB (c_all rfl) rfl Z.f_all bb_all (exs_cons (ex_lc rfl sc_law.nd (ix_range1 rfl Z.f_range (exs_cons (ex_bin o_add (ex_int) (ex_callB (c_min2 rfl) rfl Z.f_min bb_min (exs_cons (ex_int) (exs_cons (ex_callB c_len rfl Z.f_len bb_len (exs_cons (ex_var (pv 0)) (exs_nil))) (exs_nil))))) (exs_nil))) (own := [(("_law_k" : Str), 1)]) (blk_of rfl rfl) (by decide) (fun _ _ _ _ _ => gx_name (pg_name sc_law.nd rfl (.inl rfl))) (fun _ _ _ _ _ => pts0) (fun _ _ _ _ _ => ex_callT (FnG.mono F__law_right.run (by decide)) hgd hr F__law_right.m F__law_right.kp F__law_right.b (ex_call (FnG.mono F__law_box.run (by decide)) hgd hr F__law_box.m F__law_box.kp F__law_box.b (exv_cons (ex_var (pv 0)) (exv_cons (ex_var (pv 1)) (exv_nil))) (vCons_len (vCons_len vNil_len))) rfl)) (exs_nil))))
theorem fd_eq {K : PySem.W.Frag} {x qual : Str} {params : Arguments} {body : List Stmt} {scope : Scope} {f : Addr} {fd fd2 : FuncData} (a : FunD K x qual params body scope [] [] f fd) (b : FunD K x qual params body scope [] [] f fd2) : fd = fd2 := by
  obtain ⟨_, _, _, _, _, _, _, _, _, _, e1, l1, _⟩ := a.ex
  obtain ⟨_, _, _, _, _, _, _, _, _, _, e2, l2, _⟩ := b.ex
  rw [l1] at l2
  injection l2 with l2
  injection l2 with _ _ l2
  injection l2
end KL

end

section
namespace KL
open PySem PySem.Spec PyProof.Rows L2 KV
def dd_0 : He.DefD := ⟨("is_whole", none), "is_whole", "is_whole", defArgs s_is_whole, defBody s_is_whole, defScope s_is_whole, [], []⟩
def dd_1 : He.DefD := ⟨("is_number", none), "is_number", "is_number", defArgs s_is_number, defBody s_is_number, defScope s_is_number, [], []⟩
def dd_2 : He.DefD := ⟨("rises", none), "rises", "rises", defArgs s_rises, defBody s_rises, defScope s_rises, [], []⟩
def dd_3 : He.DefD := ⟨("is_key", none), "is_key", "is_key", defArgs s_is_key, defBody s_is_key, defScope s_is_key, [], []⟩
def dd_4 : He.DefD := ⟨("are_keys", none), "are_keys", "are_keys", defArgs s_are_keys, defBody s_are_keys, defScope s_are_keys, [], []⟩
def dd_5 : He.DefD := ⟨("are_numbers", none), "are_numbers", "are_numbers", defArgs s_are_numbers, defBody s_are_numbers, defScope s_are_numbers, [], []⟩
def dd_6 : He.DefD := ⟨("is_version", none), "is_version", "is_version", defArgs s_is_version, defBody s_is_version, defScope s_is_version, [], []⟩
def dd_7 : He.DefD := ⟨("is_line", none), "is_line", "is_line", defArgs s_is_line, defBody s_is_line, defScope s_is_line, [], []⟩
def dd_8 : He.DefD := ⟨("is_zone", none), "is_zone", "is_zone", defArgs s_is_zone, defBody s_is_zone, defScope s_is_zone, [], []⟩
def dd_9 : He.DefD := ⟨("fits_place", none), "fits_place", "fits_place", defArgs s_fits_place, defBody s_fits_place, defScope s_fits_place, [], []⟩
def dd_10 : He.DefD := ⟨("is_world", none), "is_world", "is_world", defArgs s_is_world, defBody s_is_world, defScope s_is_world, [], []⟩
def dd_11 : He.DefD := ⟨("_law_box", none), "_law_box", "_law_box", defArgs s__law_box, defBody s__law_box, defScope s__law_box, [], []⟩
def dd_12 : He.DefD := ⟨("_law_take", none), "_law_take", "_law_take", defArgs s__law_take, defBody s__law_take, defScope s__law_take, [], []⟩
def dd_13 : He.DefD := ⟨("_law_pick", none), "_law_pick", "_law_pick", defArgs s__law_pick, defBody s__law_pick, defScope s__law_pick, [], []⟩
def dd_14 : He.DefD := ⟨("_law_same", none), "_law_same", "_law_same", defArgs s__law_same, defBody s__law_same, defScope s__law_same, [], []⟩
def dd_15 : He.DefD := ⟨("_law_row", none), "_law_row", "_law_row", defArgs s__law_row, defBody s__law_row, defScope s__law_row, [], []⟩
def dd_16 : He.DefD := ⟨("_law_begin_of", none), "_law_begin_of", "_law_begin_of", defArgs s__law_begin_of, defBody s__law_begin_of, defScope s__law_begin_of, [], []⟩
def dd_17 : He.DefD := ⟨("_law_without", none), "_law_without", "_law_without", defArgs s__law_without, defBody s__law_without, defScope s__law_without, [], []⟩
def dd_18 : He.DefD := ⟨("_law_changed", none), "_law_changed", "_law_changed", defArgs s__law_changed, defBody s__law_changed, defScope s__law_changed, [], []⟩
def dd_19 : He.DefD := ⟨("_law_zone", none), "_law_zone", "_law_zone", defArgs s__law_zone, defBody s__law_zone, defScope s__law_zone, [], []⟩
def dd_20 : He.DefD := ⟨("_law_world_of", none), "_law_world_of", "_law_world_of", defArgs s__law_world_of, defBody s__law_world_of, defScope s__law_world_of, [], []⟩
def dd_21 : He.DefD := ⟨("_law_world", none), "_law_world", "_law_world", defArgs s__law_world, defBody s__law_world, defScope s__law_world, [], []⟩
def dd_22 : He.DefD := ⟨("_law_is_int", none), "_law_is_int", "_law_is_int", defArgs s__law_is_int, defBody s__law_is_int, defScope s__law_is_int, [], []⟩
def dd_23 : He.DefD := ⟨("_law_is_key", none), "_law_is_key", "_law_is_key", defArgs s__law_is_key, defBody s__law_is_key, defScope s__law_is_key, [], []⟩
def dd_24 : He.DefD := ⟨("_law_climbs", none), "_law_climbs", "_law_climbs", defArgs s__law_climbs, defBody s__law_climbs, defScope s__law_climbs, [], []⟩
def dd_25 : He.DefD := ⟨("_law_are_keys", none), "_law_are_keys", "_law_are_keys", defArgs s__law_are_keys, defBody s__law_are_keys, defScope s__law_are_keys, [], []⟩
def dd_26 : He.DefD := ⟨("_law_are_ints", none), "_law_are_ints", "_law_are_ints", defArgs s__law_are_ints, defBody s__law_are_ints, defScope s__law_are_ints, [], []⟩
def dd_27 : He.DefD := ⟨("_law_is_told", none), "_law_is_told", "_law_is_told", defArgs s__law_is_told, defBody s__law_is_told, defScope s__law_is_told, [], []⟩
def dd_28 : He.DefD := ⟨("_law_is_row", none), "_law_is_row", "_law_is_row", defArgs s__law_is_row, defBody s__law_is_row, defScope s__law_is_row, [], []⟩
def dd_29 : He.DefD := ⟨("_law_is_site", none), "_law_is_site", "_law_is_site", defArgs s__law_is_site, defBody s__law_is_site, defScope s__law_is_site, [], []⟩
def dd_30 : He.DefD := ⟨("_law_is_globe", none), "_law_is_globe", "_law_is_globe", defArgs s__law_is_globe, defBody s__law_is_globe, defScope s__law_is_globe, [], []⟩
def dd_31 : He.DefD := ⟨("_law_odd", none), "_law_odd", "_law_odd", defArgs s__law_odd, defBody s__law_odd, defScope s__law_odd, [], []⟩
def dd_32 : He.DefD := ⟨("_law_bent", none), "_law_bent", "_law_bent", defArgs s__law_bent, defBody s__law_bent, defScope s__law_bent, [], []⟩
def dd_33 : He.DefD := ⟨("_law_judged", none), "_law_judged", "_law_judged", defArgs s__law_judged, defBody s__law_judged, defScope s__law_judged, [], []⟩
def dd_34 : He.DefD := ⟨("_law_right", none), "_law_right", "_law_right", defArgs s__law_right, defBody s__law_right, defScope s__law_right, [], []⟩
def dd_35 : He.DefD := ⟨("law", none), "law", "law", defArgs s_law, defBody s_law, defScope s_law, [], []⟩
def fn : List He.DefD := [dd_0, dd_1, dd_2, dd_3, dd_4, dd_5, dd_6, dd_7, dd_8, dd_9, dd_10, dd_11, dd_12, dd_13, dd_14, dd_15, dd_16, dd_17, dd_18, dd_19, dd_20, dd_21, dd_22, dd_23, dd_24, dd_25, dd_26, dd_27, dd_28, dd_29, dd_30, dd_31, dd_32, dd_33, dd_34, dd_35]
def fa : List He.Fa := [.glo "is_whole", .glo "is_number", .glo "rises", .glo "is_key", .glo "are_keys", .glo "are_numbers", .glo "is_version", .glo "is_line", .glo "is_zone", .glo "fits_place", .glo "is_world", .glo "_law_box", .glo "_law_take", .glo "_law_pick", .glo "_law_same", .glo "_law_row", .glo "_law_begin_of", .glo "_law_without", .glo "_law_changed", .glo "_law_zone", .glo "_law_world_of", .glo "_law_world", .glo "_law_is_int", .glo "_law_is_key", .glo "_law_climbs", .glo "_law_are_keys", .glo "_law_are_ints", .glo "_law_is_told", .glo "_law_is_row", .glo "_law_is_site", .glo "_law_is_globe", .glo "_law_odd", .glo "_law_bent", .glo "_law_judged", .glo "_law_right", .glo "law", .free "abs", .free "all", .free "bool", .free "enumerate", .free "int", .free "isinstance", .free "len", .free "list", .free "min", .free "range", .free "repr", .free "set", .free "sorted", .free "str", .free "tuple", .free "zip", .int "KEY_FIELDS" 2, .int "VERSION_FIELDS" 5, .int "WORLD_FIELDS" 3, .int "ZONE_FIELDS" 6]
def tu : List (Str × List Str) := [("RULES", [("any" : Str), ("each" : Str)])]
abbrev AlU : Type := He.AlD × Bool
def obsU (K : PySem.W.Frag) : AlU := (He.obsD fa fn K, tu.all fun p => tupB K p)
def SaysU (K : PySem.W.Frag) : Prop := obsU K = (He.valD fn, true)
def hookU : PySem.W.Hook where
  α := AlU
  obs := fun s => obsU (He.frG s.heap.get? (He.asD s.heap.get? 4))
  val := fun _ => (He.valD fn, true)
  says := fun _ h => ∃ K : PySem.W.Frag, K.In h ∧ SaysU K
  of := fun _ _ e => ⟨_, He.frG_in, e⟩
  keeps := fun _ _ _ ⟨K, hK, c⟩ k => ⟨K, PySem.W.Frag.In.keeps hK k, c⟩
theorem SaysU.d {K : PySem.W.Frag} (c : SaysU K) : He.SaysD fa fn K := congrArg (fun z : AlU => z.1) c
theorem SaysU.tup {K : PySem.W.Frag} (c : SaysU K) (i : Nat) {p : Str × List Str} (h : tu[i]? = some p := by rfl) : tupB K p = true :=
  List.all_eq_true.mp (congrArg (fun z : AlU => z.2) c) p (List.mem_of_getElem? h)

abbrev R : PySem.W.OpenRow := PySem.W.OpenLaw.row PySem.Challenge.rw_keyturns_k01_forms_or_not
abbrev hk : PySem.W.Hook := hookU
def ob (s : PySem.W.SharedT) : AlU := obsU (He.frG (HandSHeadRun.getT s) (He.asD (HandSHeadRun.getT s) 4))
theorem ob_eq (s : PySem.W.SharedT) : ob s = hk.obs s.abs := by
  have e : HandSHeadRun.getT s = s.abs.heap.get? := funext (HandSHeadRun.getT_eq s)
  show obsU (He.frG (HandSHeadRun.getT s) (He.asD (HandSHeadRun.getT s) 4)) = obsU (He.frG s.abs.heap.get? (He.asD s.abs.heap.get? 4))
  rw [e]
theorem run (w : World) : HandSHeadRun.RunEq R (PySem.W.view R.prog [44]) hk ob 4000 [("__name__" : PySem.Str), ("ANY" : PySem.Str), ("EACH" : PySem.Str), ("RULES" : PySem.Str), ("KEY_FIELDS" : PySem.Str), ("VERSION_FIELDS" : PySem.Str), ("ZONE_FIELDS" : PySem.Str), ("WORLD_FIELDS" : PySem.Str), ("is_whole" : PySem.Str), ("is_number" : PySem.Str), ("rises" : PySem.Str), ("is_key" : PySem.Str), ("are_keys" : PySem.Str), ("are_numbers" : PySem.Str), ("is_version" : PySem.Str), ("is_line" : PySem.Str), ("is_zone" : PySem.Str), ("fits_place" : PySem.Str), ("is_world" : PySem.Str), ("_law_box" : PySem.Str), ("_law_take" : PySem.Str), ("_law_pick" : PySem.Str), ("_law_same" : PySem.Str), ("_law_row" : PySem.Str), ("_law_begin_of" : PySem.Str), ("_law_without" : PySem.Str), ("_law_changed" : PySem.Str), ("_law_zone" : PySem.Str), ("_law_world" : PySem.Str), ("_law_world_of" : PySem.Str), ("_law_is_int" : PySem.Str), ("_law_is_key" : PySem.Str), ("_law_climbs" : PySem.Str), ("_law_are_keys" : PySem.Str), ("_law_are_ints" : PySem.Str), ("_law_is_told" : PySem.Str), ("_law_is_row" : PySem.Str), ("_law_is_site" : PySem.Str), ("_law_is_globe" : PySem.Str), ("_law_odd" : PySem.Str), ("_law_bent" : PySem.Str), ("_law_judged" : PySem.Str), ("_law_right" : PySem.Str)] w := by
  intro os
  kernel_rfl
theorem facts {K : PySem.W.Frag} {h : Heap} {mg : Str → Option Value} (X : K.In h) (G : h.Ns mainGlobals mg) (c : SaysU K) : Facts K mg where
  f_abs := He.free_ok X G ((SaysU.d c).fact 36 (f := .free "abs") rfl)
  f_all := He.free_ok X G ((SaysU.d c).fact 37 (f := .free "all") rfl)
  f_bool := He.free_ok X G ((SaysU.d c).fact 38 (f := .free "bool") rfl)
  f_enumerate := He.free_ok X G ((SaysU.d c).fact 39 (f := .free "enumerate") rfl)
  f_int := He.free_ok X G ((SaysU.d c).fact 40 (f := .free "int") rfl)
  f_isinstance := He.free_ok X G ((SaysU.d c).fact 41 (f := .free "isinstance") rfl)
  f_len := He.free_ok X G ((SaysU.d c).fact 42 (f := .free "len") rfl)
  f_list := He.free_ok X G ((SaysU.d c).fact 43 (f := .free "list") rfl)
  f_min := He.free_ok X G ((SaysU.d c).fact 44 (f := .free "min") rfl)
  f_range := He.free_ok X G ((SaysU.d c).fact 45 (f := .free "range") rfl)
  f_repr := He.free_ok X G ((SaysU.d c).fact 46 (f := .free "repr") rfl)
  f_set := He.free_ok X G ((SaysU.d c).fact 47 (f := .free "set") rfl)
  f_sorted := He.free_ok X G ((SaysU.d c).fact 48 (f := .free "sorted") rfl)
  f_str := He.free_ok X G ((SaysU.d c).fact 49 (f := .free "str") rfl)
  f_tuple := He.free_ok X G ((SaysU.d c).fact 50 (f := .free "tuple") rfl)
  f_zip := He.free_ok X G ((SaysU.d c).fact 51 (f := .free "zip") rfl)
  c_KEY_FIELDS := He.int_ok X G ((SaysU.d c).fact 52 (f := .int "KEY_FIELDS" 2) rfl)
  c_RULES := tupB_ok X G (SaysU.tup c 0 (p := ("RULES", [("any" : Str), ("each" : Str)])) rfl)
  c_VERSION_FIELDS := He.int_ok X G ((SaysU.d c).fact 53 (f := .int "VERSION_FIELDS" 5) rfl)
  c_WORLD_FIELDS := He.int_ok X G ((SaysU.d c).fact 54 (f := .int "WORLD_FIELDS" 3) rfl)
  c_ZONE_FIELDS := He.int_ok X G ((SaysU.d c).fact 55 (f := .int "ZONE_FIELDS" 6) rfl)
  d_is_whole := by
    obtain ⟨fd, F⟩ := (SaysU.d c).def_ 0 (d := dd_0) rfl
    exact ⟨_, fd, He.glo_ok X G ((SaysU.d c).fact 0 (f := .glo "is_whole") rfl), F⟩
  d_is_number := by
    obtain ⟨fd, F⟩ := (SaysU.d c).def_ 1 (d := dd_1) rfl
    exact ⟨_, fd, He.glo_ok X G ((SaysU.d c).fact 1 (f := .glo "is_number") rfl), F⟩
  d_rises := by
    obtain ⟨fd, F⟩ := (SaysU.d c).def_ 2 (d := dd_2) rfl
    exact ⟨_, fd, He.glo_ok X G ((SaysU.d c).fact 2 (f := .glo "rises") rfl), F⟩
  d_is_key := by
    obtain ⟨fd, F⟩ := (SaysU.d c).def_ 3 (d := dd_3) rfl
    exact ⟨_, fd, He.glo_ok X G ((SaysU.d c).fact 3 (f := .glo "is_key") rfl), F⟩
  d_are_keys := by
    obtain ⟨fd, F⟩ := (SaysU.d c).def_ 4 (d := dd_4) rfl
    exact ⟨_, fd, He.glo_ok X G ((SaysU.d c).fact 4 (f := .glo "are_keys") rfl), F⟩
  d_are_numbers := by
    obtain ⟨fd, F⟩ := (SaysU.d c).def_ 5 (d := dd_5) rfl
    exact ⟨_, fd, He.glo_ok X G ((SaysU.d c).fact 5 (f := .glo "are_numbers") rfl), F⟩
  d_is_version := by
    obtain ⟨fd, F⟩ := (SaysU.d c).def_ 6 (d := dd_6) rfl
    exact ⟨_, fd, He.glo_ok X G ((SaysU.d c).fact 6 (f := .glo "is_version") rfl), F⟩
  d_is_line := by
    obtain ⟨fd, F⟩ := (SaysU.d c).def_ 7 (d := dd_7) rfl
    exact ⟨_, fd, He.glo_ok X G ((SaysU.d c).fact 7 (f := .glo "is_line") rfl), F⟩
  d_is_zone := by
    obtain ⟨fd, F⟩ := (SaysU.d c).def_ 8 (d := dd_8) rfl
    exact ⟨_, fd, He.glo_ok X G ((SaysU.d c).fact 8 (f := .glo "is_zone") rfl), F⟩
  d_fits_place := by
    obtain ⟨fd, F⟩ := (SaysU.d c).def_ 9 (d := dd_9) rfl
    exact ⟨_, fd, He.glo_ok X G ((SaysU.d c).fact 9 (f := .glo "fits_place") rfl), F⟩
  d_is_world := by
    obtain ⟨fd, F⟩ := (SaysU.d c).def_ 10 (d := dd_10) rfl
    exact ⟨_, fd, He.glo_ok X G ((SaysU.d c).fact 10 (f := .glo "is_world") rfl), F⟩
  d__law_box := by
    obtain ⟨fd, F⟩ := (SaysU.d c).def_ 11 (d := dd_11) rfl
    exact ⟨_, fd, He.glo_ok X G ((SaysU.d c).fact 11 (f := .glo "_law_box") rfl), F⟩
  d__law_take := by
    obtain ⟨fd, F⟩ := (SaysU.d c).def_ 12 (d := dd_12) rfl
    exact ⟨_, fd, He.glo_ok X G ((SaysU.d c).fact 12 (f := .glo "_law_take") rfl), F⟩
  d__law_pick := by
    obtain ⟨fd, F⟩ := (SaysU.d c).def_ 13 (d := dd_13) rfl
    exact ⟨_, fd, He.glo_ok X G ((SaysU.d c).fact 13 (f := .glo "_law_pick") rfl), F⟩
  d__law_same := by
    obtain ⟨fd, F⟩ := (SaysU.d c).def_ 14 (d := dd_14) rfl
    exact ⟨_, fd, He.glo_ok X G ((SaysU.d c).fact 14 (f := .glo "_law_same") rfl), F⟩
  d__law_row := by
    obtain ⟨fd, F⟩ := (SaysU.d c).def_ 15 (d := dd_15) rfl
    exact ⟨_, fd, He.glo_ok X G ((SaysU.d c).fact 15 (f := .glo "_law_row") rfl), F⟩
  d__law_begin_of := by
    obtain ⟨fd, F⟩ := (SaysU.d c).def_ 16 (d := dd_16) rfl
    exact ⟨_, fd, He.glo_ok X G ((SaysU.d c).fact 16 (f := .glo "_law_begin_of") rfl), F⟩
  d__law_without := by
    obtain ⟨fd, F⟩ := (SaysU.d c).def_ 17 (d := dd_17) rfl
    exact ⟨_, fd, He.glo_ok X G ((SaysU.d c).fact 17 (f := .glo "_law_without") rfl), F⟩
  d__law_changed := by
    obtain ⟨fd, F⟩ := (SaysU.d c).def_ 18 (d := dd_18) rfl
    exact ⟨_, fd, He.glo_ok X G ((SaysU.d c).fact 18 (f := .glo "_law_changed") rfl), F⟩
  d__law_zone := by
    obtain ⟨fd, F⟩ := (SaysU.d c).def_ 19 (d := dd_19) rfl
    exact ⟨_, fd, He.glo_ok X G ((SaysU.d c).fact 19 (f := .glo "_law_zone") rfl), F⟩
  d__law_world_of := by
    obtain ⟨fd, F⟩ := (SaysU.d c).def_ 20 (d := dd_20) rfl
    exact ⟨_, fd, He.glo_ok X G ((SaysU.d c).fact 20 (f := .glo "_law_world_of") rfl), F⟩
  d__law_world := by
    obtain ⟨fd, F⟩ := (SaysU.d c).def_ 21 (d := dd_21) rfl
    exact ⟨_, fd, He.glo_ok X G ((SaysU.d c).fact 21 (f := .glo "_law_world") rfl), F⟩
  d__law_is_int := by
    obtain ⟨fd, F⟩ := (SaysU.d c).def_ 22 (d := dd_22) rfl
    exact ⟨_, fd, He.glo_ok X G ((SaysU.d c).fact 22 (f := .glo "_law_is_int") rfl), F⟩
  d__law_is_key := by
    obtain ⟨fd, F⟩ := (SaysU.d c).def_ 23 (d := dd_23) rfl
    exact ⟨_, fd, He.glo_ok X G ((SaysU.d c).fact 23 (f := .glo "_law_is_key") rfl), F⟩
  d__law_climbs := by
    obtain ⟨fd, F⟩ := (SaysU.d c).def_ 24 (d := dd_24) rfl
    exact ⟨_, fd, He.glo_ok X G ((SaysU.d c).fact 24 (f := .glo "_law_climbs") rfl), F⟩
  d__law_are_keys := by
    obtain ⟨fd, F⟩ := (SaysU.d c).def_ 25 (d := dd_25) rfl
    exact ⟨_, fd, He.glo_ok X G ((SaysU.d c).fact 25 (f := .glo "_law_are_keys") rfl), F⟩
  d__law_are_ints := by
    obtain ⟨fd, F⟩ := (SaysU.d c).def_ 26 (d := dd_26) rfl
    exact ⟨_, fd, He.glo_ok X G ((SaysU.d c).fact 26 (f := .glo "_law_are_ints") rfl), F⟩
  d__law_is_told := by
    obtain ⟨fd, F⟩ := (SaysU.d c).def_ 27 (d := dd_27) rfl
    exact ⟨_, fd, He.glo_ok X G ((SaysU.d c).fact 27 (f := .glo "_law_is_told") rfl), F⟩
  d__law_is_row := by
    obtain ⟨fd, F⟩ := (SaysU.d c).def_ 28 (d := dd_28) rfl
    exact ⟨_, fd, He.glo_ok X G ((SaysU.d c).fact 28 (f := .glo "_law_is_row") rfl), F⟩
  d__law_is_site := by
    obtain ⟨fd, F⟩ := (SaysU.d c).def_ 29 (d := dd_29) rfl
    exact ⟨_, fd, He.glo_ok X G ((SaysU.d c).fact 29 (f := .glo "_law_is_site") rfl), F⟩
  d__law_is_globe := by
    obtain ⟨fd, F⟩ := (SaysU.d c).def_ 30 (d := dd_30) rfl
    exact ⟨_, fd, He.glo_ok X G ((SaysU.d c).fact 30 (f := .glo "_law_is_globe") rfl), F⟩
  d__law_odd := by
    obtain ⟨fd, F⟩ := (SaysU.d c).def_ 31 (d := dd_31) rfl
    exact ⟨_, fd, He.glo_ok X G ((SaysU.d c).fact 31 (f := .glo "_law_odd") rfl), F⟩
  d__law_bent := by
    obtain ⟨fd, F⟩ := (SaysU.d c).def_ 32 (d := dd_32) rfl
    exact ⟨_, fd, He.glo_ok X G ((SaysU.d c).fact 32 (f := .glo "_law_bent") rfl), F⟩
  d__law_judged := by
    obtain ⟨fd, F⟩ := (SaysU.d c).def_ 33 (d := dd_33) rfl
    exact ⟨_, fd, He.glo_ok X G ((SaysU.d c).fact 33 (f := .glo "_law_judged") rfl), F⟩
  d__law_right := by
    obtain ⟨fd, F⟩ := (SaysU.d c).def_ 34 (d := dd_34) rfl
    exact ⟨_, fd, He.glo_ok X G ((SaysU.d c).fact 34 (f := .glo "_law_right") rfl), F⟩
  d_law := by
    obtain ⟨fd, F⟩ := (SaysU.d c).def_ 35 (d := dd_35) rfl
    exact ⟨_, fd, He.glo_ok X G ((SaysU.d c).fact 35 (f := .glo "law") rfl), F⟩
end KL
open PySem PySem.W PySem.Calls PyProof.Rows
theorem holds (spec : ∀ ns : List Int, ns.length ≤ 63 → KL.F_law [.list (ns.map .int)] = some (.val (.bool true))) : PySem.Challenge.rw_keyturns_k01_forms_or_not.Holds := by
  w_on; o_law
  refine HandSHeadRun.head_any (r := OpenLaw.row PySem.Challenge.rw_keyturns_k01_forms_or_not) (q := view (OpenLaw.row PySem.Challenge.rw_keyturns_k01_forms_or_not).prog [44]) (H := KL.hk) (ob := KL.ob) (M := 4000) (loose := [("__name__" : PySem.Str), ("ANY" : PySem.Str), ("EACH" : PySem.Str), ("RULES" : PySem.Str), ("KEY_FIELDS" : PySem.Str), ("VERSION_FIELDS" : PySem.Str), ("ZONE_FIELDS" : PySem.Str), ("WORLD_FIELDS" : PySem.Str), ("is_whole" : PySem.Str), ("is_number" : PySem.Str), ("rises" : PySem.Str), ("is_key" : PySem.Str), ("are_keys" : PySem.Str), ("are_numbers" : PySem.Str), ("is_version" : PySem.Str), ("is_line" : PySem.Str), ("is_zone" : PySem.Str), ("fits_place" : PySem.Str), ("is_world" : PySem.Str), ("_law_box" : PySem.Str), ("_law_take" : PySem.Str), ("_law_pick" : PySem.Str), ("_law_same" : PySem.Str), ("_law_row" : PySem.Str), ("_law_begin_of" : PySem.Str), ("_law_without" : PySem.Str), ("_law_changed" : PySem.Str), ("_law_zone" : PySem.Str), ("_law_world" : PySem.Str), ("_law_world_of" : PySem.Str), ("_law_is_int" : PySem.Str), ("_law_is_key" : PySem.Str), ("_law_climbs" : PySem.Str), ("_law_are_keys" : PySem.Str), ("_law_are_ints" : PySem.Str), ("_law_is_told" : PySem.Str), ("_law_is_row" : PySem.Str), ("_law_is_site" : PySem.Str), ("_law_is_globe" : PySem.Str), ("_law_odd" : PySem.Str), ("_law_bent" : PySem.Str), ("_law_judged" : PySem.Str), ("_law_right" : PySem.Str)]) (d := HandSHeadRun.topDef (OpenLaw.row PySem.Challenge.rw_keyturns_k01_forms_or_not).prog 44) (kwd := []) KL.ob_eq
    (by kernel_rfl) (fun s => by kernel_rfl) KL.run (by kernel_rfl) (by kernel_rfl) (by kernel_rfl) (by rfl) (by first | assumption | decide +kernel) (by decide +kernel) ⟨rfl, rfl, rfl, rfl, rfl, by decide +kernel⟩ ?hw ?hc
  case hw => w_witness2
  case hc =>
    refine KV.walk_G (l := PySem.Challenge.rw_keyturns_k01_forms_or_not) (n := 63) (k := 17) (x := "_law_script") rfl (by decide) (by kernel_rfl) ⟨rfl, by decide, by decide⟩ ?_
    intro w mg fa h Y G hmg0
    obtain ⟨K, KX, c⟩ := Y
    have hmg : mg ("law" : PySem.Str) = some (.ref fa) := by
      have e : (HandSHeadRun.topDef (OpenLaw.row PySem.Challenge.rw_keyturns_k01_forms_or_not).prog 44).name = ("law" : PySem.Str) := by kernel_rfl
      rw [← e]
      exact hmg0
    have Z := KL.facts KX G c
    obtain ⟨f0, fd, hm0, FD⟩ := Z.d_law
    have e := hm0.symm.trans hmg
    cases e
    have bb := L2.FunD.bindsA (ps := ["_law_script"]) FD fun _ _ _ _ _ _ us hl => match us, hl with | [_], _ => rfl
    refine ⟨K, fd, KL.F_law, KX, fun s v => bb s [v] rfl, spec, fun base KB GB => ?_⟩
    obtain ⟨f1, fd1, o⟩ := KL.ok_law (P := (PySem.Challenge.rw_keyturns_k01_forms_or_not).prog) (w := w) (base := base) Z
    have e1 := hm0.symm.trans o.m
    cases e1
    have e2 := KL.fd_eq FD o.D
    cases e2
    exact o.run

end

section
local macro_rules | `(tactic| array_get_dec) => `(tactic| first
  | ((with_reducible refine KV.gS ?_); (first
      | with_reducible refine KV.ws_seq ?_
      | with_reducible refine KV.ws_set ?_
      | with_reducible refine KV.ws_ret ?_
      | with_reducible refine KV.ws_asg ?_
      | with_reducible refine KV.ws_par' ?_
      | with_reducible refine KV.ws_parO ?_
      | with_reducible refine KV.ws_par3' ?_
      | with_reducible refine KV.ws_drop ?_
      | with_reducible refine KV.ws_setIx' ?_
      | with_reducible refine KV.ws_next ?_
      | with_reducible refine KV.ws_break ?_
      | ((with_reducible apply KV.ws_gf_fz); exact rfl)
      | ((with_reducible apply KV.ws_gf_own'); exact rfl; (simp only [List.set_cons_zero, List.set_cons_succ]; try exact rfl))
      | with_reducible refine KV.ws_if ?_))
  | ((with_reducible refine KV.gD ?_); (first
      | with_reducible refine KV.wd_c ?_
      | with_reducible refine KV.wd_bin ?_
      | with_reducible refine KV.wd_un ?_
      | with_reducible refine KV.wd_cb ?_
      | with_reducible refine KV.wd_tup' ?_
      | with_reducible refine KV.wd_lst' ?_
      | with_reducible refine KV.wd_call ?_
      | with_reducible refine KV.wd_callK ?_
      | with_reducible refine KV.wd_callT ?_
      | with_reducible refine KV.wd_v ?_
      | with_reducible refine KV.wd_slice ?_
      | with_reducible refine KV.wd_isi ?_
      | with_reducible refine KV.wd_isi2 ?_
      | ((with_reducible apply KV.wd_fz); exact rfl)
      | ((with_reducible apply KV.wd_own); exact rfl)
      | ((with_reducible apply KV.wd_lck); exact rfl)
      | ((with_reducible apply KV.wd_callB'); exact rfl)
      | ((with_reducible apply KV.wd_app'); exact rfl)
      | ((with_reducible apply KV.wd_pop); exact rfl)
      | with_reducible refine KV.wd_if ?_
      | with_reducible refine KV.wd_chP ?_))
  | ((with_reducible refine KV.gO ?_); (first
      | with_reducible refine KV.wo_add ?_
      | with_reducible refine KV.wo_sub ?_
      | with_reducible refine KV.wo_neg ?_
      | with_reducible refine KV.wo_c ?_
      | with_reducible refine KV.wo_isN ?_
      | with_reducible refine KV.wo_notN ?_
      | with_reducible refine KV.wo_eqI ?_
      | with_reducible refine KV.wo_neI ?_
      | with_reducible refine KV.wo_eqNil ?_
      | with_reducible refine KV.wo_eqB ?_
      | with_reducible refine KV.wo_neB ?_
      | with_reducible refine KV.wo_neNil ?_
      | with_reducible refine KV.wo_inT ?_
      | with_reducible refine KV.wo_inL ?_
      | with_reducible refine KV.wo_notInT ?_
      | with_reducible refine KV.wo_notInL ?_
      | with_reducible refine KV.wo_srt ?_
      | with_reducible refine KV.wo_srtR ?_
      | with_reducible refine KV.wo_rev ?_
      | with_reducible refine KV.wo_lenL ?_
      | with_reducible refine KV.wo_lenT ?_
      | with_reducible refine KV.wo_intI ?_
      | with_reducible refine KV.wo_tupL ?_
      | with_reducible refine KV.wo_tupT ?_
      | with_reducible refine KV.wo_lstL ?_
      | with_reducible refine KV.wo_lstT ?_
      | ((with_reducible apply KV.wo_ixT); exact rfl)
      | ((with_reducible apply KV.wo_ixL); exact rfl)
      | ((with_reducible refine KV.wo_isT (b := true) ?_ ?_); exact rfl)
      | ((with_reducible refine KV.wo_isT (b := false) ?_ ?_); exact rfl)
      | ((with_reducible refine KV.wo_isT2 (b := true) ?_ ?_); exact rfl)
      | ((with_reducible refine KV.wo_isT2 (b := false) ?_ ?_); exact rfl)
      | ((with_reducible apply KV.wo_mul); omega)
      | ((with_reducible apply KV.wo_mod); omega)
      | ((with_reducible apply KV.wo_div); omega)
      | ((with_reducible apply KV.wo_addL); (simp only [List.length_append, List.length_cons, List.length_nil, List.length_map]; omega))
      | ((with_reducible apply KV.wo_addT); (simp only [List.length_append, List.length_cons, List.length_nil, List.length_map]; omega))))
  | with_reducible refine KV.wput2 ?_
  | ((with_reducible apply KV.wown); exact rfl)
  | ((with_reducible apply KV.wsi); exact rfl; exact rfl; (simp only [List.set_cons_zero, List.set_cons_succ]; try exact rfl))
  | with_reducible refine KV.wparp ?_
  | with_reducible refine KV.wparp3 ?_
  | with_reducible refine KV.wst_val ?_
  | with_reducible refine KV.wst_tmp ?_
  | with_reducible refine KV.wst_slot ?_
  | with_reducible refine KV.wdr_val ?_
  | with_reducible refine KV.wdr_tmp ?_
  | with_reducible refine KV.wfz_val ?_
  | with_reducible refine KV.wfz_tmp ?_
  | with_reducible refine KV.wn_nil ?_
  | with_reducible refine KV.wn_cons ?_
  | with_reducible refine KV.wdrs_nil ?_
  | with_reducible refine KV.wdrs_cons ?_
  | with_reducible refine KV.wv_nil ?_
  | with_reducible refine KV.wv_cons ?_
  | with_reducible refine KV.wp_none ?_
  | with_reducible refine KV.wp_some ?_
  | with_reducible refine KV.wt_b ?_
  | with_reducible refine KV.wt_not ?_
  | with_reducible refine KV.wt_yes ?_
  | with_reducible refine KV.wgs_nil ?_
  | with_reducible refine KV.wgs_cons ?_
  | with_reducible refine KV.wg_tup ?_
  | with_reducible refine KV.wi_seq ?_
  | with_reducible refine KV.wsq_list ?_
  | with_reducible refine KV.wsq_tup ?_
  | ((with_reducible apply KV.wsq_own); exact rfl; (simp only [List.set_cons_zero, List.set_cons_succ]; try exact rfl))
  | ((with_reducible apply KV.wsq_lck); exact rfl)
  | with_reducible refine KV.wr_val ?_
  | with_reducible refine KV.wr_tmp ?_
  | ((with_reducible apply KV.wdr_fz); exact rfl)
  | ((with_reducible apply KV.wdr_own); exact rfl)
  | ((with_reducible apply KV.wdr_lck); exact rfl)
  | ((with_reducible apply KV.wfz_fz); exact rfl)
  | ((with_reducible apply KV.wfz_own); exact rfl; (simp only [List.set_cons_zero, List.set_cons_succ]; try exact rfl))
  | ((with_reducible apply KV.wput_v); exact rfl; (first | exact rfl | assumption); (simp only [List.set_cons_zero, List.set_cons_succ]; try exact rfl))
  | ((with_reducible apply KV.wput_t); exact rfl; (first | exact rfl | assumption); (simp only [List.set_cons_zero, List.set_cons_succ]; try exact rfl))
  | ((with_reducible apply KV.wg_nm); exact rfl; (first | exact rfl | assumption); (simp only [List.set_cons_zero, List.set_cons_succ]; try exact rfl))
  | ((with_reducible apply KV.wcb); exact rfl)
  | ((with_reducible apply KV.wapp); exact rfl; (simp only [List.set_cons_zero, List.set_cons_succ]; try exact rfl))
  | ((with_reducible apply KV.wr_own); exact rfl)
  | ((with_reducible apply KV.wr_fz); exact rfl)
  | with_reducible refine KV.wt_and ?_
  | with_reducible refine KV.wt_or ?_
  | with_reducible refine KV.wsame ?_
  | with_reducible refine KV.wi_r1' ?_
  | with_reducible refine KV.wi_r2' ?_
  | ((with_reducible apply KV.wrg); omega; omega)
  | ((with_reducible apply KV.wrg2); omega; omega; omega; omega; omega)
  | with_reducible refine KV.and_t ?_
  | with_reducible refine KV.and_f ?_
  | with_reducible refine KV.and_nt ?_
  | with_reducible refine KV.and_nf ?_
  | with_reducible refine KV.and_dec ?_
  | with_reducible refine KV.and_ndec ?_
  | with_reducible refine And.intro (fun hb => ?_) (fun hb => ?_)
  | ((with_reducible refine And.intro ?_ (Nat.le_of_ble_eq_true rfl)))
  | with_reducible refine Exists.intro _ (And.intro rfl ?_)
  | fail "no step")
namespace KL
open PySem PySem.Spec PyProof.Rows L2 KV
/-! what keys, versions, lines, zones, worlds are, over data -/
def nd : PyData → Bool | .dict _ => false | _ => true
def okS : Nat → PyData → Bool
  | 0, _ => false
  | n + 1, .list xs => decide (xs.length ≤ 60) && xs.all (okS n)
  | n + 1, .tuple xs => decide (xs.length ≤ 60) && xs.all (okS n)
  | _ + 1, .dict _ => false
  | _ + 1, _ => true
theorem okS_list {n : Nat} {xs : List PyData} (h : okS (n + 1) (.list xs) = true) : xs.length ≤ 60 ∧ ∀ x ∈ xs, okS n x = true := by simpa [okS] using h
theorem okS_tuple {n : Nat} {xs : List PyData} (h : okS (n + 1) (.tuple xs) = true) : xs.length ≤ 60 ∧ ∀ x ∈ xs, okS n x = true := by simpa [okS] using h
theorem okS_mkL {n : Nat} {xs : List PyData} (h : xs.length ≤ 60) (k : ∀ x ∈ xs, okS n x = true) : okS (n + 1) (.list xs) = true := by simpa [okS] using And.intro h k
theorem okS_mkT {n : Nat} {xs : List PyData} (h : xs.length ≤ 60) (k : ∀ x ∈ xs, okS n x = true) : okS (n + 1) (.tuple xs) = true := by simpa [okS] using And.intro h k
theorem okS_okD : ∀ (n : Nat) (d : PyData), okS n d = true → okD n d = true
  | 0, _, h => by simp [okS] at h
  | n + 1, .list xs, h => okD_mkL (by have := (okS_list h).1; omega) fun x hx => okS_okD n x ((okS_list h).2 x hx)
  | n + 1, .tuple xs, h => okD_mkT (by have := (okS_tuple h).1; omega) fun x hx => okS_okD n x ((okS_tuple h).2 x hx)
  | n + 1, .none, _ => rfl
  | n + 1, .bool _, _ => rfl
  | n + 1, .int _, _ => rfl
  | n + 1, .str _, _ => rfl
  | n + 1, .dict _, h => by simp [okS] at h
theorem okS_mono : ∀ (n m : Nat) (d : PyData), n ≤ m → okS n d = true → okS m d = true
  | 0, _, _, _, h => by simp [okS] at h
  | n + 1, 0, _, h, _ => by omega
  | n + 1, m + 1, .list xs, hm, h => okS_mkL (okS_list h).1 fun x hx => okS_mono n m x (by omega) ((okS_list h).2 x hx)
  | n + 1, m + 1, .tuple xs, hm, h => okS_mkT (okS_tuple h).1 fun x hx => okS_mono n m x (by omega) ((okS_tuple h).2 x hx)
  | n + 1, m + 1, .none, _, _ => rfl
  | n + 1, m + 1, .bool _, _, _ => rfl
  | n + 1, m + 1, .int _, _, _ => rfl
  | n + 1, m + 1, .str _, _, _ => rfl
  | n + 1, m + 1, .dict _, _, h => by simp [okS] at h
theorem okS_nd {n : Nat} {d : PyData} (h : okS n d = true) : nd d = true := by
  cases n with
  | zero => simp [okS] at h
  | succ n => cases d with
    | dict _ => simp [okS] at h
    | _ => rfl
def wholeB : PyData → Bool | .int _ => true | _ => false
def numB : PyData → Bool | .int i => decide (0 ≤ i) | _ => false
def intD : PyData → Int | .int i => i | _ => 0
def numOf : PyData → Int | .tuple (.int a :: _) => a | _ => 0
def upB : List Int → Bool
  | a :: b :: r => decide (a < b) && upB (b :: r)
  | _ => true
def keyB : PyData → Bool | .tuple [a, b] => numB a && numB b | _ => false
def keysB : PyData → Bool | .tuple xs => xs.all keyB && upB (xs.map numOf) | _ => false
def numsB : PyData → Bool | .tuple xs => xs.all wholeB && upB (xs.map intD) | _ => false
def itemsD : PyData → List PyData | .tuple xs => xs | .list xs => xs | _ => []
def goneB (k g : PyData) : Bool := (itemsD g).all fun d => decide (intD d ∈ (itemsD k).map numOf)
def versB : PyData → Bool
  | .tuple [k, h, t, m, g] => keysB k && (numsB h && (numsB m && (numsB g && (goneB k g && (KV.isNon t || keysB t)))))
  | _ => false
def entB : PyData → Bool | .tuple [t, v] => numB t && versB v | _ => false
def timeD : PyData → Int | .tuple (.int a :: _) => a | _ => 0
def lineB : PyData → Bool | .tuple xs => !xs.isEmpty && (xs.all entB && (decide ((xs.map timeD).headD 0 = 0) && upB (xs.map timeD))) | _ => false
def siteB : PyData → Bool
  | .tuple [l, s, t, g, k, r] => lineB l && (numB s && (numB t && (numB g && (numB k && (numB r && (decide (1 ≤ intD t ∧ intD t ≤ intD s) && (decide (1 ≤ intD k) && decide (1 ≤ intD r))))))))
  | _ => false
def trustD : PyData → PyData | .tuple [_, .tuple [_, _, t, _, _]] => t | _ => .none
def lineOf : PyData → PyData | .tuple (l :: _) => l | _ => .none
def fitB (last : Bool) (z : PyData) : Bool := (itemsD (lineOf z)).all fun e => KV.isNon (trustD e) == last
def fitsB : List PyData → Bool
  | [] => true
  | [z] => fitB true z
  | z :: y :: r => fitB false z && fitsB (y :: r)
def ruleB : PyData → Bool | .str s => decide (s = "any" ∨ s = "each") | _ => false
def emptyT : PyData → Bool | .tuple xs => xs.isEmpty | _ => false
def worldB : PyData → Bool
  | .tuple [.tuple zs, a, r] => !zs.isEmpty && (zs.all siteB && (keysB a && (!emptyT a && (ruleB r && fitsB zs))))
  | _ => false
theorem all_keyB {xs : List PyData} (h : xs.all keyB = true) : ∃ ks : List (Int × Int), xs = ks.map keyD ∧ ∀ p ∈ ks, 0 ≤ p.1 ∧ 0 ≤ p.2 := by
  induction xs with
  | nil => exact ⟨[], rfl, fun _ h => by cases h⟩
  | cons x xs ih =>
    rw [List.all_cons, Bool.and_eq_true] at h
    obtain ⟨ks, e, hk⟩ := ih h.2
    have h1 := h.1
    unfold keyB at h1
    split at h1
    · rename_i a b
      rw [Bool.and_eq_true] at h1
      obtain ⟨h2, h3⟩ := h1
      cases a with
      | int a => cases b with
        | int b =>
          have h2 := of_decide_eq_true h2
          have h3 := of_decide_eq_true h3
          refine ⟨(a, b) :: ks, by rw [e]; rfl, fun p hp => ?_⟩
          rcases List.mem_cons.mp hp with rfl | hp
          · exact ⟨h2, h3⟩
          · exact hk p hp
        | _ => cases h3
      | _ => cases h2
    · cases h1
theorem all_wholeB {xs : List PyData} (h : xs.all wholeB = true) : ∃ ns : List Int, xs = ns.map .int := by
  induction xs with
  | nil => exact ⟨[], rfl⟩
  | cons x xs ih =>
    rw [List.all_cons, Bool.and_eq_true] at h
    obtain ⟨ns, e⟩ := ih h.2
    cases x with
    | int a => exact ⟨a :: ns, by rw [e]; rfl⟩
    | _ => cases h.1
theorem map_numOf (ks : List (Int × Int)) : (ks.map keyD).map numOf = ks.map (·.1) := by rw [List.map_map]; rfl
theorem map_intD (ns : List Int) : (ns.map PyData.int).map intD = ns := by
  rw [List.map_map]; exact List.map_id _
theorem keysB_ex {d : PyData} (h : keysB d = true) : ∃ ks : List (Int × Int), d = .tuple (ks.map keyD) ∧ (∀ p ∈ ks, 0 ≤ p.1 ∧ 0 ≤ p.2) ∧ upB (ks.map (·.1)) = true := by
  unfold keysB at h
  split at h
  · rename_i xs
    rw [Bool.and_eq_true] at h
    obtain ⟨ks, rfl, hk⟩ := all_keyB h.1
    refine ⟨ks, rfl, hk, ?_⟩
    have := h.2
    rw [map_numOf] at this
    exact this
  · cases h
theorem numsB_ex {d : PyData} (h : numsB d = true) : ∃ ns : List Int, d = .tuple (ns.map .int) ∧ upB ns = true := by
  unfold numsB at h
  split at h
  · rename_i xs
    rw [Bool.and_eq_true] at h
    obtain ⟨ns, rfl⟩ := all_wholeB h.1
    refine ⟨ns, rfl, ?_⟩
    have := h.2
    rw [map_intD] at this
    exact this
  · cases h
/-! the program's own looks -/
theorem cut_from1 (xs : List PyData) : KV.cutD xs (some 1) none = xs.drop 1 := by
  unfold KV.cutD HT.sIx
  cases xs with
  | nil => rfl
  | cons x xs =>
    show (List.drop _ (x :: xs)).take _ = xs
    simp [HT.sIx]
theorem is_whole_ok {d : PyData} (h : nd d = true) : F_is_whole [d] = some (.val (.bool (wholeB d))) := by
  refine wf_get ?_
  unfold F_is_whole
  refine wf_run (r := [.fz d]) rfl ?_
  unfold g_is_whole
  cases d with
  | dict _ => cases h
  | _ =>
    repeat' array_get_dec
    all_goals rfl
theorem is_number_ok {d : PyData} (h : nd d = true) : F_is_number [d] = some (.val (.bool (numB d))) := by
  refine wf_get ?_
  unfold F_is_number
  refine wf_run (r := [.fz d]) rfl ?_
  unfold g_is_number
  cases d with
  | dict _ => cases h
  | _ =>
    repeat' array_get_dec
    refine wf_eq (is_whole_ok rfl) ?_
    unfold wholeB
    repeat' array_get_dec
    all_goals rfl
theorem rises_all : ∀ ns : List Int, ((ns.zip (ns.drop 1)).all fun p => decide (p.1 < p.2)) = upB ns
  | [] => rfl
  | [_] => rfl
  | a :: b :: r => by
    show (decide (a < b) && ((b :: r).zip ((b :: r).drop 1)).all fun p => decide (p.1 < p.2)) = (decide (a < b) && upB (b :: r))
    rw [rises_all (b :: r)]
theorem zip_ints (ns ms : List Int) : KV.zipD (ns.map .int) (ms.map .int) = (ns.zip ms).map fun p => .tuple [.int p.1, .int p.2] := by
  unfold KV.zipD
  rw [List.zip_map, List.map_map]
  rfl
theorem rises_ok {ns : List Int} (hl : ns.length ≤ 1000) {d : PyData} (hd : d = .list (ns.map .int) ∨ d = .tuple (ns.map .int)) : F_rises [d] = some (.val (.bool (upB ns))) := by
  have fin : ∀ (ds : List PyData) (r1 : Nms) (uo : Option Nat), ds = KV.zipD (ns.map .int) ((ns.drop 1).map .int) → r1 = [.fz d, .un, .un] → uo = none → (noOb [1, 2] r1 = true ∧ ∃ val : PyData → PyData, (∀ e ∈ ds, wG (gT (gsCons (gN 1) (gsCons (gN 2) gsNil))) e (wipeE [1, 2] r1) fun r3 => wD (dBin (dVar 1) (dVar 2) opLt) r3 fun x r5 => wFz x r5 fun y r6 => y = val e ∧ wipeE [1, 2] r6 = wipeE [1, 2] r1) ∧
      wO (opAll [.list (ds.map val)]) fun z => z = KV.R.val (.bool (upB ns))) := by
    rintro ds r1 uo rfl rfl rfl
    refine ⟨rfl, fun e => .bool (match e with | .tuple [.int a, .int b] => decide (a < b) | _ => false), fun e he => ?_, ?_⟩
    · rw [zip_ints] at he
      obtain ⟨p, _, rfl⟩ := List.mem_map.mp he
      simp only [wipeE, List.set_cons_zero, List.set_cons_succ]
      repeat' array_get_dec
      exact ⟨rfl, rfl⟩
    · rw [zip_ints]
      refine wo_all ?_
      rw [List.all_map]
      show KV.R.val (.bool ((ns.zip (ns.drop 1)).all fun p => decide (p.1 < p.2))) = _
      rw [rises_all]
  refine wf_get ?_
  unfold F_rises
  refine wf_run (r := [.fz d, .un, .un]) rfl ?_
  unfold g_rises
  rcases hd with rfl | rfl
  · repeat' array_get_dec
    refine wd_lcm (wi_zipL ?_)
    repeat' array_get_dec
    refine wo_eq (z := .tmp (.lst ((ns.drop 1).map .int))) (by show some (KV.R.tmp (.lst (KV.cutD _ (some 1) none))) = _; rw [cut_from1, List.map_drop]) ?_
    repeat' array_get_dec
    refine ⟨_, _, rfl, by rw [List.length_map]; omega, ?_⟩
    obtain ⟨h1, val, h2, h3⟩ := fin _ _ _ rfl rfl rfl
    refine ⟨h1, val, h2, ?_⟩
    repeat' array_get_dec
    refine h3.mono fun z e => ?_
    subst e
    repeat' array_get_dec
    rfl
  · repeat' array_get_dec
    refine wd_lcm (wi_zipT ?_)
    repeat' array_get_dec
    refine wo_eq (z := .val (.tuple ((ns.drop 1).map .int))) (by show some (KV.R.val (.tuple (KV.cutD _ (some 1) none))) = _; rw [cut_from1, List.map_drop]) ?_
    repeat' array_get_dec
    refine ⟨_, _, rfl, by rw [List.length_map]; omega, ?_⟩
    obtain ⟨h1, val, h2, h3⟩ := fin _ _ _ rfl rfl rfl
    refine ⟨h1, val, h2, ?_⟩
    repeat' array_get_dec
    refine h3.mono fun z e => ?_
    subst e
    repeat' array_get_dec
    rfl
end KL

end

section
local macro_rules | `(tactic| array_get_dec) => `(tactic| first
  | ((with_reducible refine KV.gS ?_); (first
      | with_reducible refine KV.ws_seq ?_
      | with_reducible refine KV.ws_set ?_
      | with_reducible refine KV.ws_ret ?_
      | with_reducible refine KV.ws_asg ?_
      | with_reducible refine KV.ws_par' ?_
      | with_reducible refine KV.ws_parO ?_
      | with_reducible refine KV.ws_par3' ?_
      | with_reducible refine KV.ws_drop ?_
      | with_reducible refine KV.ws_setIx' ?_
      | with_reducible refine KV.ws_next ?_
      | with_reducible refine KV.ws_break ?_
      | ((with_reducible apply KV.ws_gf_fz); exact rfl)
      | ((with_reducible apply KV.ws_gf_own'); exact rfl; (simp only [List.set_cons_zero, List.set_cons_succ]; try exact rfl))
      | with_reducible refine KV.ws_if ?_))
  | ((with_reducible refine KV.gD ?_); (first
      | with_reducible refine KV.wd_c ?_
      | with_reducible refine KV.wd_bin ?_
      | with_reducible refine KV.wd_un ?_
      | with_reducible refine KV.wd_cb ?_
      | with_reducible refine KV.wd_tup' ?_
      | with_reducible refine KV.wd_lst' ?_
      | with_reducible refine KV.wd_call ?_
      | with_reducible refine KV.wd_callK ?_
      | with_reducible refine KV.wd_callT ?_
      | with_reducible refine KV.wd_v ?_
      | with_reducible refine KV.wd_slice ?_
      | with_reducible refine KV.wd_isi ?_
      | with_reducible refine KV.wd_isi2 ?_
      | ((with_reducible apply KV.wd_fz); exact rfl)
      | ((with_reducible apply KV.wd_own); exact rfl)
      | ((with_reducible apply KV.wd_lck); exact rfl)
      | ((with_reducible apply KV.wd_callB'); exact rfl)
      | ((with_reducible apply KV.wd_app'); exact rfl)
      | ((with_reducible apply KV.wd_pop); exact rfl)
      | with_reducible refine KV.wd_if ?_
      | with_reducible refine KV.wd_chP ?_))
  | ((with_reducible refine KV.gO ?_); (first
      | with_reducible refine KV.wo_add ?_
      | with_reducible refine KV.wo_sub ?_
      | with_reducible refine KV.wo_neg ?_
      | with_reducible refine KV.wo_c ?_
      | with_reducible refine KV.wo_isN ?_
      | with_reducible refine KV.wo_notN ?_
      | with_reducible refine KV.wo_eqI ?_
      | with_reducible refine KV.wo_neI ?_
      | with_reducible refine KV.wo_eqNil ?_
      | with_reducible refine KV.wo_eqB ?_
      | with_reducible refine KV.wo_neB ?_
      | with_reducible refine KV.wo_neNil ?_
      | with_reducible refine KV.wo_inT ?_
      | with_reducible refine KV.wo_inL ?_
      | with_reducible refine KV.wo_notInT ?_
      | with_reducible refine KV.wo_notInL ?_
      | with_reducible refine KV.wo_srt ?_
      | with_reducible refine KV.wo_srtR ?_
      | with_reducible refine KV.wo_rev ?_
      | with_reducible refine KV.wo_lenL ?_
      | with_reducible refine KV.wo_lenT ?_
      | with_reducible refine KV.wo_intI ?_
      | with_reducible refine KV.wo_tupL ?_
      | with_reducible refine KV.wo_tupT ?_
      | with_reducible refine KV.wo_lstL ?_
      | with_reducible refine KV.wo_lstT ?_
      | ((with_reducible apply KV.wo_ixT); exact rfl)
      | ((with_reducible apply KV.wo_ixL); exact rfl)
      | ((with_reducible refine KV.wo_isT (b := true) ?_ ?_); exact rfl)
      | ((with_reducible refine KV.wo_isT (b := false) ?_ ?_); exact rfl)
      | ((with_reducible refine KV.wo_isT2 (b := true) ?_ ?_); exact rfl)
      | ((with_reducible refine KV.wo_isT2 (b := false) ?_ ?_); exact rfl)
      | ((with_reducible apply KV.wo_mul); omega)
      | ((with_reducible apply KV.wo_mod); omega)
      | ((with_reducible apply KV.wo_div); omega)
      | ((with_reducible apply KV.wo_addL); (simp only [List.length_append, List.length_cons, List.length_nil, List.length_map]; omega))
      | ((with_reducible apply KV.wo_addT); (simp only [List.length_append, List.length_cons, List.length_nil, List.length_map]; omega))))
  | with_reducible refine KV.wput2 ?_
  | ((with_reducible apply KV.wown); exact rfl)
  | ((with_reducible apply KV.wsi); exact rfl; exact rfl; (simp only [List.set_cons_zero, List.set_cons_succ]; try exact rfl))
  | with_reducible refine KV.wparp ?_
  | with_reducible refine KV.wparp3 ?_
  | with_reducible refine KV.wst_val ?_
  | with_reducible refine KV.wst_tmp ?_
  | with_reducible refine KV.wst_slot ?_
  | with_reducible refine KV.wdr_val ?_
  | with_reducible refine KV.wdr_tmp ?_
  | with_reducible refine KV.wfz_val ?_
  | with_reducible refine KV.wfz_tmp ?_
  | with_reducible refine KV.wn_nil ?_
  | with_reducible refine KV.wn_cons ?_
  | with_reducible refine KV.wdrs_nil ?_
  | with_reducible refine KV.wdrs_cons ?_
  | with_reducible refine KV.wv_nil ?_
  | with_reducible refine KV.wv_cons ?_
  | with_reducible refine KV.wp_none ?_
  | with_reducible refine KV.wp_some ?_
  | with_reducible refine KV.wt_b ?_
  | with_reducible refine KV.wt_not ?_
  | with_reducible refine KV.wt_yes ?_
  | with_reducible refine KV.wgs_nil ?_
  | with_reducible refine KV.wgs_cons ?_
  | with_reducible refine KV.wg_tup ?_
  | with_reducible refine KV.wi_seq ?_
  | with_reducible refine KV.wsq_list ?_
  | with_reducible refine KV.wsq_tup ?_
  | ((with_reducible apply KV.wsq_own); exact rfl; (simp only [List.set_cons_zero, List.set_cons_succ]; try exact rfl))
  | ((with_reducible apply KV.wsq_lck); exact rfl)
  | with_reducible refine KV.wr_val ?_
  | with_reducible refine KV.wr_tmp ?_
  | ((with_reducible apply KV.wdr_fz); exact rfl)
  | ((with_reducible apply KV.wdr_own); exact rfl)
  | ((with_reducible apply KV.wdr_lck); exact rfl)
  | ((with_reducible apply KV.wfz_fz); exact rfl)
  | ((with_reducible apply KV.wfz_own); exact rfl; (simp only [List.set_cons_zero, List.set_cons_succ]; try exact rfl))
  | ((with_reducible apply KV.wput_v); exact rfl; (first | exact rfl | assumption); (simp only [List.set_cons_zero, List.set_cons_succ]; try exact rfl))
  | ((with_reducible apply KV.wput_t); exact rfl; (first | exact rfl | assumption); (simp only [List.set_cons_zero, List.set_cons_succ]; try exact rfl))
  | ((with_reducible apply KV.wg_nm); exact rfl; (first | exact rfl | assumption); (simp only [List.set_cons_zero, List.set_cons_succ]; try exact rfl))
  | ((with_reducible apply KV.wcb); exact rfl)
  | ((with_reducible apply KV.wapp); exact rfl; (simp only [List.set_cons_zero, List.set_cons_succ]; try exact rfl))
  | ((with_reducible apply KV.wr_own); exact rfl)
  | ((with_reducible apply KV.wr_fz); exact rfl)
  | with_reducible refine KV.wt_and ?_
  | with_reducible refine KV.wt_or ?_
  | with_reducible refine KV.wsame ?_
  | with_reducible refine KV.wi_r1' ?_
  | with_reducible refine KV.wi_r2' ?_
  | ((with_reducible apply KV.wrg); omega; omega)
  | ((with_reducible apply KV.wrg2); omega; omega; omega; omega; omega)
  | with_reducible refine KV.and_t ?_
  | with_reducible refine KV.and_f ?_
  | with_reducible refine KV.and_nt ?_
  | with_reducible refine KV.and_nf ?_
  | with_reducible refine KV.and_dec ?_
  | with_reducible refine KV.and_ndec ?_
  | with_reducible refine And.intro (fun hb => ?_) (fun hb => ?_)
  | ((with_reducible refine And.intro ?_ (Nat.le_of_ble_eq_true rfl)))
  | with_reducible refine Exists.intro _ (And.intro rfl ?_)
  | fail "no step")
namespace KL
open PySem PySem.Spec PyProof.Rows L2 KV
theorem len2 {xs : List PyData} (h : (xs.length : Int) = 2) : ∃ a b, xs = [a, b] := by
  match xs, h with
  | [a, b], _ => exact ⟨a, b, rfl⟩
  | [], h => simp at h
  | [_], h => simp at h
  | _ :: _ :: _ :: _, h => simp at h; omega
theorem key_not2 {xs : List PyData} (h : ¬ (xs.length : Int) = 2) : keyB (.tuple xs) = false := by
  match xs, h with
  | [a, b], h => exact absurd rfl h
  | [], _ => rfl
  | [_], _ => rfl
  | _ :: _ :: _ :: _, _ => rfl
theorem is_key_ok {n : Nat} {d : PyData} (h : okS n d = true) : F_is_key [d] = some (.val (.bool (keyB d))) := by
  refine wf_get ?_
  unfold F_is_key
  refine wf_run (r := [.fz d, .un]) rfl ?_
  unfold g_is_key
  cases n with
  | zero => simp [okS] at h
  | succ n => cases d with
    | dict _ => simp [okS] at h
    | tuple xs =>
      obtain ⟨hl, hx⟩ := okS_tuple h
      repeat' array_get_dec
      · rename_i hb
        obtain ⟨a, b, rfl⟩ := len2 hb
        refine wd_lcm ?_
        repeat' array_get_dec
        refine ⟨rfl, fun d => .bool (numB d), fun e he => ?_, ?_⟩
        · simp only [wipeE, List.set_cons_zero, List.set_cons_succ]
          repeat' array_get_dec
          refine wf_eq (is_number_ok (okS_nd (hx e he))) ?_
          repeat' array_get_dec
          exact ⟨rfl, rfl⟩
        · simp only [unlck]
          repeat' array_get_dec
          refine wo_all (p := numB) (zs := [a, b]) ?_
          repeat' array_get_dec
          show KV.R.val _ = KV.R.val (.bool (numB a && numB b))
          simp
      · rename_i hb
        rw [key_not2 hb]
    | _ =>
      repeat' array_get_dec
      all_goals rfl
theorem not_all {α : Type} {xs : List α} {p : α → Bool} (h : ¬ xs.all p = true) : xs.all p = false := by
  cases e : xs.all p with
  | true => exact absurd e h
  | false => rfl
theorem b_cases {b : Bool} {A B : Prop} (h1 : b = false → A) (h2 : b = true → B) : ((!b) = true → A) ∧ ((!b) = false → B) := by
  cases b with
  | true => exact ⟨fun e => (nomatch e), fun _ => h2 rfl⟩
  | false => exact ⟨fun _ => h1 rfl, fun e => nomatch e⟩
theorem are_keys_ok {n : Nat} {d : PyData} (h : okS n d = true) : F_are_keys [d] = some (.val (.bool (keysB d))) := by
  refine wf_get ?_
  unfold F_are_keys
  refine wf_run (r := [.fz d, .un, .un, .un]) rfl ?_
  unfold g_are_keys
  cases n with
  | zero => simp [okS] at h
  | succ n => cases d with
    | dict _ => simp [okS] at h
    | tuple xs =>
      obtain ⟨hl, hx⟩ := okS_tuple h
      repeat' array_get_dec
      refine wd_lcm ?_
      repeat' array_get_dec
      refine ⟨rfl, fun d => .bool (keyB d), fun e he => ?_, ?_⟩
      · simp only [wipeE, List.set_cons_zero, List.set_cons_succ]
        repeat' array_get_dec
        refine wf_eq (is_key_ok (hx e he)) ?_
        repeat' array_get_dec
        exact ⟨rfl, rfl⟩
      · simp only [unlck]
        repeat' array_get_dec
        refine wo_all (p := keyB) ?_
        refine ⟨_, rfl, b_cases (fun hb => ?_) (fun hb => ?_)⟩
        · repeat' array_get_dec
          show KV.R.val _ = KV.R.val (.bool (xs.all keyB && upB (xs.map numOf)))
          rw [hb]
          rfl
        · obtain ⟨ks, rfl, hk⟩ := all_keyB hb
          repeat' array_get_dec
          refine wd_lcm ?_
          repeat' array_get_dec
          refine ⟨rfl, fstD, fun e he => ?_, ?_⟩
          · obtain ⟨p, _, rfl⟩ := List.mem_map.mp he
            simp only [wipeE, List.set_cons_zero, List.set_cons_succ]
            unfold keyD
            repeat' array_get_dec
            exact ⟨rfl, rfl⟩
          · rw [map_fstD]
            simp only [unlck]
            repeat' array_get_dec
            refine wf_eq (rises_ok (by rw [List.length_map] at hl ⊢; omega) (.inl rfl)) ?_
            repeat' array_get_dec
            show KV.R.val _ = KV.R.val (.bool ((ks.map keyD).all keyB && upB ((ks.map keyD).map numOf)))
            rw [hb, map_numOf]
            rfl
    | _ =>
      repeat' array_get_dec
      all_goals rfl
theorem nt_f {b : Bool} (h : (!b) = true) : b = false := by cases b with | true => cases h | false => rfl
theorem nf_t {b : Bool} (h : (!b) = false) : b = true := by cases b with | true => rfl | false => cases h
theorem are_numbers_ok {n : Nat} {d : PyData} (h : okS n d = true) : F_are_numbers [d] = some (.val (.bool (numsB d))) := by
  refine wf_get ?_
  unfold F_are_numbers
  refine wf_run (r := [.fz d, .un]) rfl ?_
  unfold g_are_numbers
  cases n with
  | zero => simp [okS] at h
  | succ n => cases d with
    | dict _ => simp [okS] at h
    | tuple xs =>
      obtain ⟨hl, hx⟩ := okS_tuple h
      repeat' array_get_dec
      refine wd_lcm ?_
      repeat' array_get_dec
      refine ⟨rfl, fun d => .bool (wholeB d), fun e he => ?_, ?_⟩
      · simp only [wipeE, List.set_cons_zero, List.set_cons_succ]
        repeat' array_get_dec
        refine wf_eq (is_whole_ok (okS_nd (hx e he))) ?_
        repeat' array_get_dec
        exact ⟨rfl, rfl⟩
      · simp only [unlck]
        repeat' array_get_dec
        refine wo_all (p := wholeB) ?_
        repeat' array_get_dec
        · rename_i hb
          obtain ⟨ns, rfl⟩ := all_wholeB hb
          refine wf_eq (rises_ok (by rw [List.length_map] at hl; omega) (.inr rfl)) ?_
          repeat' array_get_dec
          show KV.R.val _ = KV.R.val (.bool ((ns.map PyData.int).all wholeB && upB ((ns.map PyData.int).map intD)))
          rw [hb, map_intD]
          rfl
        · rename_i hb
          show KV.R.val _ = KV.R.val (.bool (xs.all wholeB && upB (xs.map intD)))
          rw [hb]
          rfl
    | _ =>
      repeat' array_get_dec
      all_goals rfl
theorem len5 {xs : List PyData} (h : (xs.length : Int) = 5) : ∃ a b c d e, xs = [a, b, c, d, e] := by
  match xs, h with
  | [a, b, c, d, e], _ => exact ⟨a, b, c, d, e, rfl⟩
  | [], h => simp at h
  | [_], h => simp at h
  | [_, _], h => simp at h
  | [_, _, _], h => simp at h
  | [_, _, _, _], h => simp at h
  | _ :: _ :: _ :: _ :: _ :: _ :: _, h => simp at h; omega
theorem vers_not5 {xs : List PyData} (h : ¬ (xs.length : Int) = 5) : versB (.tuple xs) = false := by
  match xs, h with
  | [a, b, c, d, e], h => exact absurd rfl h
  | [], _ => rfl
  | [_], _ => rfl
  | [_, _], _ => rfl
  | [_, _, _], _ => rfl
  | [_, _, _, _], _ => rfl
  | _ :: _ :: _ :: _ :: _ :: _ :: _, _ => rfl
theorem gone_eq (ks : List (Int × Int)) (ns : List Int) : goneB (.tuple (ks.map keyD)) (.tuple (ns.map .int)) = ns.all fun a => decide (a ∈ ks.map (·.1)) := by
  unfold goneB itemsD
  rw [map_numOf, List.all_map]
  rfl
theorem is_version_ok {n : Nat} {d : PyData} (h : okS n d = true) : F_is_version [d] = some (.val (.bool (versB d))) := by
  refine wf_get ?_
  unfold F_is_version
  refine wf_run (r := [.fz d, .un, .un, .un, .un, .un, .un, .un, .un]) rfl ?_
  unfold g_is_version
  cases n with
  | zero => simp [okS] at h
  | succ n => cases d with
    | dict _ => simp [okS] at h
    | tuple xs =>
      obtain ⟨hl, hx⟩ := okS_tuple h
      repeat' array_get_dec
      · rename_i hb
        obtain ⟨k, hs, t, m, g, rfl⟩ := len5 hb
        have xk := hx k (by simp)
        have xh := hx hs (by simp)
        have xt := hx t (by simp)
        have xm := hx m (by simp)
        have xg := hx g (by simp)
        repeat' array_get_dec
        refine wf_eq (are_keys_ok xk) ?_
        repeat' array_get_dec
        · rename_i hb
          show KV.R.val _ = KV.R.val (.bool (keysB k && (numsB hs && (numsB m && (numsB g && (goneB k g && (KV.isNon t || keysB t)))))))
          rw [nt_f hb]
          rfl
        rename_i hk
        have hk := nf_t hk
        refine wf_eq (are_numbers_ok xh) ?_
        repeat' array_get_dec
        · rename_i hb
          show KV.R.val _ = KV.R.val (.bool (keysB k && (numsB hs && (numsB m && (numsB g && (goneB k g && (KV.isNon t || keysB t)))))))
          rw [hk, nt_f hb]
          rfl
        rename_i hh
        have hh := nf_t hh
        refine wf_eq (are_numbers_ok xm) ?_
        repeat' array_get_dec
        · rename_i hb
          show KV.R.val _ = KV.R.val (.bool (keysB k && (numsB hs && (numsB m && (numsB g && (goneB k g && (KV.isNon t || keysB t)))))))
          rw [hk, hh, nt_f hb]
          rfl
        rename_i hm
        have hm := nf_t hm
        refine wf_eq (are_numbers_ok xg) ?_
        repeat' array_get_dec
        · rename_i hb
          show KV.R.val _ = KV.R.val (.bool (keysB k && (numsB hs && (numsB m && (numsB g && (goneB k g && (KV.isNon t || keysB t)))))))
          rw [hk, hh, hm, nt_f hb]
          rfl
        · rename_i hg
          have hg := nf_t hg
          obtain ⟨ks, rfl, _, _⟩ := keysB_ex hk
          obtain ⟨gs, rfl, _⟩ := numsB_ex hg
          refine wd_lcm ?_
          repeat' array_get_dec
          refine ⟨rfl, fstD, fun e he => ?_, ?_⟩
          · obtain ⟨p, _, rfl⟩ := List.mem_map.mp he
            simp only [wipeE, List.set_cons_zero, List.set_cons_succ]
            unfold keyD
            repeat' array_get_dec
            exact ⟨rfl, rfl⟩
          · rw [map_fstD]
            simp only [unlck]
            repeat' array_get_dec
            refine wd_lcm ?_
            repeat' array_get_dec
            refine ⟨rfl, fun d => .bool (decide (intD d ∈ ks.map (·.1))), fun e he => ?_, ?_⟩
            · obtain ⟨p, _, rfl⟩ := List.mem_map.mp he
              simp only [wipeE, List.set_cons_zero, List.set_cons_succ]
              repeat' array_get_dec
              exact ⟨rfl, rfl⟩
            · simp only [unlck]
              repeat' array_get_dec
              refine wo_all (p := fun d => decide (intD d ∈ ks.map (·.1))) ?_
              have e1 : versB (.tuple [.tuple (ks.map keyD), hs, t, m, .tuple (gs.map .int)]) = ((gs.map PyData.int).all (fun d => decide (intD d ∈ ks.map (·.1))) && (KV.isNon t || keysB t)) := by
                show (keysB _ && (numsB hs && (numsB m && (numsB _ && (goneB _ _ && (KV.isNon t || keysB t)))))) = _
                rw [hk, hh, hm, hg]
                unfold goneB itemsD
                rw [map_numOf]
                rfl
              rw [e1]
              repeat' array_get_dec
              · rename_i hb1
                rw [hb1]
                rename_i hb2
                rw [hb2]
                rfl
              · rename_i hb1
                rw [hb1]
                refine wf_eq (are_keys_ok xt) ?_
                repeat' array_get_dec
                rename_i hb2
                rw [hb2]
                rfl
              · rename_i hb1
                rw [hb1]
                rfl
      · rename_i hb
        rw [vers_not5 hb]
    | _ =>
      repeat' array_get_dec
      all_goals rfl
end KL

end

section
local macro_rules | `(tactic| array_get_dec) => `(tactic| first
  | ((with_reducible refine KV.gS ?_); (first
      | with_reducible refine KV.ws_seq ?_
      | with_reducible refine KV.ws_set ?_
      | with_reducible refine KV.ws_ret ?_
      | with_reducible refine KV.ws_asg ?_
      | with_reducible refine KV.ws_par' ?_
      | with_reducible refine KV.ws_parO ?_
      | with_reducible refine KV.ws_par3' ?_
      | with_reducible refine KV.ws_drop ?_
      | with_reducible refine KV.ws_setIx' ?_
      | with_reducible refine KV.ws_next ?_
      | with_reducible refine KV.ws_break ?_
      | ((with_reducible apply KV.ws_gf_fz); exact rfl)
      | ((with_reducible apply KV.ws_gf_own'); exact rfl; (simp only [List.set_cons_zero, List.set_cons_succ]; try exact rfl))
      | with_reducible refine KV.ws_if ?_))
  | ((with_reducible refine KV.gD ?_); (first
      | with_reducible refine KV.wd_c ?_
      | with_reducible refine KV.wd_bin ?_
      | with_reducible refine KV.wd_un ?_
      | with_reducible refine KV.wd_cb ?_
      | with_reducible refine KV.wd_tup' ?_
      | with_reducible refine KV.wd_lst' ?_
      | with_reducible refine KV.wd_call ?_
      | with_reducible refine KV.wd_callK ?_
      | with_reducible refine KV.wd_callT ?_
      | with_reducible refine KV.wd_v ?_
      | with_reducible refine KV.wd_slice ?_
      | with_reducible refine KV.wd_isi ?_
      | with_reducible refine KV.wd_isi2 ?_
      | ((with_reducible apply KV.wd_fz); exact rfl)
      | ((with_reducible apply KV.wd_own); exact rfl)
      | ((with_reducible apply KV.wd_lck); exact rfl)
      | ((with_reducible apply KV.wd_callB'); exact rfl)
      | ((with_reducible apply KV.wd_app'); exact rfl)
      | ((with_reducible apply KV.wd_pop); exact rfl)
      | with_reducible refine KV.wd_if ?_
      | with_reducible refine KV.wd_chP ?_))
  | ((with_reducible refine KV.gO ?_); (first
      | with_reducible refine KV.wo_add ?_
      | with_reducible refine KV.wo_sub ?_
      | with_reducible refine KV.wo_neg ?_
      | with_reducible refine KV.wo_c ?_
      | with_reducible refine KV.wo_isN ?_
      | with_reducible refine KV.wo_notN ?_
      | with_reducible refine KV.wo_eqI ?_
      | with_reducible refine KV.wo_neI ?_
      | with_reducible refine KV.wo_eqNil ?_
      | with_reducible refine KV.wo_eqB ?_
      | with_reducible refine KV.wo_neB ?_
      | with_reducible refine KV.wo_neNil ?_
      | with_reducible refine KV.wo_inT ?_
      | with_reducible refine KV.wo_inL ?_
      | with_reducible refine KV.wo_notInT ?_
      | with_reducible refine KV.wo_notInL ?_
      | with_reducible refine KV.wo_srt ?_
      | with_reducible refine KV.wo_srtR ?_
      | with_reducible refine KV.wo_rev ?_
      | with_reducible refine KV.wo_lenL ?_
      | with_reducible refine KV.wo_lenT ?_
      | with_reducible refine KV.wo_intI ?_
      | with_reducible refine KV.wo_tupL ?_
      | with_reducible refine KV.wo_tupT ?_
      | with_reducible refine KV.wo_lstL ?_
      | with_reducible refine KV.wo_lstT ?_
      | ((with_reducible apply KV.wo_ixT); exact rfl)
      | ((with_reducible apply KV.wo_ixL); exact rfl)
      | ((with_reducible refine KV.wo_isT (b := true) ?_ ?_); exact rfl)
      | ((with_reducible refine KV.wo_isT (b := false) ?_ ?_); exact rfl)
      | ((with_reducible refine KV.wo_isT2 (b := true) ?_ ?_); exact rfl)
      | ((with_reducible refine KV.wo_isT2 (b := false) ?_ ?_); exact rfl)
      | ((with_reducible apply KV.wo_mul); omega)
      | ((with_reducible apply KV.wo_mod); omega)
      | ((with_reducible apply KV.wo_div); omega)
      | ((with_reducible apply KV.wo_addL); (simp only [List.length_append, List.length_cons, List.length_nil, List.length_map]; omega))
      | ((with_reducible apply KV.wo_addT); (simp only [List.length_append, List.length_cons, List.length_nil, List.length_map]; omega))))
  | with_reducible refine KV.wput2 ?_
  | ((with_reducible apply KV.wown); exact rfl)
  | ((with_reducible apply KV.wsi); exact rfl; exact rfl; (simp only [List.set_cons_zero, List.set_cons_succ]; try exact rfl))
  | with_reducible refine KV.wparp ?_
  | with_reducible refine KV.wparp3 ?_
  | with_reducible refine KV.wst_val ?_
  | with_reducible refine KV.wst_tmp ?_
  | with_reducible refine KV.wst_slot ?_
  | with_reducible refine KV.wdr_val ?_
  | with_reducible refine KV.wdr_tmp ?_
  | with_reducible refine KV.wfz_val ?_
  | with_reducible refine KV.wfz_tmp ?_
  | with_reducible refine KV.wn_nil ?_
  | with_reducible refine KV.wn_cons ?_
  | with_reducible refine KV.wdrs_nil ?_
  | with_reducible refine KV.wdrs_cons ?_
  | with_reducible refine KV.wv_nil ?_
  | with_reducible refine KV.wv_cons ?_
  | with_reducible refine KV.wp_none ?_
  | with_reducible refine KV.wp_some ?_
  | with_reducible refine KV.wt_b ?_
  | with_reducible refine KV.wt_not ?_
  | with_reducible refine KV.wt_yes ?_
  | with_reducible refine KV.wgs_nil ?_
  | with_reducible refine KV.wgs_cons ?_
  | with_reducible refine KV.wg_tup ?_
  | with_reducible refine KV.wi_seq ?_
  | with_reducible refine KV.wsq_list ?_
  | with_reducible refine KV.wsq_tup ?_
  | ((with_reducible apply KV.wsq_own); exact rfl; (simp only [List.set_cons_zero, List.set_cons_succ]; try exact rfl))
  | ((with_reducible apply KV.wsq_lck); exact rfl)
  | with_reducible refine KV.wr_val ?_
  | with_reducible refine KV.wr_tmp ?_
  | ((with_reducible apply KV.wdr_fz); exact rfl)
  | ((with_reducible apply KV.wdr_own); exact rfl)
  | ((with_reducible apply KV.wdr_lck); exact rfl)
  | ((with_reducible apply KV.wfz_fz); exact rfl)
  | ((with_reducible apply KV.wfz_own); exact rfl; (simp only [List.set_cons_zero, List.set_cons_succ]; try exact rfl))
  | ((with_reducible apply KV.wput_v); exact rfl; (first | exact rfl | assumption); (simp only [List.set_cons_zero, List.set_cons_succ]; try exact rfl))
  | ((with_reducible apply KV.wput_t); exact rfl; (first | exact rfl | assumption); (simp only [List.set_cons_zero, List.set_cons_succ]; try exact rfl))
  | ((with_reducible apply KV.wg_nm); exact rfl; (first | exact rfl | assumption); (simp only [List.set_cons_zero, List.set_cons_succ]; try exact rfl))
  | ((with_reducible apply KV.wcb); exact rfl)
  | ((with_reducible apply KV.wapp); exact rfl; (simp only [List.set_cons_zero, List.set_cons_succ]; try exact rfl))
  | ((with_reducible apply KV.wr_own); exact rfl)
  | ((with_reducible apply KV.wr_fz); exact rfl)
  | with_reducible refine KV.wt_and ?_
  | with_reducible refine KV.wt_or ?_
  | with_reducible refine KV.wsame ?_
  | with_reducible refine KV.wi_r1' ?_
  | with_reducible refine KV.wi_r2' ?_
  | ((with_reducible apply KV.wrg); omega; omega)
  | ((with_reducible apply KV.wrg2); omega; omega; omega; omega; omega)
  | with_reducible refine KV.and_t ?_
  | with_reducible refine KV.and_f ?_
  | with_reducible refine KV.and_nt ?_
  | with_reducible refine KV.and_nf ?_
  | with_reducible refine KV.and_dec ?_
  | with_reducible refine KV.and_ndec ?_
  | with_reducible refine And.intro (fun hb => ?_) (fun hb => ?_)
  | ((with_reducible refine And.intro ?_ (Nat.le_of_ble_eq_true rfl)))
  | with_reducible refine Exists.intro _ (And.intro rfl ?_)
  | fail "no step")
namespace KL
open PySem PySem.Spec PyProof.Rows L2 KV
def entD (p : Int × PyData) : PyData := .tuple [.int p.1, p.2]
theorem all_entB {xs : List PyData} (h : xs.all entB = true) : ∃ ts : List (Int × PyData), xs = ts.map entD ∧ ∀ p ∈ ts, 0 ≤ p.1 ∧ versB p.2 = true := by
  induction xs with
  | nil => exact ⟨[], rfl, fun _ h => by cases h⟩
  | cons x xs ih =>
    rw [List.all_cons, Bool.and_eq_true] at h
    obtain ⟨ts, e, hk⟩ := ih h.2
    have h1 := h.1
    unfold entB at h1
    split at h1
    · rename_i a v
      rw [Bool.and_eq_true] at h1
      obtain ⟨h2, h3⟩ := h1
      cases a with
      | int a =>
        have h2 := of_decide_eq_true h2
        refine ⟨(a, v) :: ts, by rw [e]; rfl, fun p hp => ?_⟩
        rcases List.mem_cons.mp hp with rfl | hp
        · exact ⟨h2, h3⟩
        · exact hk p hp
      | _ => cases h2
    · cases h1
theorem map_timeD (ts : List (Int × PyData)) : (ts.map entD).map timeD = ts.map (·.1) := by rw [List.map_map]; rfl
theorem map_fstE (ts : List (Int × PyData)) : (ts.map entD).map fstD = (ts.map (·.1)).map .int := by rw [List.map_map, List.map_map]; rfl
theorem wo_eqNilT {QR : KV.R → Prop} {xs : List PyData} (h : QR (.val (.bool xs.isEmpty))) : wO (opEq (.tuple xs) (.tuple [])) QR := ⟨_, by
  unfold opEq; rw [if_pos (Nat.le_trans (Nat.min_le_right _ _) (by decide))]
  have : PyData.eqv (.tuple xs) (.tuple []) = xs.isEmpty := by cases xs <;> rfl
  rw [this], h⟩
theorem at_zero {x : PyData} {xs : List PyData} : L2.atI (x :: xs) 0 = some x := by
  unfold L2.atI ixN
  simp
theorem line_bad {xs : List PyData} {e : PyData} (he : e ∈ xs) (hb : entB e = false) : lineB (.tuple xs) = false := by
  have : xs.all entB = false := by
    rw [List.all_eq_false]
    exact ⟨e, he, by rw [hb]; exact Bool.false_ne_true⟩
  show (!xs.isEmpty && (xs.all entB && _)) = false
  rw [this]
  simp
theorem ent_not2 {xs : List PyData} (h : ¬ (xs.length : Int) = 2) : entB (.tuple xs) = false := by
  match xs, h with
  | [a, b], h => exact absurd rfl h
  | [], _ => rfl
  | [_], _ => rfl
  | _ :: _ :: _ :: _, _ => rfl
theorem take_all {α : Type} {p : α → Bool} {xs : List α} {i : Nat} {x : α} (h : (xs.take i).all p = true) (hx : xs[i]? = some x) (hp : p x = true) : (xs.take (i + 1)).all p = true := by
  rw [List.take_succ, hx, List.all_append, h]
  simp [hp]
theorem is_line_ok {n : Nat} {d : PyData} (h : okS n d = true) : F_is_line [d] = some (.val (.bool (lineB d))) := by
  refine wf_get ?_
  unfold F_is_line
  refine wf_run (r := [.fz d, .un, .un, .un, .un]) rfl ?_
  unfold g_is_line
  cases n with
  | zero => simp [okS] at h
  | succ n => cases d with
    | dict _ => simp [okS] at h
    | tuple xs =>
      obtain ⟨hl, hx⟩ := okS_tuple h
      repeat' array_get_dec
      refine wo_eqNilT ?_
      repeat' array_get_dec
      · rename_i hb
        show KV.R.val _ = KV.R.val (.bool (!xs.isEmpty && _))
        rw [hb]
        rfl
      rename_i hne
      refine ws_forI ?_
      repeat' array_get_dec
      refine ⟨rfl, fun i r1 => ∃ s1, r1 = [.fz (.tuple xs), s1, .un, .un, .un] ∧ nlk s1 = true ∧ (xs.take i).all entB = true, ⟨.un, rfl, rfl, rfl⟩, ?_, ?_⟩
      · rintro i e _ he ⟨s1, rfl, n1, hall⟩
        have hm : e ∈ xs := List.mem_of_getElem? he
        have xe := hx e hm
        refine wg_nm rfl n1 (by simp only [List.set_cons_zero, List.set_cons_succ]; exact rfl) ?_
        cases n with
        | zero => simp [okS] at xe
        | succ n => cases e with
          | dict _ => simp [okS] at xe
          | tuple ys =>
            obtain ⟨yl, hy⟩ := okS_tuple xe
            repeat' array_get_dec
            · rename_i hb
              obtain ⟨a, v, rfl⟩ := len2 hb
              have xa := hy a (by simp)
              have xv := hy v (by simp)
              repeat' array_get_dec
              refine wf_eq (is_number_ok (okS_nd xa)) ?_
              repeat' array_get_dec
              · rename_i hb1
                rw [line_bad hm (by show (numB a && versB v) = false; rw [nt_f hb1]; rfl)]
              rename_i hb1
              have hb1 := nf_t hb1
              refine wf_eq (is_version_ok xv) ?_
              repeat' array_get_dec
              · rename_i hb2
                rw [line_bad hm (by show (numB a && versB v) = false; rw [hb1, nt_f hb2]; rfl)]
              rename_i hb2
              have hb2 := nf_t hb2
              exact ⟨rfl, take_all hall he (by show (numB a && versB v) = true; rw [hb1, hb2]; rfl)⟩
            · rename_i hb
              rw [line_bad hm (ent_not2 hb)]
          | _ =>
            repeat' array_get_dec
            rw [line_bad hm rfl]
      · rintro _ ⟨s1, rfl, n1, hall⟩
        rw [List.take_length] at hall
        obtain ⟨ts, rfl, hts⟩ := all_entB hall
        repeat' array_get_dec
        refine wd_lcm ?_
        repeat' array_get_dec
        refine ⟨rfl, fstD, fun e he => ?_, ?_⟩
        · obtain ⟨p, _, rfl⟩ := List.mem_map.mp he
          simp only [wipeE, List.set_cons_zero, List.set_cons_succ]
          unfold entD
          repeat' array_get_dec
          exact ⟨rfl, rfl⟩
        · rw [map_fstE]
          simp only [unlck]
          repeat' array_get_dec
          cases ts with
          | nil => cases hne
          | cons p ts =>
            have e1 : lineB (.tuple ((p :: ts).map entD)) = (decide (p.1 = 0) && upB ((p :: ts).map (·.1))) := by
              show (true && (((p :: ts).map entD).all entB && (decide ((((p :: ts).map entD).map timeD).headD 0 = 0) && upB (((p :: ts).map entD).map timeD)))) = _
              rw [hall, map_timeD]
              rfl
            rw [e1]
            refine wo_ixL (d := .int p.1) (by rw [List.map_cons, List.map_cons]; exact at_zero) ?_
            repeat' array_get_dec
            · rename_i hb
              refine wf_eq (rises_ok (by rw [List.length_map] at hl ⊢; omega) (.inl rfl)) ?_
              repeat' array_get_dec
              rw [decide_eq_true hb]
              rfl
            · rename_i hb
              rw [decide_eq_false hb]
              rfl
    | _ =>
      repeat' array_get_dec
      all_goals rfl
end KL

end

section
local macro_rules | `(tactic| array_get_dec) => `(tactic| first
  | ((with_reducible refine KV.gS ?_); (first
      | with_reducible refine KV.ws_seq ?_
      | with_reducible refine KV.ws_set ?_
      | with_reducible refine KV.ws_ret ?_
      | with_reducible refine KV.ws_asg ?_
      | with_reducible refine KV.ws_par' ?_
      | with_reducible refine KV.ws_parO ?_
      | with_reducible refine KV.ws_par3' ?_
      | with_reducible refine KV.ws_drop ?_
      | with_reducible refine KV.ws_setIx' ?_
      | with_reducible refine KV.ws_next ?_
      | with_reducible refine KV.ws_break ?_
      | ((with_reducible apply KV.ws_gf_fz); exact rfl)
      | ((with_reducible apply KV.ws_gf_own'); exact rfl; (simp only [List.set_cons_zero, List.set_cons_succ]; try exact rfl))
      | with_reducible refine KV.ws_if ?_))
  | ((with_reducible refine KV.gD ?_); (first
      | with_reducible refine KV.wd_c ?_
      | with_reducible refine KV.wd_bin ?_
      | with_reducible refine KV.wd_un ?_
      | with_reducible refine KV.wd_cb ?_
      | with_reducible refine KV.wd_tup' ?_
      | with_reducible refine KV.wd_lst' ?_
      | with_reducible refine KV.wd_call ?_
      | with_reducible refine KV.wd_callK ?_
      | with_reducible refine KV.wd_callT ?_
      | with_reducible refine KV.wd_v ?_
      | with_reducible refine KV.wd_slice ?_
      | with_reducible refine KV.wd_isi ?_
      | with_reducible refine KV.wd_isi2 ?_
      | ((with_reducible apply KV.wd_fz); exact rfl)
      | ((with_reducible apply KV.wd_own); exact rfl)
      | ((with_reducible apply KV.wd_lck); exact rfl)
      | ((with_reducible apply KV.wd_callB'); exact rfl)
      | ((with_reducible apply KV.wd_app'); exact rfl)
      | ((with_reducible apply KV.wd_pop); exact rfl)
      | with_reducible refine KV.wd_if ?_
      | with_reducible refine KV.wd_chP ?_))
  | ((with_reducible refine KV.gO ?_); (first
      | with_reducible refine KV.wo_add ?_
      | with_reducible refine KV.wo_sub ?_
      | with_reducible refine KV.wo_neg ?_
      | with_reducible refine KV.wo_c ?_
      | with_reducible refine KV.wo_isN ?_
      | with_reducible refine KV.wo_notN ?_
      | with_reducible refine KV.wo_eqI ?_
      | with_reducible refine KV.wo_neI ?_
      | with_reducible refine KV.wo_eqNil ?_
      | with_reducible refine KV.wo_eqB ?_
      | with_reducible refine KV.wo_neB ?_
      | with_reducible refine KV.wo_neNil ?_
      | with_reducible refine KV.wo_inT ?_
      | with_reducible refine KV.wo_inL ?_
      | with_reducible refine KV.wo_notInT ?_
      | with_reducible refine KV.wo_notInL ?_
      | with_reducible refine KV.wo_srt ?_
      | with_reducible refine KV.wo_srtR ?_
      | with_reducible refine KV.wo_rev ?_
      | with_reducible refine KV.wo_lenL ?_
      | with_reducible refine KV.wo_lenT ?_
      | with_reducible refine KV.wo_intI ?_
      | with_reducible refine KV.wo_tupL ?_
      | with_reducible refine KV.wo_tupT ?_
      | with_reducible refine KV.wo_lstL ?_
      | with_reducible refine KV.wo_lstT ?_
      | ((with_reducible apply KV.wo_ixT); exact rfl)
      | ((with_reducible apply KV.wo_ixL); exact rfl)
      | ((with_reducible refine KV.wo_isT (b := true) ?_ ?_); exact rfl)
      | ((with_reducible refine KV.wo_isT (b := false) ?_ ?_); exact rfl)
      | ((with_reducible refine KV.wo_isT2 (b := true) ?_ ?_); exact rfl)
      | ((with_reducible refine KV.wo_isT2 (b := false) ?_ ?_); exact rfl)
      | ((with_reducible apply KV.wo_mul); omega)
      | ((with_reducible apply KV.wo_mod); omega)
      | ((with_reducible apply KV.wo_div); omega)
      | ((with_reducible apply KV.wo_addL); (simp only [List.length_append, List.length_cons, List.length_nil, List.length_map]; omega))
      | ((with_reducible apply KV.wo_addT); (simp only [List.length_append, List.length_cons, List.length_nil, List.length_map]; omega))))
  | with_reducible refine KV.wput2 ?_
  | ((with_reducible apply KV.wown); exact rfl)
  | ((with_reducible apply KV.wsi); exact rfl; exact rfl; (simp only [List.set_cons_zero, List.set_cons_succ]; try exact rfl))
  | with_reducible refine KV.wparp ?_
  | with_reducible refine KV.wparp3 ?_
  | with_reducible refine KV.wst_val ?_
  | with_reducible refine KV.wst_tmp ?_
  | with_reducible refine KV.wst_slot ?_
  | with_reducible refine KV.wdr_val ?_
  | with_reducible refine KV.wdr_tmp ?_
  | with_reducible refine KV.wfz_val ?_
  | with_reducible refine KV.wfz_tmp ?_
  | with_reducible refine KV.wn_nil ?_
  | with_reducible refine KV.wn_cons ?_
  | with_reducible refine KV.wdrs_nil ?_
  | with_reducible refine KV.wdrs_cons ?_
  | with_reducible refine KV.wv_nil ?_
  | with_reducible refine KV.wv_cons ?_
  | with_reducible refine KV.wp_none ?_
  | with_reducible refine KV.wp_some ?_
  | with_reducible refine KV.wt_b ?_
  | with_reducible refine KV.wt_not ?_
  | with_reducible refine KV.wt_yes ?_
  | with_reducible refine KV.wgs_nil ?_
  | with_reducible refine KV.wgs_cons ?_
  | with_reducible refine KV.wg_tup ?_
  | with_reducible refine KV.wi_seq ?_
  | with_reducible refine KV.wsq_list ?_
  | with_reducible refine KV.wsq_tup ?_
  | ((with_reducible apply KV.wsq_own); exact rfl; (simp only [List.set_cons_zero, List.set_cons_succ]; try exact rfl))
  | ((with_reducible apply KV.wsq_lck); exact rfl)
  | with_reducible refine KV.wr_val ?_
  | with_reducible refine KV.wr_tmp ?_
  | ((with_reducible apply KV.wdr_fz); exact rfl)
  | ((with_reducible apply KV.wdr_own); exact rfl)
  | ((with_reducible apply KV.wdr_lck); exact rfl)
  | ((with_reducible apply KV.wfz_fz); exact rfl)
  | ((with_reducible apply KV.wfz_own); exact rfl; (simp only [List.set_cons_zero, List.set_cons_succ]; try exact rfl))
  | ((with_reducible apply KV.wput_v); exact rfl; (first | exact rfl | assumption); (simp only [List.set_cons_zero, List.set_cons_succ]; try exact rfl))
  | ((with_reducible apply KV.wput_t); exact rfl; (first | exact rfl | assumption); (simp only [List.set_cons_zero, List.set_cons_succ]; try exact rfl))
  | ((with_reducible apply KV.wg_nm); exact rfl; (first | exact rfl | assumption); (simp only [List.set_cons_zero, List.set_cons_succ]; try exact rfl))
  | ((with_reducible apply KV.wcb); exact rfl)
  | ((with_reducible apply KV.wapp); exact rfl; (simp only [List.set_cons_zero, List.set_cons_succ]; try exact rfl))
  | ((with_reducible apply KV.wr_own); exact rfl)
  | ((with_reducible apply KV.wr_fz); exact rfl)
  | with_reducible refine KV.wt_and ?_
  | with_reducible refine KV.wt_or ?_
  | with_reducible refine KV.wsame ?_
  | with_reducible refine KV.wi_r1' ?_
  | with_reducible refine KV.wi_r2' ?_
  | ((with_reducible apply KV.wrg); omega; omega)
  | ((with_reducible apply KV.wrg2); omega; omega; omega; omega; omega)
  | with_reducible refine KV.and_t ?_
  | with_reducible refine KV.and_f ?_
  | with_reducible refine KV.and_nt ?_
  | with_reducible refine KV.and_nf ?_
  | with_reducible refine KV.and_dec ?_
  | with_reducible refine KV.and_ndec ?_
  | with_reducible refine And.intro (fun hb => ?_) (fun hb => ?_)
  | ((with_reducible refine And.intro ?_ (Nat.le_of_ble_eq_true rfl)))
  | with_reducible refine Exists.intro _ (And.intro rfl ?_)
  | fail "no step")
namespace KL
open PySem PySem.Spec PyProof.Rows L2 KV
theorem len6 {xs : List PyData} (h : (xs.length : Int) = 6) : ∃ a b c d e f, xs = [a, b, c, d, e, f] := by
  match xs, h with
  | [a, b, c, d, e, f], _ => exact ⟨a, b, c, d, e, f, rfl⟩
  | [], h => simp at h
  | [_], h => simp at h
  | [_, _], h => simp at h
  | [_, _, _], h => simp at h
  | [_, _, _, _], h => simp at h
  | [_, _, _, _, _], h => simp at h
  | _ :: _ :: _ :: _ :: _ :: _ :: _ :: _, h => simp at h; omega
theorem site_not6 {xs : List PyData} (h : ¬ (xs.length : Int) = 6) : siteB (.tuple xs) = false := by
  match xs, h with
  | [a, b, c, d, e, f], h => exact absurd rfl h
  | [], _ => rfl
  | [_], _ => rfl
  | [_, _], _ => rfl
  | [_, _, _], _ => rfl
  | [_, _, _, _], _ => rfl
  | [_, _, _, _, _], _ => rfl
  | _ :: _ :: _ :: _ :: _ :: _ :: _ :: _, _ => rfl
theorem numB_ex {d : PyData} (h : numB d = true) : ∃ i : Int, d = .int i ∧ 0 ≤ i := by
  cases d with
  | int i => exact ⟨i, rfl, of_decide_eq_true h⟩
  | _ => cases h
theorem is_zone_ok {n : Nat} {d : PyData} (h : okS n d = true) : F_is_zone [d] = some (.val (.bool (siteB d))) := by
  refine wf_get ?_
  unfold F_is_zone
  refine wf_run (r := [.fz d, .un, .un, .un, .un, .un, .un]) rfl ?_
  unfold g_is_zone
  cases n with
  | zero => simp [okS] at h
  | succ n => cases d with
    | dict _ => simp [okS] at h
    | tuple xs =>
      obtain ⟨hl, hx⟩ := okS_tuple h
      repeat' array_get_dec
      · rename_i hb
        obtain ⟨l, s, t, g, k, r, rfl⟩ := len6 hb
        repeat' array_get_dec
        refine wf_eq (is_line_ok (hx l (by simp))) ?_
        repeat' array_get_dec
        · rename_i hb
          show KV.R.val _ = KV.R.val (.bool (lineB l && _))
          rw [nt_f hb]
          rfl
        rename_i hb1
        have hb1 := nf_t hb1
        refine wd_lcm ?_
        repeat' array_get_dec
        refine wo_eq (z := .val (.tuple [s, t, g, k, r])) rfl ?_
        repeat' array_get_dec
        refine ⟨rfl, fun d => .bool (numB d), fun e he => ?_, ?_⟩
        · simp only [wipeE, List.set_cons_zero, List.set_cons_succ]
          repeat' array_get_dec
          refine wf_eq (is_number_ok (okS_nd (hx e (List.mem_cons_of_mem _ he)))) ?_
          repeat' array_get_dec
          exact ⟨rfl, rfl⟩
        · simp only [unlck]
          repeat' array_get_dec
          refine wo_all (p := numB) ?_
          repeat' array_get_dec
          · rename_i hb2
            have hb2 := nt_f hb2
            show KV.R.val _ = KV.R.val (.bool (lineB l && (numB s && (numB t && (numB g && (numB k && (numB r && _)))))))
            rw [hb1]
            simp only [List.all_cons, List.all_nil] at hb2
            revert hb2
            cases numB s <;> cases numB t <;> cases numB g <;> cases numB k <;> cases numB r <;> intro hb2 <;> first | rfl | cases hb2
          · rename_i hb2
            have hb2 := nf_t hb2
            simp only [List.all_cons, List.all_nil, Bool.and_eq_true] at hb2
            obtain ⟨h1, h2, h3, h4, h5, _⟩ := hb2
            have e1 : siteB (.tuple [l, s, t, g, k, r]) = (decide (1 ≤ intD t ∧ intD t ≤ intD s) && (decide (1 ≤ intD k) && decide (1 ≤ intD r))) := by
              show (lineB l && (numB s && (numB t && (numB g && (numB k && (numB r && _)))))) = _
              rw [hb1, h1, h2, h3, h4, h5]
              rfl
            rw [e1]
            obtain ⟨s, rfl, _⟩ := numB_ex h1
            obtain ⟨t, rfl, _⟩ := numB_ex h2
            obtain ⟨g, rfl, _⟩ := numB_ex h3
            obtain ⟨k, rfl, _⟩ := numB_ex h4
            obtain ⟨r, rfl, _⟩ := numB_ex h5
            refine wo_eq (z := .val (.tuple [.int s, .int t, .int g, .int k, .int r])) rfl ?_
            repeat' array_get_dec
            all_goals (refine congrArg (fun b => KV.R.val (.bool b)) ?_; simp_all [intD])
            · exact decide_eq_decide.mpr Iff.rfl
            · intro h1
              have := of_decide_eq_true h1
              omega
            · intro h1
              have := of_decide_eq_true h1
              omega
      · rename_i hb
        rw [site_not6 hb]
    | _ =>
      repeat' array_get_dec
      all_goals rfl
theorem site_ex {z : PyData} (h : siteB z = true) : ∃ (ts : List (Int × PyData)) (r : List PyData), z = .tuple (.tuple (ts.map entD) :: r) ∧ ts ≠ [] ∧ ∀ p ∈ ts, 0 ≤ p.1 ∧ versB p.2 = true := by
  unfold siteB at h
  split at h
  · rename_i l s t g k r
    rw [Bool.and_eq_true] at h
    have hl := h.1
    unfold lineB at hl
    split at hl
    · rename_i xs
      rw [Bool.and_eq_true, Bool.and_eq_true] at hl
      obtain ⟨ts, rfl, hts⟩ := all_entB hl.2.1
      refine ⟨ts, _, rfl, fun e => ?_, hts⟩
      subst e
      cases hl.1
    · cases hl
  · cases h
theorem vers_ex {v : PyData} (h : versB v = true) : ∃ k hs t m g, v = .tuple [k, hs, t, m, g] := by
  unfold versB at h
  split at h
  · exact ⟨_, _, _, _, _, rfl⟩
  · cases h
theorem fits_eq (last : Bool) (ts : List (Int × PyData)) (r : List PyData) : fitB last (.tuple (.tuple (ts.map entD) :: r)) = (ts.map entD).all fun e => KV.isNon (trustD e) == last := rfl
theorem fits_place_ok {z : PyData} {last : Bool} (h : siteB z = true) : F_fits_place [z, .bool last] = some (.val (.bool (fitB last z))) := by
  obtain ⟨ts, r, rfl, _, hts⟩ := site_ex h
  rw [fits_eq]
  refine wf_get ?_
  unfold F_fits_place
  refine wf_run (r := [.fz (.tuple (.tuple (ts.map entD) :: r)), .fz (.bool last), .un, .un]) rfl ?_
  unfold g_fits_place
  repeat' array_get_dec
  refine wd_lcm ?_
  repeat' array_get_dec
  refine wo_ixT (d := .tuple (ts.map entD)) at_zero ?_
  repeat' array_get_dec
  refine ⟨rfl, fun e => .bool (KV.isNon (trustD e) == last), fun e he => ?_, ?_⟩
  · obtain ⟨p, hp, rfl⟩ := List.mem_map.mp he
    obtain ⟨k, hs, t, m, g, ev⟩ := vers_ex (hts p hp).2
    obtain ⟨a, v⟩ := p
    dsimp only at ev
    subst ev
    simp only [wipeE, List.set_cons_zero, List.set_cons_succ]
    unfold entD
    repeat' array_get_dec
    exact ⟨rfl, rfl⟩
  · simp only [unlck]
    repeat' array_get_dec
    refine wo_all (p := fun e => KV.isNon (trustD e) == last) ?_
    repeat' array_get_dec
    rfl
theorem fitsB_iff : ∀ zs : List PyData, fitsB zs = true ↔ ∀ (i : Nat) (z : PyData), zs[i]? = some z → fitB (decide ((i : Int) = (zs.length : Int) - 1)) z = true
  | [] => by simp [fitsB]
  | [z] => by
    refine ⟨fun h i y e => ?_, fun h => ?_⟩
    · cases i with
      | zero => cases e; exact h
      | succ i => cases e
    · exact h 0 z rfl
  | z :: y :: r => by
    have ih := fitsB_iff (y :: r)
    have e0 : fitsB (z :: y :: r) = (fitB false z && fitsB (y :: r)) := rfl
    rw [e0, Bool.and_eq_true, ih]
    refine ⟨fun ⟨h1, h2⟩ i x e => ?_, fun h => ⟨?_, fun i x e => ?_⟩⟩
    · cases i with
      | zero =>
        cases e
        rw [decide_eq_false (by simp only [List.length_cons]; omega)]
        exact h1
      | succ i =>
        have := h2 i x e
        have e2 : decide (((i + 1 : Nat) : Int) = ((z :: y :: r).length : Int) - 1) = decide ((i : Int) = ((y :: r).length : Int) - 1) := by
          refine decide_eq_decide.mpr ?_
          simp only [List.length_cons]
          omega
        rw [e2]
        exact this
    · have := h 0 z rfl
      rw [decide_eq_false (by simp only [List.length_cons]; omega)] at this
      exact this
    · have := h (i + 1) x e
      have e2 : decide (((i + 1 : Nat) : Int) = ((z :: y :: r).length : Int) - 1) = decide ((i : Int) = ((y :: r).length : Int) - 1) := by
        refine decide_eq_decide.mpr ?_
        simp only [List.length_cons]
        omega
      rw [e2] at this
      exact this
def fitE (n : Int) : PyData → Bool
  | .tuple [.int i, z] => fitB (decide (i = n - 1)) z
  | _ => false
theorem enum_fits (zs : List PyData) : (KV.enumD zs).all (fitE zs.length) = fitsB zs := by
  rw [Bool.eq_iff_iff, fitsB_iff, List.all_eq_true]
  refine ⟨fun h i z e => ?_, fun h d hd => ?_⟩
  · have hi : i < zs.length := (List.getElem?_eq_some_iff.mp e).1
    have : (KV.enumD zs)[i]? = some (.tuple [.int (i : Nat), z]) := by
      unfold KV.enumD
      rw [List.getElem?_zipWith, List.getElem?_range hi, e]
    exact h _ (List.mem_of_getElem? this)
  · obtain ⟨i, hi⟩ := List.getElem?_of_mem hd
    obtain ⟨z, e, rfl⟩ := KV.enumD_get hi
    exact h i z e
theorem len3 {xs : List PyData} (h : (xs.length : Int) = 3) : ∃ a b c, xs = [a, b, c] := by
  match xs, h with
  | [a, b, c], _ => exact ⟨a, b, c, rfl⟩
  | [], h => simp at h
  | [_], h => simp at h
  | [_, _], h => simp at h
  | _ :: _ :: _ :: _ :: _, h => simp at h; omega
theorem world_not3 {xs : List PyData} (h : ¬ (xs.length : Int) = 3) : worldB (.tuple xs) = false := by
  cases e : worldB (.tuple xs) with
  | false => rfl
  | true =>
    exfalso
    unfold worldB at e
    split at e
    · rename_i q
      cases q
      exact h rfl
    · cases e
theorem world_notT {a b c : PyData} (h : ∀ zs, a ≠ .tuple zs) : worldB (.tuple [a, b, c]) = false := by
  cases a with
  | tuple zs => exact absurd rfl (h zs)
  | _ => rfl
theorem str_beq (a b : Str) : (a == b) = decide (b = a) := by
  by_cases h : a = b
  · subst h; simp
  · have : ¬ b = a := fun e => h e.symm
    simp [h, this]
theorem rule_in {s : Str} {QR : KV.R → Prop} (h : QR (.val (.bool (!ruleB (.str s))))) : wO (opNotIn (.str s) (.tuple [.str "any", .str "each"])) QR := ⟨_, by
  unfold opNotIn seqOf
  rw [Option.bind_some, if_pos (Nat.le_trans (Nat.min_le_right _ _) (show (PyData.str s).depth ≤ 60 from by show 0 ≤ 60; omega))]
  have : ([PyData.str "any", PyData.str "each"].any fun y => PyData.eqv y (.str s)) = ruleB (.str s) := by
    show ((("any" : Str) == s) || ((("each" : Str) == s) || false)) = decide (s = "any" ∨ s = "each")
    rw [str_beq, str_beq]
    simp
  rw [this], h⟩
theorem is_world_ok {n : Nat} {d : PyData} (h : okS n d = true) : F_is_world [d] = some (.val (.bool (worldB d))) := by
  refine wf_get ?_
  unfold F_is_world
  refine wf_run (r := [.fz d, .un, .un, .un, .un, .un]) rfl ?_
  unfold g_is_world
  cases n with
  | zero => simp [okS] at h
  | succ n => cases d with
    | dict _ => simp [okS] at h
    | tuple xs =>
      obtain ⟨hl, hx⟩ := okS_tuple h
      repeat' array_get_dec
      · rename_i hb
        obtain ⟨a, b, c, rfl⟩ := len3 hb
        have xa := hx a (by simp)
        have xb := hx b (by simp)
        have xc := hx c (by simp)
        by_cases ha : ∃ zs, a = .tuple zs
        · obtain ⟨zs, rfl⟩ := ha
          have ew : worldB (.tuple [.tuple zs, b, c]) = (!zs.isEmpty && (zs.all siteB && (keysB b && (!emptyT b && (ruleB c && fitsB zs))))) := rfl
          rw [ew]
          cases n with
          | zero => simp [okS] at xa
          | succ n =>
            obtain ⟨zl, hz⟩ := okS_tuple xa
            repeat' array_get_dec
            refine wo_eqNilT ?_
            repeat' array_get_dec
            · rename_i hb1
              rw [hb1]
              rfl
            rename_i hne
            rw [hne]
            refine wd_lcm ?_
            repeat' array_get_dec
            refine ⟨rfl, fun d => .bool (siteB d), fun e he => ?_, ?_⟩
            · simp only [wipeE, List.set_cons_zero, List.set_cons_succ]
              repeat' array_get_dec
              refine wf_eq (is_zone_ok (hz e he)) ?_
              repeat' array_get_dec
              exact ⟨rfl, rfl⟩
            · simp only [unlck]
              repeat' array_get_dec
              refine wo_all (p := siteB) ?_
              repeat' array_get_dec
              · rename_i hb1
                rw [nt_f hb1]
                rfl
              rename_i hsa
              have hsa := nf_t hsa
              rw [hsa]
              refine wf_eq (are_keys_ok xb) ?_
              repeat' array_get_dec
              · rename_i hb1
                rw [nt_f hb1]
                rfl
              rename_i hkb
              have hkb := nf_t hkb
              rw [hkb]
              obtain ⟨ks, rfl, _, _⟩ := keysB_ex hkb
              repeat' array_get_dec
              refine wo_eqNilT ?_
              repeat' array_get_dec
              · rename_i hb1
                rw [show emptyT (.tuple (ks.map keyD)) = true from hb1]
                rfl
              rename_i hke
              rw [show emptyT (.tuple (ks.map keyD)) = false from hke]
              cases c with
              | str s =>
                repeat' array_get_dec
                refine rule_in ?_
                repeat' array_get_dec
                · rename_i hb1
                  rw [nt_f hb1]
                  rfl
                rename_i hru
                rw [nf_t hru]
                refine wd_lcm (wi_enumT ?_)
                repeat' array_get_dec
                refine ⟨by omega, rfl, fun e => .bool (fitE zs.length e), fun e he => ?_, ?_⟩
                · obtain ⟨i, hi⟩ := List.getElem?_of_mem he
                  obtain ⟨z, ez, rfl⟩ := KV.enumD_get hi
                  simp only [wipeE, List.set_cons_zero, List.set_cons_succ]
                  repeat' array_get_dec
                  refine wf_eq (fits_place_ok (List.all_eq_true.mp hsa z (List.mem_of_getElem? ez))) ?_
                  repeat' array_get_dec
                  exact ⟨rfl, rfl⟩
                · simp only [unlck]
                  repeat' array_get_dec
                  refine wo_all (p := fitE zs.length) ?_
                  rw [enum_fits]
                  repeat' array_get_dec
                  rfl
              | dict _ => have := okS_nd xc; cases this
              | _ =>
                repeat' array_get_dec
                rfl
        · rw [world_notT fun zs e => ha ⟨zs, e⟩]
          cases a with
          | tuple zs => exact absurd ⟨zs, rfl⟩ ha
          | dict _ => have := okS_nd xa; cases this
          | _ =>
            repeat' array_get_dec
            rfl
      · rename_i hb
        rw [world_not3 hb]
    | _ =>
      repeat' array_get_dec
      all_goals rfl
end KL

end

section
local macro_rules | `(tactic| array_get_dec) => `(tactic| first
  | ((with_reducible refine KV.gS ?_); (first
      | with_reducible refine KV.ws_seq ?_
      | with_reducible refine KV.ws_set ?_
      | with_reducible refine KV.ws_ret ?_
      | with_reducible refine KV.ws_asg ?_
      | with_reducible refine KV.ws_par' ?_
      | with_reducible refine KV.ws_parO ?_
      | with_reducible refine KV.ws_par3' ?_
      | with_reducible refine KV.ws_drop ?_
      | with_reducible refine KV.ws_setIx' ?_
      | with_reducible refine KV.ws_next ?_
      | with_reducible refine KV.ws_break ?_
      | ((with_reducible apply KV.ws_gf_fz); exact rfl)
      | ((with_reducible apply KV.ws_gf_own'); exact rfl; (simp only [List.set_cons_zero, List.set_cons_succ]; try exact rfl))
      | with_reducible refine KV.ws_if ?_))
  | ((with_reducible refine KV.gD ?_); (first
      | with_reducible refine KV.wd_c ?_
      | with_reducible refine KV.wd_bin ?_
      | with_reducible refine KV.wd_un ?_
      | with_reducible refine KV.wd_cb ?_
      | with_reducible refine KV.wd_tup' ?_
      | with_reducible refine KV.wd_lst' ?_
      | with_reducible refine KV.wd_call ?_
      | with_reducible refine KV.wd_callK ?_
      | with_reducible refine KV.wd_callT ?_
      | with_reducible refine KV.wd_v ?_
      | with_reducible refine KV.wd_slice ?_
      | with_reducible refine KV.wd_isi ?_
      | with_reducible refine KV.wd_isi2 ?_
      | ((with_reducible apply KV.wd_fz); exact rfl)
      | ((with_reducible apply KV.wd_own); exact rfl)
      | ((with_reducible apply KV.wd_lck); exact rfl)
      | ((with_reducible apply KV.wd_callB'); exact rfl)
      | ((with_reducible apply KV.wd_app'); exact rfl)
      | ((with_reducible apply KV.wd_pop); exact rfl)
      | with_reducible refine KV.wd_if ?_
      | with_reducible refine KV.wd_chP ?_))
  | ((with_reducible refine KV.gO ?_); (first
      | with_reducible refine KV.wo_add ?_
      | with_reducible refine KV.wo_sub ?_
      | with_reducible refine KV.wo_neg ?_
      | with_reducible refine KV.wo_c ?_
      | with_reducible refine KV.wo_isN ?_
      | with_reducible refine KV.wo_notN ?_
      | with_reducible refine KV.wo_eqI ?_
      | with_reducible refine KV.wo_neI ?_
      | with_reducible refine KV.wo_eqNil ?_
      | with_reducible refine KV.wo_eqB ?_
      | with_reducible refine KV.wo_neB ?_
      | with_reducible refine KV.wo_neNil ?_
      | with_reducible refine KV.wo_inT ?_
      | with_reducible refine KV.wo_inL ?_
      | with_reducible refine KV.wo_notInT ?_
      | with_reducible refine KV.wo_notInL ?_
      | with_reducible refine KV.wo_srt ?_
      | with_reducible refine KV.wo_srtR ?_
      | with_reducible refine KV.wo_rev ?_
      | with_reducible refine KV.wo_lenL ?_
      | with_reducible refine KV.wo_lenT ?_
      | with_reducible refine KV.wo_intI ?_
      | with_reducible refine KV.wo_tupL ?_
      | with_reducible refine KV.wo_tupT ?_
      | with_reducible refine KV.wo_lstL ?_
      | with_reducible refine KV.wo_lstT ?_
      | ((with_reducible apply KV.wo_ixT); exact rfl)
      | ((with_reducible apply KV.wo_ixL); exact rfl)
      | ((with_reducible refine KV.wo_isT (b := true) ?_ ?_); exact rfl)
      | ((with_reducible refine KV.wo_isT (b := false) ?_ ?_); exact rfl)
      | ((with_reducible refine KV.wo_isT2 (b := true) ?_ ?_); exact rfl)
      | ((with_reducible refine KV.wo_isT2 (b := false) ?_ ?_); exact rfl)
      | ((with_reducible apply KV.wo_mul); omega)
      | ((with_reducible apply KV.wo_mod); omega)
      | ((with_reducible apply KV.wo_div); omega)
      | ((with_reducible apply KV.wo_addL); (simp only [List.length_append, List.length_cons, List.length_nil, List.length_map]; omega))
      | ((with_reducible apply KV.wo_addT); (simp only [List.length_append, List.length_cons, List.length_nil, List.length_map]; omega))))
  | with_reducible refine KV.wput2 ?_
  | ((with_reducible apply KV.wown); exact rfl)
  | ((with_reducible apply KV.wsi); exact rfl; exact rfl; (simp only [List.set_cons_zero, List.set_cons_succ]; try exact rfl))
  | with_reducible refine KV.wparp ?_
  | with_reducible refine KV.wparp3 ?_
  | with_reducible refine KV.wst_val ?_
  | with_reducible refine KV.wst_tmp ?_
  | with_reducible refine KV.wst_slot ?_
  | with_reducible refine KV.wdr_val ?_
  | with_reducible refine KV.wdr_tmp ?_
  | with_reducible refine KV.wfz_val ?_
  | with_reducible refine KV.wfz_tmp ?_
  | with_reducible refine KV.wn_nil ?_
  | with_reducible refine KV.wn_cons ?_
  | with_reducible refine KV.wdrs_nil ?_
  | with_reducible refine KV.wdrs_cons ?_
  | with_reducible refine KV.wv_nil ?_
  | with_reducible refine KV.wv_cons ?_
  | with_reducible refine KV.wp_none ?_
  | with_reducible refine KV.wp_some ?_
  | with_reducible refine KV.wt_b ?_
  | with_reducible refine KV.wt_not ?_
  | with_reducible refine KV.wt_yes ?_
  | with_reducible refine KV.wgs_nil ?_
  | with_reducible refine KV.wgs_cons ?_
  | with_reducible refine KV.wg_tup ?_
  | with_reducible refine KV.wi_seq ?_
  | with_reducible refine KV.wsq_list ?_
  | with_reducible refine KV.wsq_tup ?_
  | ((with_reducible apply KV.wsq_own); exact rfl; (simp only [List.set_cons_zero, List.set_cons_succ]; try exact rfl))
  | ((with_reducible apply KV.wsq_lck); exact rfl)
  | with_reducible refine KV.wr_val ?_
  | with_reducible refine KV.wr_tmp ?_
  | ((with_reducible apply KV.wdr_fz); exact rfl)
  | ((with_reducible apply KV.wdr_own); exact rfl)
  | ((with_reducible apply KV.wdr_lck); exact rfl)
  | ((with_reducible apply KV.wfz_fz); exact rfl)
  | ((with_reducible apply KV.wfz_own); exact rfl; (simp only [List.set_cons_zero, List.set_cons_succ]; try exact rfl))
  | ((with_reducible apply KV.wput_v); exact rfl; (first | exact rfl | assumption); (simp only [List.set_cons_zero, List.set_cons_succ]; try exact rfl))
  | ((with_reducible apply KV.wput_t); exact rfl; (first | exact rfl | assumption); (simp only [List.set_cons_zero, List.set_cons_succ]; try exact rfl))
  | ((with_reducible apply KV.wg_nm); exact rfl; (first | exact rfl | assumption); (simp only [List.set_cons_zero, List.set_cons_succ]; try exact rfl))
  | ((with_reducible apply KV.wcb); exact rfl)
  | ((with_reducible apply KV.wapp); exact rfl; (simp only [List.set_cons_zero, List.set_cons_succ]; try exact rfl))
  | ((with_reducible apply KV.wr_own); exact rfl)
  | ((with_reducible apply KV.wr_fz); exact rfl)
  | with_reducible refine KV.wt_and ?_
  | with_reducible refine KV.wt_or ?_
  | with_reducible refine KV.wsame ?_
  | with_reducible refine KV.wi_r1' ?_
  | with_reducible refine KV.wi_r2' ?_
  | ((with_reducible apply KV.wrg); omega; omega)
  | ((with_reducible apply KV.wrg2); omega; omega; omega; omega; omega)
  | with_reducible refine KV.and_t ?_
  | with_reducible refine KV.and_f ?_
  | with_reducible refine KV.and_nt ?_
  | with_reducible refine KV.and_nf ?_
  | with_reducible refine KV.and_dec ?_
  | with_reducible refine KV.and_ndec ?_
  | with_reducible refine And.intro (fun hb => ?_) (fun hb => ?_)
  | ((with_reducible refine And.intro ?_ (Nat.le_of_ble_eq_true rfl)))
  | with_reducible refine Exists.intro _ (And.intro rfl ?_)
  | fail "no step")
namespace KL
open PySem PySem.Spec PyProof.Rows L2 KV
theorem sortD_id {α : Type} {lt : α → α → Bool} : ∀ l : List α, l.Pairwise (fun a b => lt a b = true) → sortD lt l = l
  | [], _ => rfl
  | x :: l, h => by
    have h1 := List.pairwise_cons.mp h
    unfold sortD
    rw [sortD_id l h1.2]
    cases l with
    | nil => rfl
    | cons y r =>
      unfold insD
      rw [if_pos (h1.1 y (by simp))]
theorem upB_iff : ∀ ns : List Int, upB ns = true ↔ ns.Pairwise (fun a b => ltI a b = true)
  | [] => by simp [upB]
  | [_] => by simp [upB]
  | a :: b :: r => by
    have ih := upB_iff (b :: r)
    have e0 : upB (a :: b :: r) = (decide (a < b) && upB (b :: r)) := rfl
    rw [e0, Bool.and_eq_true, ih, List.pairwise_cons (a := a)]
    refine ⟨fun ⟨h1, h2⟩ => ⟨fun c hc => ?_, h2⟩, fun ⟨h1, h2⟩ => ⟨h1 b (by simp), h2⟩⟩
    have h1 : ltI a b = true := h1
    rcases List.mem_cons.mp hc with rfl | hc
    · exact h1
    · exact ltI_ok.trans _ _ _ h1 ((List.pairwise_cons.mp h2).1 c hc)
theorem climb_up (ns : List Int) : decide (ns = sortD ltI ns) = upB ns := by
  rw [Bool.eq_iff_iff, decide_eq_true_eq, upB_iff]
  refine ⟨fun h => ?_, fun h => (sortD_id ns h).symm⟩
  rw [h]
  exact sortD_sorted ltI_ok ns
theorem eqvAll_int : ∀ ns ms : List Int, PyData.eqvAll (ns.map .int) (ms.map .int) = decide (ns = ms)
  | [], [] => rfl
  | [], _ :: _ => rfl
  | _ :: _, [] => rfl
  | n :: ns, m :: ms => by
    show (decide (n = m) && PyData.eqvAll (ns.map .int) (ms.map .int)) = _
    rw [eqvAll_int ns ms]
    simp
theorem eqvAll_key : ∀ ks js : List (Int × Int), PyData.eqvAll (ks.map keyD) (js.map keyD) = decide (ks = js)
  | [], [] => rfl
  | [], _ :: _ => rfl
  | _ :: _, [] => rfl
  | (a, b) :: ks, (c, d) :: js => by
    show ((decide (a = c) && (decide (b = d) && true)) && PyData.eqvAll (ks.map keyD) (js.map keyD)) = _
    rw [eqvAll_key ks js]
    simp
theorem depth_ints (ns : List Int) : (PyData.list (ns.map .int)).depth ≤ 60 := by
  refine Nat.le_trans (Nat.succ_le_succ (depthAll_le (n := 0) _ fun x hx => ?_)) (by omega)
  obtain ⟨_, _, rfl⟩ := List.mem_map.mp hx
  exact Nat.le_refl _
theorem depth_key (p : Int × Int) : (keyD p).depth ≤ 1 := Nat.le_refl _
theorem depth_keys (ks : List (Int × Int)) : (PyData.list (ks.map keyD)).depth ≤ 60 := by
  refine Nat.le_trans (Nat.succ_le_succ (depthAll_le (n := 1) _ fun x hx => ?_)) (by omega)
  obtain ⟨p, _, rfl⟩ := List.mem_map.mp hx
  exact depth_key p
theorem wo_eqInts {QR : KV.R → Prop} {ns ms : List Int} (h : QR (.val (.bool (decide (ns = ms))))) : wO (opEq (.list (ns.map .int)) (.list (ms.map .int))) QR := ⟨_, by
  unfold opEq; rw [if_pos (Nat.le_trans (Nat.min_le_right _ _) (depth_ints _))]
  rw [show PyData.eqv (.list (ns.map .int)) (.list (ms.map .int)) = PyData.eqvAll (ns.map .int) (ms.map .int) from rfl, eqvAll_int], h⟩
theorem wo_eqKeys {QR : KV.R → Prop} {ks js : List (Int × Int)} (h : QR (.val (.bool (decide (ks = js))))) : wO (opEq (.list (ks.map keyD)) (.list (js.map keyD))) QR := ⟨_, by
  unfold opEq; rw [if_pos (Nat.le_trans (Nat.min_le_right _ _) (depth_keys _))]
  rw [show PyData.eqv (.list (ks.map keyD)) (.list (js.map keyD)) = PyData.eqvAll (ks.map keyD) (js.map keyD) from rfl, eqvAll_key], h⟩
theorem climbs_ints {ns : List Int} (h : ns.length < 64) : F__law_climbs [.list (ns.map .int)] = some (.val (.bool (upB ns))) := by
  refine wf_get ?_
  unfold F__law_climbs
  refine wf_run (r := [.fz (.list (ns.map .int))]) rfl ?_
  unfold g__law_climbs
  repeat' array_get_dec
  refine wo_eq (opSS_int h) ?_
  repeat' array_get_dec
  refine wo_eqInts ?_
  repeat' array_get_dec
  show KV.R.val _ = _
  rw [climb_up]
theorem climbs_keys {ks : List (Int × Int)} (h : KeysOk 63 ks) : F__law_climbs [.list (ks.map keyD)] = some (.val (.bool (decide (ks = sortD ltK ks)))) := by
  refine wf_get ?_
  unfold F__law_climbs
  refine wf_run (r := [.fz (.list (ks.map keyD))]) rfl ?_
  unfold g__law_climbs
  repeat' array_get_dec
  refine wo_eq (ss_keys h) ?_
  repeat' array_get_dec
  refine wo_eqKeys ?_
  repeat' array_get_dec
  rfl
theorem up_keys {ks : List (Int × Int)} (h : upB (ks.map (·.1)) = true) : decide (ks = sortD ltK ks) = true := by
  rw [upB_iff, List.pairwise_map] at h
  refine decide_eq_true (sortD_id ks (h.imp fun {a b} hab => ?_)).symm
  rw [ltK_iff]
  exact .inl (of_decide_eq_true hab)
theorem l_is_int_ok {d : PyData} (h : nd d = true) : F__law_is_int [d] = some (.val (.bool (numB d))) := by
  refine wf_get ?_
  unfold F__law_is_int
  refine wf_run (r := [.fz d]) rfl ?_
  unfold g__law_is_int
  cases d with
  | dict _ => cases h
  | _ =>
    repeat' array_get_dec
    all_goals rfl
theorem l_is_key_ok {n : Nat} {d : PyData} (h : okS n d = true) : F__law_is_key [d] = some (.val (.bool (keyB d))) := by
  refine wf_get ?_
  unfold F__law_is_key
  refine wf_run (r := [.fz d]) rfl ?_
  unfold g__law_is_key
  cases n with
  | zero => simp [okS] at h
  | succ n => cases d with
    | dict _ => simp [okS] at h
    | tuple xs =>
      obtain ⟨hl, hx⟩ := okS_tuple h
      repeat' array_get_dec
      · rename_i hb
        obtain ⟨a, b, rfl⟩ := len2 hb
        repeat' array_get_dec
        refine wf_eq (l_is_int_ok (okS_nd (hx a (by simp)))) ?_
        repeat' array_get_dec
        · rename_i hb1
          refine wf_eq (l_is_int_ok (okS_nd (hx b (by simp)))) ?_
          repeat' array_get_dec
          show KV.R.val _ = KV.R.val (.bool (numB a && numB b))
          rw [hb1]
          rfl
        · rename_i hb1
          show KV.R.val _ = KV.R.val (.bool (numB a && numB b))
          rw [hb1]
          rfl
      · rename_i hb
        rw [key_not2 hb]
    | _ =>
      repeat' array_get_dec
      all_goals rfl
theorem l_are_keys_ok {n : Nat} {d : PyData} (h : okS n d = true) : F__law_are_keys [d] = some (.val (.bool (keysB d))) := by
  refine wf_get ?_
  unfold F__law_are_keys
  refine wf_run (r := [.fz d, .un]) rfl ?_
  unfold g__law_are_keys
  cases n with
  | zero => simp [okS] at h
  | succ n => cases d with
    | dict _ => simp [okS] at h
    | tuple xs =>
      obtain ⟨hl, hx⟩ := okS_tuple h
      repeat' array_get_dec
      refine wd_lcm ?_
      repeat' array_get_dec
      refine ⟨rfl, fun d => .bool (keyB d), fun e he => ?_, ?_⟩
      · simp only [wipeE, List.set_cons_zero, List.set_cons_succ]
        repeat' array_get_dec
        refine wf_eq (l_is_key_ok (hx e he)) ?_
        repeat' array_get_dec
        exact ⟨rfl, rfl⟩
      · simp only [unlck]
        repeat' array_get_dec
        refine wo_all (p := keyB) ?_
        refine ⟨_, rfl, b_cases (fun hb => ?_) (fun hb => ?_)⟩
        · repeat' array_get_dec
          show KV.R.val _ = KV.R.val (.bool (xs.all keyB && upB (xs.map numOf)))
          rw [hb]
          rfl
        · obtain ⟨ks, rfl, hk⟩ := all_keyB hb
          have e1 : keysB (.tuple (ks.map keyD)) = upB (ks.map (·.1)) := by
            show ((ks.map keyD).all keyB && upB ((ks.map keyD).map numOf)) = _
            rw [hb, map_numOf]
            rfl
          rw [e1]
          rw [List.length_map] at hl
          repeat' array_get_dec
          refine wf_eq (climbs_keys ⟨by omega, hk⟩) ?_
          have fin : wD (dLc [1] (iSeq (dVar 0)) (gN 1) tYesD (dBin (dVar 1) (dC (.int 0)) opIx)) [.fz (.tuple (ks.map keyD)), .un] fun x r1 => x = .tmp (.lst ((ks.map (·.1)).map .int)) ∧ r1 = [.fz (.tuple (ks.map keyD)), .un] := by
            refine wd_lcm ?_
            repeat' array_get_dec
            refine ⟨rfl, fstD, fun e he => ?_, ?_⟩
            · obtain ⟨p, _, rfl⟩ := List.mem_map.mp he
              simp only [wipeE, List.set_cons_zero, List.set_cons_succ]
              unfold keyD
              repeat' array_get_dec
              exact ⟨rfl, rfl⟩
            · rw [map_fstD]
              exact ⟨rfl, rfl⟩
          repeat' array_get_dec
          · refine fin.mono ?_
            rintro x r1 ⟨rfl, rfl⟩
            repeat' array_get_dec
            refine wf_eq (climbs_ints (by rw [List.length_map]; omega)) ?_
            repeat' array_get_dec
            rfl
          · rename_i hb2
            show KV.R.val _ = KV.R.val (.bool (upB (ks.map (·.1))))
            cases e2 : upB (ks.map (·.1)) with
            | false => rfl
            | true =>
              have := up_keys e2
              exact absurd (of_decide_eq_true this) hb2
    | _ =>
      repeat' array_get_dec
      all_goals rfl
theorem l_are_ints_ok {n : Nat} {d : PyData} (h : okS n d = true) : F__law_are_ints [d] = some (.val (.bool (numsB d))) := by
  refine wf_get ?_
  unfold F__law_are_ints
  refine wf_run (r := [.fz d, .un]) rfl ?_
  unfold g__law_are_ints
  cases n with
  | zero => simp [okS] at h
  | succ n => cases d with
    | dict _ => simp [okS] at h
    | tuple xs =>
      obtain ⟨hl, hx⟩ := okS_tuple h
      repeat' array_get_dec
      refine wd_lcm ?_
      repeat' array_get_dec
      refine ⟨rfl, fun d => .bool (wholeB d), fun e he => ?_, ?_⟩
      · simp only [wipeE, List.set_cons_zero, List.set_cons_succ]
        have := okS_nd (hx e he)
        cases e with
        | dict _ => cases this
        | _ =>
          repeat' array_get_dec
          all_goals exact ⟨rfl, rfl⟩
      · simp only [unlck]
        repeat' array_get_dec
        refine wo_all (p := wholeB) ?_
        refine ⟨_, rfl, b_cases (fun hb => ?_) (fun hb => ?_)⟩
        · repeat' array_get_dec
          show KV.R.val _ = KV.R.val (.bool (xs.all wholeB && upB (xs.map intD)))
          rw [hb]
          rfl
        · obtain ⟨ns, rfl⟩ := all_wholeB hb
          repeat' array_get_dec
          refine wf_eq (climbs_ints (by rw [List.length_map] at hl; omega)) ?_
          repeat' array_get_dec
          show KV.R.val _ = KV.R.val (.bool ((ns.map PyData.int).all wholeB && upB ((ns.map PyData.int).map intD)))
          rw [hb, map_intD]
          rfl
    | _ =>
      repeat' array_get_dec
      all_goals rfl
end KL

end

section
local macro_rules | `(tactic| array_get_dec) => `(tactic| first
  | ((with_reducible refine KV.gS ?_); (first
      | with_reducible refine KV.ws_seq ?_
      | with_reducible refine KV.ws_set ?_
      | with_reducible refine KV.ws_ret ?_
      | with_reducible refine KV.ws_asg ?_
      | with_reducible refine KV.ws_par' ?_
      | with_reducible refine KV.ws_parO ?_
      | with_reducible refine KV.ws_par3' ?_
      | with_reducible refine KV.ws_drop ?_
      | with_reducible refine KV.ws_setIx' ?_
      | with_reducible refine KV.ws_next ?_
      | with_reducible refine KV.ws_break ?_
      | ((with_reducible apply KV.ws_gf_fz); exact rfl)
      | ((with_reducible apply KV.ws_gf_own'); exact rfl; (simp only [List.set_cons_zero, List.set_cons_succ]; try exact rfl))
      | with_reducible refine KV.ws_if ?_))
  | ((with_reducible refine KV.gD ?_); (first
      | with_reducible refine KV.wd_c ?_
      | with_reducible refine KV.wd_bin ?_
      | with_reducible refine KV.wd_un ?_
      | with_reducible refine KV.wd_cb ?_
      | with_reducible refine KV.wd_tup' ?_
      | with_reducible refine KV.wd_lst' ?_
      | with_reducible refine KV.wd_call ?_
      | with_reducible refine KV.wd_callK ?_
      | with_reducible refine KV.wd_callT ?_
      | with_reducible refine KV.wd_v ?_
      | with_reducible refine KV.wd_slice ?_
      | with_reducible refine KV.wd_isi ?_
      | with_reducible refine KV.wd_isi2 ?_
      | ((with_reducible apply KV.wd_fz); exact rfl)
      | ((with_reducible apply KV.wd_own); exact rfl)
      | ((with_reducible apply KV.wd_lck); exact rfl)
      | ((with_reducible apply KV.wd_callB'); exact rfl)
      | ((with_reducible apply KV.wd_app'); exact rfl)
      | ((with_reducible apply KV.wd_pop); exact rfl)
      | with_reducible refine KV.wd_if ?_
      | with_reducible refine KV.wd_chP ?_))
  | ((with_reducible refine KV.gO ?_); (first
      | with_reducible refine KV.wo_add ?_
      | with_reducible refine KV.wo_sub ?_
      | with_reducible refine KV.wo_neg ?_
      | with_reducible refine KV.wo_c ?_
      | with_reducible refine KV.wo_isN ?_
      | with_reducible refine KV.wo_notN ?_
      | with_reducible refine KV.wo_eqI ?_
      | with_reducible refine KV.wo_neI ?_
      | with_reducible refine KV.wo_eqNil ?_
      | with_reducible refine KV.wo_eqB ?_
      | with_reducible refine KV.wo_neB ?_
      | with_reducible refine KV.wo_neNil ?_
      | with_reducible refine KV.wo_inT ?_
      | with_reducible refine KV.wo_inL ?_
      | with_reducible refine KV.wo_notInT ?_
      | with_reducible refine KV.wo_notInL ?_
      | with_reducible refine KV.wo_srt ?_
      | with_reducible refine KV.wo_srtR ?_
      | with_reducible refine KV.wo_rev ?_
      | with_reducible refine KV.wo_lenL ?_
      | with_reducible refine KV.wo_lenT ?_
      | with_reducible refine KV.wo_intI ?_
      | with_reducible refine KV.wo_tupL ?_
      | with_reducible refine KV.wo_tupT ?_
      | with_reducible refine KV.wo_lstL ?_
      | with_reducible refine KV.wo_lstT ?_
      | ((with_reducible apply KV.wo_ixT); exact rfl)
      | ((with_reducible apply KV.wo_ixL); exact rfl)
      | ((with_reducible refine KV.wo_isT (b := true) ?_ ?_); exact rfl)
      | ((with_reducible refine KV.wo_isT (b := false) ?_ ?_); exact rfl)
      | ((with_reducible refine KV.wo_isT2 (b := true) ?_ ?_); exact rfl)
      | ((with_reducible refine KV.wo_isT2 (b := false) ?_ ?_); exact rfl)
      | ((with_reducible apply KV.wo_mul); omega)
      | ((with_reducible apply KV.wo_mod); omega)
      | ((with_reducible apply KV.wo_div); omega)
      | ((with_reducible apply KV.wo_addL); (simp only [List.length_append, List.length_cons, List.length_nil, List.length_map]; omega))
      | ((with_reducible apply KV.wo_addT); (simp only [List.length_append, List.length_cons, List.length_nil, List.length_map]; omega))))
  | with_reducible refine KV.wput2 ?_
  | ((with_reducible apply KV.wown); exact rfl)
  | ((with_reducible apply KV.wsi); exact rfl; exact rfl; (simp only [List.set_cons_zero, List.set_cons_succ]; try exact rfl))
  | with_reducible refine KV.wparp ?_
  | with_reducible refine KV.wparp3 ?_
  | with_reducible refine KV.wst_val ?_
  | with_reducible refine KV.wst_tmp ?_
  | with_reducible refine KV.wst_slot ?_
  | with_reducible refine KV.wdr_val ?_
  | with_reducible refine KV.wdr_tmp ?_
  | with_reducible refine KV.wfz_val ?_
  | with_reducible refine KV.wfz_tmp ?_
  | with_reducible refine KV.wn_nil ?_
  | with_reducible refine KV.wn_cons ?_
  | with_reducible refine KV.wdrs_nil ?_
  | with_reducible refine KV.wdrs_cons ?_
  | with_reducible refine KV.wv_nil ?_
  | with_reducible refine KV.wv_cons ?_
  | with_reducible refine KV.wp_none ?_
  | with_reducible refine KV.wp_some ?_
  | with_reducible refine KV.wt_b ?_
  | with_reducible refine KV.wt_not ?_
  | with_reducible refine KV.wt_yes ?_
  | with_reducible refine KV.wgs_nil ?_
  | with_reducible refine KV.wgs_cons ?_
  | with_reducible refine KV.wg_tup ?_
  | with_reducible refine KV.wi_seq ?_
  | with_reducible refine KV.wsq_list ?_
  | with_reducible refine KV.wsq_tup ?_
  | ((with_reducible apply KV.wsq_own); exact rfl; (simp only [List.set_cons_zero, List.set_cons_succ]; try exact rfl))
  | ((with_reducible apply KV.wsq_lck); exact rfl)
  | with_reducible refine KV.wr_val ?_
  | with_reducible refine KV.wr_tmp ?_
  | ((with_reducible apply KV.wdr_fz); exact rfl)
  | ((with_reducible apply KV.wdr_own); exact rfl)
  | ((with_reducible apply KV.wdr_lck); exact rfl)
  | ((with_reducible apply KV.wfz_fz); exact rfl)
  | ((with_reducible apply KV.wfz_own); exact rfl; (simp only [List.set_cons_zero, List.set_cons_succ]; try exact rfl))
  | ((with_reducible apply KV.wput_v); exact rfl; (first | exact rfl | assumption); (simp only [List.set_cons_zero, List.set_cons_succ]; try exact rfl))
  | ((with_reducible apply KV.wput_t); exact rfl; (first | exact rfl | assumption); (simp only [List.set_cons_zero, List.set_cons_succ]; try exact rfl))
  | ((with_reducible apply KV.wg_nm); exact rfl; (first | exact rfl | assumption); (simp only [List.set_cons_zero, List.set_cons_succ]; try exact rfl))
  | ((with_reducible apply KV.wcb); exact rfl)
  | ((with_reducible apply KV.wapp); exact rfl; (simp only [List.set_cons_zero, List.set_cons_succ]; try exact rfl))
  | ((with_reducible apply KV.wr_own); exact rfl)
  | ((with_reducible apply KV.wr_fz); exact rfl)
  | with_reducible refine KV.wt_and ?_
  | with_reducible refine KV.wt_or ?_
  | with_reducible refine KV.wsame ?_
  | with_reducible refine KV.wi_r1' ?_
  | with_reducible refine KV.wi_r2' ?_
  | ((with_reducible apply KV.wrg); omega; omega)
  | ((with_reducible apply KV.wrg2); omega; omega; omega; omega; omega)
  | with_reducible refine KV.and_t ?_
  | with_reducible refine KV.and_f ?_
  | with_reducible refine KV.and_nt ?_
  | with_reducible refine KV.and_nf ?_
  | with_reducible refine KV.and_dec ?_
  | with_reducible refine KV.and_ndec ?_
  | with_reducible refine And.intro (fun hb => ?_) (fun hb => ?_)
  | ((with_reducible refine And.intro ?_ (Nat.le_of_ble_eq_true rfl)))
  | with_reducible refine Exists.intro _ (And.intro rfl ?_)
  | fail "no step")
namespace KL
open PySem PySem.Spec PyProof.Rows L2 KV
theorem l_is_told_ok {n : Nat} {d : PyData} (h : okS n d = true) : F__law_is_told [d] = some (.val (.bool (versB d))) := by
  refine wf_get ?_
  unfold F__law_is_told
  refine wf_run (r := [.fz d, .un, .un, .un]) rfl ?_
  unfold g__law_is_told
  cases n with
  | zero => simp [okS] at h
  | succ n => cases d with
    | dict _ => simp [okS] at h
    | tuple xs =>
      obtain ⟨hl, hx⟩ := okS_tuple h
      repeat' array_get_dec
      · rename_i hb
        obtain ⟨k, hs, t, m, g, rfl⟩ := len5 hb
        have xk := hx k (by simp)
        have xh := hx hs (by simp)
        have xt := hx t (by simp)
        have xm := hx m (by simp)
        have xg := hx g (by simp)
        repeat' array_get_dec
        refine wf_eq (l_are_keys_ok xk) ?_
        repeat' array_get_dec
        · rename_i hb
          show KV.R.val _ = KV.R.val (.bool (keysB k && (numsB hs && (numsB m && (numsB g && (goneB k g && (KV.isNon t || keysB t)))))))
          rw [nt_f hb]
          rfl
        rename_i hk
        have hk := nf_t hk
        refine wf_eq (l_are_ints_ok xh) ?_
        repeat' array_get_dec
        · rename_i hb
          show KV.R.val _ = KV.R.val (.bool (keysB k && (numsB hs && (numsB m && (numsB g && (goneB k g && (KV.isNon t || keysB t)))))))
          rw [hk, nt_f hb]
          rfl
        rename_i hh
        have hh := nf_t hh
        refine wf_eq (l_are_ints_ok xm) ?_
        repeat' array_get_dec
        · rename_i hb
          show KV.R.val _ = KV.R.val (.bool (keysB k && (numsB hs && (numsB m && (numsB g && (goneB k g && (KV.isNon t || keysB t)))))))
          rw [hk, hh, nt_f hb]
          rfl
        rename_i hm
        have hm := nf_t hm
        refine wf_eq (l_are_ints_ok xg) ?_
        repeat' array_get_dec
        · rename_i hb
          show KV.R.val _ = KV.R.val (.bool (keysB k && (numsB hs && (numsB m && (numsB g && (goneB k g && (KV.isNon t || keysB t)))))))
          rw [hk, hh, hm, nt_f hb]
          rfl
        · rename_i hg
          have hg := nf_t hg
          obtain ⟨ks, rfl, _, _⟩ := keysB_ex hk
          obtain ⟨gs, rfl, _⟩ := numsB_ex hg
          refine wd_lcm ?_
          repeat' array_get_dec
          refine ⟨rfl, fstD, fun e he => ?_, ?_⟩
          · obtain ⟨p, _, rfl⟩ := List.mem_map.mp he
            simp only [wipeE, List.set_cons_zero, List.set_cons_succ]
            unfold keyD
            repeat' array_get_dec
            exact ⟨rfl, rfl⟩
          · rw [map_fstD]
            simp only [unlck]
            repeat' array_get_dec
            refine wd_lcm ?_
            repeat' array_get_dec
            refine ⟨rfl, fun d => .bool (decide (intD d ∈ ks.map (·.1))), fun e he => ?_, ?_⟩
            · obtain ⟨p, _, rfl⟩ := List.mem_map.mp he
              simp only [wipeE, List.set_cons_zero, List.set_cons_succ]
              repeat' array_get_dec
              exact ⟨rfl, rfl⟩
            · simp only [unlck]
              repeat' array_get_dec
              refine wo_all (p := fun d => decide (intD d ∈ ks.map (·.1))) ?_
              have e1 : versB (.tuple [.tuple (ks.map keyD), hs, t, m, .tuple (gs.map .int)]) = ((gs.map PyData.int).all (fun d => decide (intD d ∈ ks.map (·.1))) && (KV.isNon t || keysB t)) := by
                show (keysB _ && (numsB hs && (numsB m && (numsB _ && (goneB _ _ && (KV.isNon t || keysB t)))))) = _
                rw [hk, hh, hm, hg]
                unfold goneB itemsD
                rw [map_numOf]
                rfl
              rw [e1]
              repeat' array_get_dec
              · rename_i hb1
                rw [hb1]
                rename_i hb2
                rw [hb2]
                rfl
              · rename_i hb1
                rw [hb1]
                refine wf_eq (l_are_keys_ok xt) ?_
                repeat' array_get_dec
                rename_i hb2
                rw [hb2]
                rfl
              · rename_i hb1
                rw [hb1]
                rfl
      · rename_i hb
        rw [vers_not5 hb]
    | _ =>
      repeat' array_get_dec
      all_goals rfl
theorem l_is_row_ok {n : Nat} {d : PyData} (h : okS n d = true) : F__law_is_row [d] = some (.val (.bool (lineB d))) := by
  refine wf_get ?_
  unfold F__law_is_row
  refine wf_run (r := [.fz d, .un, .un]) rfl ?_
  unfold g__law_is_row
  cases n with
  | zero => simp [okS] at h
  | succ n => cases d with
    | dict _ => simp [okS] at h
    | tuple xs =>
      obtain ⟨hl, hx⟩ := okS_tuple h
      repeat' array_get_dec
      · rename_i hb
        cases xs with
        | nil => rfl
        | cons _ _ => simp at hb; omega
      rename_i hne
      have hne : xs.isEmpty = false := by
        cases xs with
        | nil => exact absurd rfl hne
        | cons _ _ => rfl
      refine ws_forI ?_
      repeat' array_get_dec
      refine ⟨rfl, fun i r1 => ∃ s1, r1 = [.fz (.tuple xs), s1, .un] ∧ nlk s1 = true ∧ (∀ d, noOb [1] [Sl.fz d, s1, .un] = true) ∧ (xs.take i).all entB = true, ⟨.un, rfl, rfl, fun _ => rfl, rfl⟩, ?_, ?_⟩
      · rintro i e _ he ⟨s1, rfl, n1, nb, hall⟩
        have hm : e ∈ xs := List.mem_of_getElem? he
        have xe := hx e hm
        refine wg_nm rfl n1 (by simp only [List.set_cons_zero, List.set_cons_succ]; exact rfl) ?_
        cases n with
        | zero => simp [okS] at xe
        | succ n => cases e with
          | dict _ => simp [okS] at xe
          | tuple ys =>
            obtain ⟨yl, hy⟩ := okS_tuple xe
            repeat' array_get_dec
            · rename_i hb
              obtain ⟨a, v, rfl⟩ := len2 hb
              have xa := hy a (by simp)
              have xv := hy v (by simp)
              repeat' array_get_dec
              refine wf_eq (l_is_int_ok (okS_nd xa)) ?_
              repeat' array_get_dec
              · rename_i hb1
                rw [line_bad hm (by show (numB a && versB v) = false; rw [nt_f hb1]; rfl)]
              rename_i hb1
              have hb1 := nf_t hb1
              refine wf_eq (l_is_told_ok xv) ?_
              repeat' array_get_dec
              · rename_i hb2
                rw [line_bad hm (by show (numB a && versB v) = false; rw [hb1, nt_f hb2]; rfl)]
              rename_i hb2
              have hb2 := nf_t hb2
              exact ⟨rfl, fun _ => rfl, take_all hall he (by show (numB a && versB v) = true; rw [hb1, hb2]; rfl)⟩
            · rename_i hb
              rw [line_bad hm (ent_not2 hb)]
          | _ =>
            repeat' array_get_dec
            rw [line_bad hm rfl]
      · rintro _ ⟨s1, rfl, n1, nb, hall⟩
        rw [List.take_length] at hall
        obtain ⟨ts, rfl, hts⟩ := all_entB hall
        repeat' array_get_dec
        refine wd_lcm ?_
        repeat' array_get_dec
        refine ⟨nb _, fstD, fun e he => ?_, ?_⟩
        · obtain ⟨p, _, rfl⟩ := List.mem_map.mp he
          simp only [wipeE, List.set_cons_zero, List.set_cons_succ]
          unfold entD
          repeat' array_get_dec
          exact ⟨rfl, rfl⟩
        · rw [map_fstE]
          simp only [unlck]
          repeat' array_get_dec
          cases ts with
          | nil => cases hne
          | cons p ts =>
            have e1 : lineB (.tuple ((p :: ts).map entD)) = (decide (p.1 = 0) && upB ((p :: ts).map (·.1))) := by
              show (true && (((p :: ts).map entD).all entB && (decide ((((p :: ts).map entD).map timeD).headD 0 = 0) && upB (((p :: ts).map entD).map timeD)))) = _
              rw [hall, map_timeD]
              rfl
            rw [e1]
            refine wo_ixL (d := .int p.1) (by rw [List.map_cons, List.map_cons]; exact at_zero) ?_
            repeat' array_get_dec
            · rename_i hb
              refine wf_eq (climbs_ints (by rw [List.length_map] at hl ⊢; omega)) ?_
              repeat' array_get_dec
              rw [decide_eq_true hb]
              rfl
            · rename_i hb
              rw [decide_eq_false hb]
              rfl
    | _ =>
      repeat' array_get_dec
      all_goals rfl
theorem l_is_site_ok {n : Nat} {d : PyData} (h : okS n d = true) : F__law_is_site [d] = some (.val (.bool (siteB d))) := by
  refine wf_get ?_
  unfold F__law_is_site
  refine wf_run (r := [.fz d, .un]) rfl ?_
  unfold g__law_is_site
  cases n with
  | zero => simp [okS] at h
  | succ n => cases d with
    | dict _ => simp [okS] at h
    | tuple xs =>
      obtain ⟨hl, hx⟩ := okS_tuple h
      repeat' array_get_dec
      · rename_i hb
        obtain ⟨l, s, t, g, k, r, rfl⟩ := len6 hb
        repeat' array_get_dec
        refine wf_eq (l_is_row_ok (hx l (by simp))) ?_
        repeat' array_get_dec
        · rename_i hb
          show KV.R.val _ = KV.R.val (.bool (lineB l && _))
          rw [nt_f hb]
          rfl
        rename_i hb1
        have hb1 := nf_t hb1
        refine wd_lcm ?_
        repeat' array_get_dec
        refine wo_eq (z := .val (.tuple [s, t, g, k, r])) rfl ?_
        repeat' array_get_dec
        refine ⟨rfl, fun d => .bool (numB d), fun e he => ?_, ?_⟩
        · simp only [wipeE, List.set_cons_zero, List.set_cons_succ]
          repeat' array_get_dec
          refine wf_eq (l_is_int_ok (okS_nd (hx e (List.mem_cons_of_mem _ he)))) ?_
          repeat' array_get_dec
          exact ⟨rfl, rfl⟩
        · simp only [unlck]
          repeat' array_get_dec
          refine wo_all (p := numB) ?_
          repeat' array_get_dec
          · rename_i hb2
            have hb2 := nt_f hb2
            show KV.R.val _ = KV.R.val (.bool (lineB l && (numB s && (numB t && (numB g && (numB k && (numB r && _)))))))
            rw [hb1]
            simp only [List.all_cons, List.all_nil] at hb2
            revert hb2
            cases numB s <;> cases numB t <;> cases numB g <;> cases numB k <;> cases numB r <;> intro hb2 <;> first | rfl | cases hb2
          · rename_i hb2
            have hb2 := nf_t hb2
            simp only [List.all_cons, List.all_nil, Bool.and_eq_true] at hb2
            obtain ⟨h1, h2, h3, h4, h5, _⟩ := hb2
            have e1 : siteB (.tuple [l, s, t, g, k, r]) = (decide (1 ≤ intD t ∧ intD t ≤ intD s) && (decide (1 ≤ intD k) && decide (1 ≤ intD r))) := by
              show (lineB l && (numB s && (numB t && (numB g && (numB k && (numB r && _)))))) = _
              rw [hb1, h1, h2, h3, h4, h5]
              rfl
            rw [e1]
            obtain ⟨s, rfl, _⟩ := numB_ex h1
            obtain ⟨t, rfl, _⟩ := numB_ex h2
            obtain ⟨g, rfl, _⟩ := numB_ex h3
            obtain ⟨k, rfl, _⟩ := numB_ex h4
            obtain ⟨r, rfl, _⟩ := numB_ex h5
            repeat' array_get_dec
            all_goals (refine congrArg (fun b => KV.R.val (.bool b)) ?_; rename_i hb; show _ = (decide (1 ≤ t ∧ t ≤ s) && (decide (1 ≤ k) && decide (1 ≤ r))))
            all_goals (rw [Bool.eq_iff_iff]; simp only [Bool.and_eq_true, decide_eq_true_eq, Bool.and_eq_false_iff, decide_eq_false_iff_not, Bool.false_eq_true, false_iff] at *; omega)
      · rename_i hb
        rw [site_not6 hb]
    | _ =>
      repeat' array_get_dec
      all_goals rfl
end KL

end

section
local macro_rules | `(tactic| array_get_dec) => `(tactic| first
  | ((with_reducible refine KV.gS ?_); (first
      | with_reducible refine KV.ws_seq ?_
      | with_reducible refine KV.ws_set ?_
      | with_reducible refine KV.ws_ret ?_
      | with_reducible refine KV.ws_asg ?_
      | with_reducible refine KV.ws_par' ?_
      | with_reducible refine KV.ws_parO ?_
      | with_reducible refine KV.ws_par3' ?_
      | with_reducible refine KV.ws_drop ?_
      | with_reducible refine KV.ws_setIx' ?_
      | with_reducible refine KV.ws_next ?_
      | with_reducible refine KV.ws_break ?_
      | ((with_reducible apply KV.ws_gf_fz); exact rfl)
      | ((with_reducible apply KV.ws_gf_own'); exact rfl; (simp only [List.set_cons_zero, List.set_cons_succ]; try exact rfl))
      | with_reducible refine KV.ws_if ?_))
  | ((with_reducible refine KV.gD ?_); (first
      | with_reducible refine KV.wd_c ?_
      | with_reducible refine KV.wd_bin ?_
      | with_reducible refine KV.wd_un ?_
      | with_reducible refine KV.wd_cb ?_
      | with_reducible refine KV.wd_tup' ?_
      | with_reducible refine KV.wd_lst' ?_
      | with_reducible refine KV.wd_call ?_
      | with_reducible refine KV.wd_callK ?_
      | with_reducible refine KV.wd_callT ?_
      | with_reducible refine KV.wd_v ?_
      | with_reducible refine KV.wd_slice ?_
      | with_reducible refine KV.wd_isi ?_
      | with_reducible refine KV.wd_isi2 ?_
      | ((with_reducible apply KV.wd_fz); exact rfl)
      | ((with_reducible apply KV.wd_own); exact rfl)
      | ((with_reducible apply KV.wd_lck); exact rfl)
      | ((with_reducible apply KV.wd_callB'); exact rfl)
      | ((with_reducible apply KV.wd_app'); exact rfl)
      | ((with_reducible apply KV.wd_pop); exact rfl)
      | with_reducible refine KV.wd_if ?_
      | with_reducible refine KV.wd_chP ?_))
  | ((with_reducible refine KV.gO ?_); (first
      | with_reducible refine KV.wo_add ?_
      | with_reducible refine KV.wo_sub ?_
      | with_reducible refine KV.wo_neg ?_
      | with_reducible refine KV.wo_c ?_
      | with_reducible refine KV.wo_isN ?_
      | with_reducible refine KV.wo_notN ?_
      | with_reducible refine KV.wo_eqI ?_
      | with_reducible refine KV.wo_neI ?_
      | with_reducible refine KV.wo_eqNil ?_
      | with_reducible refine KV.wo_eqB ?_
      | with_reducible refine KV.wo_neB ?_
      | with_reducible refine KV.wo_neNil ?_
      | with_reducible refine KV.wo_inT ?_
      | with_reducible refine KV.wo_inL ?_
      | with_reducible refine KV.wo_notInT ?_
      | with_reducible refine KV.wo_notInL ?_
      | with_reducible refine KV.wo_srt ?_
      | with_reducible refine KV.wo_srtR ?_
      | with_reducible refine KV.wo_rev ?_
      | with_reducible refine KV.wo_lenL ?_
      | with_reducible refine KV.wo_lenT ?_
      | with_reducible refine KV.wo_intI ?_
      | with_reducible refine KV.wo_tupL ?_
      | with_reducible refine KV.wo_tupT ?_
      | with_reducible refine KV.wo_lstL ?_
      | with_reducible refine KV.wo_lstT ?_
      | ((with_reducible apply KV.wo_ixT); exact rfl)
      | ((with_reducible apply KV.wo_ixL); exact rfl)
      | ((with_reducible refine KV.wo_isT (b := true) ?_ ?_); exact rfl)
      | ((with_reducible refine KV.wo_isT (b := false) ?_ ?_); exact rfl)
      | ((with_reducible refine KV.wo_isT2 (b := true) ?_ ?_); exact rfl)
      | ((with_reducible refine KV.wo_isT2 (b := false) ?_ ?_); exact rfl)
      | ((with_reducible apply KV.wo_mul); omega)
      | ((with_reducible apply KV.wo_mod); omega)
      | ((with_reducible apply KV.wo_div); omega)
      | ((with_reducible apply KV.wo_addL); (simp only [List.length_append, List.length_cons, List.length_nil, List.length_map]; omega))
      | ((with_reducible apply KV.wo_addT); (simp only [List.length_append, List.length_cons, List.length_nil, List.length_map]; omega))))
  | with_reducible refine KV.wput2 ?_
  | ((with_reducible apply KV.wown); exact rfl)
  | ((with_reducible apply KV.wsi); exact rfl; exact rfl; (simp only [List.set_cons_zero, List.set_cons_succ]; try exact rfl))
  | with_reducible refine KV.wparp ?_
  | with_reducible refine KV.wparp3 ?_
  | with_reducible refine KV.wst_val ?_
  | with_reducible refine KV.wst_tmp ?_
  | with_reducible refine KV.wst_slot ?_
  | with_reducible refine KV.wdr_val ?_
  | with_reducible refine KV.wdr_tmp ?_
  | with_reducible refine KV.wfz_val ?_
  | with_reducible refine KV.wfz_tmp ?_
  | with_reducible refine KV.wn_nil ?_
  | with_reducible refine KV.wn_cons ?_
  | with_reducible refine KV.wdrs_nil ?_
  | with_reducible refine KV.wdrs_cons ?_
  | with_reducible refine KV.wv_nil ?_
  | with_reducible refine KV.wv_cons ?_
  | with_reducible refine KV.wp_none ?_
  | with_reducible refine KV.wp_some ?_
  | with_reducible refine KV.wt_b ?_
  | with_reducible refine KV.wt_not ?_
  | with_reducible refine KV.wt_yes ?_
  | with_reducible refine KV.wgs_nil ?_
  | with_reducible refine KV.wgs_cons ?_
  | with_reducible refine KV.wg_tup ?_
  | with_reducible refine KV.wi_seq ?_
  | with_reducible refine KV.wsq_list ?_
  | with_reducible refine KV.wsq_tup ?_
  | ((with_reducible apply KV.wsq_own); exact rfl; (simp only [List.set_cons_zero, List.set_cons_succ]; try exact rfl))
  | ((with_reducible apply KV.wsq_lck); exact rfl)
  | with_reducible refine KV.wr_val ?_
  | with_reducible refine KV.wr_tmp ?_
  | ((with_reducible apply KV.wdr_fz); exact rfl)
  | ((with_reducible apply KV.wdr_own); exact rfl)
  | ((with_reducible apply KV.wdr_lck); exact rfl)
  | ((with_reducible apply KV.wfz_fz); exact rfl)
  | ((with_reducible apply KV.wfz_own); exact rfl; (simp only [List.set_cons_zero, List.set_cons_succ]; try exact rfl))
  | ((with_reducible apply KV.wput_v); exact rfl; (first | exact rfl | assumption); (simp only [List.set_cons_zero, List.set_cons_succ]; try exact rfl))
  | ((with_reducible apply KV.wput_t); exact rfl; (first | exact rfl | assumption); (simp only [List.set_cons_zero, List.set_cons_succ]; try exact rfl))
  | ((with_reducible apply KV.wg_nm); exact rfl; (first | exact rfl | assumption); (simp only [List.set_cons_zero, List.set_cons_succ]; try exact rfl))
  | ((with_reducible apply KV.wcb); exact rfl)
  | ((with_reducible apply KV.wapp); exact rfl; (simp only [List.set_cons_zero, List.set_cons_succ]; try exact rfl))
  | ((with_reducible apply KV.wr_own); exact rfl)
  | ((with_reducible apply KV.wr_fz); exact rfl)
  | with_reducible refine KV.wt_and ?_
  | with_reducible refine KV.wt_or ?_
  | with_reducible refine KV.wsame ?_
  | with_reducible refine KV.wi_r1' ?_
  | with_reducible refine KV.wi_r2' ?_
  | ((with_reducible apply KV.wrg); omega; omega)
  | ((with_reducible apply KV.wrg2); omega; omega; omega; omega; omega)
  | with_reducible refine KV.and_t ?_
  | with_reducible refine KV.and_f ?_
  | with_reducible refine KV.and_nt ?_
  | with_reducible refine KV.and_nf ?_
  | with_reducible refine KV.and_dec ?_
  | with_reducible refine KV.and_ndec ?_
  | with_reducible refine And.intro (fun hb => ?_) (fun hb => ?_)
  | ((with_reducible refine And.intro ?_ (Nat.le_of_ble_eq_true rfl)))
  | with_reducible refine Exists.intro _ (And.intro rfl ?_)
  | fail "no step")
namespace KL
open PySem PySem.Spec PyProof.Rows L2 KV
theorem unlck_none (r : Nms) : unlck none r = r := rfl
theorem and_T {A B : Prop} (h : A) : (True → A) ∧ (true = false → B) := ⟨fun _ => h, fun e => nomatch e⟩
end KL
local macro_rules | `(tactic| array_get_dec) => `(tactic| first
  | with_reducible refine KL.and_T ?_
  | fail "no step")
namespace KL
open PySem PySem.Spec PyProof.Rows L2 KV
theorem at_last {ys : List PyData} {z : PyData} : L2.atI (ys ++ [z]) (-1) = some z := by
  unfold L2.atI ixN
  simp only [List.length_append, List.length_cons, List.length_nil]
  rw [if_neg (by omega), if_pos (by omega)]
  show (ys ++ [z])[_]? = _
  rw [show ((-1 : Int) + ((ys.length + (0 + 1) : Nat) : Int)).toNat = ys.length by omega]
  simp
theorem cut_last {ys : List PyData} {z : PyData} : KV.cutD (ys ++ [z]) none (some (-1)) = ys := by
  unfold KV.cutD
  have e : HT.sIx (ys ++ [z]).length (ys ++ [z]).length (some (-1)) = ys.length := by
    unfold HT.sIx
    simp
    omega
  have e2 : HT.sIx (ys ++ [z]).length 0 none = 0 := rfl
  rw [e, e2, List.drop_zero, Nat.sub_zero, List.take_left]
theorem fitsB_last : ∀ (ys : List PyData) (z : PyData), fitsB (ys ++ [z]) = (ys.all (fitB false) && fitB true z)
  | [], z => rfl
  | [y], z => by show (fitB false y && fitB true z) = ((fitB false y && true) && fitB true z); simp
  | y :: x :: r, z => by
    have ih := fitsB_last (x :: r) z
    show (fitB false y && fitsB (x :: r ++ [z])) = ((fitB false y && (x :: r).all (fitB false)) && fitB true z)
    rw [ih, Bool.and_assoc]
theorem bare_all (last : Bool) (ts : List (Int × PyData)) : (ts.map entD).map (fun e => PyData.bool (KV.isNon (trustD e) == last)) = ((ts.map entD).map fun e => KV.isNon (trustD e) == last).map .bool := by
  rw [List.map_map, List.map_map, List.map_map]
  rfl
theorem site_len {n : Nat} {xs r : List PyData} (h : okS n (.tuple (.tuple xs :: r)) = true) : xs.length ≤ 60 := by
  cases n with
  | zero => simp [okS] at h
  | succ n =>
    have := (okS_tuple h).2 (.tuple xs) (by simp)
    cases n with
    | zero => simp [okS] at this
    | succ n => exact (okS_tuple this).1
theorem l_is_globe_ok {n : Nat} {d : PyData} (h : okS n d = true) : F__law_is_globe [d] = some (.val (.bool (worldB d))) := by
  refine wf_get ?_
  unfold F__law_is_globe
  refine wf_run (r := [.fz d, .un, .un, .un, .un]) rfl ?_
  unfold g__law_is_globe
  cases n with
  | zero => simp [okS] at h
  | succ n => cases d with
    | dict _ => simp [okS] at h
    | tuple xs =>
      obtain ⟨hl, hx⟩ := okS_tuple h
      repeat' array_get_dec
      · rename_i hb
        obtain ⟨a, b, c, rfl⟩ := len3 hb
        have xa := hx a (by simp)
        have xb := hx b (by simp)
        have xc := hx c (by simp)
        by_cases ha : ∃ zs, a = .tuple zs
        · obtain ⟨zs, rfl⟩ := ha
          have ew : worldB (.tuple [.tuple zs, b, c]) = (!zs.isEmpty && (zs.all siteB && (keysB b && (!emptyT b && (ruleB c && fitsB zs))))) := rfl
          rw [ew]
          cases n with
          | zero => simp [okS] at xa
          | succ n =>
            obtain ⟨zl, hz⟩ := okS_tuple xa
            repeat' array_get_dec
            refine wo_eqNilT ?_
            repeat' array_get_dec
            · rename_i hb1
              rw [hb1]
              rfl
            rename_i hne
            rw [hne]
            refine wd_lcm ?_
            repeat' array_get_dec
            refine ⟨rfl, fun d => .bool (siteB d), fun e he => ?_, ?_⟩
            · simp only [wipeE, List.set_cons_zero, List.set_cons_succ]
              repeat' array_get_dec
              refine wf_eq (l_is_site_ok (hz e he)) ?_
              repeat' array_get_dec
              exact ⟨rfl, rfl⟩
            · simp only [unlck]
              repeat' array_get_dec
              refine wo_all (p := siteB) ?_
              repeat' array_get_dec
              · rename_i hb1
                rw [nt_f hb1]
                rfl
              rename_i hsa
              have hsa := nf_t hsa
              rw [hsa]
              refine wf_eq (l_are_keys_ok xb) ?_
              repeat' array_get_dec
              · rename_i hb1
                rw [nt_f hb1]
                rfl
              rename_i hkb
              have hkb := nf_t hkb
              rw [hkb]
              obtain ⟨ks, rfl, _, _⟩ := keysB_ex hkb
              repeat' array_get_dec
              refine wo_eqNilT ?_
              repeat' array_get_dec
              · rename_i hb1
                rw [show emptyT (.tuple (ks.map keyD)) = true from hb1]
                rfl
              rename_i hke
              rw [show emptyT (.tuple (ks.map keyD)) = false from hke]
              cases c with
              | str s =>
                repeat' array_get_dec
                refine rule_in ?_
                repeat' array_get_dec
                · rename_i hb1
                  rw [nt_f hb1]
                  rfl
                rename_i hru
                rw [nf_t hru]
                rcases List.eq_nil_or_concat zs with rfl | ⟨ys, z, rfl⟩
                · cases hne
                rw [List.concat_eq_append] at *
                rw [fitsB_last]
                have hy : ∀ y ∈ ys, siteB y = true := fun y hy => List.all_eq_true.mp hsa y (by simp [hy])
                have hzz : siteB z = true := List.all_eq_true.mp hsa z (by simp)
                refine wo_ixT (d := z) at_last ?_
                repeat' array_get_dec
                obtain ⟨ts, r, rfl, _, hts⟩ := site_ex hzz
                refine wd_lcm ?_
                repeat' array_get_dec
                refine wo_ixT (d := .tuple (ts.map entD)) at_zero ?_
                repeat' array_get_dec
                refine ⟨rfl, fun e => .bool (KV.isNon (trustD e) == true), fun e he => ?_, ?_⟩
                · obtain ⟨p, hp, rfl⟩ := List.mem_map.mp he
                  obtain ⟨k, hs, t, m, g, ev⟩ := vers_ex (hts p hp).2
                  obtain ⟨a, v⟩ := p
                  dsimp only at ev
                  subst ev
                  simp only [wipeE, List.set_cons_zero, List.set_cons_succ]
                  unfold entD
                  repeat' array_get_dec
                  refine ⟨?_, rfl⟩
                  show PyData.bool (KV.isNon t) = PyData.bool (KV.isNon t == true)
                  cases KV.isNon t <;> rfl
                · rw [bare_all]
                  simp only [unlck]
                  repeat' array_get_dec
                  refine ws_forI ?_
                  repeat' array_get_dec
                  refine wo_eq (z := .val (.tuple ys)) (by show some (KV.R.val (.tuple (KV.cutD _ none (some (-1))))) = _; rw [cut_last]) ?_
                  repeat' array_get_dec
                  have tl : ts.length ≤ 60 := by
                    have := site_len (xs := ts.map entD) (r := r) (hz _ (by simp))
                    rw [List.length_map] at this
                    exact this
                  refine ⟨rfl, fun i r1 => ∃ (s3 : Sl) (bs : List Bool), r1 = [.fz (.tuple [.tuple (ys ++ [.tuple (.tuple (ts.map entD) :: r)]), .tuple (ks.map keyD), .str s]), .fz (.tuple (.tuple (ts.map entD) :: r)), .own (.lst (bs.map .bool)), s3, .un] ∧ nlk s3 = true ∧ bs.length ≤ 60 * (i + 1) ∧ bs.all id = ((ys.take i).all (fitB false) && fitB true (.tuple (.tuple (ts.map entD) :: r))), ?_, ?_, ?_⟩
                  · refine ⟨.un, _, rfl, rfl, ?_, ?_⟩
                    · rw [List.length_map, List.length_map]; omega
                    · rw [List.all_map, fits_eq]
                      rfl
                  · rintro i y _ ey ⟨s3, bs, rfl, n3, bl, ball⟩
                    have my : y ∈ ys := List.mem_of_getElem? ey
                    have iy : i < ys.length := (List.getElem?_eq_some_iff.mp ey).1
                    refine wg_nm rfl n3 (by simp only [List.set_cons_zero, List.set_cons_succ]; exact rfl) ?_
                    obtain ⟨ts', r', rfl, _, hts'⟩ := site_ex (hy _ my)
                    have tl' : ts'.length ≤ 60 := by
                      have := site_len (xs := ts'.map entD) (r := r') (hz _ (by simp [my]))
                      rw [List.length_map] at this
                      exact this
                    repeat' array_get_dec
                    refine wd_lcm ?_
                    repeat' array_get_dec
                    refine wo_ixT (d := .tuple (ts'.map entD)) at_zero ?_
                    repeat' array_get_dec
                    refine ⟨rfl, fun e => .bool (KV.isNon (trustD e) == false), fun e he => ?_, ?_⟩
                    · obtain ⟨p, hp, rfl⟩ := List.mem_map.mp he
                      obtain ⟨k, hs, t, m, g, ev⟩ := vers_ex (hts' p hp).2
                      obtain ⟨a, v⟩ := p
                      dsimp only at ev
                      subst ev
                      simp only [wipeE, List.set_cons_zero, List.set_cons_succ]
                      unfold entD
                      repeat' array_get_dec
                      refine ⟨?_, rfl⟩
                      show PyData.bool (!KV.isNon t) = PyData.bool (KV.isNon t == false)
                      cases KV.isNon t <;> rfl
                    · rw [bare_all]
                      simp only [unlck]
                      repeat' array_get_dec
                      refine wo_addL (by rw [List.length_map, List.length_map, List.length_map, List.length_map]; simp at zl; omega) ?_
                      repeat' array_get_dec
                      refine ⟨_, bs ++ _, by rw [List.map_append], rfl, ?_, ?_⟩
                      · rw [List.length_append, List.length_map, List.length_map]; omega
                      · rw [List.all_append, ball, List.take_succ, ey, List.all_append, List.all_map]
                        rw [show (Option.toList (some (PyData.tuple (.tuple (ts'.map entD) :: r')))).all (fitB false) = fitB false (.tuple (.tuple (ts'.map entD) :: r')) by simp]
                        rw [show (ts'.map entD).all (id ∘ fun e => KV.isNon (trustD e) == false) = fitB false (.tuple (.tuple (ts'.map entD) :: r')) from rfl]
                        generalize (ys.take i).all (fitB false) = x1
                        generalize fitB true (.tuple (.tuple (ts.map entD) :: r)) = x2
                        generalize fitB false (.tuple (.tuple (ts'.map entD) :: r')) = x3
                        cases x1 <;> cases x2 <;> cases x3 <;> rfl
                  · rintro _ ⟨s3, bs, rfl, n3, bl, ball⟩
                    rw [List.take_length] at ball
                    repeat' array_get_dec
                    refine wo_all (p := id) (zs := bs) ?_
                    repeat' array_get_dec
                    rw [ball]
                    rfl
              | dict _ => have := okS_nd xc; cases this
              | _ =>
                repeat' array_get_dec
                rfl
        · rw [world_notT fun zs e => ha ⟨zs, e⟩]
          cases a with
          | tuple zs => exact absurd ⟨zs, rfl⟩ ha
          | dict _ => have := okS_nd xa; cases this
          | _ =>
            repeat' array_get_dec
            rfl
      · rename_i hb
        rw [world_not3 hb]
    | _ =>
      repeat' array_get_dec
      all_goals rfl
end KL

end

section
local macro_rules | `(tactic| array_get_dec) => `(tactic| first
  | ((with_reducible refine KV.gS ?_); (first
      | with_reducible refine KV.ws_seq ?_
      | with_reducible refine KV.ws_set ?_
      | with_reducible refine KV.ws_ret ?_
      | with_reducible refine KV.ws_asg ?_
      | with_reducible refine KV.ws_par' ?_
      | with_reducible refine KV.ws_parO ?_
      | with_reducible refine KV.ws_par3' ?_
      | with_reducible refine KV.ws_drop ?_
      | with_reducible refine KV.ws_setIx' ?_
      | with_reducible refine KV.ws_next ?_
      | with_reducible refine KV.ws_break ?_
      | ((with_reducible apply KV.ws_gf_fz); exact rfl)
      | ((with_reducible apply KV.ws_gf_own'); exact rfl; (simp only [List.set_cons_zero, List.set_cons_succ]; try exact rfl))
      | with_reducible refine KV.ws_if ?_))
  | ((with_reducible refine KV.gD ?_); (first
      | with_reducible refine KV.wd_c ?_
      | with_reducible refine KV.wd_bin ?_
      | with_reducible refine KV.wd_un ?_
      | with_reducible refine KV.wd_cb ?_
      | with_reducible refine KV.wd_tup' ?_
      | with_reducible refine KV.wd_lst' ?_
      | with_reducible refine KV.wd_call ?_
      | with_reducible refine KV.wd_callK ?_
      | with_reducible refine KV.wd_callT ?_
      | with_reducible refine KV.wd_v ?_
      | with_reducible refine KV.wd_slice ?_
      | with_reducible refine KV.wd_isi ?_
      | with_reducible refine KV.wd_isi2 ?_
      | ((with_reducible apply KV.wd_fz); exact rfl)
      | ((with_reducible apply KV.wd_own); exact rfl)
      | ((with_reducible apply KV.wd_lck); exact rfl)
      | ((with_reducible apply KV.wd_callB'); exact rfl)
      | ((with_reducible apply KV.wd_app'); exact rfl)
      | ((with_reducible apply KV.wd_pop); exact rfl)
      | with_reducible refine KV.wd_if ?_
      | with_reducible refine KV.wd_chP ?_))
  | ((with_reducible refine KV.gO ?_); (first
      | with_reducible refine KV.wo_add ?_
      | with_reducible refine KV.wo_sub ?_
      | with_reducible refine KV.wo_neg ?_
      | with_reducible refine KV.wo_c ?_
      | with_reducible refine KV.wo_isN ?_
      | with_reducible refine KV.wo_notN ?_
      | with_reducible refine KV.wo_eqI ?_
      | with_reducible refine KV.wo_neI ?_
      | with_reducible refine KV.wo_eqNil ?_
      | with_reducible refine KV.wo_eqB ?_
      | with_reducible refine KV.wo_neB ?_
      | with_reducible refine KV.wo_neNil ?_
      | with_reducible refine KV.wo_inT ?_
      | with_reducible refine KV.wo_inL ?_
      | with_reducible refine KV.wo_notInT ?_
      | with_reducible refine KV.wo_notInL ?_
      | with_reducible refine KV.wo_srt ?_
      | with_reducible refine KV.wo_srtR ?_
      | with_reducible refine KV.wo_rev ?_
      | with_reducible refine KV.wo_lenL ?_
      | with_reducible refine KV.wo_lenT ?_
      | with_reducible refine KV.wo_intI ?_
      | with_reducible refine KV.wo_tupL ?_
      | with_reducible refine KV.wo_tupT ?_
      | with_reducible refine KV.wo_lstL ?_
      | with_reducible refine KV.wo_lstT ?_
      | ((with_reducible apply KV.wo_ixT); exact rfl)
      | ((with_reducible apply KV.wo_ixL); exact rfl)
      | ((with_reducible refine KV.wo_isT (b := true) ?_ ?_); exact rfl)
      | ((with_reducible refine KV.wo_isT (b := false) ?_ ?_); exact rfl)
      | ((with_reducible refine KV.wo_isT2 (b := true) ?_ ?_); exact rfl)
      | ((with_reducible refine KV.wo_isT2 (b := false) ?_ ?_); exact rfl)
      | ((with_reducible apply KV.wo_mul); omega)
      | ((with_reducible apply KV.wo_mod); omega)
      | ((with_reducible apply KV.wo_div); omega)
      | ((with_reducible apply KV.wo_addL); (simp only [List.length_append, List.length_cons, List.length_nil, List.length_map]; omega))
      | ((with_reducible apply KV.wo_addT); (simp only [List.length_append, List.length_cons, List.length_nil, List.length_map]; omega))))
  | with_reducible refine KV.wput2 ?_
  | ((with_reducible apply KV.wown); exact rfl)
  | ((with_reducible apply KV.wsi); exact rfl; exact rfl; (simp only [List.set_cons_zero, List.set_cons_succ]; try exact rfl))
  | with_reducible refine KV.wparp ?_
  | with_reducible refine KV.wparp3 ?_
  | with_reducible refine KV.wst_val ?_
  | with_reducible refine KV.wst_tmp ?_
  | with_reducible refine KV.wst_slot ?_
  | with_reducible refine KV.wdr_val ?_
  | with_reducible refine KV.wdr_tmp ?_
  | with_reducible refine KV.wfz_val ?_
  | with_reducible refine KV.wfz_tmp ?_
  | with_reducible refine KV.wn_nil ?_
  | with_reducible refine KV.wn_cons ?_
  | with_reducible refine KV.wdrs_nil ?_
  | with_reducible refine KV.wdrs_cons ?_
  | with_reducible refine KV.wv_nil ?_
  | with_reducible refine KV.wv_cons ?_
  | with_reducible refine KV.wp_none ?_
  | with_reducible refine KV.wp_some ?_
  | with_reducible refine KV.wt_b ?_
  | with_reducible refine KV.wt_not ?_
  | with_reducible refine KV.wt_yes ?_
  | with_reducible refine KV.wgs_nil ?_
  | with_reducible refine KV.wgs_cons ?_
  | with_reducible refine KV.wg_tup ?_
  | with_reducible refine KV.wi_seq ?_
  | with_reducible refine KV.wsq_list ?_
  | with_reducible refine KV.wsq_tup ?_
  | ((with_reducible apply KV.wsq_own); exact rfl; (simp only [List.set_cons_zero, List.set_cons_succ]; try exact rfl))
  | ((with_reducible apply KV.wsq_lck); exact rfl)
  | with_reducible refine KV.wr_val ?_
  | with_reducible refine KV.wr_tmp ?_
  | ((with_reducible apply KV.wdr_fz); exact rfl)
  | ((with_reducible apply KV.wdr_own); exact rfl)
  | ((with_reducible apply KV.wdr_lck); exact rfl)
  | ((with_reducible apply KV.wfz_fz); exact rfl)
  | ((with_reducible apply KV.wfz_own); exact rfl; (simp only [List.set_cons_zero, List.set_cons_succ]; try exact rfl))
  | ((with_reducible apply KV.wput_v); exact rfl; (first | exact rfl | assumption); (simp only [List.set_cons_zero, List.set_cons_succ]; try exact rfl))
  | ((with_reducible apply KV.wput_t); exact rfl; (first | exact rfl | assumption); (simp only [List.set_cons_zero, List.set_cons_succ]; try exact rfl))
  | ((with_reducible apply KV.wg_nm); exact rfl; (first | exact rfl | assumption); (simp only [List.set_cons_zero, List.set_cons_succ]; try exact rfl))
  | ((with_reducible apply KV.wcb); exact rfl)
  | ((with_reducible apply KV.wapp); exact rfl; (simp only [List.set_cons_zero, List.set_cons_succ]; try exact rfl))
  | ((with_reducible apply KV.wr_own); exact rfl)
  | ((with_reducible apply KV.wr_fz); exact rfl)
  | with_reducible refine KV.wt_and ?_
  | with_reducible refine KV.wt_or ?_
  | with_reducible refine KV.wsame ?_
  | with_reducible refine KV.wi_r1' ?_
  | with_reducible refine KV.wi_r2' ?_
  | ((with_reducible apply KV.wrg); omega; omega)
  | ((with_reducible apply KV.wrg2); omega; omega; omega; omega; omega)
  | with_reducible refine KV.and_t ?_
  | with_reducible refine KV.and_f ?_
  | with_reducible refine KV.and_nt ?_
  | with_reducible refine KV.and_nf ?_
  | with_reducible refine KV.and_dec ?_
  | with_reducible refine KV.and_ndec ?_
  | with_reducible refine And.intro (fun hb => ?_) (fun hb => ?_)
  | ((with_reducible refine And.intro ?_ (Nat.le_of_ble_eq_true rfl)))
  | with_reducible refine Exists.intro _ (And.intro rfl ?_)
  | fail "no step")
local macro_rules | `(tactic| array_get_dec) => `(tactic| first
  | with_reducible refine KV.wt_andP ?_
  | with_reducible refine KV.wt_orP ?_
  | fail "no step")
namespace KL
open PySem PySem.Spec PyProof.Rows L2 KV
theorem zip_self {xs : List PyData} {e : PyData} (h : e ∈ zipD xs xs) : ∃ x ∈ xs, e = .tuple [x, x] := by
  obtain ⟨i, hi⟩ := List.getElem?_of_mem h
  obtain ⟨x, y, e1, e2, e3⟩ := zipD_get hi
  rw [e1] at e2
  cases e2
  exact ⟨x, List.mem_of_getElem? e1, e3⟩
theorem boolsOf_true (n : Nat) : boolsOf (List.replicate n (PyData.bool true)) = some (List.replicate n true) := by
  induction n with
  | zero => rfl
  | succ n ih => rw [List.replicate_succ]; show Option.map _ (boolsOf (List.replicate n (PyData.bool true))) = _; rw [ih]; rfl
theorem wo_allT {zs : List PyData} {QR : KV.R → Prop} (hz : ∀ z ∈ zs, z = .bool true) (h : QR (.val (.bool true))) : wO (opAll [.list zs]) QR := ⟨_, by
  have e : zs = List.replicate zs.length (PyData.bool true) := List.eq_replicate_iff.mpr ⟨rfl, hz⟩
  rw [e]
  show Option.map _ (boolsOf (List.replicate zs.length (PyData.bool true))) = _
  rw [boolsOf_true, Option.map_some]
  have : (List.replicate zs.length true).all id = true := by
    rw [List.all_eq_true]; intro x hx; exact (List.mem_replicate.mp hx).2
  rw [this], h⟩
theorem same_refl : ∀ (n : Nat) (d : PyData), okD n d = true → n ≤ 60 → Fz__law_same n [d, d] = some (.val (.bool true))
  | 0, _, h, _ => by simp [okD] at h
  | n + 1, d, h, hn => by
    refine wf_get ?_
    show wF (runP 4 (g__law_same (Fz__law_same n))) [d, d] _
    refine wf_run (r := [.fz d, .fz d, .un, .un]) rfl ?_
    unfold g__law_same
    cases d with
    | list xs =>
      obtain ⟨hl, hx⟩ := okD_list h
      repeat' array_get_dec
      all_goals try (rename_i hb; simp at hb; done)
      refine wd_lcm (wi_zipL ?_)
      repeat' array_get_dec
      refine ⟨xs, xs, rfl, hl, rfl, fun _ => .bool true, fun e he => ?_, ?_⟩
      · obtain ⟨x, mx, rfl⟩ := zip_self he
        simp only [wipeE, List.set_cons_zero, List.set_cons_succ]
        repeat' array_get_dec
        refine wf_eq (same_refl n x (hx x mx) (by omega)) ?_
        repeat' array_get_dec
        exact ⟨rfl, rfl⟩
      · simp only [unlck]
        repeat' array_get_dec
        refine wo_allT (fun z hz => by obtain ⟨_, _, e⟩ := List.mem_map.mp hz; exact e.symm) ?_
        repeat' array_get_dec
        simp
    | tuple xs =>
      obtain ⟨hl, hx⟩ := okD_tuple h
      repeat' array_get_dec
      all_goals try (rename_i hb; simp at hb; done)
      refine wd_lcm (wi_zipT ?_)
      repeat' array_get_dec
      refine ⟨xs, xs, rfl, hl, rfl, fun _ => .bool true, fun e he => ?_, ?_⟩
      · obtain ⟨x, mx, rfl⟩ := zip_self he
        simp only [wipeE, List.set_cons_zero, List.set_cons_succ]
        repeat' array_get_dec
        refine wf_eq (same_refl n x (hx x mx) (by omega)) ?_
        repeat' array_get_dec
        exact ⟨rfl, rfl⟩
      · simp only [unlck]
        repeat' array_get_dec
        refine wo_allT (fun z hz => by obtain ⟨_, _, e⟩ := List.mem_map.mp hz; exact e.symm) ?_
        repeat' array_get_dec
        simp
    | dict kvs => simp [okD] at h
    | none =>
      repeat' array_get_dec
      · refine wo_eqSame (n := 1) rfl (by decide) ?_
        repeat' array_get_dec
        rfl
      · rename_i hb; exact absurd hb (by simp [KV.isNon])
    | bool b =>
      repeat' array_get_dec
      · simp
      · rename_i hb; exact absurd hb (by simp [KV.isNon])
    | int i =>
      repeat' array_get_dec
      · rename_i hb; exact absurd hb (by simp [KV.isNon])
      · simp
    | str s =>
      repeat' array_get_dec
      · refine wo_eqSame (n := 1) rfl (by decide) ?_
        repeat' array_get_dec
        rfl
      · rename_i hb; exact absurd hb (by simp [KV.isNon])
end KL

end

section
local macro_rules | `(tactic| array_get_dec) => `(tactic| first
  | ((with_reducible refine KV.gS ?_); (first
      | with_reducible refine KV.ws_seq ?_
      | with_reducible refine KV.ws_set ?_
      | with_reducible refine KV.ws_ret ?_
      | with_reducible refine KV.ws_asg ?_
      | with_reducible refine KV.ws_par' ?_
      | with_reducible refine KV.ws_parO ?_
      | with_reducible refine KV.ws_par3' ?_
      | with_reducible refine KV.ws_drop ?_
      | with_reducible refine KV.ws_setIx' ?_
      | with_reducible refine KV.ws_next ?_
      | with_reducible refine KV.ws_break ?_
      | ((with_reducible apply KV.ws_gf_fz); exact rfl)
      | ((with_reducible apply KV.ws_gf_own'); exact rfl; (simp only [List.set_cons_zero, List.set_cons_succ]; try exact rfl))
      | with_reducible refine KV.ws_if ?_))
  | ((with_reducible refine KV.gD ?_); (first
      | with_reducible refine KV.wd_c ?_
      | with_reducible refine KV.wd_bin ?_
      | with_reducible refine KV.wd_un ?_
      | with_reducible refine KV.wd_cb ?_
      | with_reducible refine KV.wd_tup' ?_
      | with_reducible refine KV.wd_lst' ?_
      | with_reducible refine KV.wd_call ?_
      | with_reducible refine KV.wd_callK ?_
      | with_reducible refine KV.wd_callT ?_
      | with_reducible refine KV.wd_v ?_
      | with_reducible refine KV.wd_slice ?_
      | with_reducible refine KV.wd_isi ?_
      | with_reducible refine KV.wd_isi2 ?_
      | ((with_reducible apply KV.wd_fz); exact rfl)
      | ((with_reducible apply KV.wd_own); exact rfl)
      | ((with_reducible apply KV.wd_lck); exact rfl)
      | ((with_reducible apply KV.wd_callB'); exact rfl)
      | ((with_reducible apply KV.wd_app'); exact rfl)
      | ((with_reducible apply KV.wd_pop); exact rfl)
      | with_reducible refine KV.wd_if ?_
      | with_reducible refine KV.wd_chP ?_))
  | ((with_reducible refine KV.gO ?_); (first
      | with_reducible refine KV.wo_add ?_
      | with_reducible refine KV.wo_sub ?_
      | with_reducible refine KV.wo_neg ?_
      | with_reducible refine KV.wo_c ?_
      | with_reducible refine KV.wo_isN ?_
      | with_reducible refine KV.wo_notN ?_
      | with_reducible refine KV.wo_eqI ?_
      | with_reducible refine KV.wo_neI ?_
      | with_reducible refine KV.wo_eqNil ?_
      | with_reducible refine KV.wo_eqB ?_
      | with_reducible refine KV.wo_neB ?_
      | with_reducible refine KV.wo_neNil ?_
      | with_reducible refine KV.wo_inT ?_
      | with_reducible refine KV.wo_inL ?_
      | with_reducible refine KV.wo_notInT ?_
      | with_reducible refine KV.wo_notInL ?_
      | with_reducible refine KV.wo_srt ?_
      | with_reducible refine KV.wo_srtR ?_
      | with_reducible refine KV.wo_rev ?_
      | with_reducible refine KV.wo_lenL ?_
      | with_reducible refine KV.wo_lenT ?_
      | with_reducible refine KV.wo_intI ?_
      | with_reducible refine KV.wo_tupL ?_
      | with_reducible refine KV.wo_tupT ?_
      | with_reducible refine KV.wo_lstL ?_
      | with_reducible refine KV.wo_lstT ?_
      | ((with_reducible apply KV.wo_ixT); exact rfl)
      | ((with_reducible apply KV.wo_ixL); exact rfl)
      | ((with_reducible refine KV.wo_isT (b := true) ?_ ?_); exact rfl)
      | ((with_reducible refine KV.wo_isT (b := false) ?_ ?_); exact rfl)
      | ((with_reducible refine KV.wo_isT2 (b := true) ?_ ?_); exact rfl)
      | ((with_reducible refine KV.wo_isT2 (b := false) ?_ ?_); exact rfl)
      | ((with_reducible apply KV.wo_mul); omega)
      | ((with_reducible apply KV.wo_mod); omega)
      | ((with_reducible apply KV.wo_div); omega)
      | ((with_reducible apply KV.wo_addL); (simp only [List.length_append, List.length_cons, List.length_nil, List.length_map]; omega))
      | ((with_reducible apply KV.wo_addT); (simp only [List.length_append, List.length_cons, List.length_nil, List.length_map]; omega))))
  | with_reducible refine KV.wput2 ?_
  | ((with_reducible apply KV.wown); exact rfl)
  | ((with_reducible apply KV.wsi); exact rfl; exact rfl; (simp only [List.set_cons_zero, List.set_cons_succ]; try exact rfl))
  | with_reducible refine KV.wparp ?_
  | with_reducible refine KV.wparp3 ?_
  | with_reducible refine KV.wst_val ?_
  | with_reducible refine KV.wst_tmp ?_
  | with_reducible refine KV.wst_slot ?_
  | with_reducible refine KV.wdr_val ?_
  | with_reducible refine KV.wdr_tmp ?_
  | with_reducible refine KV.wfz_val ?_
  | with_reducible refine KV.wfz_tmp ?_
  | with_reducible refine KV.wn_nil ?_
  | with_reducible refine KV.wn_cons ?_
  | with_reducible refine KV.wdrs_nil ?_
  | with_reducible refine KV.wdrs_cons ?_
  | with_reducible refine KV.wv_nil ?_
  | with_reducible refine KV.wv_cons ?_
  | with_reducible refine KV.wp_none ?_
  | with_reducible refine KV.wp_some ?_
  | with_reducible refine KV.wt_b ?_
  | with_reducible refine KV.wt_not ?_
  | with_reducible refine KV.wt_yes ?_
  | with_reducible refine KV.wgs_nil ?_
  | with_reducible refine KV.wgs_cons ?_
  | with_reducible refine KV.wg_tup ?_
  | with_reducible refine KV.wi_seq ?_
  | with_reducible refine KV.wsq_list ?_
  | with_reducible refine KV.wsq_tup ?_
  | ((with_reducible apply KV.wsq_own); exact rfl; (simp only [List.set_cons_zero, List.set_cons_succ]; try exact rfl))
  | ((with_reducible apply KV.wsq_lck); exact rfl)
  | with_reducible refine KV.wr_val ?_
  | with_reducible refine KV.wr_tmp ?_
  | ((with_reducible apply KV.wdr_fz); exact rfl)
  | ((with_reducible apply KV.wdr_own); exact rfl)
  | ((with_reducible apply KV.wdr_lck); exact rfl)
  | ((with_reducible apply KV.wfz_fz); exact rfl)
  | ((with_reducible apply KV.wfz_own); exact rfl; (simp only [List.set_cons_zero, List.set_cons_succ]; try exact rfl))
  | ((with_reducible apply KV.wput_v); exact rfl; (first | exact rfl | assumption); (simp only [List.set_cons_zero, List.set_cons_succ]; try exact rfl))
  | ((with_reducible apply KV.wput_t); exact rfl; (first | exact rfl | assumption); (simp only [List.set_cons_zero, List.set_cons_succ]; try exact rfl))
  | ((with_reducible apply KV.wg_nm); exact rfl; (first | exact rfl | assumption); (simp only [List.set_cons_zero, List.set_cons_succ]; try exact rfl))
  | ((with_reducible apply KV.wcb); exact rfl)
  | ((with_reducible apply KV.wapp); exact rfl; (simp only [List.set_cons_zero, List.set_cons_succ]; try exact rfl))
  | ((with_reducible apply KV.wr_own); exact rfl)
  | ((with_reducible apply KV.wr_fz); exact rfl)
  | with_reducible refine KV.wt_and ?_
  | with_reducible refine KV.wt_or ?_
  | with_reducible refine KV.wsame ?_
  | with_reducible refine KV.wi_r1' ?_
  | with_reducible refine KV.wi_r2' ?_
  | ((with_reducible apply KV.wrg); omega; omega)
  | ((with_reducible apply KV.wrg2); omega; omega; omega; omega; omega)
  | with_reducible refine KV.and_t ?_
  | with_reducible refine KV.and_f ?_
  | with_reducible refine KV.and_nt ?_
  | with_reducible refine KV.and_nf ?_
  | with_reducible refine KV.and_dec ?_
  | with_reducible refine KV.and_ndec ?_
  | with_reducible refine And.intro (fun hb => ?_) (fun hb => ?_)
  | ((with_reducible refine And.intro ?_ (Nat.le_of_ble_eq_true rfl)))
  | with_reducible refine Exists.intro _ (And.intro rfl ?_)
  | fail "no step")
namespace KL
open PySem PySem.Spec PyProof.Rows L2 KV
theorem judged_ok {n : Nat} {d : PyData} (h : okS n d = true) : F__law_judged [d] = some (.val (.bool true)) := by
  refine wf_get ?_
  unfold F__law_judged
  refine wf_run (r := [.fz d, .un, .un]) rfl ?_
  unfold g__law_judged
  repeat' array_get_dec
  refine wf_eq (is_key_ok h) ?_
  repeat' array_get_dec
  refine wf_eq (is_version_ok h) ?_
  repeat' array_get_dec
  refine wf_eq (is_line_ok h) ?_
  repeat' array_get_dec
  refine wf_eq (is_zone_ok h) ?_
  repeat' array_get_dec
  refine wf_eq (is_world_ok h) ?_
  repeat' array_get_dec
  refine wf_eq (is_key_ok h) ?_
  repeat' array_get_dec
  refine wf_eq (is_version_ok h) ?_
  repeat' array_get_dec
  refine wf_eq (is_line_ok h) ?_
  repeat' array_get_dec
  refine wf_eq (is_zone_ok h) ?_
  repeat' array_get_dec
  refine wf_eq (is_world_ok h) ?_
  repeat' array_get_dec
  refine wf_eq (l_is_key_ok h) ?_
  repeat' array_get_dec
  refine wf_eq (l_is_told_ok h) ?_
  repeat' array_get_dec
  refine wf_eq (l_is_row_ok h) ?_
  repeat' array_get_dec
  refine wf_eq (l_is_site_ok h) ?_
  repeat' array_get_dec
  refine wf_eq (l_is_globe_ok h) ?_
  repeat' array_get_dec
  refine wf_eq (same_refl 12 _ rfl (by omega)) ?_
  repeat' array_get_dec
  rfl
end KL
namespace KL
open PySem PySem.Spec PyProof.Rows L2 KV
/-- keys of different numbers -/
def KInj (ks : List (Int × Int)) : Prop := ∀ a ∈ ks, ∀ b ∈ ks, a.1 = b.1 → a = b
theorem up_inj {ks : List (Int × Int)} (h : upB (ks.map (·.1)) = true) : KInj ks := by
  rw [upB_iff, List.pairwise_map] at h
  intro a ha b hb e
  obtain ⟨i, hi⟩ := List.getElem?_of_mem ha
  obtain ⟨j, hj⟩ := List.getElem?_of_mem hb
  obtain ⟨hi1, hi2⟩ := List.getElem?_eq_some_iff.mp hi
  obtain ⟨hj1, hj2⟩ := List.getElem?_eq_some_iff.mp hj
  rw [List.pairwise_iff_getElem] at h
  rcases Nat.lt_trichotomy i j with c | c | c
  · have := of_decide_eq_true (h i j hi1 hj1 c)
    rw [hi2, hj2] at this
    omega
  · subst c
    rw [hi2] at hj2
    exact hj2
  · have := of_decide_eq_true (h j i hj1 hi1 c)
    rw [hi2, hj2] at this
    omega
theorem up_sort {ks : List (Int × Int)} (h : KInj ks) : upB ((sortD ltK ks).map (·.1)) = true := by
  rw [upB_iff, List.pairwise_map]
  have hs := sortD_sorted ltK_ok ks
  refine List.Pairwise.imp_of_mem (fun {a b} ha hb hab => ?_) hs
  have ha := (sortD_mem ltK_ok ks a).mp ha
  have hb := (sortD_mem ltK_ok ks b).mp hb
  rcases (ltK_iff a b).mp hab with c | ⟨c, d⟩
  · exact decide_eq_true c
  · have := h a ha b hb c
    subst this
    omega
theorem up_sortI (ns : List Int) : upB (sortD ltI ns) = true := (upB_iff _).mpr (sortD_sorted ltI_ok ns)
theorem up_filter {ns : List Int} (p : Int → Bool) (h : upB ns = true) : upB (ns.filter p) = true := (upB_iff _).mpr (((upB_iff _).mp h).filter _)
theorem up_filterK {ks : List (Int × Int)} (p : Int × Int → Bool) (h : upB (ks.map (·.1)) = true) : upB ((ks.filter p).map (·.1)) = true := by
  rw [upB_iff, List.pairwise_map] at h ⊢
  exact h.filter _
theorem KInj.add {ks : List (Int × Int)} (h : KInj ks) {k d : Int} (hk : ∀ p ∈ ks, p.1 ≠ k) : KInj (ks ++ [(k, d)]) := by
  intro a ha b hb e
  rcases List.mem_append.mp ha with ha | ha <;> rcases List.mem_append.mp hb with hb | hb
  · exact h a ha b hb e
  · have : b = (k, d) := by simpa using hb
    subst this
    exact absurd e (hk a ha)
  · have : a = (k, d) := by simpa using ha
    subst this
    exact absurd e.symm (hk b hb)
  · have h1 : a = (k, d) := by simpa using ha
    have h2 : b = (k, d) := by simpa using hb
    rw [h1, h2]
/-- small numbers -/
def NI (l : List Int) : Prop := ∀ a ∈ l, 0 ≤ a ∧ a ≤ 9
def NK (l : List (Int × Int)) : Prop := ∀ p ∈ l, (0 ≤ p.1 ∧ p.1 ≤ 9) ∧ (0 ≤ p.2 ∧ p.2 ≤ 9)
theorem NI.sort {l : List Int} (h : NI l) : NI (sortD ltI l) := fun a ha => h a ((sortD_mem ltI_ok l a).mp ha)
theorem NI.filter {l : List Int} (h : NI l) (p : Int → Bool) : NI (l.filter p) := fun a ha => h a (List.mem_filter.mp ha).1
theorem NI.add {l : List Int} (h : NI l) {k : Int} (hk : 0 ≤ k ∧ k ≤ 9) : NI (l ++ [k]) := fun a ha => by
  rcases List.mem_append.mp ha with m | m
  · exact h a m
  · have : a = k := by simpa using m
    rw [this]; exact hk
theorem NI.app {l m : List Int} (h : NI l) (h2 : NI m) : NI (l ++ m) := fun a ha => by
  rcases List.mem_append.mp ha with q | q
  · exact h a q
  · exact h2 a q
theorem NK.sort {l : List (Int × Int)} (h : NK l) : NK (sortD ltK l) := fun a ha => h a ((sortD_mem ltK_ok l a).mp ha)
theorem NK.filter {l : List (Int × Int)} (h : NK l) (p : Int × Int → Bool) : NK (l.filter p) := fun a ha => h a (List.mem_filter.mp ha).1
theorem NK.add {l : List (Int × Int)} (h : NK l) {k d : Int} (hk : 0 ≤ k ∧ k ≤ 9) (hd : 0 ≤ d ∧ d ≤ 9) : NK (l ++ [(k, d)]) := fun a ha => by
  rcases List.mem_append.mp ha with m | m
  · exact h a m
  · have : a = (k, d) := by simpa using m
    rw [this]; exact ⟨hk, hd⟩
theorem NK.fst {l : List (Int × Int)} (h : NK l) : NI (l.map (·.1)) := fun a ha => by
  obtain ⟨p, hp, rfl⟩ := List.mem_map.mp ha
  exact (h p hp).1
/-- a version as the document tells it -/
structure VV (v : Ver) : Prop where
  keys : upB (v.keys.map (·.1)) = true
  heads : upB v.heads = true
  marks : upB v.marks = true
  gone : upB v.gone = true
  sub : ∀ g ∈ v.gone, g ∈ v.keys.map (·.1)
  trust : ∀ ts, v.trust = some ts → upB (ts.map (·.1)) = true
  nk : NK v.keys
  nh : NI v.heads
  nm : NI v.marks
  ng : NI v.gone
  nt : ∀ ts, v.trust = some ts → NK ts
theorem all_numB {ks : List (Int × Int)} (h : ∀ p ∈ ks, 0 ≤ p.1 ∧ 0 ≤ p.2) : (ks.map keyD).all keyB = true := by
  rw [List.all_map, List.all_eq_true]
  intro p hp
  obtain ⟨h1, h2⟩ := h p hp
  show (decide (0 ≤ p.1) && decide (0 ≤ p.2)) = true
  rw [decide_eq_true h1, decide_eq_true h2]
  rfl
theorem keysB_of {ks : List (Int × Int)} (h : ∀ p ∈ ks, 0 ≤ p.1 ∧ 0 ≤ p.2) (u : upB (ks.map (·.1)) = true) : keysB (.tuple (ks.map keyD)) = true := by
  show ((ks.map keyD).all keyB && upB ((ks.map keyD).map numOf)) = true
  rw [all_numB h, map_numOf, u]
  rfl
theorem numsB_of {ns : List Int} (u : upB ns = true) : numsB (.tuple (ns.map .int)) = true := by
  show ((ns.map PyData.int).all wholeB && upB ((ns.map PyData.int).map intD)) = true
  rw [map_intD, u, List.all_map, Bool.and_true, List.all_eq_true]
  intro _ _
  rfl
theorem verD_ok {b : Nat} {v : Ver} (h : VerOk b v) (u : VV v) : versB (verD v) = true := by
  show (keysB _ && (numsB _ && (numsB _ && (numsB _ && (goneB _ _ && (KV.isNon (belowD v.trust) || keysB (belowD v.trust))))))) = true
  rw [keysB_of h.keys.2 u.keys, numsB_of u.heads, numsB_of u.marks, numsB_of u.gone, gone_eq]
  have e1 : (v.gone.all fun a => decide (a ∈ v.keys.map (·.1))) = true := by
    rw [List.all_eq_true]
    intro g hg
    exact decide_eq_true (u.sub g hg)
  rw [e1]
  cases e : v.trust with
  | none => rfl
  | some ts =>
    show (true && (true && (true && (true && (true && (false || keysB (.tuple (ts.map keyD)))))))) = true
    rw [keysB_of (h.trust ts e).2 (u.trust ts e)]
    rfl
/-- a trust handed down -/
def TrV (ts : List (Int × Int)) : Prop := KeysOk 2 ts ∧ upB (ts.map (·.1)) = true ∧ (∀ p ∈ ts, p.1 ≠ 9) ∧ ts ≠ [] ∧ NK ts
end KL
namespace KL
open PySem PySem.Spec PyProof.Rows L2 KV
/-- the law's box of draws after at most n of them -/
def BxI (n : Nat) (c : Ob) : Prop := ∃ x y i : Int, c = .lst [.int x, .int y, .int i] ∧ 0 ≤ x ∧ 0 ≤ y ∧ y < 4611686018427387904 ∧ 0 ≤ i ∧ i ≤ n
theorem BxI.mono {n m : Nat} {c : Ob} (h : BxI n c) (hm : n ≤ m) : BxI m c := by
  obtain ⟨x, y, i, e, a, b, d, f, g⟩ := h
  exact ⟨x, y, i, e, a, b, d, f, by omega⟩
theorem take_w {n : Nat} {c : Ob} (h : BxI n c) (hn : n ≤ 100000000) {m : Int} (hm : 0 < m ∧ m < 1000000000) : wB G__law_take c [.int m] fun z c' => ∃ d, z = .val (.int d) ∧ 0 ≤ d ∧ d < m ∧ BxI (n + 1) c' := by
  obtain ⟨x, y, i, rfl, hx, hy0, hy1, hi, hin⟩ := h
  have key : ∀ t : Int, 0 ≤ t % m ∧ t % m < m := fun t => ⟨Int.emod_nonneg _ (by omega), Int.emod_lt_of_pos _ hm.1⟩
  unfold G__law_take
  refine wb_run (r := [.own (.lst [.int x, .int y, .int i]), .fz (.int m), .un, .un, .un, .un]) rfl ?_
  unfold g__law_take
  repeat' array_get_dec
  · exact ⟨(key _).1, (key _).2, _, y, i, rfl, Int.ediv_nonneg hx (by omega), hy0, hy1, hi, by omega⟩
  · exact ⟨(key _).1, (key _).2, x, y, i + 1, rfl, hx, hy0, hy1, by omega, by omega⟩
theorem atI_in {xs : List PyData} {d : Int} (h0 : 0 ≤ d) (h1 : d < xs.length) : ∃ x, L2.atI xs d = some x ∧ x ∈ xs ∧ xs[d.toNat]? = some x := by
  have hl : d.toNat < xs.length := by omega
  refine ⟨xs[d.toNat], ?_, List.getElem_mem _, List.getElem?_eq_getElem hl⟩
  unfold L2.atI ixN
  rw [if_pos h0, if_pos h1, Option.bind_some, List.getElem?_eq_getElem hl]
theorem take_r {n : Nat} {c : Ob} (h : BxI n c) (hn : n ≤ 100000000) {m : Int} (hm : 0 < m ∧ m < 1000000000) {Q : KV.R → Ob → Prop} (k : ∀ d c', 0 ≤ d → d < m → BxI (n + 1) c' → Q (.val (.int d)) c') : wB G__law_take c [.int m] Q :=
  (take_w h hn hm).mono fun z c' ⟨d, e, h0, h1, hb⟩ => by subst e; exact k d c' h0 h1 hb
end KL
local macro_rules | `(tactic| array_get_dec) => `(tactic| ((with_reducible refine KL.take_r (by assumption) (by omega) (by omega) (fun d c h0 h1 hb => ?_)); (simp only [List.set_cons_zero, List.set_cons_succ])))
namespace KL
open PySem PySem.Spec PyProof.Rows L2 KV
theorem pick_w {n : Nat} {c : Ob} (h : BxI n c) (hn : n ≤ 100000000) {xs : List PyData} (hx : 0 < xs.length ∧ xs.length < 1000) : wB G__law_pick c [.list xs] fun z c' => ∃ x, x ∈ xs ∧ z = .val x ∧ BxI (n + 1) c' := by
  unfold G__law_pick
  refine wb_run (r := [.own c, .fz (.list xs)]) rfl ?_
  unfold g__law_pick
  repeat' array_get_dec
  obtain ⟨x, e, m, _⟩ := atI_in (by assumption) (by assumption)
  refine wo_ixL e ?_
  repeat' array_get_dec
  exact ⟨x, m, rfl, by assumption⟩
end KL
namespace KL
open PySem PySem.Spec PyProof.Rows L2 KV
theorem row_keys {ks : List (Int × Int)} (h : KeysOk 63 ks) : F__law_row [.list (ks.map keyD)] = some (.val (.tuple ((sortD ltK ks).map keyD))) := by
  refine wf_get ?_
  unfold F__law_row
  refine wf_run (r := [.fz (.list (ks.map keyD))]) rfl ?_
  unfold g__law_row
  repeat' array_get_dec
  refine wo_eq (ss_keys h) ?_
  repeat' array_get_dec
  rfl
theorem row_ints {ns : List Int} (h : ns.length ≤ 63) : F__law_row [.list (ns.map .int)] = some (.val (.tuple ((sortD ltI ns).map .int))) := by
  refine wf_get ?_
  unfold F__law_row
  refine wf_run (r := [.fz (.list (ns.map .int))]) rfl ?_
  unfold g__law_row
  repeat' array_get_dec
  refine wo_eq (opSS_int (by omega)) ?_
  repeat' array_get_dec
  rfl
theorem without_ints {ns : List Int} {k : Int} : F__law_without [.tuple (ns.map .int), .int k] = some (.val (.tuple ((ns.filter fun i => !decide (i = k)).map .int))) := by
  refine wf_get ?_
  unfold F__law_without
  refine wf_run (r := [.fz (.tuple (ns.map .int)), .fz (.int k), .un]) rfl ?_
  unfold g__law_without
  repeat' array_get_dec
  refine wd_lcf' ?_
  repeat' array_get_dec
  refine ⟨rfl, fun d => (match d with | .int i => !decide (i = k) | _ => false), id, fun d hd => ?_, ?_⟩
  · obtain ⟨i, _, rfl⟩ := List.mem_map.mp hd
    show wG _ _ [.fz (.tuple (ns.map .int)), .fz (.int k), .un] _
    repeat' array_get_dec
    refine ⟨rfl, fun _ => ?_, fun _ => rfl⟩
    repeat' array_get_dec
    exact ⟨rfl, rfl⟩
  · show wSt _ _ _
    rw [filter_map_int, List.map_id]
    repeat' array_get_dec
    rfl
theorem fst_keys {ks : List (Int × Int)} {p : Int × Int} : atI [PyData.int p.1, .int p.2] 0 = some (.int p.1) := rfl
theorem pick_r {n : Nat} {c : Ob} (h : BxI n c) (hn : n ≤ 100000000) {xs : List PyData} (hx : 0 < xs.length ∧ xs.length < 1000) {Q : KV.R → Ob → Prop} (k : ∀ x c', x ∈ xs → BxI (n + 1) c' → Q (.val x) c') : wB G__law_pick c [.list xs] Q :=
  (pick_w h hn hx).mono fun z c' ⟨x, m, e, hb⟩ => by subst e; exact k x c' m hb
end KL
namespace KL
open PySem PySem.Spec PyProof.Rows L2 KV
theorem begin_v {n b : Nat} {c : Ob} (h : BxI n c) (hn : n ≤ 90000000) (hb : b ≤ 10) {ts : List (Int × Int)} (ht : KeysOk b ts) (hu : upB (ts.map (·.1)) = true) (h9 : ∀ p ∈ ts, p.1 ≠ 9) (hn9 : NK ts) (last : Bool) : wB G__law_begin_of c [.tuple (ts.map keyD), .bool last] fun z c' => ∃ v, z = .val (verD v) ∧ VerOk (2 * b + 3) v ∧ (v.trust = none ↔ last = true) ∧ VV v ∧ (∀ us, v.trust = some us → TrV us) ∧ BxI (n + b + 4) c' := by
  unfold G__law_begin_of
  refine wb_run (r := [.own c, .fz (.tuple (ts.map keyD)), .fz (.bool last), .un, .un, .un, .un, .un]) rfl ?_
  unfold g__law_begin_of
  have tl := ht.1
  refine ws_cut (M := fun r1 => r1 = [.own c, .fz (.tuple (ts.map keyD)), .fz (.bool last), .own (.lst (ts.map keyD)), .un, .un, .un, .un]) ?_ ?_
  · repeat' array_get_dec
    rfl
  rintro _ rfl
  refine ws_cut (M := fun r1 => ∃ (ks : List (Int × Int)) (c' : Ob), r1 = [.own c', .fz (.tuple (ts.map keyD)), .fz (.bool last), .own (.lst (ks.map keyD)), .un, .un, .un, .un] ∧ KeysOk (b + 1) ks ∧ KInj ks ∧ NK ks ∧ BxI (n + 2) c') ?_ ?_
  · repeat' array_get_dec
    · rename_i d _ _ _ _
      exact ⟨ts ++ [(9, d)], _, by rw [List.map_append]; rfl, ht.add ⟨(by decide : (0 : Int) ≤ 9), by assumption⟩, (up_inj hu).add h9, hn9.add (by omega) (by omega), by assumption⟩
    · rw [sizeLine_eq, List.length_map]; omega
    · exact ⟨ts, _, rfl, ht.mono (by omega), up_inj hu, hn9, (by assumption : BxI (n + 1) _).mono (by omega)⟩
  rintro _ ⟨ks, c1, rfl, hk, hki, hkn, hb1⟩
  have kl := hk.1
  refine ws_cut (M := fun r1 => r1 = [.own c1, .fz (.tuple (ts.map keyD)), .fz (.bool last), .own (.lst (ks.map keyD)), .own (.lst ((ts.map (·.1)).map .int)), .un, .un, .un]) ?_ ?_
  · refine ws_set (wd_lcm ?_)
    repeat' array_get_dec
    refine ⟨rfl, fstD, fun d hd => ?_, ?_⟩
    · obtain ⟨p, _, rfl⟩ := List.mem_map.mp hd
      show wG _ _ [.own c1, .fz (.tuple (ts.map keyD)), .fz (.bool last), .own (.lst (ks.map keyD)), .un, .un, .un, .un] _
      unfold keyD
      repeat' array_get_dec
      exact ⟨rfl, rfl⟩
    · rw [map_fstD]
      show wPut _ _ [.own c1, .fz (.tuple (ts.map keyD)), .fz (.bool last), .own (.lst (ks.map keyD)), .un, .un, .un, .un] _
      repeat' array_get_dec
      rfl
  rintro _ rfl
  refine ws_cut (M := fun r1 => ∃ (ms : List Int) (c' : Ob), r1 = [.own c', .fz (.tuple (ts.map keyD)), .fz (.bool last), .own (.lst (ks.map keyD)), .own (.lst ((ts.map (·.1)).map .int)), .own (.lst (ms.map .int)), .un, .un] ∧ ms.length ≤ 2 * b + 1 ∧ NI ms ∧ BxI (n + b + 3) c') ?_ ?_
  · refine ws_set (wd_bin (wd_lc ?_))
    repeat' array_get_dec
    refine ⟨rfl, fun i acc r2 => ∃ (ms : List Int) (c' : Ob), acc = ms.map .int ∧ r2 = [.own c', .fz (.tuple (ts.map keyD)), .fz (.bool last), .lck (.lst (ks.map keyD)), .own (.lst ((ts.map (·.1)).map .int)), .un, .un, .un] ∧ ms.length ≤ i ∧ NI ms ∧ BxI (n + 2 + i) c', ⟨[], c1, rfl, rfl, Nat.le_refl _, (by intro a h; cases h), hb1⟩, ?_, ?_⟩
    · rintro i d acc _ hd ⟨ms, c', rfl, rfl, hl, hms, hbi⟩
      have hi : i < ks.length := by
        have := (List.getElem?_eq_some_iff.mp hd).1
        rwa [List.length_map] at this
      obtain ⟨p, hpm, rfl⟩ := List.mem_map.mp (List.mem_of_getElem? hd)
      unfold keyD
      repeat' array_get_dec
      · exact ⟨ms ++ [p.1], _, by rw [List.map_append]; rfl, rfl, by rw [List.length_append]; simp; omega, hms.add (hkn p hpm).1, by assumption⟩
      · exact ⟨ms, _, rfl, rfl, by omega, hms, by assumption⟩
    · rintro xs _ ⟨ms, c', rfl, rfl, hl, hms, hbi⟩
      rw [List.length_map] at hl hbi
      show wSt _ [.own c', .fz (.tuple (ts.map keyD)), .fz (.bool last), .own (.lst (ks.map keyD)), .own (.lst ((ts.map (·.1)).map .int)), .un, .un, .un] _
      repeat' array_get_dec
      exact ⟨ms ++ ts.map (·.1), c', by rw [List.map_append], by rw [List.length_append, List.length_map]; omega, hms.app hn9.fst, hbi.mono (by omega)⟩
  rintro _ ⟨ms, c2, rfl, hm, hms, hb2⟩
  repeat' array_get_dec
  refine pick_r hb2 (by omega) (by simp) fun x c3 hx hb3 => ?_
  have hx2 : ∃ ws, x = .tuple (ws.map keyD) ∧ TrV ws := by
    simp only [List.mem_cons, List.not_mem_nil, or_false] at hx
    rcases hx with rfl | rfl | rfl
    · exact ⟨[(1, 0)], rfl, ⟨by decide, by simp⟩, rfl, by decide, by simp, by unfold NK; decide⟩
    · exact ⟨[(1, 0)], rfl, ⟨by decide, by simp⟩, rfl, by decide, by simp, by unfold NK; decide⟩
    · exact ⟨[(1, 0), (2, 1)], rfl, ⟨by decide, by simp⟩, rfl, by decide, by simp, by unfold NK; decide⟩
  obtain ⟨ws, rfl, hw⟩ := hx2
  simp only [List.set_cons_zero, List.set_cons_succ]
  refine wput_v rfl rfl (by simp only [List.set_cons_zero, List.set_cons_succ]; exact rfl) ?_
  refine ws_cut (M := fun r1 => ∃ tr : Option (List (Int × Int)), r1 = [.own c3, .fz (.tuple (ts.map keyD)), .fz (.bool last), .own (.lst (ks.map keyD)), .own (.lst ((ts.map (·.1)).map .int)), .own (.lst (ms.map .int)), .fz (belowD tr), .un] ∧ (∀ u, tr = some u → TrV u) ∧ (tr = none ↔ last = true)) ?_ ?_
  · cases last
    · repeat' array_get_dec
      exact ⟨some ws, rfl, fun u e => (by cases e; exact hw), by simp⟩
    · repeat' array_get_dec
      exact ⟨none, rfl, fun u e => (by cases e), by simp⟩
  rintro _ ⟨tr, rfl, htr, hlast⟩
  repeat' array_get_dec
  refine wf_eq (row_keys (hk.mono (by omega))) ?_
  repeat' array_get_dec
  refine wf_eq (row_ints (by rw [List.length_map]; omega)) ?_
  repeat' array_get_dec
  refine wf_eq (row_ints (by omega)) ?_
  repeat' array_get_dec
  refine ⟨⟨sortD ltK ks, sortD ltI (ts.map (·.1)), tr, sortD ltI ms, []⟩, rfl, ⟨(hk.sort).mono (by omega), ?_, fun u e => (htr u e).1.mono (by omega), ?_, by simp⟩, hlast, ⟨up_sort hki, up_sortI _, up_sortI _, rfl, by simp, fun u e => (htr u e).2.1, hkn.sort, hn9.fst.sort, hms.sort, (by intro a h; cases h), fun u e => (htr u e).2.2.2.2⟩, htr, hb3.mono (by omega)⟩
  · have := sortD_length ltI (ts.map (·.1)); rw [List.length_map] at this; show (sortD ltI (ts.map (·.1))).length ≤ 2 * b + 3; omega
  · have := sortD_length ltI ms; show (sortD ltI ms).length ≤ 2 * b + 3; omega
end KL
namespace KL
open PySem PySem.Spec PyProof.Rows L2 KV
theorem row_keys_add {ks : List (Int × Int)} {a b : Int} (h : KeysOk 62 ks) (ha : 0 ≤ a) (hb : 0 ≤ b) : F__law_row [.list (ks.map keyD ++ [.tuple [.int a, .int b]])] = some (.val (.tuple ((sortD ltK (ks ++ [(a, b)])).map keyD))) := by
  have := row_keys (h.add (p := (a, b)) ⟨ha, hb⟩)
  rw [List.map_append] at this
  exact this
theorem row_ints_add {ns : List Int} {a : Int} (h : ns.length ≤ 62) : F__law_row [.list (ns.map .int ++ [.int a])] = some (.val (.tuple ((sortD ltI (ns ++ [a])).map .int))) := by
  have := row_ints (ns := ns ++ [a]) (by rw [List.length_append]; simp; omega)
  rw [List.map_append] at this
  exact this
end KL

end

section
local macro_rules | `(tactic| array_get_dec) => `(tactic| first
  | ((with_reducible refine KV.gS ?_); (first
      | with_reducible refine KV.ws_seq ?_
      | with_reducible refine KV.ws_set ?_
      | with_reducible refine KV.ws_ret ?_
      | with_reducible refine KV.ws_asg ?_
      | with_reducible refine KV.ws_par' ?_
      | with_reducible refine KV.ws_parO ?_
      | with_reducible refine KV.ws_par3' ?_
      | with_reducible refine KV.ws_drop ?_
      | with_reducible refine KV.ws_setIx' ?_
      | with_reducible refine KV.ws_next ?_
      | with_reducible refine KV.ws_break ?_
      | ((with_reducible apply KV.ws_gf_fz); exact rfl)
      | ((with_reducible apply KV.ws_gf_own'); exact rfl; (simp only [List.set_cons_zero, List.set_cons_succ]; try exact rfl))
      | with_reducible refine KV.ws_if ?_))
  | ((with_reducible refine KV.gD ?_); (first
      | with_reducible refine KV.wd_c ?_
      | with_reducible refine KV.wd_bin ?_
      | with_reducible refine KV.wd_un ?_
      | with_reducible refine KV.wd_cb ?_
      | with_reducible refine KV.wd_tup' ?_
      | with_reducible refine KV.wd_lst' ?_
      | with_reducible refine KV.wd_call ?_
      | with_reducible refine KV.wd_callK ?_
      | with_reducible refine KV.wd_callT ?_
      | with_reducible refine KV.wd_v ?_
      | with_reducible refine KV.wd_slice ?_
      | with_reducible refine KV.wd_isi ?_
      | with_reducible refine KV.wd_isi2 ?_
      | ((with_reducible apply KV.wd_fz); exact rfl)
      | ((with_reducible apply KV.wd_own); exact rfl)
      | ((with_reducible apply KV.wd_lck); exact rfl)
      | ((with_reducible apply KV.wd_callB'); exact rfl)
      | ((with_reducible apply KV.wd_app'); exact rfl)
      | ((with_reducible apply KV.wd_pop); exact rfl)
      | with_reducible refine KV.wd_if ?_
      | with_reducible refine KV.wd_chP ?_))
  | ((with_reducible refine KV.gO ?_); (first
      | with_reducible refine KV.wo_add ?_
      | with_reducible refine KV.wo_sub ?_
      | with_reducible refine KV.wo_neg ?_
      | with_reducible refine KV.wo_c ?_
      | with_reducible refine KV.wo_isN ?_
      | with_reducible refine KV.wo_notN ?_
      | with_reducible refine KV.wo_eqI ?_
      | with_reducible refine KV.wo_neI ?_
      | with_reducible refine KV.wo_eqNil ?_
      | with_reducible refine KV.wo_eqB ?_
      | with_reducible refine KV.wo_neB ?_
      | with_reducible refine KV.wo_neNil ?_
      | with_reducible refine KV.wo_inT ?_
      | with_reducible refine KV.wo_inL ?_
      | with_reducible refine KV.wo_notInT ?_
      | with_reducible refine KV.wo_notInL ?_
      | with_reducible refine KV.wo_srt ?_
      | with_reducible refine KV.wo_srtR ?_
      | with_reducible refine KV.wo_rev ?_
      | with_reducible refine KV.wo_lenL ?_
      | with_reducible refine KV.wo_lenT ?_
      | with_reducible refine KV.wo_intI ?_
      | with_reducible refine KV.wo_tupL ?_
      | with_reducible refine KV.wo_tupT ?_
      | with_reducible refine KV.wo_lstL ?_
      | with_reducible refine KV.wo_lstT ?_
      | ((with_reducible apply KV.wo_ixT); exact rfl)
      | ((with_reducible apply KV.wo_ixL); exact rfl)
      | ((with_reducible refine KV.wo_isT (b := true) ?_ ?_); exact rfl)
      | ((with_reducible refine KV.wo_isT (b := false) ?_ ?_); exact rfl)
      | ((with_reducible refine KV.wo_isT2 (b := true) ?_ ?_); exact rfl)
      | ((with_reducible refine KV.wo_isT2 (b := false) ?_ ?_); exact rfl)
      | ((with_reducible apply KV.wo_mul); omega)
      | ((with_reducible apply KV.wo_mod); omega)
      | ((with_reducible apply KV.wo_div); omega)
      | ((with_reducible apply KV.wo_addL); (simp only [List.length_append, List.length_cons, List.length_nil, List.length_map]; omega))
      | ((with_reducible apply KV.wo_addT); (simp only [List.length_append, List.length_cons, List.length_nil, List.length_map]; omega))))
  | with_reducible refine KV.wput2 ?_
  | ((with_reducible apply KV.wown); exact rfl)
  | ((with_reducible apply KV.wsi); exact rfl; exact rfl; (simp only [List.set_cons_zero, List.set_cons_succ]; try exact rfl))
  | with_reducible refine KV.wparp ?_
  | with_reducible refine KV.wparp3 ?_
  | with_reducible refine KV.wst_val ?_
  | with_reducible refine KV.wst_tmp ?_
  | with_reducible refine KV.wst_slot ?_
  | with_reducible refine KV.wdr_val ?_
  | with_reducible refine KV.wdr_tmp ?_
  | with_reducible refine KV.wfz_val ?_
  | with_reducible refine KV.wfz_tmp ?_
  | with_reducible refine KV.wn_nil ?_
  | with_reducible refine KV.wn_cons ?_
  | with_reducible refine KV.wdrs_nil ?_
  | with_reducible refine KV.wdrs_cons ?_
  | with_reducible refine KV.wv_nil ?_
  | with_reducible refine KV.wv_cons ?_
  | with_reducible refine KV.wp_none ?_
  | with_reducible refine KV.wp_some ?_
  | with_reducible refine KV.wt_b ?_
  | with_reducible refine KV.wt_not ?_
  | with_reducible refine KV.wt_yes ?_
  | with_reducible refine KV.wgs_nil ?_
  | with_reducible refine KV.wgs_cons ?_
  | with_reducible refine KV.wg_tup ?_
  | with_reducible refine KV.wi_seq ?_
  | with_reducible refine KV.wsq_list ?_
  | with_reducible refine KV.wsq_tup ?_
  | ((with_reducible apply KV.wsq_own); exact rfl; (simp only [List.set_cons_zero, List.set_cons_succ]; try exact rfl))
  | ((with_reducible apply KV.wsq_lck); exact rfl)
  | with_reducible refine KV.wr_val ?_
  | with_reducible refine KV.wr_tmp ?_
  | ((with_reducible apply KV.wdr_fz); exact rfl)
  | ((with_reducible apply KV.wdr_own); exact rfl)
  | ((with_reducible apply KV.wdr_lck); exact rfl)
  | ((with_reducible apply KV.wfz_fz); exact rfl)
  | ((with_reducible apply KV.wfz_own); exact rfl; (simp only [List.set_cons_zero, List.set_cons_succ]; try exact rfl))
  | ((with_reducible apply KV.wput_v); exact rfl; (first | exact rfl | assumption); (simp only [List.set_cons_zero, List.set_cons_succ]; try exact rfl))
  | ((with_reducible apply KV.wput_t); exact rfl; (first | exact rfl | assumption); (simp only [List.set_cons_zero, List.set_cons_succ]; try exact rfl))
  | ((with_reducible apply KV.wg_nm); exact rfl; (first | exact rfl | assumption); (simp only [List.set_cons_zero, List.set_cons_succ]; try exact rfl))
  | ((with_reducible apply KV.wcb); exact rfl)
  | ((with_reducible apply KV.wapp); exact rfl; (simp only [List.set_cons_zero, List.set_cons_succ]; try exact rfl))
  | ((with_reducible apply KV.wr_own); exact rfl)
  | ((with_reducible apply KV.wr_fz); exact rfl)
  | with_reducible refine KV.wt_and ?_
  | with_reducible refine KV.wt_or ?_
  | with_reducible refine KV.wsame ?_
  | with_reducible refine KV.wi_r1' ?_
  | with_reducible refine KV.wi_r2' ?_
  | ((with_reducible apply KV.wrg); omega; omega)
  | ((with_reducible apply KV.wrg2); omega; omega; omega; omega; omega)
  | with_reducible refine KV.and_t ?_
  | with_reducible refine KV.and_f ?_
  | with_reducible refine KV.and_nt ?_
  | with_reducible refine KV.and_nf ?_
  | with_reducible refine KV.and_dec ?_
  | with_reducible refine KV.and_ndec ?_
  | with_reducible refine And.intro (fun hb => ?_) (fun hb => ?_)
  | ((with_reducible refine And.intro ?_ (Nat.le_of_ble_eq_true rfl)))
  | with_reducible refine Exists.intro _ (And.intro rfl ?_)
  | fail "no step")
local macro_rules | `(tactic| array_get_dec) => `(tactic| ((with_reducible refine KL.take_r (by assumption) (by omega) (by omega) (fun d c h0 h1 hb => ?_)); (simp only [List.set_cons_zero, List.set_cons_succ])))
local macro_rules | `(tactic| array_get_dec) => `(tactic| first
  | with_reducible refine KV.wf_eq (KL.row_keys_add (by assumption) (by omega) (by omega)) ?_
  | with_reducible refine KV.wf_eq (KL.row_ints_add (by omega)) ?_
  | with_reducible refine KV.wf_eq KL.without_ints ?_
  | fail "no step")
local macro_rules | `(tactic| array_get_dec) => `(tactic| first
  | with_reducible refine KV.wt_andP ?_
  | with_reducible refine KV.wt_orP ?_
  | fail "no step")
namespace KL
open PySem PySem.Spec PyProof.Rows L2 KV
theorem and_r {a b : Bool} (h : (a && b) = true) : b = true := by cases a with | true => exact h | false => cases h
theorem gone_add {ks : List (Int × Int)} {gs : List Int} {k : Int} (h : ∀ g ∈ gs, g ∈ ks.map (·.1)) (hk : (!((ks.filter fun p => decide (p.1 = k)).map keyD).isEmpty) = true) : ∀ g ∈ sortD ltI (gs ++ [k]), g ∈ ks.map (·.1) := by
  intro g hg
  rcases List.mem_append.mp ((sortD_mem ltI_ok _ g).mp hg) with m | m
  · exact h g m
  · have : g = k := by simpa using m
    subst this
    cases e : ks.filter (fun p => decide (p.1 = g)) with
    | nil => rw [e] at hk; cases hk
    | cons p r =>
      have : p ∈ ks.filter (fun p => decide (p.1 = g)) := by rw [e]; simp
      obtain ⟨h1, h2⟩ := List.mem_filter.mp this
      exact List.mem_map.mpr ⟨p, h1, of_decide_eq_true h2⟩
theorem none_num {ks : List (Int × Int)} {k : Int} (hk : ((ks.filter fun p => decide (p.1 = k)).map keyD).isEmpty = true) : ∀ p ∈ ks, p.1 ≠ k := by
  intro p hp e
  have : p ∈ ks.filter (fun p => decide (p.1 = k)) := List.mem_filter.mpr ⟨hp, decide_eq_true e⟩
  rw [List.isEmpty_iff, List.map_eq_nil_iff] at hk
  rw [hk] at this
  cases this
theorem keys_add {ks : List (Int × Int)} {gs : List Int} {q : Int × Int} (h : ∀ g ∈ gs, g ∈ ks.map (·.1)) : ∀ g ∈ gs, g ∈ (sortD ltK (ks ++ [q])).map (·.1) := by
  intro g hg
  obtain ⟨p, hp, e⟩ := List.mem_map.mp (h g hg)
  exact List.mem_map.mpr ⟨p, (sortD_mem ltK_ok _ p).mpr (List.mem_append_left _ hp), e⟩
theorem keys_drop {ks : List (Int × Int)} {gs : List Int} {k : Int} (h : ∀ g ∈ gs, g ∈ ks.map (·.1)) : ∀ g ∈ gs.filter (fun i => !decide (i = k)), g ∈ (ks.filter fun p => !decide (p.1 = k)).map (·.1) := by
  intro g hg
  obtain ⟨h1, h2⟩ := List.mem_filter.mp hg
  obtain ⟨p, hp, e⟩ := List.mem_map.mp (h g h1)
  exact List.mem_map.mpr ⟨p, List.mem_filter.mpr ⟨hp, by rw [e]; exact h2⟩, e⟩
theorem none_len {ts : List (Int × Int)} {k : Int} (hk : (((ts.filter fun p => !decide (p.1 = k)).map keyD).length : Int) = ((ts.map keyD).length : Int)) : ∀ p ∈ ts, p.1 ≠ k := by
  intro p hp e
  rw [List.length_map, List.length_map] at hk
  have h1 : (ts.filter fun p => !decide (p.1 = k)).length = ts.length := by omega
  have h2 := (List.filter_eq_self (p := fun p : Int × Int => !decide (p.1 = k))).mp (List.filter_sublist.eq_of_length h1) p hp
  rw [e] at h2
  simp at h2
theorem len_sadd {b : Nat} {ns : List Int} {a : Int} (h : ns.length ≤ b) : (sortD ltI (ns ++ [a])).length ≤ b + 1 := by
  have := sortD_length ltI (ns ++ [a])
  rw [List.length_append] at this
  simp at this
  omega
theorem len_fil {b : Nat} {ns : List Int} {p : Int → Bool} (h : ns.length ≤ b) : (ns.filter p).length ≤ b + 1 := by
  have := List.length_filter_le p ns
  omega
theorem ver_finV {n b : Nat} {c : Ob} {ks : List (Int × Int)} {hs ms gs : List Int} {tr tr0 : Option (List (Int × Int))} {x : KV.R} (e : x = .val (verD ⟨ks, hs, tr, ms, gs⟩)) (h1 : KeysOk b ks) (h2 : hs.length ≤ b) (h3 : ∀ ts, tr = some ts → KeysOk b ts) (h4 : ms.length ≤ b) (h5 : gs.length ≤ b) (h6 : tr = none ↔ tr0 = none) (h7 : BxI n c) (h8 : VV ⟨ks, hs, tr, ms, gs⟩) :
    ∃ v', x = .val (verD v') ∧ VerOk b v' ∧ (v'.trust = none ↔ tr0 = none) ∧ VV v' ∧ BxI n c := ⟨_, e, ⟨h1, h2, h3, h4, h5⟩, h6, h8, h7⟩
theorem changed_v {n b : Nat} {c : Ob} (h : BxI n c) (hn : n ≤ 90000000) (hb : b ≤ 60) {v : Ver} (hv : VerOk b v) (hV : VV v) : wB G__law_changed c [verD v] fun z c' => ∃ v', z = .val (verD v') ∧ VerOk (b + 1) v' ∧ (v'.trust = none ↔ v.trust = none) ∧ VV v' ∧ BxI (n + 3) c' := by
  obtain ⟨ks, hs, tr, ms, gs⟩ := v
  obtain ⟨hk, hh, ht, hm, hg⟩ := hv
  obtain ⟨uk, uh, um, ug, us, ut, nk, nh, nm, ng, nt⟩ := hV
  dsimp only at hk hh ht hm hg uk uh um ug us ut nk nh nm ng nt
  have hk62 : KeysOk 62 ks := hk.mono (by omega)
  have hkl := hk.1
  unfold G__law_changed verD
  dsimp only
  refine wb_run (r := [.own c, .fz (.tuple [.tuple (ks.map keyD), .tuple (hs.map .int), belowD tr, .tuple (ms.map .int), .tuple (gs.map .int)]), .un, .un, .un, .un, .un, .un, .un, .un, .un, .un, .un]) rfl ?_
  unfold g__law_changed
  repeat' array_get_dec
  rename_i d0 c0 hd0 hd1 hb0 way c1 hw0 hw1 hb1
  refine wd_lcf' ?_
  repeat' array_get_dec
  refine ⟨rfl, numIs (1 + d0), id, fun d hd => ?_, ?_⟩
  · obtain ⟨p, _, rfl⟩ := List.mem_map.mp hd
    simp only [wipeE, List.set_cons_zero, List.set_cons_succ]
    unfold keyD
    repeat' array_get_dec
    refine ⟨rfl, fun _ => ?_, fun _ => rfl⟩
    repeat' array_get_dec
    exact ⟨rfl, rfl⟩
  rw [filter_numIs]
  simp only [unlck]
  repeat' array_get_dec
  all_goals first
    | (refine ver_finV (tr := tr) rfl ?_ ?_ (fun ts e => (ht ts e).mono (by omega)) ?_ ?_ Iff.rfl ?_ ?_
       · first | exact hk.mono (by omega) | exact (hk.add ⟨by omega, by omega⟩).sort
       · first | exact len_sadd hh | exact len_fil hh | omega
       · first | exact len_sadd hm | exact len_fil hm | omega
       · first | exact len_sadd hg | exact len_fil hg | omega
       · first | exact hb1.mono (by omega) | exact BxI.mono (by assumption) (by omega)
       · first
         | exact ⟨uk, uh, um, ug, us, ut, nk, nh, nm, ng, nt⟩
         | exact ⟨uk, up_filter _ uh, um, ug, us, ut, nk, nh.filter _, nm, ng, nt⟩
         | exact ⟨uk, up_sortI _, um, ug, us, ut, nk, (nh.add (by omega)).sort, nm, ng, nt⟩
         | exact ⟨uk, uh, up_filter _ um, ug, us, ut, nk, nh, nm.filter _, ng, nt⟩
         | exact ⟨uk, uh, up_sortI _, ug, us, ut, nk, nh, (nm.add (by omega)).sort, ng, nt⟩
         | exact ⟨uk, uh, um, up_filter _ ug, fun g hg => us g (List.mem_filter.mp hg).1, ut, nk, nh, nm, ng.filter _, nt⟩
         | exact ⟨uk, uh, um, up_sortI _, gone_add us (and_r (by assumption)), ut, nk, nh, nm, (ng.add (by omega)).sort, nt⟩
         | exact ⟨up_sort ((up_inj uk).add (none_num (and_r (by assumption)))), uh, um, ug, keys_add us, ut, (nk.add (by omega) (by omega)).sort, nh, nm, ng, nt⟩)
    | skip
  · refine wd_lcf' ?_
    repeat' array_get_dec
    refine ⟨rfl, numNot (1 + d0), id, fun d hd => ?_, ?_⟩
    · obtain ⟨p, _, rfl⟩ := List.mem_map.mp hd
      simp only [wipeE, List.set_cons_zero, List.set_cons_succ]
      unfold keyD
      repeat' array_get_dec
      refine ⟨rfl, fun _ => ?_, fun _ => rfl⟩
      repeat' array_get_dec
      exact ⟨rfl, rfl⟩
    rw [filter_numNot]
    simp only [unlck]
    repeat' array_get_dec
    exact ver_finV (tr := tr) rfl ((hk.filter _).mono (by omega)) (by omega) (fun ts e => (ht ts e).mono (by omega)) (by omega) (len_fil hg) Iff.rfl (hb1.mono (by omega)) ⟨up_filterK _ uk, uh, um, up_filter _ ug, keys_drop us, ut, nk.filter _, nh, nm, ng.filter _, nt⟩
  · rename_i hno
    cases tr with
    | none => simp [belowD, KV.isNon] at hno
    | some ts =>
      have hts := ht ts rfl
      have hts62 : KeysOk 62 ts := hts.mono (by omega)
      have htl := hts.1
      unfold belowD
      dsimp only
      refine wd_lcf' ?_
      repeat' array_get_dec
      refine ⟨rfl, numNot (1 + d0), id, fun d hd => ?_, ?_⟩
      · obtain ⟨p, _, rfl⟩ := List.mem_map.mp hd
        simp only [wipeE, List.set_cons_zero, List.set_cons_succ]
        unfold keyD
        repeat' array_get_dec
        refine ⟨rfl, fun _ => ?_, fun _ => rfl⟩
        repeat' array_get_dec
        exact ⟨rfl, rfl⟩
      rw [filter_numNot]
      simp only [unlck]
      repeat' array_get_dec
      · exact ver_finV (tr := some (sortD ltK (ts ++ [_]))) rfl (hk.mono (by omega)) (by omega) (fun ts' e => by cases e; exact (hts.add ⟨by omega, by omega⟩).sort) (by omega) (by omega) (by simp) (BxI.mono (by assumption) (by omega)) ⟨uk, uh, um, ug, us, fun ts' e => by cases e; exact up_sort ((up_inj (ut ts rfl)).add (none_len (by assumption))), nk, nh, nm, ng, fun ts' e => by cases e; exact ((nt ts rfl).add (by omega) (by omega)).sort⟩
      · exact ver_finV (tr := some (ts.filter fun p => !decide (p.1 = 1 + d0))) rfl (hk.mono (by omega)) (by omega) (fun ts' e => by cases e; exact (hts.filter _).mono (by omega)) (by omega) (by omega) (by simp) (hb1.mono (by omega)) ⟨uk, uh, um, ug, us, fun ts' e => by cases e; exact up_filterK _ (ut ts rfl), nk, nh, nm, ng, fun ts' e => by cases e; exact (nt ts rfl).filter _⟩
end KL

end

section
local macro_rules | `(tactic| array_get_dec) => `(tactic| first
  | ((with_reducible refine KV.gS ?_); (first
      | with_reducible refine KV.ws_seq ?_
      | with_reducible refine KV.ws_set ?_
      | with_reducible refine KV.ws_ret ?_
      | with_reducible refine KV.ws_asg ?_
      | with_reducible refine KV.ws_par' ?_
      | with_reducible refine KV.ws_parO ?_
      | with_reducible refine KV.ws_par3' ?_
      | with_reducible refine KV.ws_drop ?_
      | with_reducible refine KV.ws_setIx' ?_
      | with_reducible refine KV.ws_next ?_
      | with_reducible refine KV.ws_break ?_
      | ((with_reducible apply KV.ws_gf_fz); exact rfl)
      | ((with_reducible apply KV.ws_gf_own'); exact rfl; (simp only [List.set_cons_zero, List.set_cons_succ]; try exact rfl))
      | with_reducible refine KV.ws_if ?_))
  | ((with_reducible refine KV.gD ?_); (first
      | with_reducible refine KV.wd_c ?_
      | with_reducible refine KV.wd_bin ?_
      | with_reducible refine KV.wd_un ?_
      | with_reducible refine KV.wd_cb ?_
      | with_reducible refine KV.wd_tup' ?_
      | with_reducible refine KV.wd_lst' ?_
      | with_reducible refine KV.wd_call ?_
      | with_reducible refine KV.wd_callK ?_
      | with_reducible refine KV.wd_callT ?_
      | with_reducible refine KV.wd_v ?_
      | with_reducible refine KV.wd_slice ?_
      | with_reducible refine KV.wd_isi ?_
      | with_reducible refine KV.wd_isi2 ?_
      | ((with_reducible apply KV.wd_fz); exact rfl)
      | ((with_reducible apply KV.wd_own); exact rfl)
      | ((with_reducible apply KV.wd_lck); exact rfl)
      | ((with_reducible apply KV.wd_callB'); exact rfl)
      | ((with_reducible apply KV.wd_app'); exact rfl)
      | ((with_reducible apply KV.wd_pop); exact rfl)
      | with_reducible refine KV.wd_if ?_
      | with_reducible refine KV.wd_chP ?_))
  | ((with_reducible refine KV.gO ?_); (first
      | with_reducible refine KV.wo_add ?_
      | with_reducible refine KV.wo_sub ?_
      | with_reducible refine KV.wo_neg ?_
      | with_reducible refine KV.wo_c ?_
      | with_reducible refine KV.wo_isN ?_
      | with_reducible refine KV.wo_notN ?_
      | with_reducible refine KV.wo_eqI ?_
      | with_reducible refine KV.wo_neI ?_
      | with_reducible refine KV.wo_eqNil ?_
      | with_reducible refine KV.wo_eqB ?_
      | with_reducible refine KV.wo_neB ?_
      | with_reducible refine KV.wo_neNil ?_
      | with_reducible refine KV.wo_inT ?_
      | with_reducible refine KV.wo_inL ?_
      | with_reducible refine KV.wo_notInT ?_
      | with_reducible refine KV.wo_notInL ?_
      | with_reducible refine KV.wo_srt ?_
      | with_reducible refine KV.wo_srtR ?_
      | with_reducible refine KV.wo_rev ?_
      | with_reducible refine KV.wo_lenL ?_
      | with_reducible refine KV.wo_lenT ?_
      | with_reducible refine KV.wo_intI ?_
      | with_reducible refine KV.wo_tupL ?_
      | with_reducible refine KV.wo_tupT ?_
      | with_reducible refine KV.wo_lstL ?_
      | with_reducible refine KV.wo_lstT ?_
      | ((with_reducible apply KV.wo_ixT); exact rfl)
      | ((with_reducible apply KV.wo_ixL); exact rfl)
      | ((with_reducible refine KV.wo_isT (b := true) ?_ ?_); exact rfl)
      | ((with_reducible refine KV.wo_isT (b := false) ?_ ?_); exact rfl)
      | ((with_reducible refine KV.wo_isT2 (b := true) ?_ ?_); exact rfl)
      | ((with_reducible refine KV.wo_isT2 (b := false) ?_ ?_); exact rfl)
      | ((with_reducible apply KV.wo_mul); omega)
      | ((with_reducible apply KV.wo_mod); omega)
      | ((with_reducible apply KV.wo_div); omega)
      | ((with_reducible apply KV.wo_addL); (simp only [List.length_append, List.length_cons, List.length_nil, List.length_map]; omega))
      | ((with_reducible apply KV.wo_addT); (simp only [List.length_append, List.length_cons, List.length_nil, List.length_map]; omega))))
  | with_reducible refine KV.wput2 ?_
  | ((with_reducible apply KV.wown); exact rfl)
  | ((with_reducible apply KV.wsi); exact rfl; exact rfl; (simp only [List.set_cons_zero, List.set_cons_succ]; try exact rfl))
  | with_reducible refine KV.wparp ?_
  | with_reducible refine KV.wparp3 ?_
  | with_reducible refine KV.wst_val ?_
  | with_reducible refine KV.wst_tmp ?_
  | with_reducible refine KV.wst_slot ?_
  | with_reducible refine KV.wdr_val ?_
  | with_reducible refine KV.wdr_tmp ?_
  | with_reducible refine KV.wfz_val ?_
  | with_reducible refine KV.wfz_tmp ?_
  | with_reducible refine KV.wn_nil ?_
  | with_reducible refine KV.wn_cons ?_
  | with_reducible refine KV.wdrs_nil ?_
  | with_reducible refine KV.wdrs_cons ?_
  | with_reducible refine KV.wv_nil ?_
  | with_reducible refine KV.wv_cons ?_
  | with_reducible refine KV.wp_none ?_
  | with_reducible refine KV.wp_some ?_
  | with_reducible refine KV.wt_b ?_
  | with_reducible refine KV.wt_not ?_
  | with_reducible refine KV.wt_yes ?_
  | with_reducible refine KV.wgs_nil ?_
  | with_reducible refine KV.wgs_cons ?_
  | with_reducible refine KV.wg_tup ?_
  | with_reducible refine KV.wi_seq ?_
  | with_reducible refine KV.wsq_list ?_
  | with_reducible refine KV.wsq_tup ?_
  | ((with_reducible apply KV.wsq_own); exact rfl; (simp only [List.set_cons_zero, List.set_cons_succ]; try exact rfl))
  | ((with_reducible apply KV.wsq_lck); exact rfl)
  | with_reducible refine KV.wr_val ?_
  | with_reducible refine KV.wr_tmp ?_
  | ((with_reducible apply KV.wdr_fz); exact rfl)
  | ((with_reducible apply KV.wdr_own); exact rfl)
  | ((with_reducible apply KV.wdr_lck); exact rfl)
  | ((with_reducible apply KV.wfz_fz); exact rfl)
  | ((with_reducible apply KV.wfz_own); exact rfl; (simp only [List.set_cons_zero, List.set_cons_succ]; try exact rfl))
  | ((with_reducible apply KV.wput_v); exact rfl; (first | exact rfl | assumption); (simp only [List.set_cons_zero, List.set_cons_succ]; try exact rfl))
  | ((with_reducible apply KV.wput_t); exact rfl; (first | exact rfl | assumption); (simp only [List.set_cons_zero, List.set_cons_succ]; try exact rfl))
  | ((with_reducible apply KV.wg_nm); exact rfl; (first | exact rfl | assumption); (simp only [List.set_cons_zero, List.set_cons_succ]; try exact rfl))
  | ((with_reducible apply KV.wcb); exact rfl)
  | ((with_reducible apply KV.wapp); exact rfl; (simp only [List.set_cons_zero, List.set_cons_succ]; try exact rfl))
  | ((with_reducible apply KV.wr_own); exact rfl)
  | ((with_reducible apply KV.wr_fz); exact rfl)
  | with_reducible refine KV.wt_and ?_
  | with_reducible refine KV.wt_or ?_
  | with_reducible refine KV.wsame ?_
  | with_reducible refine KV.wi_r1' ?_
  | with_reducible refine KV.wi_r2' ?_
  | ((with_reducible apply KV.wrg); omega; omega)
  | ((with_reducible apply KV.wrg2); omega; omega; omega; omega; omega)
  | with_reducible refine KV.and_t ?_
  | with_reducible refine KV.and_f ?_
  | with_reducible refine KV.and_nt ?_
  | with_reducible refine KV.and_nf ?_
  | with_reducible refine KV.and_dec ?_
  | with_reducible refine KV.and_ndec ?_
  | with_reducible refine And.intro (fun hb => ?_) (fun hb => ?_)
  | ((with_reducible refine And.intro ?_ (Nat.le_of_ble_eq_true rfl)))
  | with_reducible refine Exists.intro _ (And.intro rfl ?_)
  | fail "no step")
local macro_rules | `(tactic| array_get_dec) => `(tactic| ((with_reducible refine KL.take_r (by assumption) (by omega) (by omega) (fun d c h0 h1 hb => ?_)); (simp only [List.set_cons_zero, List.set_cons_succ])))
namespace KL
open PySem PySem.Spec PyProof.Rows L2 KV
theorem begin_rv {n b : Nat} {c : Ob} (h : BxI n c) (hn : n ≤ 90000000) (hb : b ≤ 10) {ts : List (Int × Int)} (ht : KeysOk b ts) (hu : upB (ts.map (·.1)) = true) (h9 : ∀ p ∈ ts, p.1 ≠ 9) (hn9 : NK ts) {last : Bool} {Q : KV.R → Ob → Prop} (k : ∀ v c', VOk (2 * b + 3) last v → VV v → (∀ us, v.trust = some us → TrV us) → BxI (n + b + 4) c' → Q (.val (verD v)) c') : wB G__law_begin_of c [.tuple (ts.map keyD), .bool last] Q :=
  (begin_v h hn hb ht hu h9 hn9 last).mono fun z c' ⟨v, e, h1, h2, h4, h5, h3⟩ => by subst e; exact k v c' ⟨h1, h2⟩ h4 h5 h3
theorem changed_rv {n b : Nat} {c : Ob} (h : BxI n c) (hn : n ≤ 90000000) (hb : b ≤ 60) {last : Bool} {v : Ver} (hv : VOk b last v) (hV : VV v) {Q : KV.R → Ob → Prop} (k : ∀ v' c', VOk (b + 1) last v' → VV v' → BxI (n + 3) c' → Q (.val (verD v')) c') : wB G__law_changed c [verD v] Q :=
  (changed_v h hn hb hv.1 hV).mono fun z c' ⟨v', e, h1, h2, h4, h3⟩ => by subst e; exact k v' c' ⟨h1, h2.trans hv.2⟩ h4 h3
theorem zone_v {n : Nat} {c : Ob} (h : BxI n c) (hn : n ≤ 80000000) {ts : List (Int × Int)} (hT : TrV ts) (last : Bool) {many : Nat} (hm : 1 ≤ many ∧ many ≤ 10) : wB G__law_zone c [.tuple (ts.map keyD), .bool last, .int many] fun z c' => ∃ zn, z = .val (zoneD zn) ∧ ZnOk 30 last many zn ∧ (∀ p ∈ zn.line, VV p.2) ∧ (∃ v r, zn.line = (0, v) :: r ∧ ∀ us, v.trust = some us → TrV us) ∧ BxI (n + 200) c' := by
  have ht := hT.1
  unfold G__law_zone
  refine wb_run (r := [.own c, .fz (.tuple (ts.map keyD)), .fz (.bool last), .fz (.int many), .un, .un, .un, .un, .un, .un, .un]) rfl ?_
  unfold g__law_zone
  refine ws_cut (M := fun r1 => ∃ (c' : Ob) (v : Ver), r1 = [.own c', .fz (.tuple (ts.map keyD)), .fz (.bool last), .fz (.int many), .fz (verD v), .fz (.int 0), .un, .un, .un, .un, .un] ∧ VOk 7 last v ∧ VV v ∧ (∀ us, v.trust = some us → TrV us) ∧ BxI (n + 6) c') ?_ ?_
  · repeat' array_get_dec
    refine begin_rv h (by omega) (by omega) ht hT.2.1 hT.2.2.1 hT.2.2.2.2 fun v c' hv hV hu hb => ?_
    simp only [List.set_cons_zero, List.set_cons_succ]
    repeat' array_get_dec
    exact ⟨c', v, rfl, hv, hV, hu, hb⟩
  rintro _ ⟨c1, v0, rfl, hv0, hV0, hu0, hb1⟩
  refine ws_cut (M := fun r1 => r1 = [.own c1, .fz (.tuple (ts.map keyD)), .fz (.bool last), .fz (.int many), .fz (verD v0), .fz (.int 0), .own (.lst ([(0, v0)].map lineD)), .un, .un, .un, .un]) ?_ ?_
  · repeat' array_get_dec
    rfl
  rintro _ rfl
  refine ws_cut (M := fun r1 => ∃ (c' : Ob) (v : Ver) (ln : List (Int × Ver)) (m : Int) (s7 s8 : Sl), r1 = [.own c', .fz (.tuple (ts.map keyD)), .fz (.bool last), .fz (.int many), .fz (verD v), .fz (.int m), .own (.lst (ln.map lineD)), s7, s8, .un, .un] ∧ nlk s7 = true ∧ nlk s8 = true ∧ ln.length ≤ many ∧ LnOk 30 last m ln ∧ (∀ p ∈ ln, VV p.2) ∧ (∃ r, ln = (0, v0) :: r) ∧ m ≤ 7 * many ∧ BxI (n + 150) c') ?_ ?_
  · refine ws_forI ?_
    repeat' array_get_dec
    rename_i d c2 hd0 hd1 hb2
    refine ⟨rfl, fun i r1 => ∃ (c' : Ob) (v : Ver) (ln : List (Int × Ver)) (m : Int) (s7 s8 : Sl), r1 = [.own c', .fz (.tuple (ts.map keyD)), .fz (.bool last), .fz (.int many), .fz (verD v), .fz (.int m), .own (.lst (ln.map lineD)), s7, s8, .un, .un] ∧ nlk s7 = true ∧ nlk s8 = true ∧ ln.length = i + 1 ∧ LnOk (7 + 2 * i) last m ln ∧ (∀ p ∈ ln, VV p.2) ∧ (∃ r, ln = (0, v0) :: r) ∧ VV v ∧ VOk (7 + 2 * i) last v ∧ (0 ≤ m ∧ m ≤ 7 * i) ∧ BxI (n + 7 + 10 * i) c', ?_, ?_, ?_⟩
    · exact ⟨c2, v0, [(0, v0)], 0, .un, .un, rfl, rfl, rfl, rfl, LnOk.one hv0, by simpa using hV0, ⟨[], rfl⟩, hV0, hv0, by omega, hb2⟩
    · rintro i d _ hd ⟨c', v, ln, m, s7, s8, rfl, n7, n8, hl, hln, hlV, hl0, hV, hv, hm0, hbi⟩
      obtain ⟨hi, rfl⟩ := range_at hd
      refine wg_nm rfl n7 (by simp only [List.set_cons_zero, List.set_cons_succ]; exact rfl) ?_
      refine ws_cut (M := fun r1 => ∃ (c' : Ob) (e : Int), r1 = [.own c', .fz (.tuple (ts.map keyD)), .fz (.bool last), .fz (.int many), .fz (verD v), .fz (.int (m + 1 + e)), .own (.lst (ln.map lineD)), .fz (.int i), s8, .un, .un] ∧ 0 ≤ e ∧ e < 7 ∧ BxI (n + 8 + 10 * i) c') ?_ ?_
      · repeat' array_get_dec
        exact ⟨_, _, rfl, by assumption, by assumption, BxI.mono (by assumption) (by omega)⟩
      rintro _ ⟨c3, e, rfl, he0, he1, hb3⟩
      refine ws_cut (M := fun r1 => ∃ (c' : Ob) (v' : Ver) (s8 : Sl), r1 = [.own c', .fz (.tuple (ts.map keyD)), .fz (.bool last), .fz (.int many), .fz (verD v'), .fz (.int (m + 1 + e)), .own (.lst (ln.map lineD)), .fz (.int i), s8, .un, .un] ∧ nlk s8 = true ∧ VOk (7 + 2 * (i + 1)) last v' ∧ VV v' ∧ BxI (n + 16 + 10 * i) c') ?_ ?_
      · refine ws_forI ?_
        repeat' array_get_dec
        rename_i d2 c4 hd20 hd21 hb4
        refine ⟨rfl, fun j r1 => ∃ (c' : Ob) (v' : Ver) (s8 : Sl), r1 = [.own c', .fz (.tuple (ts.map keyD)), .fz (.bool last), .fz (.int many), .fz (verD v'), .fz (.int (m + 1 + e)), .own (.lst (ln.map lineD)), .fz (.int i), s8, .un, .un] ∧ nlk s8 = true ∧ VOk (7 + 2 * i + j) last v' ∧ VV v' ∧ BxI (n + 9 + 10 * i + 3 * j) c', ?_, ?_, ?_⟩
        · exact ⟨c4, v, s8, rfl, n8, hv, hV, hb4.mono (by omega)⟩
        · rintro j d3 _ hd3 ⟨c5, v5, s8', rfl, n8', hv5, hV5, hb5⟩
          obtain ⟨hj, rfl⟩ := range_at hd3
          refine wg_nm rfl n8' (by simp only [List.set_cons_zero, List.set_cons_succ]; exact rfl) ?_
          repeat' array_get_dec
          refine changed_rv hb5 (by omega) (by omega) hv5 hV5 fun v' c' hv' hV' hb' => ?_
          simp only [List.set_cons_zero, List.set_cons_succ]
          repeat' array_get_dec
          exact ⟨c', v', _, rfl, rfl, hv', hV', hb'.mono (by omega)⟩
        · rintro _ ⟨c5, v5, s8', rfl, n8', hv5, hV5, hb5⟩
          rw [rangeD_length] at hv5 hb5
          exact ⟨c5, v5, s8', rfl, n8', ⟨hv5.1.mono (by omega), hv5.2⟩, hV5, hb5.mono (by omega)⟩
      rintro _ ⟨c6, v6, s8', rfl, n8', hv6, hV6, hb6⟩
      repeat' array_get_dec
      · refine ⟨c6, v6, ln ++ [(m + 1 + e, v6)], m + 1 + e, _, s8', by rw [List.map_append]; rfl, rfl, n8', by rw [List.length_append, hl]; rfl, (hln.mono (by omega)).add (by omega) hv6, ?_, ?_, hV6, hv6, by omega, hb6.mono (by omega)⟩
        · intro p hp
          rcases List.mem_append.mp hp with q | q
          · exact hlV p q
          · simp at q; subst q; exact hV6
        · obtain ⟨r0, e0⟩ := hl0
          exact ⟨r0 ++ [_], by rw [e0]; rfl⟩
      · rw [sizeLine_eq, List.length_map]; omega
    · rintro _ ⟨c', v, ln, m, s7, s8, rfl, n7, n8, hl, hln, hlV, hl0, hV, hv, hm0, hbi⟩
      rw [rangeD_length] at hl hln hv hm0 hbi
      exact ⟨c', v, ln, m, s7, s8, rfl, n7, n8, by omega, hln.mono (by omega), hlV, hl0, by omega, hbi.mono (by omega)⟩
  rintro _ ⟨c2, v2, ln, m, s7, s8, rfl, n7, n8, hl, hln, hlV, ⟨r0, e0⟩, hm2, hb2⟩
  repeat' array_get_dec
  refine ⟨⟨ln, _, _, _, _, _⟩, rfl, ⟨hl, ⟨m, hln, hm2⟩, ?_, ?_, ?_, ?_, ?_⟩, hlV, ⟨v0, r0, e0, hu0⟩, BxI.mono (by assumption) (by omega)⟩
  all_goals dsimp only; omega
end KL

end

section
local macro_rules | `(tactic| array_get_dec) => `(tactic| first
  | ((with_reducible refine KV.gS ?_); (first
      | with_reducible refine KV.ws_seq ?_
      | with_reducible refine KV.ws_set ?_
      | with_reducible refine KV.ws_ret ?_
      | with_reducible refine KV.ws_asg ?_
      | with_reducible refine KV.ws_par' ?_
      | with_reducible refine KV.ws_parO ?_
      | with_reducible refine KV.ws_par3' ?_
      | with_reducible refine KV.ws_drop ?_
      | with_reducible refine KV.ws_setIx' ?_
      | with_reducible refine KV.ws_next ?_
      | with_reducible refine KV.ws_break ?_
      | ((with_reducible apply KV.ws_gf_fz); exact rfl)
      | ((with_reducible apply KV.ws_gf_own'); exact rfl; (simp only [List.set_cons_zero, List.set_cons_succ]; try exact rfl))
      | with_reducible refine KV.ws_if ?_))
  | ((with_reducible refine KV.gD ?_); (first
      | with_reducible refine KV.wd_c ?_
      | with_reducible refine KV.wd_bin ?_
      | with_reducible refine KV.wd_un ?_
      | with_reducible refine KV.wd_cb ?_
      | with_reducible refine KV.wd_tup' ?_
      | with_reducible refine KV.wd_lst' ?_
      | with_reducible refine KV.wd_call ?_
      | with_reducible refine KV.wd_callK ?_
      | with_reducible refine KV.wd_callT ?_
      | with_reducible refine KV.wd_v ?_
      | with_reducible refine KV.wd_slice ?_
      | with_reducible refine KV.wd_isi ?_
      | with_reducible refine KV.wd_isi2 ?_
      | ((with_reducible apply KV.wd_fz); exact rfl)
      | ((with_reducible apply KV.wd_own); exact rfl)
      | ((with_reducible apply KV.wd_lck); exact rfl)
      | ((with_reducible apply KV.wd_callB'); exact rfl)
      | ((with_reducible apply KV.wd_app'); exact rfl)
      | ((with_reducible apply KV.wd_pop); exact rfl)
      | with_reducible refine KV.wd_if ?_
      | with_reducible refine KV.wd_chP ?_))
  | ((with_reducible refine KV.gO ?_); (first
      | with_reducible refine KV.wo_add ?_
      | with_reducible refine KV.wo_sub ?_
      | with_reducible refine KV.wo_neg ?_
      | with_reducible refine KV.wo_c ?_
      | with_reducible refine KV.wo_isN ?_
      | with_reducible refine KV.wo_notN ?_
      | with_reducible refine KV.wo_eqI ?_
      | with_reducible refine KV.wo_neI ?_
      | with_reducible refine KV.wo_eqNil ?_
      | with_reducible refine KV.wo_eqB ?_
      | with_reducible refine KV.wo_neB ?_
      | with_reducible refine KV.wo_neNil ?_
      | with_reducible refine KV.wo_inT ?_
      | with_reducible refine KV.wo_inL ?_
      | with_reducible refine KV.wo_notInT ?_
      | with_reducible refine KV.wo_notInL ?_
      | with_reducible refine KV.wo_srt ?_
      | with_reducible refine KV.wo_srtR ?_
      | with_reducible refine KV.wo_rev ?_
      | with_reducible refine KV.wo_lenL ?_
      | with_reducible refine KV.wo_lenT ?_
      | with_reducible refine KV.wo_intI ?_
      | with_reducible refine KV.wo_tupL ?_
      | with_reducible refine KV.wo_tupT ?_
      | with_reducible refine KV.wo_lstL ?_
      | with_reducible refine KV.wo_lstT ?_
      | ((with_reducible apply KV.wo_ixT); exact rfl)
      | ((with_reducible apply KV.wo_ixL); exact rfl)
      | ((with_reducible refine KV.wo_isT (b := true) ?_ ?_); exact rfl)
      | ((with_reducible refine KV.wo_isT (b := false) ?_ ?_); exact rfl)
      | ((with_reducible refine KV.wo_isT2 (b := true) ?_ ?_); exact rfl)
      | ((with_reducible refine KV.wo_isT2 (b := false) ?_ ?_); exact rfl)
      | ((with_reducible apply KV.wo_mul); omega)
      | ((with_reducible apply KV.wo_mod); omega)
      | ((with_reducible apply KV.wo_div); omega)
      | ((with_reducible apply KV.wo_addL); (simp only [List.length_append, List.length_cons, List.length_nil, List.length_map]; omega))
      | ((with_reducible apply KV.wo_addT); (simp only [List.length_append, List.length_cons, List.length_nil, List.length_map]; omega))))
  | with_reducible refine KV.wput2 ?_
  | ((with_reducible apply KV.wown); exact rfl)
  | ((with_reducible apply KV.wsi); exact rfl; exact rfl; (simp only [List.set_cons_zero, List.set_cons_succ]; try exact rfl))
  | with_reducible refine KV.wparp ?_
  | with_reducible refine KV.wparp3 ?_
  | with_reducible refine KV.wst_val ?_
  | with_reducible refine KV.wst_tmp ?_
  | with_reducible refine KV.wst_slot ?_
  | with_reducible refine KV.wdr_val ?_
  | with_reducible refine KV.wdr_tmp ?_
  | with_reducible refine KV.wfz_val ?_
  | with_reducible refine KV.wfz_tmp ?_
  | with_reducible refine KV.wn_nil ?_
  | with_reducible refine KV.wn_cons ?_
  | with_reducible refine KV.wdrs_nil ?_
  | with_reducible refine KV.wdrs_cons ?_
  | with_reducible refine KV.wv_nil ?_
  | with_reducible refine KV.wv_cons ?_
  | with_reducible refine KV.wp_none ?_
  | with_reducible refine KV.wp_some ?_
  | with_reducible refine KV.wt_b ?_
  | with_reducible refine KV.wt_not ?_
  | with_reducible refine KV.wt_yes ?_
  | with_reducible refine KV.wgs_nil ?_
  | with_reducible refine KV.wgs_cons ?_
  | with_reducible refine KV.wg_tup ?_
  | with_reducible refine KV.wi_seq ?_
  | with_reducible refine KV.wsq_list ?_
  | with_reducible refine KV.wsq_tup ?_
  | ((with_reducible apply KV.wsq_own); exact rfl; (simp only [List.set_cons_zero, List.set_cons_succ]; try exact rfl))
  | ((with_reducible apply KV.wsq_lck); exact rfl)
  | with_reducible refine KV.wr_val ?_
  | with_reducible refine KV.wr_tmp ?_
  | ((with_reducible apply KV.wdr_fz); exact rfl)
  | ((with_reducible apply KV.wdr_own); exact rfl)
  | ((with_reducible apply KV.wdr_lck); exact rfl)
  | ((with_reducible apply KV.wfz_fz); exact rfl)
  | ((with_reducible apply KV.wfz_own); exact rfl; (simp only [List.set_cons_zero, List.set_cons_succ]; try exact rfl))
  | ((with_reducible apply KV.wput_v); exact rfl; (first | exact rfl | assumption); (simp only [List.set_cons_zero, List.set_cons_succ]; try exact rfl))
  | ((with_reducible apply KV.wput_t); exact rfl; (first | exact rfl | assumption); (simp only [List.set_cons_zero, List.set_cons_succ]; try exact rfl))
  | ((with_reducible apply KV.wg_nm); exact rfl; (first | exact rfl | assumption); (simp only [List.set_cons_zero, List.set_cons_succ]; try exact rfl))
  | ((with_reducible apply KV.wcb); exact rfl)
  | ((with_reducible apply KV.wapp); exact rfl; (simp only [List.set_cons_zero, List.set_cons_succ]; try exact rfl))
  | ((with_reducible apply KV.wr_own); exact rfl)
  | ((with_reducible apply KV.wr_fz); exact rfl)
  | with_reducible refine KV.wt_and ?_
  | with_reducible refine KV.wt_or ?_
  | with_reducible refine KV.wsame ?_
  | with_reducible refine KV.wi_r1' ?_
  | with_reducible refine KV.wi_r2' ?_
  | ((with_reducible apply KV.wrg); omega; omega)
  | ((with_reducible apply KV.wrg2); omega; omega; omega; omega; omega)
  | with_reducible refine KV.and_t ?_
  | with_reducible refine KV.and_f ?_
  | with_reducible refine KV.and_nt ?_
  | with_reducible refine KV.and_nf ?_
  | with_reducible refine KV.and_dec ?_
  | with_reducible refine KV.and_ndec ?_
  | with_reducible refine And.intro (fun hb => ?_) (fun hb => ?_)
  | ((with_reducible refine And.intro ?_ (Nat.le_of_ble_eq_true rfl)))
  | with_reducible refine Exists.intro _ (And.intro rfl ?_)
  | fail "no step")
namespace KL
open PySem PySem.Spec PyProof.Rows L2 KV
/-! sizes: what a repr costs at most -/
mutual
def lfB (b : Nat) : PyData → Bool
  | .int i => decide (i.natAbs < 10 ^ 21 + 10 * b)
  | .str s => decide (s ∈ [("" : Str), "any", "each", "Any", "keys"])
  | .list xs | .tuple xs => lfAll b xs
  | .dict _ => false
  | _ => true
def lfAll (b : Nat) : List PyData → Bool
  | [] => true
  | x :: xs => lfB b x && lfAll b xs
end
mutual
def costD : PyData → Nat
  | .int _ => 24
  | .list xs | .tuple xs => costAll xs + 3
  | _ => 10
def costAll : List PyData → Nat
  | [] => 0
  | x :: xs => costD x + 2 + costAll xs
end
theorem lfAll_iff {b : Nat} : ∀ xs : List PyData, lfAll b xs = true ↔ ∀ x ∈ xs, lfB b x = true
  | [] => by simp [lfAll]
  | x :: xs => by rw [lfAll, Bool.and_eq_true, lfAll_iff xs]; simp
theorem costAll_le {w : Nat} : ∀ {xs : List PyData}, (∀ x ∈ xs, costD x ≤ w) → costAll xs ≤ xs.length * (w + 2)
  | [], _ => Nat.zero_le _
  | x :: xs, h => by
    have h1 := h x (by simp)
    have h2 := costAll_le fun y hy => h y (List.mem_cons_of_mem _ hy)
    rw [costAll, List.length_cons, Nat.succ_mul]
    omega
theorem costAll_app : ∀ xs ys : List PyData, costAll (xs ++ ys) = costAll xs + costAll ys
  | [], ys => by simp [costAll]
  | x :: xs, ys => by rw [List.cons_append, costAll, costAll, costAll_app xs ys]; omega
theorem shown_int22 {i : Int} (h : i.natAbs < 10 ^ 22) : (PyData.shown (.int i)).length ≤ 24 := by
  have := PySem.int_text_length_le10 (a := i) (k := 22) (by omega) h
  have e : (PyData.shown (.int i)).length = (toString i).length := by
    show (Str.ofString (toString i)).length = _
    exact PySem.ofString_length _
  omega
mutual
theorem shown_cost {b : Nat} (hb : b ≤ 60) : ∀ d : PyData, lfB b d = true → (PyData.shown d).length ≤ costD d
  | .none, _ => by decide
  | .bool true, _ => by decide
  | .bool false, _ => by decide
  | .int i, h => shown_int22 (by
      have h : i.natAbs < 10 ^ 21 + 10 * b := by simpa [lfB] using h
      omega)
  | .str s, h => by
    have h : s ∈ [("" : Str), "any", "each", "Any", "keys"] := by rw [lfB] at h; exact of_decide_eq_true h
    have key : ∀ s ∈ [("" : Str), "any", "each", "Any", "keys"], (PyData.shown (.str s)).length ≤ 10 := by decide +kernel
    exact key s h
  | .list xs, h => by
    have h2 := shownAll_cost hb xs (by simpa [lfB] using h)
    have h3 := listText_len_le (PyData.shownAll xs)
    rw [PyData.shown, costD]
    have : (PyData.shownAll xs).length = xs.length := shownAll_len xs
    omega
  | .tuple xs, h => by
    have h2 := shownAll_cost hb xs (by simpa [lfB] using h)
    have h3 := tupleText_len_le (PyData.shownAll xs)
    rw [PyData.shown, costD]
    have : (PyData.shownAll xs).length = xs.length := shownAll_len xs
    omega
  | .dict _, h => by simp [lfB] at h
theorem shownAll_cost {b : Nat} (hb : b ≤ 60) : ∀ xs : List PyData, lfAll b xs = true → ((PyData.shownAll xs).map (·.length)).sum + 2 * xs.length ≤ costAll xs
  | [], _ => by simp [PyData.shownAll, costAll]
  | x :: xs, h => by
    rw [lfAll, Bool.and_eq_true] at h
    have h1 := shown_cost hb x h.1
    have h2 := shownAll_cost hb xs h.2
    rw [PyData.shownAll, costAll]
    simp only [List.map_cons, List.sum_cons, List.length_cons]
    omega
theorem shownAll_len : ∀ xs : List PyData, (PyData.shownAll xs).length = xs.length
  | [] => rfl
  | x :: xs => by rw [PyData.shownAll, List.length_cons, List.length_cons, shownAll_len xs]
end
mutual
theorem lf_showable {b : Nat} (hb : b ≤ 60) : ∀ d : PyData, lfB b d = true → d.showable = true
  | .none, _ => rfl
  | .bool _, _ => rfl
  | .int i, h => by
    have h : i.natAbs < 10 ^ 21 + 10 * b := by simpa [lfB] using h
    have h : i.natAbs < 10 ^ 22 := by omega
    rw [PyData.showable, decide_eq_true_eq]
    by_cases h0 : i.natAbs = 0
    · rw [h0]; decide
    · rw [Nat.log2_lt h0]
      exact Nat.lt_of_lt_of_le h (Nat.le_trans (show 10 ^ 22 ≤ 2 ^ 80 by decide) (Nat.pow_le_pow_right (by decide) (by decide)))
  | .str _, _ => rfl
  | .list xs, h => by rw [PyData.showable]; exact lf_showableAll hb xs (by simpa [lfB] using h)
  | .tuple xs, h => by rw [PyData.showable]; exact lf_showableAll hb xs (by simpa [lfB] using h)
  | .dict _, h => by simp [lfB] at h
theorem lf_showableAll {b : Nat} (hb : b ≤ 60) : ∀ xs : List PyData, lfAll b xs = true → PyData.showableAll xs = true
  | [], _ => rfl
  | x :: xs, h => by
    rw [lfAll, Bool.and_eq_true] at h
    rw [PyData.showableAll, lf_showable hb x h.1, lf_showableAll hb xs h.2]
    rfl
end
/-- data with rows of at most b, n deep, of cost at most w -/
def okB (b : Nat) : Nat → PyData → Bool
  | 0, _ => false
  | n + 1, .list xs => decide (xs.length ≤ b) && xs.all (okB b n)
  | n + 1, .tuple xs => decide (xs.length ≤ b) && xs.all (okB b n)
  | _ + 1, .dict _ => false
  | _ + 1, _ => true
structure Sz (b n w : Nat) (d : PyData) : Prop where
  ok : okB b n d = true
  lf : lfB b d = true
  ct : costD d ≤ w
theorem okB_okS {b : Nat} (hb : b ≤ 60) : ∀ (n : Nat) (d : PyData), okB b n d = true → okS n d = true
  | 0, _, h => by simp [okB] at h
  | n + 1, .list xs, h => by
    have h : xs.length ≤ b ∧ ∀ x ∈ xs, okB b n x = true := by simpa [okB] using h
    exact okS_mkL (by omega) fun x hx => okB_okS hb n x (h.2 x hx)
  | n + 1, .tuple xs, h => by
    have h : xs.length ≤ b ∧ ∀ x ∈ xs, okB b n x = true := by simpa [okB] using h
    exact okS_mkT (by omega) fun x hx => okB_okS hb n x (h.2 x hx)
  | n + 1, .none, _ => rfl
  | n + 1, .bool _, _ => rfl
  | n + 1, .int _, _ => rfl
  | n + 1, .str _, _ => rfl
  | n + 1, .dict _, h => by simp [okB] at h
theorem okB_mono {b c : Nat} (hb : b ≤ c) : ∀ (n m : Nat) (d : PyData), n ≤ m → okB b n d = true → okB c m d = true
  | 0, _, _, _, h => by simp [okB] at h
  | n + 1, 0, _, h, _ => by omega
  | n + 1, m + 1, .list xs, hm, h => by
    have h : xs.length ≤ b ∧ ∀ x ∈ xs, okB b n x = true := by simpa [okB] using h
    have : xs.length ≤ c ∧ ∀ x ∈ xs, okB c m x = true := ⟨by omega, fun x hx => okB_mono hb n m x (by omega) (h.2 x hx)⟩
    simpa [okB] using this
  | n + 1, m + 1, .tuple xs, hm, h => by
    have h : xs.length ≤ b ∧ ∀ x ∈ xs, okB b n x = true := by simpa [okB] using h
    have : xs.length ≤ c ∧ ∀ x ∈ xs, okB c m x = true := ⟨by omega, fun x hx => okB_mono hb n m x (by omega) (h.2 x hx)⟩
    simpa [okB] using this
  | n + 1, m + 1, .none, _, _ => rfl
  | n + 1, m + 1, .bool _, _, _ => rfl
  | n + 1, m + 1, .int _, _, _ => rfl
  | n + 1, m + 1, .str _, _, _ => rfl
  | n + 1, m + 1, .dict _, _, h => by simp [okB] at h
mutual
theorem lf_mono {b c : Nat} (hb : b ≤ c) : ∀ d : PyData, lfB b d = true → lfB c d = true
  | .none, _ => rfl
  | .bool _, _ => rfl
  | .int i, h => by
    have h : i.natAbs < 10 ^ 21 + 10 * b := by simpa [lfB] using h
    rw [lfB, decide_eq_true_eq]
    omega
  | .str _, h => h
  | .list xs, h => by rw [lfB]; exact lf_monoAll hb xs (by simpa [lfB] using h)
  | .tuple xs, h => by rw [lfB]; exact lf_monoAll hb xs (by simpa [lfB] using h)
  | .dict _, h => by simp [lfB] at h
theorem lf_monoAll {b c : Nat} (hb : b ≤ c) : ∀ xs : List PyData, lfAll b xs = true → lfAll c xs = true
  | [], _ => rfl
  | x :: xs, h => by
    rw [lfAll, Bool.and_eq_true] at h
    rw [lfAll, lf_mono hb x h.1, lf_monoAll hb xs h.2]
    rfl
end
theorem Sz.mono {b n w b2 n2 w2 : Nat} {d : PyData} (h : Sz b n w d) (h1 : b ≤ b2) (h2 : n ≤ n2) (h3 : w ≤ w2) : Sz b2 n2 w2 d := ⟨okB_mono h1 n n2 d h2 h.ok, lf_mono h1 d h.lf, Nat.le_trans h.ct h3⟩
theorem sz_items {b n : Nat} {xs : List PyData} {d : PyData} (hd : d = .list xs ∨ d = .tuple xs) {w : Nat} (h : Sz b n w d) : ∃ m, n = m + 1 ∧ xs.length ≤ b ∧ (∀ x ∈ xs, okB b m x = true) ∧ (∀ x ∈ xs, lfB b x = true) ∧ costAll xs + 3 ≤ w := by
  obtain ⟨h1, h2, h3⟩ := h
  cases n with
  | zero => simp [okB] at h1
  | succ n =>
    rcases hd with rfl | rfl
    · have h1 : xs.length ≤ b ∧ ∀ x ∈ xs, okB b n x = true := by simpa [okB] using h1
      rw [costD] at h3
      rw [lfB, lfAll_iff] at h2
      exact ⟨n, rfl, h1.1, h1.2, h2, h3⟩
    · have h1 : xs.length ≤ b ∧ ∀ x ∈ xs, okB b n x = true := by simpa [okB] using h1
      rw [costD] at h3
      rw [lfB, lfAll_iff] at h2
      exact ⟨n, rfl, h1.1, h1.2, h2, h3⟩
theorem sz_mk {b m w : Nat} {xs : List PyData} {d : PyData} (hd : d = .list xs ∨ d = .tuple xs) (h0 : xs.length ≤ b) (h1 : ∀ x ∈ xs, okB b m x = true) (h2 : ∀ x ∈ xs, lfB b x = true) (h3 : costAll xs + 3 ≤ w) : Sz b (m + 1) w d := by
  rcases hd with rfl | rfl
  · exact ⟨by have : xs.length ≤ b ∧ ∀ x ∈ xs, okB b m x = true := ⟨h0, h1⟩
              simpa [okB] using this, by rw [lfB, lfAll_iff]; exact h2, by rw [costD]; exact h3⟩
  · exact ⟨by have : xs.length ≤ b ∧ ∀ x ∈ xs, okB b m x = true := ⟨h0, h1⟩
              simpa [okB] using this, by rw [lfB, lfAll_iff]; exact h2, by rw [costD]; exact h3⟩
theorem sz_tup {b n w k : Nat} {xs : List PyData} (h : ∀ x ∈ xs, Sz b n w x) (hl : xs.length ≤ k) (hk : k ≤ b) : Sz b (n + 1) (k * (w + 2) + 3) (.tuple xs) :=
  sz_mk (.inr rfl) (by omega) (fun x hx => (h x hx).ok) (fun x hx => (h x hx).lf) (by
    have := costAll_le fun x hx => (h x hx).ct
    have := Nat.mul_le_mul_right (w + 2) hl
    omega)
theorem sz_int {b : Nat} {i : Int} (h : 0 ≤ i ∧ i ≤ 1000) : Sz b 1 24 (.int i) := ⟨rfl, by
  rw [lfB, decide_eq_true_eq]
  have : i.natAbs ≤ 1000 := by omega
  have : (1000 : Nat) < 10 ^ 21 := by decide
  omega, Nat.le_refl _⟩
theorem wo_repr {b n w : Nat} {d : PyData} (h : Sz b n w d) (hb : b ≤ 60) (hn : n ≤ 60) (hw : w ≤ 16777216) {QR : KV.R → Prop} (q : QR (.val (.str d.shown))) : wO (opRepr [d]) QR := ⟨_, by
  unfold opRepr
  refine if_pos ⟨lf_showable hb d h.lf, ?_, ?_⟩
  · have h1 := shown_cost hb d h.lf
    have h2 := h.ct
    rw [sizeLine_eq]
    omega
  · have := okD_depth n d (okS_okD n d (okB_okS hb n d h.ok))
    omega, q⟩
end KL

end

section
local macro_rules | `(tactic| array_get_dec) => `(tactic| first
  | ((with_reducible refine KV.gS ?_); (first
      | with_reducible refine KV.ws_seq ?_
      | with_reducible refine KV.ws_set ?_
      | with_reducible refine KV.ws_ret ?_
      | with_reducible refine KV.ws_asg ?_
      | with_reducible refine KV.ws_par' ?_
      | with_reducible refine KV.ws_parO ?_
      | with_reducible refine KV.ws_par3' ?_
      | with_reducible refine KV.ws_drop ?_
      | with_reducible refine KV.ws_setIx' ?_
      | with_reducible refine KV.ws_next ?_
      | with_reducible refine KV.ws_break ?_
      | ((with_reducible apply KV.ws_gf_fz); exact rfl)
      | ((with_reducible apply KV.ws_gf_own'); exact rfl; (simp only [List.set_cons_zero, List.set_cons_succ]; try exact rfl))
      | with_reducible refine KV.ws_if ?_))
  | ((with_reducible refine KV.gD ?_); (first
      | with_reducible refine KV.wd_c ?_
      | with_reducible refine KV.wd_bin ?_
      | with_reducible refine KV.wd_un ?_
      | with_reducible refine KV.wd_cb ?_
      | with_reducible refine KV.wd_tup' ?_
      | with_reducible refine KV.wd_lst' ?_
      | with_reducible refine KV.wd_call ?_
      | with_reducible refine KV.wd_callK ?_
      | with_reducible refine KV.wd_callT ?_
      | with_reducible refine KV.wd_v ?_
      | with_reducible refine KV.wd_slice ?_
      | with_reducible refine KV.wd_isi ?_
      | with_reducible refine KV.wd_isi2 ?_
      | ((with_reducible apply KV.wd_fz); exact rfl)
      | ((with_reducible apply KV.wd_own); exact rfl)
      | ((with_reducible apply KV.wd_lck); exact rfl)
      | ((with_reducible apply KV.wd_callB'); exact rfl)
      | ((with_reducible apply KV.wd_app'); exact rfl)
      | ((with_reducible apply KV.wd_pop); exact rfl)
      | with_reducible refine KV.wd_if ?_
      | with_reducible refine KV.wd_chP ?_))
  | ((with_reducible refine KV.gO ?_); (first
      | with_reducible refine KV.wo_add ?_
      | with_reducible refine KV.wo_sub ?_
      | with_reducible refine KV.wo_neg ?_
      | with_reducible refine KV.wo_c ?_
      | with_reducible refine KV.wo_isN ?_
      | with_reducible refine KV.wo_notN ?_
      | with_reducible refine KV.wo_eqI ?_
      | with_reducible refine KV.wo_neI ?_
      | with_reducible refine KV.wo_eqNil ?_
      | with_reducible refine KV.wo_eqB ?_
      | with_reducible refine KV.wo_neB ?_
      | with_reducible refine KV.wo_neNil ?_
      | with_reducible refine KV.wo_inT ?_
      | with_reducible refine KV.wo_inL ?_
      | with_reducible refine KV.wo_notInT ?_
      | with_reducible refine KV.wo_notInL ?_
      | with_reducible refine KV.wo_srt ?_
      | with_reducible refine KV.wo_srtR ?_
      | with_reducible refine KV.wo_rev ?_
      | with_reducible refine KV.wo_lenL ?_
      | with_reducible refine KV.wo_lenT ?_
      | with_reducible refine KV.wo_intI ?_
      | with_reducible refine KV.wo_tupL ?_
      | with_reducible refine KV.wo_tupT ?_
      | with_reducible refine KV.wo_lstL ?_
      | with_reducible refine KV.wo_lstT ?_
      | ((with_reducible apply KV.wo_ixT); exact rfl)
      | ((with_reducible apply KV.wo_ixL); exact rfl)
      | ((with_reducible refine KV.wo_isT (b := true) ?_ ?_); exact rfl)
      | ((with_reducible refine KV.wo_isT (b := false) ?_ ?_); exact rfl)
      | ((with_reducible refine KV.wo_isT2 (b := true) ?_ ?_); exact rfl)
      | ((with_reducible refine KV.wo_isT2 (b := false) ?_ ?_); exact rfl)
      | ((with_reducible apply KV.wo_mul); omega)
      | ((with_reducible apply KV.wo_mod); omega)
      | ((with_reducible apply KV.wo_div); omega)
      | ((with_reducible apply KV.wo_addL); (simp only [List.length_append, List.length_cons, List.length_nil, List.length_map]; omega))
      | ((with_reducible apply KV.wo_addT); (simp only [List.length_append, List.length_cons, List.length_nil, List.length_map]; omega))))
  | with_reducible refine KV.wput2 ?_
  | ((with_reducible apply KV.wown); exact rfl)
  | ((with_reducible apply KV.wsi); exact rfl; exact rfl; (simp only [List.set_cons_zero, List.set_cons_succ]; try exact rfl))
  | with_reducible refine KV.wparp ?_
  | with_reducible refine KV.wparp3 ?_
  | with_reducible refine KV.wst_val ?_
  | with_reducible refine KV.wst_tmp ?_
  | with_reducible refine KV.wst_slot ?_
  | with_reducible refine KV.wdr_val ?_
  | with_reducible refine KV.wdr_tmp ?_
  | with_reducible refine KV.wfz_val ?_
  | with_reducible refine KV.wfz_tmp ?_
  | with_reducible refine KV.wn_nil ?_
  | with_reducible refine KV.wn_cons ?_
  | with_reducible refine KV.wdrs_nil ?_
  | with_reducible refine KV.wdrs_cons ?_
  | with_reducible refine KV.wv_nil ?_
  | with_reducible refine KV.wv_cons ?_
  | with_reducible refine KV.wp_none ?_
  | with_reducible refine KV.wp_some ?_
  | with_reducible refine KV.wt_b ?_
  | with_reducible refine KV.wt_not ?_
  | with_reducible refine KV.wt_yes ?_
  | with_reducible refine KV.wgs_nil ?_
  | with_reducible refine KV.wgs_cons ?_
  | with_reducible refine KV.wg_tup ?_
  | with_reducible refine KV.wi_seq ?_
  | with_reducible refine KV.wsq_list ?_
  | with_reducible refine KV.wsq_tup ?_
  | ((with_reducible apply KV.wsq_own); exact rfl; (simp only [List.set_cons_zero, List.set_cons_succ]; try exact rfl))
  | ((with_reducible apply KV.wsq_lck); exact rfl)
  | with_reducible refine KV.wr_val ?_
  | with_reducible refine KV.wr_tmp ?_
  | ((with_reducible apply KV.wdr_fz); exact rfl)
  | ((with_reducible apply KV.wdr_own); exact rfl)
  | ((with_reducible apply KV.wdr_lck); exact rfl)
  | ((with_reducible apply KV.wfz_fz); exact rfl)
  | ((with_reducible apply KV.wfz_own); exact rfl; (simp only [List.set_cons_zero, List.set_cons_succ]; try exact rfl))
  | ((with_reducible apply KV.wput_v); exact rfl; (first | exact rfl | assumption); (simp only [List.set_cons_zero, List.set_cons_succ]; try exact rfl))
  | ((with_reducible apply KV.wput_t); exact rfl; (first | exact rfl | assumption); (simp only [List.set_cons_zero, List.set_cons_succ]; try exact rfl))
  | ((with_reducible apply KV.wg_nm); exact rfl; (first | exact rfl | assumption); (simp only [List.set_cons_zero, List.set_cons_succ]; try exact rfl))
  | ((with_reducible apply KV.wcb); exact rfl)
  | ((with_reducible apply KV.wapp); exact rfl; (simp only [List.set_cons_zero, List.set_cons_succ]; try exact rfl))
  | ((with_reducible apply KV.wr_own); exact rfl)
  | ((with_reducible apply KV.wr_fz); exact rfl)
  | with_reducible refine KV.wt_and ?_
  | with_reducible refine KV.wt_or ?_
  | with_reducible refine KV.wsame ?_
  | with_reducible refine KV.wi_r1' ?_
  | with_reducible refine KV.wi_r2' ?_
  | ((with_reducible apply KV.wrg); omega; omega)
  | ((with_reducible apply KV.wrg2); omega; omega; omega; omega; omega)
  | with_reducible refine KV.and_t ?_
  | with_reducible refine KV.and_f ?_
  | with_reducible refine KV.and_nt ?_
  | with_reducible refine KV.and_nf ?_
  | with_reducible refine KV.and_dec ?_
  | with_reducible refine KV.and_ndec ?_
  | with_reducible refine And.intro (fun hb => ?_) (fun hb => ?_)
  | ((with_reducible refine And.intro ?_ (Nat.le_of_ble_eq_true rfl)))
  | with_reducible refine Exists.intro _ (And.intro rfl ?_)
  | fail "no step")
local macro_rules | `(tactic| array_get_dec) => `(tactic| ((with_reducible refine KL.take_r (by assumption) (by omega) (by omega) (fun d c h0 h1 hb => ?_)); (simp only [List.set_cons_zero, List.set_cons_succ])))
namespace KL
open PySem PySem.Spec PyProof.Rows L2 KV
theorem sz_keys {ks : List (Int × Int)} (h : NK ks) (hl : ks.length ≤ 30) : Sz 30 3 1713 (.tuple (ks.map keyD)) :=
  sz_tup (n := 2) (w := 55) (k := 30) (fun x hx => by
    obtain ⟨p, hp, rfl⟩ := List.mem_map.mp hx
    have hp := h p hp
    exact sz_tup (n := 1) (w := 24) (k := 2) (fun y hy => by
      rcases List.mem_cons.mp hy with rfl | hy
      · exact sz_int (by omega)
      · rw [List.mem_singleton.mp hy]; exact sz_int (by omega)) (Nat.le_refl 2) (by omega)) (by rw [List.length_map]; exact hl) (Nat.le_refl _)
theorem sz_nums {ns : List Int} (h : NI ns) (hl : ns.length ≤ 30) : Sz 30 3 1713 (.tuple (ns.map .int)) :=
  (sz_tup (n := 1) (w := 24) (k := 30) (fun x hx => by
    obtain ⟨p, hp, rfl⟩ := List.mem_map.mp hx
    have hp := h p hp
    exact sz_int (by omega)) (by rw [List.length_map]; exact hl) (Nat.le_refl _)).mono (Nat.le_refl _) (by omega) (by omega)
theorem sz_ver {v : Ver} (h : VerOk 30 v) (u : VV v) : Sz 30 4 8578 (verD v) :=
  sz_tup (n := 3) (w := 1713) (k := 5) (fun x hx => by
    simp only [List.mem_cons, List.not_mem_nil, or_false] at hx
    rcases hx with rfl | rfl | rfl | rfl | rfl
    · exact sz_keys u.nk h.keys.1
    · exact sz_nums u.nh h.heads
    · cases e : v.trust with
      | none => exact ⟨rfl, rfl, by show 10 ≤ 1713; omega⟩
      | some ts => exact sz_keys (u.nt ts e) (h.trust ts e).1
    · exact sz_nums u.nm h.marks
    · exact sz_nums u.ng h.gone) (Nat.le_refl 5) (by omega)
theorem line_ok {last : Bool} {m : Int} {ln : List (Int × Ver)} (h : LnOk 30 last m ln) (u : ∀ p ∈ ln, VV p.2) : lineB (.tuple (ln.map lineD)) = true := by
  have e1 : (ln.map lineD).map timeD = ln.map (·.1) := by rw [List.map_map]; rfl
  have e2 : (ln.map lineD).all entB = true := by
    rw [List.all_map, List.all_eq_true]
    intro p hp
    show (decide (0 ≤ p.1) && versB (verD p.2)) = true
    rw [decide_eq_true (h.le p hp).1, verD_ok (h.ver p hp).1 (u p hp)]
    rfl
  have e3 : upB (ln.map (·.1)) = true := by
    rw [upB_iff, List.pairwise_map]
    exact h.up.imp fun {a b} hab => decide_eq_true hab
  obtain ⟨v, r, e⟩ := h.first
  show (!(ln.map lineD).isEmpty && ((ln.map lineD).all entB && (decide (((ln.map lineD).map timeD).headD 0 = 0) && upB ((ln.map lineD).map timeD)))) = true
  rw [e1, e2, e3, e]
  rfl
theorem site_ok {last : Bool} {z : Zn} (h : ZnOk 30 last 3 z) (u : ∀ p ∈ z.line, VV p.2) : siteB (zoneD z) = true ∧ fitB last (zoneD z) = true ∧ Sz 30 7 309003 (zoneD z) := by
  obtain ⟨m, hl, hm⟩ := h.line
  have h1 := h.servers
  have h2 := h.tries
  have h3 := h.lag
  have h4 := h.kl
  have h5 := h.rl
  refine ⟨?_, ?_, ?_⟩
  · show (lineB (.tuple (z.line.map lineD)) && (decide (0 ≤ z.servers) && (decide (0 ≤ z.tries) && (decide (0 ≤ z.lag) && (decide (0 ≤ z.kl) && (decide (0 ≤ z.rl) && (decide (1 ≤ z.tries ∧ z.tries ≤ z.servers) && (decide (1 ≤ z.kl) && decide (1 ≤ z.rl))))))))) = true
    rw [line_ok hl u, decide_eq_true (show 0 ≤ z.servers by omega), decide_eq_true (show 0 ≤ z.tries by omega), decide_eq_true (show 0 ≤ z.lag by omega), decide_eq_true (show 0 ≤ z.kl by omega), decide_eq_true (show 0 ≤ z.rl by omega), decide_eq_true (show 1 ≤ z.tries ∧ z.tries ≤ z.servers by omega), decide_eq_true (show 1 ≤ z.kl by omega), decide_eq_true (show 1 ≤ z.rl by omega)]
    rfl
  · show ((z.line.map lineD).all fun e => KV.isNon (trustD e) == last) = true
    rw [List.all_map, List.all_eq_true]
    intro p hp
    have := (hl.ver p hp).2
    show (KV.isNon (belowD p.2.trust) == last) = true
    cases e : p.2.trust with
    | none => rw [this.mp e]; rfl
    | some ts =>
      have : last = false := by
        cases last with
        | false => rfl
        | true => rw [this.mpr rfl] at e; cases e
      rw [this]
      rfl
  · refine sz_tup (n := 6) (w := 51498) (k := 6) (fun x hx => ?_) (Nat.le_refl 6) (by omega)
    simp only [List.mem_cons, List.not_mem_nil, or_false] at hx
    have si : ∀ i : Int, 0 ≤ i ∧ i ≤ 1000 → Sz 30 6 51498 (.int i) := fun i hi => (sz_int hi).mono (Nat.le_refl _) (by omega) (by omega)
    rcases hx with rfl | rfl | rfl | rfl | rfl | rfl
    · refine sz_tup (n := 5) (w := 17163) (k := 3) (fun x hx => ?_) (by rw [List.length_map]; exact h.len) (by omega)
      obtain ⟨p, hp, rfl⟩ := List.mem_map.mp hx
      have hp1 := hl.le p hp
      refine sz_tup (n := 4) (w := 8578) (k := 2) (fun y hy => ?_) (Nat.le_refl 2) (by omega)
      rcases List.mem_cons.mp hy with rfl | hy
      · exact (sz_int (by omega)).mono (Nat.le_refl _) (by omega) (by omega)
      · rw [List.mem_singleton.mp hy]; exact sz_ver (hl.ver p hp).1 (u p hp)
    · exact si _ (by omega)
    · exact si _ (by omega)
    · exact si _ (by omega)
    · exact si _ (by omega)
    · exact si _ (by omega)
theorem zone_r {n : Nat} {c : Ob} (h : BxI n c) (hn : n ≤ 80000000) {ts : List (Int × Int)} (hT : TrV ts) (last : Bool) {Q : KV.R → Ob → Prop}
    (k : ∀ (z : Zn) v r c', siteB (zoneD z) = true → fitB last (zoneD z) = true → Sz 30 7 309003 (zoneD z) → z.line = (0, v) :: r → (last = false → ∃ us, v.trust = some us ∧ TrV us) → BxI (n + 200) c' → Q (.val (zoneD z)) c') : wB G__law_zone c [.tuple (ts.map keyD), .bool last, .int 3] Q :=
  (zone_v h hn hT last (many := 3) (by omega)).mono fun z c' ⟨zn, e, h1, h2, ⟨v, r, h3, h4⟩, h5⟩ => by
    subst e
    obtain ⟨s1, s2, s3⟩ := site_ok h1 h2
    refine k zn v r c' s1 s2 s3 h3 (fun e => ?_) h5
    obtain ⟨m, hl, _⟩ := h1.line
    have := (hl.ver (0, v) (by rw [h3]; simp)).2
    cases e2 : v.trust with
    | none => rw [this.mp e2] at e; cases e
    | some us => exact ⟨us, rfl, h4 us e2⟩
def WV (W : PyData) : Prop := worldB W = true ∧ Sz 30 9 2781063 W
theorem world_of_v {n : Nat} {c : Ob} (h : BxI n c) (hn : n ≤ 70000000) {k : Nat} (hk : 1 ≤ k ∧ k ≤ 3) : wB G__law_world_of c [.int k, .int 3] fun z c' => ∃ W, z = .val W ∧ WV W ∧ BxI (n + 700) c' := by
  unfold G__law_world_of
  refine wb_run (r := [.own c, .fz (.int k), .fz (.int 3), .un, .un, .un, .un]) rfl ?_
  unfold g__law_world_of
  refine ws_cut (M := fun r1 => ∃ (c' : Ob) (as : List (Int × Int)), r1 = [.own c', .fz (.int k), .fz (.int 3), .fz (.tuple (as.map keyD)), .un, .un, .un] ∧ TrV as ∧ as.length ≤ 2 ∧ BxI (n + 1) c') ?_ ?_
  · repeat' array_get_dec
    refine pick_r h (by omega) (by simp) fun x c3 hx hb3 => ?_
    have hx2 : ∃ ws, x = .tuple (ws.map keyD) ∧ TrV ws ∧ ws.length ≤ 2 := by
      simp only [List.mem_cons, List.not_mem_nil, or_false] at hx
      rcases hx with rfl | rfl | rfl | rfl
      · exact ⟨[(7, 0)], rfl, ⟨⟨by decide, by simp⟩, rfl, by decide, by simp, by unfold NK; decide⟩, by decide⟩
      · exact ⟨[(7, 0), (8, 1)], rfl, ⟨⟨by decide, by simp⟩, rfl, by decide, by simp, by unfold NK; decide⟩, by decide⟩
      · exact ⟨[(1, 0)], rfl, ⟨⟨by decide, by simp⟩, rfl, by decide, by simp, by unfold NK; decide⟩, by decide⟩
      · exact ⟨[(1, 0), (2, 1)], rfl, ⟨⟨by decide, by simp⟩, rfl, by decide, by simp, by unfold NK; decide⟩, by decide⟩
    obtain ⟨ws, rfl, hw, hw2⟩ := hx2
    simp only [List.set_cons_zero, List.set_cons_succ]
    refine wput_v rfl rfl (by simp only [List.set_cons_zero, List.set_cons_succ]; exact rfl) ?_
    exact ⟨_, ws, rfl, hw, hw2, hb3⟩
  rintro _ ⟨c1, as, rfl, hT, hal, hb1⟩
  refine ws_cut (M := fun r1 => r1 = [.own c1, .fz (.int k), .fz (.int 3), .fz (.tuple (as.map keyD)), .fz (.tuple (as.map keyD)), .own (.lst []), .un]) ?_ ?_
  · repeat' array_get_dec
    rfl
  rintro _ rfl
  refine ws_cut (M := fun r1 => ∃ (c' : Ob) (tr : Option (List (Int × Int))) (zs : List PyData) (s6 : Sl), r1 = [.own c', .fz (.int k), .fz (.int 3), .fz (belowD tr), .fz (.tuple (as.map keyD)), .own (.lst zs), s6] ∧ zs.length = k ∧ (∀ j z, zs[j]? = some z → siteB z = true ∧ fitB (decide (j + 1 = k)) z = true ∧ Sz 30 7 309003 z) ∧ BxI (n + 601) c') ?_ ?_
  · refine ws_forI ?_
    repeat' array_get_dec
    refine ⟨rfl, fun i r1 => ∃ (c' : Ob) (tr : Option (List (Int × Int))) (zs : List PyData) (s6 : Sl), r1 = [.own c', .fz (.int k), .fz (.int 3), .fz (belowD tr), .fz (.tuple (as.map keyD)), .own (.lst zs), s6] ∧ nlk s6 = true ∧ zs.length = i ∧ (i < k → ∃ ts, tr = some ts ∧ TrV ts) ∧ (∀ j z, zs[j]? = some z → siteB z = true ∧ fitB (decide (j + 1 = k)) z = true ∧ Sz 30 7 309003 z) ∧ BxI (n + 1 + 200 * i) c', ?_, ?_, ?_⟩
    · exact ⟨c1, some as, [], .un, rfl, rfl, rfl, fun _ => ⟨as, rfl, hT⟩, (fun j z e => by cases e), hb1⟩
    · rintro i d _ hd ⟨c', tr, zs, s6, rfl, n6, hl, htr, hz, hbi⟩
      obtain ⟨hi, rfl⟩ := range_at hd
      have hi : i < k := by omega
      obtain ⟨ts, rfl, hTs⟩ := htr hi
      refine wg_nm rfl n6 (by simp only [List.set_cons_zero, List.set_cons_succ]; exact rfl) ?_
      unfold belowD
      dsimp only
      repeat' array_get_dec
      refine zone_r hbi (by omega) hTs _ fun z v r c2 s1 s2 s3 hln hnt hb2 => ?_
      simp only [List.set_cons_zero, List.set_cons_succ]
      have e1 : decide (((i : Nat) : Int) + 1 = ((k : Nat) : Int)) = decide (i + 1 = k) := decide_eq_decide.mpr (by omega)
      rw [e1] at s2 hnt
      repeat' array_get_dec
      · refine wo_ixL (d := zoneD z) at_last ?_
        repeat' array_get_dec
        refine wo_ixT (d := .tuple (((0, v) :: r).map lineD)) (by show L2.atI (PyData.tuple (z.line.map lineD) :: _) 0 = _; rw [hln]; exact at_zero) ?_
        repeat' array_get_dec
        refine wo_ixT (d := lineD (0, v)) at_zero ?_
        repeat' array_get_dec
        refine wo_ixT (d := verD v) rfl ?_
        repeat' array_get_dec
        refine wo_ixT (d := belowD v.trust) rfl ?_
        repeat' array_get_dec
        refine ⟨_, v.trust, zs ++ [zoneD z], _, rfl, rfl, by rw [List.length_append, hl]; rfl, fun hlt => ?_, fun j y ej => ?_, hb2.mono (by omega)⟩
        · exact hnt (decide_eq_false (by omega))
        · rw [List.getElem?_append] at ej
          split at ej
          · exact hz j y ej
          · rename_i hj
            have hj0 : j - zs.length = 0 := by
              cases e : j - zs.length with
              | zero => rfl
              | succ q => rw [e] at ej; cases ej
            rw [hj0] at ej
            cases ej
            have : j = i := by omega
            subst this
            exact ⟨s1, s2, s3⟩
      · rw [sizeLine_eq]; omega
    · rintro _ ⟨c', tr, zs, s6, rfl, n6, hl, _, hz, hbi⟩
      rw [rangeD_length] at hl hbi
      exact ⟨c', tr, zs, s6, rfl, by omega, hz, hbi.mono (by omega)⟩
  rintro _ ⟨c2, tr, zs, s6, rfl, hl, hz, hb2⟩
  repeat' array_get_dec
  rename_i d c3 h0 h1 hb3
  obtain ⟨x, e, m, _⟩ := atI_in (xs := [PyData.str ("any" : Str), .str ("each" : Str)]) h0 h1
  refine wo_ixL e ?_
  repeat' array_get_dec
  have hall : zs.all siteB = true := by
    rw [List.all_eq_true]
    intro z hzm
    obtain ⟨j, hj⟩ := List.getElem?_of_mem hzm
    exact (hz j z hj).1
  have hfit : fitsB zs = true := by
    rw [fitsB_iff]
    intro j z hj
    have := (hz j z hj).2.1
    rw [show decide ((j : Int) = (zs.length : Int) - 1) = decide (j + 1 = k) from decide_eq_decide.mpr (by omega)]
    exact this
  refine ⟨⟨?_, ?_⟩, hb3.mono (by omega)⟩
  · show (!zs.isEmpty && (zs.all siteB && (keysB (.tuple (as.map keyD)) && (!emptyT (.tuple (as.map keyD)) && (ruleB x && fitsB zs))))) = true
    have e1 : zs.isEmpty = false := by
      cases zs with
      | nil => simp at hl; omega
      | cons _ _ => rfl
    have e2 : emptyT (.tuple (as.map keyD)) = false := by
      cases as with
      | nil => exact absurd rfl hT.2.2.2.1
      | cons _ _ => rfl
    have e3 : ruleB x = true := by
      simp only [List.mem_cons, List.not_mem_nil, or_false] at m
      rcases m with rfl | rfl <;> decide
    rw [e1, e2, e3, hall, hfit, keysB_of hT.1.2 hT.2.1]
    rfl
  · refine sz_tup (n := 8) (w := 927018) (k := 3) (fun y hy => ?_) (Nat.le_refl 3) (by omega)
    simp only [List.mem_cons, List.not_mem_nil, or_false] at hy
    rcases hy with rfl | rfl | rfl
    · refine sz_tup (n := 7) (w := 309003) (k := 3) (fun z hzm => ?_) (by omega) (by omega)
      obtain ⟨j, hj⟩ := List.getElem?_of_mem hzm
      exact (hz j z hj).2.2
    · exact (sz_keys hT.2.2.2.2 (by omega)).mono (Nat.le_refl _) (by omega) (by omega)
    · simp only [List.mem_cons, List.not_mem_nil, or_false] at m
      rcases m with rfl | rfl
      · exact ⟨rfl, by decide, by show 10 ≤ 927018; omega⟩
      · exact ⟨rfl, by decide, by show 10 ≤ 927018; omega⟩
theorem world_v {n : Nat} {c : Ob} (h : BxI n c) (hn : n ≤ 60000000) {Q : KV.R → Ob → Prop} (k : ∀ W c', WV W → BxI (n + 701) c' → Q (.val W) c') : wB G__law_world c [.int 3, .int 3] Q := by
  unfold G__law_world
  refine wb_run (r := [.own c, .fz (.int 3), .fz (.int 3)]) rfl ?_
  unfold g__law_world
  repeat' array_get_dec
  rename_i d c1 h0 h1 hb1
  have key := world_of_v hb1 (by omega) (k := (1 + d).toNat) (by omega)
  rw [show (((1 + d).toNat : Nat) : Int) = 1 + d by omega] at key
  refine key.mono fun z c2 ⟨W, e, hW, hb⟩ => ?_
  subst e
  simp only [List.set_cons_zero, List.set_cons_succ]
  repeat' array_get_dec
  exact k W _ hW (hb.mono (by omega))
end KL

end

section
local macro_rules | `(tactic| array_get_dec) => `(tactic| first
  | ((with_reducible refine KV.gS ?_); (first
      | with_reducible refine KV.ws_seq ?_
      | with_reducible refine KV.ws_set ?_
      | with_reducible refine KV.ws_ret ?_
      | with_reducible refine KV.ws_asg ?_
      | with_reducible refine KV.ws_par' ?_
      | with_reducible refine KV.ws_parO ?_
      | with_reducible refine KV.ws_par3' ?_
      | with_reducible refine KV.ws_drop ?_
      | with_reducible refine KV.ws_setIx' ?_
      | with_reducible refine KV.ws_next ?_
      | with_reducible refine KV.ws_break ?_
      | ((with_reducible apply KV.ws_gf_fz); exact rfl)
      | ((with_reducible apply KV.ws_gf_own'); exact rfl; (simp only [List.set_cons_zero, List.set_cons_succ]; try exact rfl))
      | with_reducible refine KV.ws_if ?_))
  | ((with_reducible refine KV.gD ?_); (first
      | with_reducible refine KV.wd_c ?_
      | with_reducible refine KV.wd_bin ?_
      | with_reducible refine KV.wd_un ?_
      | with_reducible refine KV.wd_cb ?_
      | with_reducible refine KV.wd_tup' ?_
      | with_reducible refine KV.wd_lst' ?_
      | with_reducible refine KV.wd_call ?_
      | with_reducible refine KV.wd_callK ?_
      | with_reducible refine KV.wd_callT ?_
      | with_reducible refine KV.wd_v ?_
      | with_reducible refine KV.wd_slice ?_
      | with_reducible refine KV.wd_isi ?_
      | with_reducible refine KV.wd_isi2 ?_
      | ((with_reducible apply KV.wd_fz); exact rfl)
      | ((with_reducible apply KV.wd_own); exact rfl)
      | ((with_reducible apply KV.wd_lck); exact rfl)
      | ((with_reducible apply KV.wd_callB'); exact rfl)
      | ((with_reducible apply KV.wd_app'); exact rfl)
      | ((with_reducible apply KV.wd_pop); exact rfl)
      | with_reducible refine KV.wd_if ?_
      | with_reducible refine KV.wd_chP ?_))
  | ((with_reducible refine KV.gO ?_); (first
      | with_reducible refine KV.wo_add ?_
      | with_reducible refine KV.wo_sub ?_
      | with_reducible refine KV.wo_neg ?_
      | with_reducible refine KV.wo_c ?_
      | with_reducible refine KV.wo_isN ?_
      | with_reducible refine KV.wo_notN ?_
      | with_reducible refine KV.wo_eqI ?_
      | with_reducible refine KV.wo_neI ?_
      | with_reducible refine KV.wo_eqNil ?_
      | with_reducible refine KV.wo_eqB ?_
      | with_reducible refine KV.wo_neB ?_
      | with_reducible refine KV.wo_neNil ?_
      | with_reducible refine KV.wo_inT ?_
      | with_reducible refine KV.wo_inL ?_
      | with_reducible refine KV.wo_notInT ?_
      | with_reducible refine KV.wo_notInL ?_
      | with_reducible refine KV.wo_srt ?_
      | with_reducible refine KV.wo_srtR ?_
      | with_reducible refine KV.wo_rev ?_
      | with_reducible refine KV.wo_lenL ?_
      | with_reducible refine KV.wo_lenT ?_
      | with_reducible refine KV.wo_intI ?_
      | with_reducible refine KV.wo_tupL ?_
      | with_reducible refine KV.wo_tupT ?_
      | with_reducible refine KV.wo_lstL ?_
      | with_reducible refine KV.wo_lstT ?_
      | ((with_reducible apply KV.wo_ixT); exact rfl)
      | ((with_reducible apply KV.wo_ixL); exact rfl)
      | ((with_reducible refine KV.wo_isT (b := true) ?_ ?_); exact rfl)
      | ((with_reducible refine KV.wo_isT (b := false) ?_ ?_); exact rfl)
      | ((with_reducible refine KV.wo_isT2 (b := true) ?_ ?_); exact rfl)
      | ((with_reducible refine KV.wo_isT2 (b := false) ?_ ?_); exact rfl)
      | ((with_reducible apply KV.wo_mul); omega)
      | ((with_reducible apply KV.wo_mod); omega)
      | ((with_reducible apply KV.wo_div); omega)
      | ((with_reducible apply KV.wo_addL); (simp only [List.length_append, List.length_cons, List.length_nil, List.length_map]; omega))
      | ((with_reducible apply KV.wo_addT); (simp only [List.length_append, List.length_cons, List.length_nil, List.length_map]; omega))))
  | with_reducible refine KV.wput2 ?_
  | ((with_reducible apply KV.wown); exact rfl)
  | ((with_reducible apply KV.wsi); exact rfl; exact rfl; (simp only [List.set_cons_zero, List.set_cons_succ]; try exact rfl))
  | with_reducible refine KV.wparp ?_
  | with_reducible refine KV.wparp3 ?_
  | with_reducible refine KV.wst_val ?_
  | with_reducible refine KV.wst_tmp ?_
  | with_reducible refine KV.wst_slot ?_
  | with_reducible refine KV.wdr_val ?_
  | with_reducible refine KV.wdr_tmp ?_
  | with_reducible refine KV.wfz_val ?_
  | with_reducible refine KV.wfz_tmp ?_
  | with_reducible refine KV.wn_nil ?_
  | with_reducible refine KV.wn_cons ?_
  | with_reducible refine KV.wdrs_nil ?_
  | with_reducible refine KV.wdrs_cons ?_
  | with_reducible refine KV.wv_nil ?_
  | with_reducible refine KV.wv_cons ?_
  | with_reducible refine KV.wp_none ?_
  | with_reducible refine KV.wp_some ?_
  | with_reducible refine KV.wt_b ?_
  | with_reducible refine KV.wt_not ?_
  | with_reducible refine KV.wt_yes ?_
  | with_reducible refine KV.wgs_nil ?_
  | with_reducible refine KV.wgs_cons ?_
  | with_reducible refine KV.wg_tup ?_
  | with_reducible refine KV.wi_seq ?_
  | with_reducible refine KV.wsq_list ?_
  | with_reducible refine KV.wsq_tup ?_
  | ((with_reducible apply KV.wsq_own); exact rfl; (simp only [List.set_cons_zero, List.set_cons_succ]; try exact rfl))
  | ((with_reducible apply KV.wsq_lck); exact rfl)
  | with_reducible refine KV.wr_val ?_
  | with_reducible refine KV.wr_tmp ?_
  | ((with_reducible apply KV.wdr_fz); exact rfl)
  | ((with_reducible apply KV.wdr_own); exact rfl)
  | ((with_reducible apply KV.wdr_lck); exact rfl)
  | ((with_reducible apply KV.wfz_fz); exact rfl)
  | ((with_reducible apply KV.wfz_own); exact rfl; (simp only [List.set_cons_zero, List.set_cons_succ]; try exact rfl))
  | ((with_reducible apply KV.wput_v); exact rfl; (first | exact rfl | assumption); (simp only [List.set_cons_zero, List.set_cons_succ]; try exact rfl))
  | ((with_reducible apply KV.wput_t); exact rfl; (first | exact rfl | assumption); (simp only [List.set_cons_zero, List.set_cons_succ]; try exact rfl))
  | ((with_reducible apply KV.wg_nm); exact rfl; (first | exact rfl | assumption); (simp only [List.set_cons_zero, List.set_cons_succ]; try exact rfl))
  | ((with_reducible apply KV.wcb); exact rfl)
  | ((with_reducible apply KV.wapp); exact rfl; (simp only [List.set_cons_zero, List.set_cons_succ]; try exact rfl))
  | ((with_reducible apply KV.wr_own); exact rfl)
  | ((with_reducible apply KV.wr_fz); exact rfl)
  | with_reducible refine KV.wt_and ?_
  | with_reducible refine KV.wt_or ?_
  | with_reducible refine KV.wsame ?_
  | with_reducible refine KV.wi_r1' ?_
  | with_reducible refine KV.wi_r2' ?_
  | ((with_reducible apply KV.wrg); omega; omega)
  | ((with_reducible apply KV.wrg2); omega; omega; omega; omega; omega)
  | with_reducible refine KV.and_t ?_
  | with_reducible refine KV.and_f ?_
  | with_reducible refine KV.and_nt ?_
  | with_reducible refine KV.and_nf ?_
  | with_reducible refine KV.and_dec ?_
  | with_reducible refine KV.and_ndec ?_
  | with_reducible refine And.intro (fun hb => ?_) (fun hb => ?_)
  | ((with_reducible refine And.intro ?_ (Nat.le_of_ble_eq_true rfl)))
  | with_reducible refine Exists.intro _ (And.intro rfl ?_)
  | fail "no step")
local macro_rules | `(tactic| array_get_dec) => `(tactic| ((with_reducible refine KL.take_r (by assumption) (by omega) (by omega) (fun d c h0 h1 hb => ?_)); (simp only [List.set_cons_zero, List.set_cons_succ])))
namespace KL
open PySem PySem.Spec PyProof.Rows L2 KV
theorem pow20 : opPow (.int 10) (.int 20) = some (.val (.int 100000000000000000000)) := by
  unfold opPow KV.opI; simp
def oddL : List PyData := [.none, .bool true, .bool false, .int (-1), .int 0, .int 1, .int 2, .int 5, .int 100000000000000000000, .str "", .str "any", .str "each", .str "Any", .str "keys", .tuple [], .list [], .tuple [.int 1], .tuple [.int 1, .int 0]]
  ++ [.tuple [.tuple [.int 1, .int 0]], .tuple [.tuple [.int 1, .int 0], .tuple [.int 1, .int 1]], .tuple [.tuple [.int 2, .int 0], .tuple [.int 1, .int 0]], .tuple [.bool true, .int 0], .tuple [.int 1, .bool false], .list [.int 1, .int 0], .tuple [.int 7, .int 9]]
theorem odd_sz : ∀ y ∈ oddL, (okB 30 3 y && (lfB 30 y && decide (costD y ≤ 120))) = true := by decide +kernel
theorem odd_r {n : Nat} {c : Ob} (h : BxI n c) (hn : n ≤ 100000000) {Q : KV.R → Ob → Prop} (k : ∀ d c', Sz 30 3 120 d → BxI (n + 1) c' → Q (.val d) c') : wB G__law_odd c [] Q := by
  unfold G__law_odd
  refine wb_run (r := [.own c, .un]) rfl ?_
  unfold g__law_odd
  repeat' array_get_dec
  refine wo_eq pow20 ?_
  repeat' array_get_dec
  refine pick_r h (by omega) (by simp) fun x c3 hx hb3 => ?_
  have hx : x ∈ oddL := hx
  have := odd_sz x hx
  simp only [Bool.and_eq_true, decide_eq_true_eq] at this
  simp only [List.set_cons_zero, List.set_cons_succ]
  repeat' array_get_dec
  exact k x c3 ⟨this.1, this.2.1, this.2.2⟩ hb3
theorem wd_ins {f g : Den} {r : Nms} {Q : KV.R → Nms → Prop} {i : Nat} {ds0 : List PyData} (e0 : r[i]? = some (.own (.lst ds0))) (h : wD g r fun y r1 => ∃ k, y = .val (.int k) ∧ wD f r1 fun x r2 => wFz x r2 fun d r3 => ∃ ds, r3[i]? = some (.own (.lst ds)) ∧ (0 ≤ k ∧ k < 1000000 ∧ ds.length < 16777216) ∧ Q (.val .none) (r3.set i (.own (.lst (ds.take k.toNat ++ [d] ++ ds.drop k.toNat))))) : wD (dIns i g f) r Q := by
  obtain ⟨y, r1, e, k, rfl, q⟩ := h.ex
  obtain ⟨x, r2, e2, ⟨d, r3, e3, ds, e4, hk, q⟩⟩ := q.ex
  refine ⟨_, _, ?_, q⟩
  have e5 : (dFrz f r1).bind vOf = some (d, r3) := by unfold dFrz; rw [e2]; exact e3
  unfold dIns ownL
  simp only [e0, e, Option.bind_some, intOf, e5, e4]
  exact if_pos ⟨hk.1, by omega, by rw [sizeLine_eq]; exact hk.2.2⟩
/-! rows with one thing changed -/
theorem cost_mem {xs : List PyData} {x : PyData} (h : x ∈ xs) : costD x + 2 ≤ costAll xs := by
  induction xs with
  | nil => cases h
  | cons y ys ih =>
    rw [costAll]
    rcases List.mem_cons.mp h with rfl | h
    · omega
    · have := ih h; omega
theorem costAll_rev : ∀ xs : List PyData, costAll xs.reverse = costAll xs
  | [] => rfl
  | x :: xs => by rw [List.reverse_cons, costAll_app, costAll_rev xs, costAll, costAll, costAll]; omega
theorem costAll_set : ∀ (xs : List PyData) (j : Nat) (x y : PyData), xs[j]? = some x → costAll (xs.set j y) + costD x = costAll xs + costD y
  | [], _, _, _, h => by cases h
  | z :: xs, 0, x, y, h => by
    cases h
    rw [List.set_cons_zero, costAll, costAll]
    omega
  | z :: xs, j + 1, x, y, h => by
    have := costAll_set xs j x y h
    rw [List.set_cons_succ, costAll, costAll]
    omega
theorem costAll_erase : ∀ (xs : List PyData) (j : Nat), costAll (xs.eraseIdx j) ≤ costAll xs
  | [], _ => by simp [costAll]
  | z :: xs, 0 => by rw [List.eraseIdx_cons_zero, costAll]; omega
  | z :: xs, j + 1 => by
    have := costAll_erase xs j
    rw [List.eraseIdx_cons_succ, costAll, costAll]
    omega
structure GY (b m w : Nat) (ys : List PyData) : Prop where
  len : ys.length ≤ b + 1
  ok : ∀ y ∈ ys, okB (b + 1) (m + 2) y = true
  lf : ∀ y ∈ ys, lfB (b + 1) y = true
  ct : costAll ys + 3 ≤ 2 * w + 120
theorem GY.sz {b m w : Nat} {ys : List PyData} (h : GY b m w ys) {d : PyData} (hd : d = .list ys ∨ d = .tuple ys) : Sz (b + 1) (m + 3) (2 * w + 120) d := sz_mk hd h.len h.ok h.lf h.ct
structure GX (b m w : Nat) (xs : List PyData) : Prop where
  len : xs.length ≤ b
  ok : ∀ y ∈ xs, okB b m y = true
  lf : ∀ y ∈ xs, lfB b y = true
  ct : costAll xs + 3 ≤ w
section
variable {b m w : Nat} {xs : List PyData}
theorem GX.same (h : GX b m w xs) : GY b m w xs := ⟨by have := h.len; omega, fun y hy => okB_mono (by omega) _ _ _ (by omega) (h.ok y hy), fun y hy => lf_mono (by omega) y (h.lf y hy), by have := h.ct; omega⟩
theorem GX.erase (h : GX b m w xs) (j : Nat) : GY b m w (xs.eraseIdx j) :=
  ⟨by have := h.len; have := List.length_eraseIdx_le xs j; omega, fun y hy => okB_mono (by omega) _ _ _ (by omega) (h.ok y (List.mem_of_mem_eraseIdx hy)), fun y hy => lf_mono (by omega) y (h.lf y (List.mem_of_mem_eraseIdx hy)), by have := h.ct; have := costAll_erase xs j; omega⟩
theorem GX.rev (h : GX b m w xs) : GY b m w xs.reverse :=
  ⟨by have := h.len; rw [List.length_reverse]; omega, fun y hy => okB_mono (by omega) _ _ _ (by omega) (h.ok y (List.mem_reverse.mp hy)), fun y hy => lf_mono (by omega) y (h.lf y (List.mem_reverse.mp hy)), by have := h.ct; rw [costAll_rev]; omega⟩
theorem GX.dup (h : GX b m w xs) (j : Nat) {x : PyData} (hx : x ∈ xs) : GY b m w (xs.take j ++ [x] ++ xs.drop j) := by
  have e : ∀ y ∈ xs.take j ++ [x] ++ xs.drop j, y ∈ xs := by
    intro y hy
    rcases List.mem_append.mp hy with hy | hy
    · rcases List.mem_append.mp hy with hy | hy
      · exact List.mem_of_mem_take hy
      · rw [List.mem_singleton.mp hy]; exact hx
    · exact List.mem_of_mem_drop hy
  refine ⟨?_, fun y hy => okB_mono (by omega) _ _ _ (by omega) (h.ok y (e y hy)), fun y hy => lf_mono (by omega) y (h.lf y (e y hy)), ?_⟩
  · have := h.len
    rw [List.length_append, List.length_append, List.length_take, List.length_drop]
    simp only [List.length_cons, List.length_nil]
    omega
  · have h1 := h.ct
    have h2 := cost_mem hx
    have h3 := costAll_app (xs.take j) (xs.drop j)
    rw [List.take_append_drop] at h3
    rw [costAll_app, costAll_app, costAll, costAll]
    omega
theorem GX.set (h : GX b m w xs) {j : Nat} {x y : PyData} (hx : xs[j]? = some x) {wx : Nat} (hw : costD x ≤ wx) (hwx : wx = costD x) (hy : Sz (b + 1) (m + 2) (2 * wx + 120) y) : GY b m w (xs.set j y) := by
  refine ⟨by have := h.len; rw [List.length_set]; omega, fun z hz => ?_, fun z hz => ?_, ?_⟩
  · rcases List.mem_or_eq_of_mem_set hz with hz | rfl
    · exact okB_mono (by omega) _ _ _ (by omega) (h.ok z hz)
    · exact hy.ok
  · rcases List.mem_or_eq_of_mem_set hz with hz | rfl
    · exact lf_mono (by omega) z (h.lf z hz)
    · exact hy.lf
  · have h1 := h.ct
    have h2 := cost_mem (List.mem_of_getElem? hx)
    have h3 := costAll_set xs j x y hx
    have h4 := hy.ct
    omega
end
end KL

end

section
local macro_rules | `(tactic| array_get_dec) => `(tactic| first
  | ((with_reducible refine KV.gS ?_); (first
      | with_reducible refine KV.ws_seq ?_
      | with_reducible refine KV.ws_set ?_
      | with_reducible refine KV.ws_ret ?_
      | with_reducible refine KV.ws_asg ?_
      | with_reducible refine KV.ws_par' ?_
      | with_reducible refine KV.ws_parO ?_
      | with_reducible refine KV.ws_par3' ?_
      | with_reducible refine KV.ws_drop ?_
      | with_reducible refine KV.ws_setIx' ?_
      | with_reducible refine KV.ws_next ?_
      | with_reducible refine KV.ws_break ?_
      | ((with_reducible apply KV.ws_gf_fz); exact rfl)
      | ((with_reducible apply KV.ws_gf_own'); exact rfl; (simp only [List.set_cons_zero, List.set_cons_succ]; try exact rfl))
      | with_reducible refine KV.ws_if ?_))
  | ((with_reducible refine KV.gD ?_); (first
      | with_reducible refine KV.wd_c ?_
      | with_reducible refine KV.wd_bin ?_
      | with_reducible refine KV.wd_un ?_
      | with_reducible refine KV.wd_cb ?_
      | with_reducible refine KV.wd_tup' ?_
      | with_reducible refine KV.wd_lst' ?_
      | with_reducible refine KV.wd_call ?_
      | with_reducible refine KV.wd_callK ?_
      | with_reducible refine KV.wd_callT ?_
      | with_reducible refine KV.wd_v ?_
      | with_reducible refine KV.wd_slice ?_
      | with_reducible refine KV.wd_isi ?_
      | with_reducible refine KV.wd_isi2 ?_
      | ((with_reducible apply KV.wd_fz); exact rfl)
      | ((with_reducible apply KV.wd_own); exact rfl)
      | ((with_reducible apply KV.wd_lck); exact rfl)
      | ((with_reducible apply KV.wd_callB'); exact rfl)
      | ((with_reducible apply KV.wd_app'); exact rfl)
      | ((with_reducible apply KV.wd_pop); exact rfl)
      | with_reducible refine KV.wd_if ?_
      | with_reducible refine KV.wd_chP ?_))
  | ((with_reducible refine KV.gO ?_); (first
      | with_reducible refine KV.wo_add ?_
      | with_reducible refine KV.wo_sub ?_
      | with_reducible refine KV.wo_neg ?_
      | with_reducible refine KV.wo_c ?_
      | with_reducible refine KV.wo_isN ?_
      | with_reducible refine KV.wo_notN ?_
      | with_reducible refine KV.wo_eqI ?_
      | with_reducible refine KV.wo_neI ?_
      | with_reducible refine KV.wo_eqNil ?_
      | with_reducible refine KV.wo_eqB ?_
      | with_reducible refine KV.wo_neB ?_
      | with_reducible refine KV.wo_neNil ?_
      | with_reducible refine KV.wo_inT ?_
      | with_reducible refine KV.wo_inL ?_
      | with_reducible refine KV.wo_notInT ?_
      | with_reducible refine KV.wo_notInL ?_
      | with_reducible refine KV.wo_srt ?_
      | with_reducible refine KV.wo_srtR ?_
      | with_reducible refine KV.wo_rev ?_
      | with_reducible refine KV.wo_lenL ?_
      | with_reducible refine KV.wo_lenT ?_
      | with_reducible refine KV.wo_intI ?_
      | with_reducible refine KV.wo_tupL ?_
      | with_reducible refine KV.wo_tupT ?_
      | with_reducible refine KV.wo_lstL ?_
      | with_reducible refine KV.wo_lstT ?_
      | ((with_reducible apply KV.wo_ixT); exact rfl)
      | ((with_reducible apply KV.wo_ixL); exact rfl)
      | ((with_reducible refine KV.wo_isT (b := true) ?_ ?_); exact rfl)
      | ((with_reducible refine KV.wo_isT (b := false) ?_ ?_); exact rfl)
      | ((with_reducible refine KV.wo_isT2 (b := true) ?_ ?_); exact rfl)
      | ((with_reducible refine KV.wo_isT2 (b := false) ?_ ?_); exact rfl)
      | ((with_reducible apply KV.wo_mul); omega)
      | ((with_reducible apply KV.wo_mod); omega)
      | ((with_reducible apply KV.wo_div); omega)
      | ((with_reducible apply KV.wo_addL); (simp only [List.length_append, List.length_cons, List.length_nil, List.length_map]; omega))
      | ((with_reducible apply KV.wo_addT); (simp only [List.length_append, List.length_cons, List.length_nil, List.length_map]; omega))))
  | with_reducible refine KV.wput2 ?_
  | ((with_reducible apply KV.wown); exact rfl)
  | ((with_reducible apply KV.wsi); exact rfl; exact rfl; (simp only [List.set_cons_zero, List.set_cons_succ]; try exact rfl))
  | with_reducible refine KV.wparp ?_
  | with_reducible refine KV.wparp3 ?_
  | with_reducible refine KV.wst_val ?_
  | with_reducible refine KV.wst_tmp ?_
  | with_reducible refine KV.wst_slot ?_
  | with_reducible refine KV.wdr_val ?_
  | with_reducible refine KV.wdr_tmp ?_
  | with_reducible refine KV.wfz_val ?_
  | with_reducible refine KV.wfz_tmp ?_
  | with_reducible refine KV.wn_nil ?_
  | with_reducible refine KV.wn_cons ?_
  | with_reducible refine KV.wdrs_nil ?_
  | with_reducible refine KV.wdrs_cons ?_
  | with_reducible refine KV.wv_nil ?_
  | with_reducible refine KV.wv_cons ?_
  | with_reducible refine KV.wp_none ?_
  | with_reducible refine KV.wp_some ?_
  | with_reducible refine KV.wt_b ?_
  | with_reducible refine KV.wt_not ?_
  | with_reducible refine KV.wt_yes ?_
  | with_reducible refine KV.wgs_nil ?_
  | with_reducible refine KV.wgs_cons ?_
  | with_reducible refine KV.wg_tup ?_
  | with_reducible refine KV.wi_seq ?_
  | with_reducible refine KV.wsq_list ?_
  | with_reducible refine KV.wsq_tup ?_
  | ((with_reducible apply KV.wsq_own); exact rfl; (simp only [List.set_cons_zero, List.set_cons_succ]; try exact rfl))
  | ((with_reducible apply KV.wsq_lck); exact rfl)
  | with_reducible refine KV.wr_val ?_
  | with_reducible refine KV.wr_tmp ?_
  | ((with_reducible apply KV.wdr_fz); exact rfl)
  | ((with_reducible apply KV.wdr_own); exact rfl)
  | ((with_reducible apply KV.wdr_lck); exact rfl)
  | ((with_reducible apply KV.wfz_fz); exact rfl)
  | ((with_reducible apply KV.wfz_own); exact rfl; (simp only [List.set_cons_zero, List.set_cons_succ]; try exact rfl))
  | ((with_reducible apply KV.wput_v); exact rfl; (first | exact rfl | assumption); (simp only [List.set_cons_zero, List.set_cons_succ]; try exact rfl))
  | ((with_reducible apply KV.wput_t); exact rfl; (first | exact rfl | assumption); (simp only [List.set_cons_zero, List.set_cons_succ]; try exact rfl))
  | ((with_reducible apply KV.wg_nm); exact rfl; (first | exact rfl | assumption); (simp only [List.set_cons_zero, List.set_cons_succ]; try exact rfl))
  | ((with_reducible apply KV.wcb); exact rfl)
  | ((with_reducible apply KV.wapp); exact rfl; (simp only [List.set_cons_zero, List.set_cons_succ]; try exact rfl))
  | ((with_reducible apply KV.wr_own); exact rfl)
  | ((with_reducible apply KV.wr_fz); exact rfl)
  | with_reducible refine KV.wt_and ?_
  | with_reducible refine KV.wt_or ?_
  | with_reducible refine KV.wsame ?_
  | with_reducible refine KV.wi_r1' ?_
  | with_reducible refine KV.wi_r2' ?_
  | ((with_reducible apply KV.wrg); omega; omega)
  | ((with_reducible apply KV.wrg2); omega; omega; omega; omega; omega)
  | with_reducible refine KV.and_t ?_
  | with_reducible refine KV.and_f ?_
  | with_reducible refine KV.and_nt ?_
  | with_reducible refine KV.and_nf ?_
  | with_reducible refine KV.and_dec ?_
  | with_reducible refine KV.and_ndec ?_
  | with_reducible refine And.intro (fun hb => ?_) (fun hb => ?_)
  | ((with_reducible refine And.intro ?_ (Nat.le_of_ble_eq_true rfl)))
  | with_reducible refine Exists.intro _ (And.intro rfl ?_)
  | fail "no step")
local macro_rules | `(tactic| array_get_dec) => `(tactic| ((with_reducible refine KL.take_r (by assumption) (by omega) (by omega) (fun d c h0 h1 hb => ?_)); (simp only [List.set_cons_zero, List.set_cons_succ])))
namespace KL
open PySem PySem.Spec PyProof.Rows L2 KV
theorem seq_at {n : Nat} {i : Int} (h0 : 0 ≤ i) (h1 : i < n) : seqIndex? i n = some i.toNat := by
  have e : (if i < 0 then i + n else i) = i := if_neg (by omega)
  unfold seqIndex?
  rw [e]
  have c : (decide (0 ≤ i) && decide (i < (n : Int))) = true := by simp; omega
  exact if_pos c
theorem ixN_at {n : Nat} {i : Int} (h0 : 0 ≤ i) (h1 : i < n) : ixN n i = some i.toNat := by
  unfold ixN
  rw [if_pos h0, if_pos h1]
def BentP (b m w n k : Nat) (z : KV.R) (c' : Ob) : Prop := ∃ d', (z = .val d' ∨ ∃ xs, z = .tmp (.lst xs) ∧ d' = .list xs) ∧ Sz (b + 1) (m + 2) (2 * w + 120) d' ∧ BxI (n + 4 * k) c'
def BentIH (k : Nat) : Prop := ∀ (d : PyData) (b m w n : Nat) (c : Ob), Sz b m w d → m ≤ k → 30 ≤ b → b ≤ 50 → BxI n c → n + 4 * k ≤ 90000000 → wB (Gz__law_bent k) c [d] (BentP b m w n k)
theorem bent_tuple {k : Nat} {xs : List PyData} {b m w n : Nat} {c : Ob} (ih : BentIH k) (h : Sz b (m + 1) w (.tuple xs)) (hm : m ≤ k) (hb0 : 30 ≤ b) (hb1 : b ≤ 50) (hc : BxI n c) (hn : n + 4 * (k + 1) ≤ 90000000) :
    wB (runB 5 (g__law_bent (Gz__law_bent k))) c [.tuple xs] (BentP b (m + 1) w n (k + 1)) := by
  obtain ⟨m', em, xl, xo, xf, xc⟩ := sz_items (xs := xs) (.inr rfl) h
  have em : m' = m := by omega
  subst em
  have gx : GX b m' w xs := ⟨xl, xo, xf, xc⟩
  refine wb_run (r := [.own c, .fz (.tuple xs), .un, .un, .un]) rfl ?_
  unfold g__law_bent
  refine ws_cut (M := fun r1 => ∃ (c1 : Ob) (way : Int), r1 = [.own c1, .fz (.tuple xs), .fz (.int way), .un, .un] ∧ BxI (n + 1) c1) ?_ ?_
  · repeat' array_get_dec
    exact ⟨_, _, rfl, by assumption⟩
  rintro _ ⟨c1, way, rfl, hc1⟩
  have fin : ∀ (c' : Ob) (s2 s3 : Sl) (ys : List PyData), GY b m' w ys → BxI (n + 4 * (k + 1)) c' → wS (dRet (dIfE (dB (dIsi (dVar 1) "tuple")) (dCB (dCons (dVar 4) (dNil)) opTuple) (dVar 4))) [.own c', .fz (.tuple xs), s2, s3, .own (.lst ys)] (fun _ => False) (fun x r1 => wO (KV.ret (.rt x r1)) fun z => ∃ c2, z.2[0]? = some (.own c2) ∧ BentP b (m' + 1) w n (k + 1) z.1 c2) (fun _ => False) (fun _ => False) := by
    intro c' s2 s3 ys hy hb
    repeat' array_get_dec
    exact ⟨_, .inl rfl, hy.sz (.inr rfl), hb⟩
  refine ws_cut (M := fun r1 => r1 = [.own c1, .fz (.tuple xs), .fz (.int way), .un, .un]) ?_ ?_
  · repeat' array_get_dec
    · rename_i spot c2 hs0 hs1 hc2 hw
      obtain ⟨x, hx, hxm, hxj⟩ := atI_in hs0 hs1
      refine wpop_e rfl ⟨by omega, by omega⟩ (seq_at hs0 hs1) hxj (by simp only [List.set_cons_zero, List.set_cons_succ]; exact rfl) ?_
      exact (fin c2 _ _ _ (gx.erase _) (hc2.mono (by omega))).mono (fun _ q => q.elim) (fun _ _ q => q) (fun _ q => q) (fun _ q => q)
    · rename_i spot c2 hs0 hs1 hc2 hw hw2
      obtain ⟨x, hx, hxm, hxj⟩ := atI_in hs0 hs1
      refine wd_ins rfl ?_
      repeat' array_get_dec
      refine wo_ixL hx ?_
      repeat' array_get_dec
      refine ⟨⟨hs0, by omega, by omega⟩, ?_⟩
      exact (fin c2 _ _ _ (gx.dup _ hxm) (hc2.mono (by omega))).mono (fun _ q => q.elim) (fun _ _ q => q) (fun _ q => q) (fun _ q => q)
    · rename_i spot c2 hs0 hs1 hc2 hw hw2 hw3
      exact ⟨_, .inl rfl, (gx.rev).sz (.inr rfl), hc2.mono (by omega)⟩
    · rename_i spot c2 hs0 hs1 hc2 hw hw2 hw3
      obtain ⟨x, hx, hxm, hxj⟩ := atI_in hs0 hs1
      refine wo_ixL hx ?_
      repeat' array_get_dec
      refine (ih x b m' (costD x) (n + 2) c2 ⟨xo x hxm, xf x hxm, Nat.le_refl _⟩ (by omega) hb0 hb1 hc2 (by omega)).mono fun z c3 ⟨d', hz, hs, hb⟩ => ?_
      rcases hz with rfl | ⟨ys, rfl, rfl⟩
      · repeat' array_get_dec
        refine wsi rfl (ixN_at hs0 hs1) (by simp only [List.set_cons_zero, List.set_cons_succ]; exact rfl) ?_
        exact (fin c3 _ _ _ (gx.set hxj (Nat.le_refl _) rfl hs) (hb.mono (by omega))).mono (fun _ q => q.elim) (fun _ _ q => q) (fun _ q => q) (fun _ q => q)
      · repeat' array_get_dec
        refine wsi rfl (ixN_at hs0 hs1) (by simp only [List.set_cons_zero, List.set_cons_succ]; exact rfl) ?_
        exact (fin c3 _ _ _ (gx.set hxj (Nat.le_refl _) rfl hs) (hb.mono (by omega))).mono (fun _ q => q.elim) (fun _ _ q => q) (fun _ q => q) (fun _ q => q)
    all_goals rfl
  rintro _ rfl
  repeat' array_get_dec
  · exact ⟨_, .inr ⟨_, rfl, rfl⟩, gx.same.sz (.inl rfl), hc1.mono (by omega)⟩
  all_goals first
    | (refine odd_r hc1 (by omega) fun d c2 hd hb => ?_; simp only [List.set_cons_zero, List.set_cons_succ]; (repeat' array_get_dec); exact ⟨d, .inl rfl, hd.mono (by omega) (by omega) (by omega), hb.mono (by omega)⟩)
    | (refine wf_eq (l_is_int_ok rfl) ?_; rw [show numB (.tuple xs) = false from rfl]; (repeat' array_get_dec); refine odd_r hc1 (by omega) fun d c2 hd hb => ?_; simp only [List.set_cons_zero, List.set_cons_succ]; (repeat' array_get_dec); exact ⟨d, .inl rfl, hd.mono (by omega) (by omega) (by omega), hb.mono (by omega)⟩)
theorem bent_list {k : Nat} {xs : List PyData} {b m w n : Nat} {c : Ob} (ih : BentIH k) (h : Sz b (m + 1) w (.list xs)) (hm : m ≤ k) (hb0 : 30 ≤ b) (hb1 : b ≤ 50) (hc : BxI n c) (hn : n + 4 * (k + 1) ≤ 90000000) :
    wB (runB 5 (g__law_bent (Gz__law_bent k))) c [.list xs] (BentP b (m + 1) w n (k + 1)) := by
  obtain ⟨m', em, xl, xo, xf, xc⟩ := sz_items (xs := xs) (.inl rfl) h
  have em : m' = m := by omega
  subst em
  have gx : GX b m' w xs := ⟨xl, xo, xf, xc⟩
  refine wb_run (r := [.own c, .fz (.list xs), .un, .un, .un]) rfl ?_
  unfold g__law_bent
  refine ws_cut (M := fun r1 => ∃ (c1 : Ob) (way : Int), r1 = [.own c1, .fz (.list xs), .fz (.int way), .un, .un] ∧ BxI (n + 1) c1) ?_ ?_
  · repeat' array_get_dec
    exact ⟨_, _, rfl, by assumption⟩
  rintro _ ⟨c1, way, rfl, hc1⟩
  have fin : ∀ (c' : Ob) (s2 s3 : Sl) (ys : List PyData), GY b m' w ys → BxI (n + 4 * (k + 1)) c' → wS (dRet (dIfE (dB (dIsi (dVar 1) "tuple")) (dCB (dCons (dVar 4) (dNil)) opTuple) (dVar 4))) [.own c', .fz (.list xs), s2, s3, .own (.lst ys)] (fun _ => False) (fun x r1 => wO (KV.ret (.rt x r1)) fun z => ∃ c2, z.2[0]? = some (.own c2) ∧ BentP b (m' + 1) w n (k + 1) z.1 c2) (fun _ => False) (fun _ => False) := by
    intro c' s2 s3 ys hy hb
    repeat' array_get_dec
    exact ⟨_, .inr ⟨_, rfl, rfl⟩, hy.sz (.inl rfl), hb⟩
  refine ws_cut (M := fun r1 => r1 = [.own c1, .fz (.list xs), .fz (.int way), .un, .un]) ?_ ?_
  · repeat' array_get_dec
    · rename_i spot c2 hs0 hs1 hc2 hw
      obtain ⟨x, hx, hxm, hxj⟩ := atI_in hs0 hs1
      refine wpop_e rfl ⟨by omega, by omega⟩ (seq_at hs0 hs1) hxj (by simp only [List.set_cons_zero, List.set_cons_succ]; exact rfl) ?_
      exact (fin c2 _ _ _ (gx.erase _) (hc2.mono (by omega))).mono (fun _ q => q.elim) (fun _ _ q => q) (fun _ q => q) (fun _ q => q)
    · rename_i spot c2 hs0 hs1 hc2 hw hw2
      obtain ⟨x, hx, hxm, hxj⟩ := atI_in hs0 hs1
      refine wd_ins rfl ?_
      repeat' array_get_dec
      refine wo_ixL hx ?_
      repeat' array_get_dec
      refine ⟨⟨hs0, by omega, by omega⟩, ?_⟩
      exact (fin c2 _ _ _ (gx.dup _ hxm) (hc2.mono (by omega))).mono (fun _ q => q.elim) (fun _ _ q => q) (fun _ q => q) (fun _ q => q)
    · rename_i spot c2 hs0 hs1 hc2 hw hw2 hw3
      exact ⟨_, .inr ⟨_, rfl, rfl⟩, (gx.rev).sz (.inl rfl), hc2.mono (by omega)⟩
    · rename_i spot c2 hs0 hs1 hc2 hw hw2 hw3
      obtain ⟨x, hx, hxm, hxj⟩ := atI_in hs0 hs1
      refine wo_ixL hx ?_
      repeat' array_get_dec
      refine (ih x b m' (costD x) (n + 2) c2 ⟨xo x hxm, xf x hxm, Nat.le_refl _⟩ (by omega) hb0 hb1 hc2 (by omega)).mono fun z c3 ⟨d', hz, hs, hb⟩ => ?_
      rcases hz with rfl | ⟨ys, rfl, rfl⟩
      · repeat' array_get_dec
        refine wsi rfl (ixN_at hs0 hs1) (by simp only [List.set_cons_zero, List.set_cons_succ]; exact rfl) ?_
        exact (fin c3 _ _ _ (gx.set hxj (Nat.le_refl _) rfl hs) (hb.mono (by omega))).mono (fun _ q => q.elim) (fun _ _ q => q) (fun _ q => q) (fun _ q => q)
      · repeat' array_get_dec
        refine wsi rfl (ixN_at hs0 hs1) (by simp only [List.set_cons_zero, List.set_cons_succ]; exact rfl) ?_
        exact (fin c3 _ _ _ (gx.set hxj (Nat.le_refl _) rfl hs) (hb.mono (by omega))).mono (fun _ q => q.elim) (fun _ _ q => q) (fun _ q => q) (fun _ q => q)
    all_goals rfl
  rintro _ rfl
  repeat' array_get_dec
  all_goals first
    | (refine odd_r hc1 (by omega) fun d c2 hd hb => ?_; simp only [List.set_cons_zero, List.set_cons_succ]; (repeat' array_get_dec); exact ⟨d, .inl rfl, hd.mono (by omega) (by omega) (by omega), hb.mono (by omega)⟩)
    | (refine wf_eq (l_is_int_ok rfl) ?_; rw [show numB (.list xs) = false from rfl]; (repeat' array_get_dec); refine odd_r hc1 (by omega) fun d c2 hd hb => ?_; simp only [List.set_cons_zero, List.set_cons_succ]; (repeat' array_get_dec); exact ⟨d, .inl rfl, hd.mono (by omega) (by omega) (by omega), hb.mono (by omega)⟩)
theorem bent_v : ∀ (k : Nat), BentIH k
  | 0 => by
    intro d b m w n c h hm _ _ _ _
    have : m = 0 := by omega
    subst this
    have := h.ok
    simp [okB] at this
  | k + 1 => by
    intro d b m w n c h hm hb0 hb1 hc hn
    show wB (runB 5 (g__law_bent (Gz__law_bent k))) c [d] _
    cases m with
    | zero => have := h.ok; simp [okB] at this
    | succ m =>
      cases d with
      | tuple xs => exact bent_tuple (bent_v k) h (by omega) hb0 hb1 hc hn
      | list xs => exact bent_list (bent_v k) h (by omega) hb0 hb1 hc hn
      | dict _ => have := h.lf; simp [lfB] at this
      | none =>
        refine wb_run (r := [.own c, .fz (.none), .un, .un, .un]) rfl ?_
        unfold g__law_bent
        refine ws_cut (M := fun r1 => ∃ (c1 : Ob) (way : Int), r1 = [.own c1, .fz (.none), .fz (.int way), .un, .un] ∧ BxI (n + 1) c1) ?_ ?_
        · repeat' array_get_dec
          exact ⟨_, _, rfl, by assumption⟩
        rintro _ ⟨c1, way, rfl, hc1⟩
        repeat' array_get_dec
        all_goals first
          | (refine odd_r hc1 (by omega) fun d c2 hd hb => ?_; simp only [List.set_cons_zero, List.set_cons_succ]; (repeat' array_get_dec); exact ⟨d, .inl rfl, hd.mono (by omega) (by omega) (by omega), hb.mono (by omega)⟩)
          | (refine wf_eq (l_is_int_ok rfl) ?_; rw [show numB (.none) = false from rfl]; (repeat' array_get_dec); refine odd_r hc1 (by omega) fun d c2 hd hb => ?_; simp only [List.set_cons_zero, List.set_cons_succ]; (repeat' array_get_dec); exact ⟨d, .inl rfl, hd.mono (by omega) (by omega) (by omega), hb.mono (by omega)⟩)
      | bool q =>
        refine wb_run (r := [.own c, .fz (.bool q), .un, .un, .un]) rfl ?_
        unfold g__law_bent
        refine ws_cut (M := fun r1 => ∃ (c1 : Ob) (way : Int), r1 = [.own c1, .fz (.bool q), .fz (.int way), .un, .un] ∧ BxI (n + 1) c1) ?_ ?_
        · repeat' array_get_dec
          exact ⟨_, _, rfl, by assumption⟩
        rintro _ ⟨c1, way, rfl, hc1⟩
        repeat' array_get_dec
        all_goals first
          | (refine odd_r hc1 (by omega) fun d c2 hd hb => ?_; simp only [List.set_cons_zero, List.set_cons_succ]; (repeat' array_get_dec); exact ⟨d, .inl rfl, hd.mono (by omega) (by omega) (by omega), hb.mono (by omega)⟩)
          | (refine wf_eq (l_is_int_ok rfl) ?_; rw [show numB (.bool q) = false from rfl]; (repeat' array_get_dec); refine odd_r hc1 (by omega) fun d c2 hd hb => ?_; simp only [List.set_cons_zero, List.set_cons_succ]; (repeat' array_get_dec); exact ⟨d, .inl rfl, hd.mono (by omega) (by omega) (by omega), hb.mono (by omega)⟩)
      | int i =>
        refine wb_run (r := [.own c, .fz (.int i), .un, .un, .un]) rfl ?_
        unfold g__law_bent
        refine ws_cut (M := fun r1 => ∃ (c1 : Ob) (way : Int), r1 = [.own c1, .fz (.int i), .fz (.int way), .un, .un] ∧ BxI (n + 1) c1) ?_ ?_
        · repeat' array_get_dec
          exact ⟨_, _, rfl, by assumption⟩
        rintro _ ⟨c1, way, rfl, hc1⟩
        repeat' array_get_dec
        all_goals first
          | (refine odd_r hc1 (by omega) fun d c2 hd hb => ?_; simp only [List.set_cons_zero, List.set_cons_succ]; (repeat' array_get_dec); exact ⟨d, .inl rfl, hd.mono (by omega) (by omega) (by omega), hb.mono (by omega)⟩)
          | (refine wf_eq (l_is_int_ok rfl) ?_
             repeat' array_get_dec
             · refine pick_r hc1 (by omega) (by simp) fun x c3 hx hb3 => ?_
               obtain ⟨e, rfl, he⟩ : ∃ e : Int, x = .int e ∧ -1 ≤ e ∧ e ≤ 2 := by
                 simp only [List.mem_cons, List.not_mem_nil, or_false] at hx
                 rcases hx with rfl | rfl | rfl
                 · exact ⟨1, rfl, by omega, by omega⟩
                 · exact ⟨2, rfl, by omega, by omega⟩
                 · exact ⟨-1, rfl, by omega, by omega⟩
               simp only [List.set_cons_zero, List.set_cons_succ]
               repeat' array_get_dec
               refine ⟨_, .inl rfl, ⟨rfl, ?_, by show 24 ≤ 2 * w + 120; omega⟩, hb3.mono (by omega)⟩
               have := h.lf
               rw [lfB, decide_eq_true_eq] at this ⊢
               omega
             · (refine odd_r hc1 (by omega) fun d c2 hd hb => ?_; simp only [List.set_cons_zero, List.set_cons_succ]; (repeat' array_get_dec); exact ⟨d, .inl rfl, hd.mono (by omega) (by omega) (by omega), hb.mono (by omega)⟩))
      | str s =>
        refine wb_run (r := [.own c, .fz (.str s), .un, .un, .un]) rfl ?_
        unfold g__law_bent
        refine ws_cut (M := fun r1 => ∃ (c1 : Ob) (way : Int), r1 = [.own c1, .fz (.str s), .fz (.int way), .un, .un] ∧ BxI (n + 1) c1) ?_ ?_
        · repeat' array_get_dec
          exact ⟨_, _, rfl, by assumption⟩
        rintro _ ⟨c1, way, rfl, hc1⟩
        repeat' array_get_dec
        all_goals first
          | (refine odd_r hc1 (by omega) fun d c2 hd hb => ?_; simp only [List.set_cons_zero, List.set_cons_succ]; (repeat' array_get_dec); exact ⟨d, .inl rfl, hd.mono (by omega) (by omega) (by omega), hb.mono (by omega)⟩)
          | (refine wf_eq (l_is_int_ok rfl) ?_; rw [show numB (.str s) = false from rfl]; (repeat' array_get_dec); refine odd_r hc1 (by omega) fun d c2 hd hb => ?_; simp only [List.set_cons_zero, List.set_cons_succ]; (repeat' array_get_dec); exact ⟨d, .inl rfl, hd.mono (by omega) (by omega) (by omega), hb.mono (by omega)⟩)
end KL

end

section
local macro_rules | `(tactic| array_get_dec) => `(tactic| first
  | ((with_reducible refine KV.gS ?_); (first
      | with_reducible refine KV.ws_seq ?_
      | with_reducible refine KV.ws_set ?_
      | with_reducible refine KV.ws_ret ?_
      | with_reducible refine KV.ws_asg ?_
      | with_reducible refine KV.ws_par' ?_
      | with_reducible refine KV.ws_parO ?_
      | with_reducible refine KV.ws_par3' ?_
      | with_reducible refine KV.ws_drop ?_
      | with_reducible refine KV.ws_setIx' ?_
      | with_reducible refine KV.ws_next ?_
      | with_reducible refine KV.ws_break ?_
      | ((with_reducible apply KV.ws_gf_fz); exact rfl)
      | ((with_reducible apply KV.ws_gf_own'); exact rfl; (simp only [List.set_cons_zero, List.set_cons_succ]; try exact rfl))
      | with_reducible refine KV.ws_if ?_))
  | ((with_reducible refine KV.gD ?_); (first
      | with_reducible refine KV.wd_c ?_
      | with_reducible refine KV.wd_bin ?_
      | with_reducible refine KV.wd_un ?_
      | with_reducible refine KV.wd_cb ?_
      | with_reducible refine KV.wd_tup' ?_
      | with_reducible refine KV.wd_lst' ?_
      | with_reducible refine KV.wd_call ?_
      | with_reducible refine KV.wd_callK ?_
      | with_reducible refine KV.wd_callT ?_
      | with_reducible refine KV.wd_v ?_
      | with_reducible refine KV.wd_slice ?_
      | with_reducible refine KV.wd_isi ?_
      | with_reducible refine KV.wd_isi2 ?_
      | ((with_reducible apply KV.wd_fz); exact rfl)
      | ((with_reducible apply KV.wd_own); exact rfl)
      | ((with_reducible apply KV.wd_lck); exact rfl)
      | ((with_reducible apply KV.wd_callB'); exact rfl)
      | ((with_reducible apply KV.wd_app'); exact rfl)
      | ((with_reducible apply KV.wd_pop); exact rfl)
      | with_reducible refine KV.wd_if ?_
      | with_reducible refine KV.wd_chP ?_))
  | ((with_reducible refine KV.gO ?_); (first
      | with_reducible refine KV.wo_add ?_
      | with_reducible refine KV.wo_sub ?_
      | with_reducible refine KV.wo_neg ?_
      | with_reducible refine KV.wo_c ?_
      | with_reducible refine KV.wo_isN ?_
      | with_reducible refine KV.wo_notN ?_
      | with_reducible refine KV.wo_eqI ?_
      | with_reducible refine KV.wo_neI ?_
      | with_reducible refine KV.wo_eqNil ?_
      | with_reducible refine KV.wo_eqB ?_
      | with_reducible refine KV.wo_neB ?_
      | with_reducible refine KV.wo_neNil ?_
      | with_reducible refine KV.wo_inT ?_
      | with_reducible refine KV.wo_inL ?_
      | with_reducible refine KV.wo_notInT ?_
      | with_reducible refine KV.wo_notInL ?_
      | with_reducible refine KV.wo_srt ?_
      | with_reducible refine KV.wo_srtR ?_
      | with_reducible refine KV.wo_rev ?_
      | with_reducible refine KV.wo_lenL ?_
      | with_reducible refine KV.wo_lenT ?_
      | with_reducible refine KV.wo_intI ?_
      | with_reducible refine KV.wo_tupL ?_
      | with_reducible refine KV.wo_tupT ?_
      | with_reducible refine KV.wo_lstL ?_
      | with_reducible refine KV.wo_lstT ?_
      | ((with_reducible apply KV.wo_ixT); exact rfl)
      | ((with_reducible apply KV.wo_ixL); exact rfl)
      | ((with_reducible refine KV.wo_isT (b := true) ?_ ?_); exact rfl)
      | ((with_reducible refine KV.wo_isT (b := false) ?_ ?_); exact rfl)
      | ((with_reducible refine KV.wo_isT2 (b := true) ?_ ?_); exact rfl)
      | ((with_reducible refine KV.wo_isT2 (b := false) ?_ ?_); exact rfl)
      | ((with_reducible apply KV.wo_mul); omega)
      | ((with_reducible apply KV.wo_mod); omega)
      | ((with_reducible apply KV.wo_div); omega)
      | ((with_reducible apply KV.wo_addL); (simp only [List.length_append, List.length_cons, List.length_nil, List.length_map]; omega))
      | ((with_reducible apply KV.wo_addT); (simp only [List.length_append, List.length_cons, List.length_nil, List.length_map]; omega))))
  | with_reducible refine KV.wput2 ?_
  | ((with_reducible apply KV.wown); exact rfl)
  | ((with_reducible apply KV.wsi); exact rfl; exact rfl; (simp only [List.set_cons_zero, List.set_cons_succ]; try exact rfl))
  | with_reducible refine KV.wparp ?_
  | with_reducible refine KV.wparp3 ?_
  | with_reducible refine KV.wst_val ?_
  | with_reducible refine KV.wst_tmp ?_
  | with_reducible refine KV.wst_slot ?_
  | with_reducible refine KV.wdr_val ?_
  | with_reducible refine KV.wdr_tmp ?_
  | with_reducible refine KV.wfz_val ?_
  | with_reducible refine KV.wfz_tmp ?_
  | with_reducible refine KV.wn_nil ?_
  | with_reducible refine KV.wn_cons ?_
  | with_reducible refine KV.wdrs_nil ?_
  | with_reducible refine KV.wdrs_cons ?_
  | with_reducible refine KV.wv_nil ?_
  | with_reducible refine KV.wv_cons ?_
  | with_reducible refine KV.wp_none ?_
  | with_reducible refine KV.wp_some ?_
  | with_reducible refine KV.wt_b ?_
  | with_reducible refine KV.wt_not ?_
  | with_reducible refine KV.wt_yes ?_
  | with_reducible refine KV.wgs_nil ?_
  | with_reducible refine KV.wgs_cons ?_
  | with_reducible refine KV.wg_tup ?_
  | with_reducible refine KV.wi_seq ?_
  | with_reducible refine KV.wsq_list ?_
  | with_reducible refine KV.wsq_tup ?_
  | ((with_reducible apply KV.wsq_own); exact rfl; (simp only [List.set_cons_zero, List.set_cons_succ]; try exact rfl))
  | ((with_reducible apply KV.wsq_lck); exact rfl)
  | with_reducible refine KV.wr_val ?_
  | with_reducible refine KV.wr_tmp ?_
  | ((with_reducible apply KV.wdr_fz); exact rfl)
  | ((with_reducible apply KV.wdr_own); exact rfl)
  | ((with_reducible apply KV.wdr_lck); exact rfl)
  | ((with_reducible apply KV.wfz_fz); exact rfl)
  | ((with_reducible apply KV.wfz_own); exact rfl; (simp only [List.set_cons_zero, List.set_cons_succ]; try exact rfl))
  | ((with_reducible apply KV.wput_v); exact rfl; (first | exact rfl | assumption); (simp only [List.set_cons_zero, List.set_cons_succ]; try exact rfl))
  | ((with_reducible apply KV.wput_t); exact rfl; (first | exact rfl | assumption); (simp only [List.set_cons_zero, List.set_cons_succ]; try exact rfl))
  | ((with_reducible apply KV.wg_nm); exact rfl; (first | exact rfl | assumption); (simp only [List.set_cons_zero, List.set_cons_succ]; try exact rfl))
  | ((with_reducible apply KV.wcb); exact rfl)
  | ((with_reducible apply KV.wapp); exact rfl; (simp only [List.set_cons_zero, List.set_cons_succ]; try exact rfl))
  | ((with_reducible apply KV.wr_own); exact rfl)
  | ((with_reducible apply KV.wr_fz); exact rfl)
  | with_reducible refine KV.wt_and ?_
  | with_reducible refine KV.wt_or ?_
  | with_reducible refine KV.wsame ?_
  | with_reducible refine KV.wi_r1' ?_
  | with_reducible refine KV.wi_r2' ?_
  | ((with_reducible apply KV.wrg); omega; omega)
  | ((with_reducible apply KV.wrg2); omega; omega; omega; omega; omega)
  | with_reducible refine KV.and_t ?_
  | with_reducible refine KV.and_f ?_
  | with_reducible refine KV.and_nt ?_
  | with_reducible refine KV.and_nf ?_
  | with_reducible refine KV.and_dec ?_
  | with_reducible refine KV.and_ndec ?_
  | with_reducible refine And.intro (fun hb => ?_) (fun hb => ?_)
  | ((with_reducible refine And.intro ?_ (Nat.le_of_ble_eq_true rfl)))
  | with_reducible refine Exists.intro _ (And.intro rfl ?_)
  | fail "no step")
local macro_rules | `(tactic| array_get_dec) => `(tactic| ((with_reducible refine KL.take_r (by assumption) (by omega) (by omega) (fun d c h0 h1 hb => ?_)); (simp only [List.set_cons_zero, List.set_cons_succ])))
namespace KL
open PySem PySem.Spec PyProof.Rows L2 KV
theorem sz_comp {b m w : Nat} {xs : List PyData} (h : Sz b (m + 1) w (.tuple xs)) {x : PyData} (hx : x ∈ xs) : Sz b m w x := by
  obtain ⟨m', em, xl, xo, xf, xc⟩ := sz_items (xs := xs) (.inr rfl) h
  have em : m' = m := by omega
  subst em
  have := cost_mem hx
  exact ⟨xo x hx, xf x hx, by omega⟩
theorem world_ex {W : PyData} (h : worldB W = true) : ∃ zs a r, W = .tuple [.tuple zs, a, r] ∧ zs ≠ [] ∧ (∀ z ∈ zs, siteB z = true) ∧ ∃ ks : List (Int × Int), a = .tuple (ks.map keyD) := by
  unfold worldB at h
  split at h
  · rename_i zs a r
    simp only [Bool.and_eq_true] at h
    obtain ⟨h1, h2, h3, h4, h5, h6⟩ := h
    obtain ⟨ks, e, _, _⟩ := keysB_ex h3
    refine ⟨zs, a, r, rfl, fun e => ?_, List.all_eq_true.mp h2, ks, e⟩
    subst e
    cases h1
  · cases h
theorem mulT2 {zs : List PyData} (h0 : zs ≠ []) (h1 : zs.length ≤ 1000) : opMulT (.tuple zs) (.int 2) = some (.val (.tuple (zs ++ zs))) := by
  unfold opMulT
  dsimp only
  rw [if_pos ⟨h0, by decide, by decide, h1⟩]
  show some (KV.R.val (.tuple (List.replicate 2 zs).flatten)) = _
  simp [List.replicate]
abbrev SY (y : PyData) : Prop := Sz 60 13 16700000 y
theorem consts_sz : ∀ y ∈ [PyData.tuple [.tuple [.tuple [.int 1, .int 0], .tuple [.int 1, .int 1]], .tuple [], .none, .tuple [], .tuple []], .tuple [.tuple [.tuple [.int 1, .int 0]], .tuple [.int (-2), .int 5], .tuple [], .tuple [.int (-1), .int 0], .tuple [.int 1]], .tuple [.tuple [], .tuple [], .tuple [], .tuple [], .tuple []]], (okB 60 13 y && (lfB 60 y && decide (costD y ≤ 16700000))) = true := by decide +kernel
theorem judge_r {c : Ob} {W S V : PyData} {ys : List PyData} {s5 s6 : Sl} {xs : List PyData} (hx : ∀ y ∈ xs, SY y) {fi : DenI} {P : Nms → Prop}
    (hfi : wI fi [.own c, .fz W, .fz S, .fz V, .own (.lst ys), s5, s6, .un, .un] fun ds r1 uo => uo = none ∧ ds = xs ∧ r1 = [.own c, .fz W, .fz S, .fz V, .own (.lst ys), s5, s6, .un, .un])
    (hP : ∀ s7 s8, P [.own c, .fz W, .fz S, .fz V, .own (.lst ys), s5, s6, s7, s8]) {T : KV.R → Nms → Prop} {B C : Nms → Prop} :
    wS (dFor fi (gN 7) (dSeq (dSet 8 (dCB (dCons (dVar 7) (dNil)) opRepr)) (dIf (dOr (dNot (dB (dCall F__law_judged (vCons (dVar 7) (vNil))))) (dB (dBin (dCB (dCons (dVar 7) (dNil)) opRepr) (dVar 8) opNe))) (dRet (dC (.bool false))) (dNext))))
      [.own c, .fz W, .fz S, .fz V, .own (.lst ys), s5, s6, .un, .un] P T B C := by
  obtain ⟨ds, r1, uo, e, h0, rfl, rfl⟩ := hfi.ex
  refine ws_forI ⟨ds, _, uo, e, h0, fun i r1 => ∃ s7 s8, r1 = [.own c, .fz W, .fz S, .fz V, .own (.lst ys), s5, s6, s7, s8] ∧ nlk s7 = true ∧ nlk s8 = true, ⟨.un, .un, rfl, rfl, rfl⟩, ?_, ?_⟩
  · rintro i y _ hy ⟨s7, s8, rfl, n7, n8⟩
    have sy := hx y (List.mem_of_getElem? hy)
    refine wg_nm rfl n7 (by simp only [List.set_cons_zero, List.set_cons_succ]; exact rfl) ?_
    repeat' array_get_dec
    refine wo_repr sy (by omega) (by omega) (by omega) ?_
    refine wput_v rfl n8 (by simp only [List.set_cons_zero, List.set_cons_succ]; exact rfl) ?_
    repeat' array_get_dec
    refine wf_eq (judged_ok (okB_okS (by omega) _ _ sy.ok)) ?_
    repeat' array_get_dec
    refine wo_repr sy (by omega) (by omega) (by omega) ?_
    repeat' array_get_dec
    refine wo_neSame (n := 1) rfl (by omega) ?_
    repeat' array_get_dec
    exact ⟨_, _, rfl, rfl, rfl⟩
  · rintro _ ⟨s7, s8, rfl, _, _⟩
    exact hP s7 s8
end KL

end

section
local macro_rules | `(tactic| array_get_dec) => `(tactic| first
  | ((with_reducible refine KV.gS ?_); (first
      | with_reducible refine KV.ws_seq ?_
      | with_reducible refine KV.ws_set ?_
      | with_reducible refine KV.ws_ret ?_
      | with_reducible refine KV.ws_asg ?_
      | with_reducible refine KV.ws_par' ?_
      | with_reducible refine KV.ws_parO ?_
      | with_reducible refine KV.ws_par3' ?_
      | with_reducible refine KV.ws_drop ?_
      | with_reducible refine KV.ws_setIx' ?_
      | with_reducible refine KV.ws_next ?_
      | with_reducible refine KV.ws_break ?_
      | ((with_reducible apply KV.ws_gf_fz); exact rfl)
      | ((with_reducible apply KV.ws_gf_own'); exact rfl; (simp only [List.set_cons_zero, List.set_cons_succ]; try exact rfl))
      | with_reducible refine KV.ws_if ?_))
  | ((with_reducible refine KV.gD ?_); (first
      | with_reducible refine KV.wd_c ?_
      | with_reducible refine KV.wd_bin ?_
      | with_reducible refine KV.wd_un ?_
      | with_reducible refine KV.wd_cb ?_
      | with_reducible refine KV.wd_tup' ?_
      | with_reducible refine KV.wd_lst' ?_
      | with_reducible refine KV.wd_call ?_
      | with_reducible refine KV.wd_callK ?_
      | with_reducible refine KV.wd_callT ?_
      | with_reducible refine KV.wd_v ?_
      | with_reducible refine KV.wd_slice ?_
      | with_reducible refine KV.wd_isi ?_
      | with_reducible refine KV.wd_isi2 ?_
      | ((with_reducible apply KV.wd_fz); exact rfl)
      | ((with_reducible apply KV.wd_own); exact rfl)
      | ((with_reducible apply KV.wd_lck); exact rfl)
      | ((with_reducible apply KV.wd_callB'); exact rfl)
      | ((with_reducible apply KV.wd_app'); exact rfl)
      | ((with_reducible apply KV.wd_pop); exact rfl)
      | with_reducible refine KV.wd_if ?_
      | with_reducible refine KV.wd_chP ?_))
  | ((with_reducible refine KV.gO ?_); (first
      | with_reducible refine KV.wo_add ?_
      | with_reducible refine KV.wo_sub ?_
      | with_reducible refine KV.wo_neg ?_
      | with_reducible refine KV.wo_c ?_
      | with_reducible refine KV.wo_isN ?_
      | with_reducible refine KV.wo_notN ?_
      | with_reducible refine KV.wo_eqI ?_
      | with_reducible refine KV.wo_neI ?_
      | with_reducible refine KV.wo_eqNil ?_
      | with_reducible refine KV.wo_eqB ?_
      | with_reducible refine KV.wo_neB ?_
      | with_reducible refine KV.wo_neNil ?_
      | with_reducible refine KV.wo_inT ?_
      | with_reducible refine KV.wo_inL ?_
      | with_reducible refine KV.wo_notInT ?_
      | with_reducible refine KV.wo_notInL ?_
      | with_reducible refine KV.wo_srt ?_
      | with_reducible refine KV.wo_srtR ?_
      | with_reducible refine KV.wo_rev ?_
      | with_reducible refine KV.wo_lenL ?_
      | with_reducible refine KV.wo_lenT ?_
      | with_reducible refine KV.wo_intI ?_
      | with_reducible refine KV.wo_tupL ?_
      | with_reducible refine KV.wo_tupT ?_
      | with_reducible refine KV.wo_lstL ?_
      | with_reducible refine KV.wo_lstT ?_
      | ((with_reducible apply KV.wo_ixT); exact rfl)
      | ((with_reducible apply KV.wo_ixL); exact rfl)
      | ((with_reducible refine KV.wo_isT (b := true) ?_ ?_); exact rfl)
      | ((with_reducible refine KV.wo_isT (b := false) ?_ ?_); exact rfl)
      | ((with_reducible refine KV.wo_isT2 (b := true) ?_ ?_); exact rfl)
      | ((with_reducible refine KV.wo_isT2 (b := false) ?_ ?_); exact rfl)
      | ((with_reducible apply KV.wo_mul); omega)
      | ((with_reducible apply KV.wo_mod); omega)
      | ((with_reducible apply KV.wo_div); omega)
      | ((with_reducible apply KV.wo_addL); (simp only [List.length_append, List.length_cons, List.length_nil, List.length_map]; omega))
      | ((with_reducible apply KV.wo_addT); (simp only [List.length_append, List.length_cons, List.length_nil, List.length_map]; omega))))
  | with_reducible refine KV.wput2 ?_
  | ((with_reducible apply KV.wown); exact rfl)
  | ((with_reducible apply KV.wsi); exact rfl; exact rfl; (simp only [List.set_cons_zero, List.set_cons_succ]; try exact rfl))
  | with_reducible refine KV.wparp ?_
  | with_reducible refine KV.wparp3 ?_
  | with_reducible refine KV.wst_val ?_
  | with_reducible refine KV.wst_tmp ?_
  | with_reducible refine KV.wst_slot ?_
  | with_reducible refine KV.wdr_val ?_
  | with_reducible refine KV.wdr_tmp ?_
  | with_reducible refine KV.wfz_val ?_
  | with_reducible refine KV.wfz_tmp ?_
  | with_reducible refine KV.wn_nil ?_
  | with_reducible refine KV.wn_cons ?_
  | with_reducible refine KV.wdrs_nil ?_
  | with_reducible refine KV.wdrs_cons ?_
  | with_reducible refine KV.wv_nil ?_
  | with_reducible refine KV.wv_cons ?_
  | with_reducible refine KV.wp_none ?_
  | with_reducible refine KV.wp_some ?_
  | with_reducible refine KV.wt_b ?_
  | with_reducible refine KV.wt_not ?_
  | with_reducible refine KV.wt_yes ?_
  | with_reducible refine KV.wgs_nil ?_
  | with_reducible refine KV.wgs_cons ?_
  | with_reducible refine KV.wg_tup ?_
  | with_reducible refine KV.wi_seq ?_
  | with_reducible refine KV.wsq_list ?_
  | with_reducible refine KV.wsq_tup ?_
  | ((with_reducible apply KV.wsq_own); exact rfl; (simp only [List.set_cons_zero, List.set_cons_succ]; try exact rfl))
  | ((with_reducible apply KV.wsq_lck); exact rfl)
  | with_reducible refine KV.wr_val ?_
  | with_reducible refine KV.wr_tmp ?_
  | ((with_reducible apply KV.wdr_fz); exact rfl)
  | ((with_reducible apply KV.wdr_own); exact rfl)
  | ((with_reducible apply KV.wdr_lck); exact rfl)
  | ((with_reducible apply KV.wfz_fz); exact rfl)
  | ((with_reducible apply KV.wfz_own); exact rfl; (simp only [List.set_cons_zero, List.set_cons_succ]; try exact rfl))
  | ((with_reducible apply KV.wput_v); exact rfl; (first | exact rfl | assumption); (simp only [List.set_cons_zero, List.set_cons_succ]; try exact rfl))
  | ((with_reducible apply KV.wput_t); exact rfl; (first | exact rfl | assumption); (simp only [List.set_cons_zero, List.set_cons_succ]; try exact rfl))
  | ((with_reducible apply KV.wg_nm); exact rfl; (first | exact rfl | assumption); (simp only [List.set_cons_zero, List.set_cons_succ]; try exact rfl))
  | ((with_reducible apply KV.wcb); exact rfl)
  | ((with_reducible apply KV.wapp); exact rfl; (simp only [List.set_cons_zero, List.set_cons_succ]; try exact rfl))
  | ((with_reducible apply KV.wr_own); exact rfl)
  | ((with_reducible apply KV.wr_fz); exact rfl)
  | with_reducible refine KV.wt_and ?_
  | with_reducible refine KV.wt_or ?_
  | with_reducible refine KV.wsame ?_
  | with_reducible refine KV.wi_r1' ?_
  | with_reducible refine KV.wi_r2' ?_
  | ((with_reducible apply KV.wrg); omega; omega)
  | ((with_reducible apply KV.wrg2); omega; omega; omega; omega; omega)
  | with_reducible refine KV.and_t ?_
  | with_reducible refine KV.and_f ?_
  | with_reducible refine KV.and_nt ?_
  | with_reducible refine KV.and_nf ?_
  | with_reducible refine KV.and_dec ?_
  | with_reducible refine KV.and_ndec ?_
  | with_reducible refine And.intro (fun hb => ?_) (fun hb => ?_)
  | ((with_reducible refine And.intro ?_ (Nat.le_of_ble_eq_true rfl)))
  | with_reducible refine Exists.intro _ (And.intro rfl ?_)
  | fail "no step")
local macro_rules | `(tactic| array_get_dec) => `(tactic| ((with_reducible refine KL.take_r (by assumption) (by omega) (by omega) (fun d c h0 h1 hb => ?_)); (simp only [List.set_cons_zero, List.set_cons_succ])))
namespace KL
open PySem PySem.Spec PyProof.Rows L2 KV
theorem cut_to {xs : List PyData} {k : Nat} (h : k ≤ xs.length) : KV.cutD xs none (some (k : Int)) = xs.take k := by
  unfold KV.cutD
  rw [HT.sIx_none, HT.sIx_nat, Nat.min_eq_left h, List.drop_zero, Nat.sub_zero]
theorem globe_part {r0 : Nms} {n : Nat} {c : Ob} {zs ents : List PyData} {A R0 V t : PyData} (hz : zs ≠ []) (zl : zs.length ≤ 30) {rest : List PyData} {s5 s6 s7 s8 : Sl} {Q : Nms → Prop} {T : KV.R → Nms → Prop} {B C : Nms → Prop}
    (h : Q [.own c, .fz (.tuple [.tuple zs, A, R0]), .fz (.tuple (.tuple ents :: rest)), .fz V, .own (.lst [.tuple [.tuple zs, A, R0], .tuple (.tuple ents :: rest), .tuple ents, V, A, .tuple [.int 3, .int 0], .tuple [.tuple zs, .tuple [], R0], .tuple [.tuple (zs ++ zs), A, R0]]), s5, s6, s7, s8]) :
    wS (dSet 4 (dLst (vCons (dVar 1) (vCons (dVar 2) (vCons (dBin (dVar 2) (dC (.int 0)) opIx) (vCons (dVar 3) (vCons (dBin (dVar 1) (dC (.int 1)) opIx) (vCons (dTup (vCons (dC (.int 3)) (vCons (dC (.int 0)) (vNil)))) (vCons (dBin (dBin (dSlice (dVar 1) none (some (dC (.int 1)))) (dTup (vCons (dTup (vNil)) (vNil))) opAdd) (dSlice (dVar 1) (some (dC (.int 2))) none) opAdd) (vCons (dBin (dTup (vCons (dBin (dBin (dVar 1) (dC (.int 0)) opIx) (dC (.int 2)) opMulT) (vNil))) (dSlice (dVar 1) (some (dC (.int 1))) none) opAdd) (vNil))))))))))) [.own c, .fz (.tuple [.tuple zs, A, R0]), .fz (.tuple (.tuple ents :: rest)), .fz V, .un, s5, s6, s7, s8] Q T B C := by
  repeat' array_get_dec
  refine wo_ixT (d := .tuple ents) at_zero ?_
  repeat' array_get_dec
  refine wo_eq (z := .val (.tuple [.tuple zs])) rfl ?_
  repeat' array_get_dec
  refine wo_eq (z := .val (.tuple [R0])) rfl ?_
  repeat' array_get_dec
  refine wo_eq (mulT2 hz (by omega)) ?_
  repeat' array_get_dec
  refine wo_eq (z := .val (.tuple [A, R0])) rfl ?_
  repeat' array_get_dec
  exact h
theorem right_w {n : Nat} {c : Ob} (h : BxI n c) (hn : n ≤ 20000000) : wB G__law_right c [] fun z _ => z = .val (.bool true) := by
  unfold G__law_right
  refine wb_run (r := [.own c, .un, .un, .un, .un, .un, .un, .un, .un]) rfl ?_
  unfold g__law_right
  refine ws_cut (M := fun r1 => ∃ (c' : Ob) (W : PyData), r1 = [.own c', .fz W, .un, .un, .un, .un, .un, .un, .un] ∧ WV W ∧ BxI (n + 701) c') ?_ ?_
  · repeat' array_get_dec
    refine world_v h (by omega) fun W c' hW hb => ?_
    simp only [List.set_cons_zero, List.set_cons_succ]
    repeat' array_get_dec
    exact ⟨c', W, rfl, hW, hb⟩
  rintro _ ⟨c1, W, rfl, hW, hb1⟩
  obtain ⟨zs, A, R0, rfl, hz0, hzs, hA⟩ := world_ex hW.1
  have sW := hW.2
  have sZ : Sz 30 8 2781063 (.tuple zs) := sz_comp sW (by simp)
  have sA : Sz 30 8 2781063 A := sz_comp sW (by simp)
  have sR : Sz 30 8 2781063 R0 := sz_comp sW (by simp)
  obtain ⟨_, _, zl, _, _, zc⟩ := sz_items (.inr rfl) sZ
  have zpos : 0 < zs.length := List.length_pos_iff.mpr hz0
  refine ws_cut (M := fun r1 => ∃ (c' : Ob) (S : PyData), r1 = [.own c', .fz (.tuple [.tuple zs, A, R0]), .fz S, .un, .un, .un, .un, .un, .un] ∧ S ∈ zs ∧ BxI (n + 702) c') ?_ ?_
  · repeat' array_get_dec
    refine pick_r hb1 (by omega) (by omega) fun x c3 hx hb3 => ?_
    simp only [List.set_cons_zero, List.set_cons_succ]
    repeat' array_get_dec
    exact ⟨c3, x, rfl, hx, hb3⟩
  rintro _ ⟨c2, S, rfl, hS, hb2⟩
  have sS : Sz 30 7 2781063 S := sz_comp sZ hS
  obtain ⟨ts, rest, rfl, ht0, hts⟩ := site_ex (hzs S hS)
  have sL : Sz 30 6 2781063 (.tuple (ts.map entD)) := sz_comp sS (by simp)
  obtain ⟨_, _, tl, _, _, _⟩ := sz_items (.inr rfl) sL
  have tpos : 0 < (ts.map entD).length := by rw [List.length_map]; exact List.length_pos_iff.mpr ht0
  refine ws_cut (M := fun r1 => ∃ (c' : Ob) (V : PyData), r1 = [.own c', .fz (.tuple [.tuple zs, A, R0]), .fz (.tuple (.tuple (ts.map entD) :: rest)), .fz V, .un, .un, .un, .un, .un] ∧ Sz 30 4 2781063 V ∧ BxI (n + 703) c') ?_ ?_
  · repeat' array_get_dec
    refine wo_ixT (d := .tuple (ts.map entD)) at_zero ?_
    repeat' array_get_dec
    refine pick_r hb2 (by omega) (by omega) fun x c3 hx hb3 => ?_
    have sx : Sz 30 5 2781063 x := sz_comp sL hx
    obtain ⟨p, hp, rfl⟩ := List.mem_map.mp hx
    unfold entD at sx ⊢
    simp only [List.set_cons_zero, List.set_cons_succ]
    repeat' array_get_dec
    exact ⟨c3, p.2, rfl, sz_comp sx (by simp), hb3⟩
  rintro _ ⟨c3, V, rfl, sV, hb3⟩
  have sW' : Sz 30 9 2781063 (.tuple [.tuple zs, A, R0]) := sW
  generalize hL8 : [PyData.tuple [.tuple zs, A, R0], .tuple (.tuple (ts.map entD) :: rest), .tuple (ts.map entD), V, A, .tuple [.int 3, .int 0], .tuple [.tuple zs, .tuple [], R0], .tuple [.tuple (zs ++ zs), A, R0]] = L8
  refine ws_cut (M := fun r1 => r1 = [.own c3, .fz (.tuple [.tuple zs, A, R0]), .fz (.tuple (.tuple (ts.map entD) :: rest)), .fz V, .own (.lst L8), .un, .un, .un, .un]) (globe_part (r0 := []) (n := 0) (t := .none) hz0 zl (by rw [hL8])) ?_
  rintro _ rfl
  have p5 : ∀ x ∈ L8.take 5, Sz 30 9 2781063 x := by
    intro x hx
    subst hL8
    simp only [List.take_succ_cons, List.take_zero, List.mem_cons, List.not_mem_nil, or_false] at hx
    rcases hx with rfl | rfl | rfl | rfl | rfl
    · exact sW
    · exact sS.mono (by omega) (by omega) (by omega)
    · exact sL.mono (by omega) (by omega) (by omega)
    · exact sV.mono (by omega) (by omega) (by omega)
    · exact sA.mono (by omega) (by omega) (by omega)
  have p8 : ∀ x ∈ L8, SY x := by
    intro x hx
    subst hL8
    simp only [List.mem_cons, List.not_mem_nil, or_false] at hx
    rcases hx with rfl | rfl | rfl | rfl | rfl | rfl | rfl | rfl
    · exact sW.mono (by omega) (by omega) (by omega)
    · exact sS.mono (by omega) (by omega) (by omega)
    · exact sL.mono (by omega) (by omega) (by omega)
    · exact sV.mono (by omega) (by omega) (by omega)
    · exact sA.mono (by omega) (by omega) (by omega)
    · exact ⟨by decide +kernel, by decide +kernel, by decide +kernel⟩
    · refine (sz_tup (b := 30) (n := 8) (w := 2781063) (k := 3) (fun y hy => ?_) (by simp) (by omega)).mono (by omega) (by omega) (by omega)
      simp only [List.mem_cons, List.not_mem_nil, or_false] at hy
      rcases hy with rfl | rfl | rfl
      · exact sZ
      · exact ⟨rfl, rfl, by decide⟩
      · exact sR
    · refine (sz_tup (b := 60) (n := 8) (w := 5562126) (k := 3) (fun y hy => ?_) (by simp) (by omega)).mono (by omega) (by omega) (by omega)
      simp only [List.mem_cons, List.not_mem_nil, or_false] at hy
      rcases hy with rfl | rfl | rfl
      · obtain ⟨m0, em, _, zo, zf, _⟩ := sz_items (.inr rfl) sZ
        have em : m0 = 7 := by omega
        subst em
        exact sz_mk (.inr rfl) (by rw [List.length_append]; omega) (fun x hx => okB_mono (by omega) _ _ _ (Nat.le_refl _) (zo x (by rcases List.mem_append.mp hx with h | h <;> exact h))) (fun x hx => lf_mono (by omega) x (zf x (by rcases List.mem_append.mp hx with h | h <;> exact h))) (by rw [costAll_app]; omega)
      · exact sA.mono (by omega) (by omega) (by omega)
      · exact sR.mono (by omega) (by omega) (by omega)
  have l8 : L8.length = 8 := by rw [← hL8]; rfl
  clear hL8
  generalize hWW : PyData.tuple [.tuple zs, A, R0] = WW at *
  generalize hSS : PyData.tuple (.tuple (ts.map entD) :: rest) = SS at *
  refine ws_cut (M := fun r1 => ∃ (c' : Ob) (ys : List PyData), r1 = [.own c', .fz WW, .fz SS, .fz V, .own (.lst (L8 ++ ys)), .un, .un, .un, .un] ∧ ys.length ≤ 6 ∧ (∀ y ∈ ys, SY y) ∧ BxI (n + 709) c') ?_ ?_
  · repeat' array_get_dec
    refine wd_lc ?_
    repeat' array_get_dec
    refine ⟨rfl, fun i acc r2 => ∃ (c' : Ob), r2 = [.own c', .fz WW, .fz SS, .fz V, .own (.lst L8), .un, .un, .un, .un] ∧ acc.length ≤ i ∧ (∀ y ∈ acc, SY y) ∧ BxI (n + 703 + i) c', ⟨c3, rfl, Nat.le_refl _, (fun y h => by cases h), hb3⟩, ?_, ?_⟩
    · rintro i d acc _ hd ⟨c', rfl, hl, hy, hbi⟩
      have hi : i < 6 := (range_at hd).1
      repeat' array_get_dec
      refine odd_r hbi (by omega) fun d' c4 hd' hb' => ?_
      simp only [List.set_cons_zero, List.set_cons_succ]
      repeat' array_get_dec
      refine ⟨by rw [List.length_append]; simp; omega, fun y hm => ?_, hb'.mono (by omega)⟩
      rcases List.mem_append.mp hm with q | q
      · exact hy y q
      · rw [List.mem_singleton.mp q]; exact hd'.mono (by omega) (by omega) (by omega)
    · rintro xs _ ⟨c', rfl, hl, hy, hbi⟩
      rw [rangeD_length] at hl hbi
      rw [show (unlck none (restE [5] [Sl.own c3, .fz WW, .fz SS, .fz V, .own (.lst L8), .un, .un, .un, .un] [Sl.own c', .fz WW, .fz SS, .fz V, .own (.lst L8), .un, .un, .un, .un])) = [Sl.own c', .fz WW, .fz SS, .fz V, .own (.lst L8), .un, .un, .un, .un] from rfl]
      repeat' array_get_dec
      refine wo_addL (by omega) ?_
      repeat' array_get_dec
      exact ⟨c', xs, rfl, hl, hy, hbi.mono (by simp; try omega)⟩
  rintro _ ⟨c4, ys0, rfl, hl0, hy0, hb4⟩
  refine ws_cut (M := fun r1 => ∃ (c' : Ob) (ys : List PyData) (s5 s6 : Sl), r1 = [.own c', .fz WW, .fz SS, .fz V, .own (.lst ys), s5, s6, .un, .un] ∧ ys.length ≤ 100 ∧ (∀ y ∈ ys, SY y) ∧ BxI (n + 4000) c') ?_ ?_
  · refine ws_forI ?_
    repeat' array_get_dec
    refine ⟨rfl, fun i r1 => ∃ (c' : Ob) (ys : List PyData) (s5 s6 : Sl), r1 = [.own c', .fz WW, .fz SS, .fz V, .own (.lst ys), s5, s6, .un, .un] ∧ nlk s5 = true ∧ nlk s6 = true ∧ ys.take 5 = L8.take 5 ∧ 5 ≤ ys.length ∧ ys.length ≤ 14 + i ∧ (∀ y ∈ ys, SY y) ∧ BxI (n + 709 + 101 * i) c', ?_, ?_, ?_⟩
    · exact ⟨c4, L8 ++ ys0, .un, .un, rfl, rfl, rfl, by rw [List.take_append_of_le_length (by omega)], by rw [List.length_append]; omega, by rw [List.length_append]; omega, fun y hm => (List.mem_append.mp hm).elim (p8 y) (hy0 y), hb4.mono (by omega)⟩
    · rintro i d _ hd ⟨c', ys, s5, s6, rfl, n5, n6, ht5, h5, hl, hy, hbi⟩
      have hi : i < 30 := (range_at hd).1
      refine wg_nm rfl n5 (by simp only [List.set_cons_zero, List.set_cons_succ]; exact rfl) ?_
      refine ws_cut (M := fun r1 => ∃ (c' : Ob) (d' : PyData) (s6 : Sl), r1 = [.own c', .fz WW, .fz SS, .fz V, .own (.lst ys), .fz d, s6, .un, .un] ∧ (s6 = .fz d' ∨ ∃ xs, s6 = .own (.lst xs) ∧ d' = .list xs) ∧ Sz 31 11 5562246 d' ∧ BxI (n + 709 + 101 * i + 49) c') ?_ ?_
      · repeat' array_get_dec
        refine wo_eq (z := .tmp (.lst (L8.take 5))) (by show some (KV.R.tmp (.lst (KV.cutD ys none (some ((5 : Nat) : Int))))) = _; rw [cut_to h5, ht5]) ?_
        repeat' array_get_dec
        refine pick_r hbi (by omega) (by rw [List.length_take]; omega) fun x c5 hx hb5 => ?_
        simp only [List.set_cons_zero, List.set_cons_succ]
        repeat' array_get_dec
        refine (bent_v 12 x 30 9 2781063 _ c5 (p5 x hx) (by omega) (by omega) (by omega) hb5 (by omega)).mono fun z c6 ⟨d', hz, hs, hb⟩ => ?_
        simp only [List.set_cons_zero, List.set_cons_succ]
        rcases hz with rfl | ⟨xs, rfl, rfl⟩
        · refine wput_v rfl n6 (by simp only [List.set_cons_zero, List.set_cons_succ]; exact rfl) ?_
          exact ⟨c6, d', _, rfl, .inl rfl, hs, hb.mono (by omega)⟩
        · refine wput_t rfl n6 (by simp only [List.set_cons_zero, List.set_cons_succ]; exact rfl) ?_
          exact ⟨c6, _, _, rfl, .inr ⟨xs, rfl, rfl⟩, hs, hb.mono (by omega)⟩
      rintro _ ⟨c5, d', s6', rfl, hs6, hs, hb5⟩
      have fin : ∀ (c6 : Ob) (s6 : Sl) (e : PyData), nlk s6 = true → SY e → BxI (n + 709 + 101 * i + 101) c6 → ∃ (c' : Ob) (ys' : List PyData) (s5 s6' : Sl), [Sl.own c6, .fz WW, .fz SS, .fz V, .own (.lst (ys ++ [e])), .fz d, s6, .un, .un] = [.own c', .fz WW, .fz SS, .fz V, .own (.lst ys'), s5, s6', .un, .un] ∧ nlk s5 = true ∧ nlk s6' = true ∧ ys'.take 5 = L8.take 5 ∧ 5 ≤ ys'.length ∧ ys'.length ≤ 14 + (i + 1) ∧ (∀ y ∈ ys', SY y) ∧ BxI (n + 709 + 101 * (i + 1)) c' :=
        fun c6 s6 e n6 he hb => ⟨c6, ys ++ [e], .fz d, s6, rfl, rfl, n6, by rw [List.take_append_of_le_length h5, ht5], by rw [List.length_append]; omega, by rw [List.length_append]; simp only [List.length_cons, List.length_nil]; omega, fun y hm => (List.mem_append.mp hm).elim (hy y) (fun q => by rw [List.mem_singleton.mp q]; exact he), hb.mono (by omega)⟩
      rcases hs6 with rfl | ⟨xs, rfl, rfl⟩
      · repeat' array_get_dec
        · refine (bent_v 12 _ 31 11 5562246 (n + 709 + 101 * i + 49 + 1) _ hs (by omega) (by omega) (by omega) (by assumption) (by omega)).mono fun z c6 ⟨d2, hz, hs2, hb2⟩ => ?_
          simp only [List.set_cons_zero, List.set_cons_succ]
          have hs3 : SY d2 := hs2.mono (by omega) (by omega) (by omega)
          rcases hz with rfl | ⟨xs2, rfl, rfl⟩
          · repeat' array_get_dec
            · exact fin _ _ _ rfl hs3 (hb2.mono (by omega))
            · rw [sizeLine_eq]; omega
          · repeat' array_get_dec
            · exact fin _ _ _ rfl hs3 (hb2.mono (by omega))
            · rw [sizeLine_eq]; omega
        · exact fin _ _ _ rfl (hs.mono (by omega) (by omega) (by omega)) (BxI.mono (by assumption) (by omega))
        · rw [sizeLine_eq]; omega
      · repeat' array_get_dec
        · refine (bent_v 12 _ 31 11 5562246 (n + 709 + 101 * i + 49 + 1) _ hs (by omega) (by omega) (by omega) (by assumption) (by omega)).mono fun z c6 ⟨d2, hz, hs2, hb2⟩ => ?_
          simp only [List.set_cons_zero, List.set_cons_succ]
          have hs3 : SY d2 := hs2.mono (by omega) (by omega) (by omega)
          rcases hz with rfl | ⟨xs2, rfl, rfl⟩
          · repeat' array_get_dec
            · exact fin _ _ _ rfl hs3 (hb2.mono (by omega))
            · rw [sizeLine_eq]; omega
          · repeat' array_get_dec
            · exact fin _ _ _ rfl hs3 (hb2.mono (by omega))
            · rw [sizeLine_eq]; omega
        · exact fin _ _ _ rfl (hs.mono (by omega) (by omega) (by omega)) (BxI.mono (by assumption) (by omega))
        · rw [sizeLine_eq]; omega
    · rintro _ ⟨c', ys, s5, s6, rfl, n5, n6, ht5, h5, hl, hy, hbi⟩
      rw [rangeD_length] at hl hbi
      exact ⟨c', ys, s5, s6, rfl, by simp at hl; omega, hy, hbi.mono (by simp; try omega)⟩
  rintro _ ⟨c5, ys1, s5, s6, rfl, hl1, hy1, hb5⟩
  refine ws_cut (M := fun r1 => r1 = [.own c5, .fz WW, .fz SS, .fz V, .own (.lst ys1), s5, s6, .un, .un]) ?_ ?_
  · repeat' array_get_dec
    refine wf_eq (l_is_globe_ok (okB_okS (by omega) _ _ sW.ok)) ?_
    rw [hW.1]
    repeat' array_get_dec
    rfl
  rintro _ rfl
  refine ws_cut (M := fun r1 => ∃ ys : List PyData, r1 = [.own c5, .fz WW, .fz SS, .fz V, .own (.lst ys), s5, s6, .un, .un] ∧ ys.length ≤ 110 ∧ (∀ y ∈ ys, SY y)) ?_ ?_
  · repeat' array_get_dec
    refine ⟨by rw [List.length_append]; simp only [List.length_cons, List.length_nil]; omega, fun y hm => ?_⟩
    rcases List.mem_append.mp hm with q | q
    · exact hy1 y q
    · have := consts_sz y q
      simp only [Bool.and_eq_true, decide_eq_true_eq] at this
      exact ⟨this.1, this.2.1, this.2.2⟩
  rintro _ ⟨ys2, rfl, hl2, hy2⟩
  subst hSS
  have six : ∀ a b c d e : Int, (0 ≤ a ∧ a ≤ 1000) → (0 ≤ b ∧ b ≤ 1000) → (0 ≤ c ∧ c ≤ 1000) → (0 ≤ d ∧ d ≤ 1000) → (0 ≤ e ∧ e ≤ 1000) → SY (.tuple [.tuple (ts.map entD), .int a, .int b, .int c, .int d, .int e]) := by
    intro a b c d e ha hb hc hd he
    refine (sz_mk (b := 60) (m := 6) (w := 3000000) (.inr rfl) (by simp) (fun x hx => ?_) (fun x hx => ?_) ?_).mono (by omega) (by omega) (by omega)
    · simp only [List.mem_cons, List.not_mem_nil, or_false] at hx
      rcases hx with rfl | rfl | rfl | rfl | rfl | rfl
      · exact okB_mono (by omega) _ _ _ (by omega) sL.ok
      all_goals rfl
    · simp only [List.mem_cons, List.not_mem_nil, or_false] at hx
      rcases hx with rfl | rfl | rfl | rfl | rfl | rfl
      · exact lf_mono (by omega) _ sL.lf
      · exact (sz_int (b := 60) ha).lf
      · exact (sz_int (b := 60) hb).lf
      · exact (sz_int (b := 60) hc).lf
      · exact (sz_int (b := 60) hd).lf
      · exact (sz_int (b := 60) he).lf
    · have := sL.ct
      simp only [costAll]
      rw [costD, costD, costD, costD, costD]
      omega
  refine ws_seq (judge_r (xs := ys2 ++ [.tuple [.tuple (ts.map entD), .int 1, .int 2, .int 0, .int 1, .int 1], .tuple [.tuple (ts.map entD), .int 2, .int 2, .int 0, .int 1, .int 0], .tuple [.tuple (ts.map entD), .int 2, .int 0, .int 0, .int 1, .int 1]]) ?_ ?_ ?_)
  · intro y hm
    rcases List.mem_append.mp hm with q | q
    · exact hy2 y q
    · simp only [List.mem_cons, List.not_mem_nil, or_false] at q
      rcases q with rfl | rfl | rfl
      · exact six _ _ _ _ _ (by omega) (by omega) (by omega) (by omega) (by omega)
      · exact six _ _ _ _ _ (by omega) (by omega) (by omega) (by omega) (by omega)
      · exact six _ _ _ _ _ (by omega) (by omega) (by omega) (by omega) (by omega)
  · repeat' array_get_dec
    refine wo_ixT (d := .tuple (ts.map entD)) at_zero ?_
    repeat' array_get_dec
    refine wo_ixT (d := .tuple (ts.map entD)) at_zero ?_
    repeat' array_get_dec
    refine wo_ixT (d := .tuple (ts.map entD)) at_zero ?_
    repeat' array_get_dec
    exact ⟨rfl, rfl, rfl⟩
  · intro s7 s8
    repeat' array_get_dec
    rfl
theorem right_r {n : Nat} {c : Ob} (h : BxI n c) (hn : n ≤ 20000000) {Q : KV.R → Ob → Prop} (k : ∀ c', Q (.val (.bool true)) c') : wB G__law_right c [] Q :=
  (right_w h hn).mono fun z c' e => by subst e; exact k c'
end KL
namespace KL
open PySem PySem.Spec PyProof.Rows L2 KV
theorem atI_nat' {xs : List PyData} {i : Nat} {x : PyData} (h : xs[i]? = some x) : atI xs (i : Int) = some x := by
  have hl := (List.getElem?_eq_some_iff.mp h).1
  unfold L2.atI ixN
  rw [if_pos (by omega), if_pos (by omega), Option.bind_some]
  exact h
theorem abs_ok (c : Int) : opAbs [.int c] = some (.val (.int (c.natAbs : Int))) := by
  have e : (if c < 0 then -c else c) = (c.natAbs : Int) := by split <;> omega
  show some (KV.R.val (PyData.int (if c < 0 then -c else c))) = _
  rw [e]
theorem pow18 : opPow (.int 10) (.int 18) = some (.val (.int 1000000000000000000)) := by
  unfold opPow KV.opI; simp
theorem box_tail {l : List Int} {k : Nat} (hk : k < 64) {c : Int} {Q : KV.R → Prop} (h : ∀ x y : Int, 0 ≤ x → 0 ≤ y → y < 4611686018427387904 → Q (.tmp (.lst [.int x, .int y, .int 0]))) :
    wS (dRet (dLst (vCons (dBin (dCB (dCons (dVar 2) (dNil)) opAbs) (dCB (dCons (dBin (dCB (dCons (dVar 2) (dNil)) opAbs) (dBin (dC (.int 10)) (dC (.int 18)) opPow) opGe) (dNil)) opInt) opMul) (vCons (dBin (dBin (dBin (dCB (dCons (dVar 2) (dNil)) opInt) (dC (.int 2305843009213693951)) opMod) (dBin (dC (.int 39373)) (dVar 1) opMul) opAdd) (dC (.int 43)) opAdd) (vCons (dC (.int 0)) (vNil)))))) [.fz (.list (l.map .int)), .fz (.int k), .fz (.int c)]
      (fun _ => Q (.val .none)) (fun x r1 => wO (KV.ret (.rt x r1)) fun z => Q z.1) (fun _ => False) (fun _ => False) := by
  have h1 := Int.emod_nonneg c (show (2305843009213693951 : Int) ≠ 0 by decide)
  have h2 := Int.emod_lt_of_pos c (show (0 : Int) < 2305843009213693951 by decide)
  repeat' array_get_dec
  refine wo_eq (abs_ok c) ?_
  repeat' array_get_dec
  refine wo_eq (abs_ok c) ?_
  repeat' array_get_dec
  refine wo_eq pow18 ?_
  repeat' array_get_dec
  cases hd : decide ((1000000000000000000 : Int) ≤ (c.natAbs : Int)) with
  | true =>
    refine wo_eq (z := .val (.int 1)) rfl ?_
    repeat' array_get_dec
    exact h _ _ (by omega) (by omega) (by omega)
  | false =>
    refine wo_eq (z := .val (.int 0)) rfl ?_
    repeat' array_get_dec
    exact h _ _ (by omega) (by omega) (by omega)
theorem box_w {l : List Int} {k : Nat} (hk : k < 64) {Q : KV.R → Prop} (h : ∀ c, BxI 0 c → Q (.tmp c)) : wF F__law_box [.list (l.map .int), .int k] Q := by
  unfold F__law_box
  refine wf_run (r := [.fz (.list (l.map .int)), .fz (.int k), .un]) rfl ?_
  unfold g__law_box
  refine ws_cut (M := fun r1 => ∃ c : Int, r1 = [.fz (.list (l.map .int)), .fz (.int k), .fz (.int c)]) ?_ ?_
  · repeat' array_get_dec
    · rename_i hb
      rw [List.length_map] at hb
      have e : (l.map PyData.int)[k]? = some (.int l[k]) := by rw [List.getElem?_map, List.getElem?_eq_getElem (by omega)]; rfl
      refine wo_ixL (atI_nat' e) ?_
      repeat' array_get_dec
      exact ⟨_, rfl⟩
    · exact ⟨_, rfl⟩
  rintro _ ⟨c, rfl⟩
  exact box_tail hk fun x y h0 h1 h2 => h _ ⟨x, y, 0, rfl, h0, h1, h2, Int.le_refl _, Int.le_refl _⟩
theorem spec (l : List Int) (hl : l.length ≤ 63) : F_law [.list (l.map .int)] = some (.val (.bool true)) := by
  refine wf_get ?_
  unfold F_law
  refine wf_run (r := [.fz (.list (l.map .int)), .un]) rfl ?_
  unfold g_law
  repeat' array_get_dec
  refine wd_lcm ?_
  repeat' array_get_dec
  obtain ⟨q, hq, hq3, hq0⟩ : ∃ q : Int, opMin2 [PyData.int 2, PyData.int ((l.map PyData.int).length : Nat)] = some (.val (.int q)) ∧ q ≤ 3 ∧ 0 ≤ q := by
    rw [List.length_map]
    refine ⟨_, rfl, ?_, ?_⟩ <;> split <;> omega
  refine wo_eq hq ?_
  repeat' array_get_dec
  refine ⟨rfl, fun _ => .bool true, fun d hd => ?_, ?_⟩
  · obtain ⟨i, hi⟩ := List.getElem?_of_mem hd
    obtain ⟨hlt, rfl⟩ := range_at hi
    simp only [wipeE, List.set_cons_zero, List.set_cons_succ]
    repeat' array_get_dec
    refine box_w (by omega) fun c hc => ?_
    repeat' array_get_dec
    refine right_r hc (by omega) fun c' => ?_
    repeat' array_get_dec
    exact ⟨rfl, rfl⟩
  · simp only [unlck]
    repeat' array_get_dec
    refine wo_allT (fun z hz => by obtain ⟨_, _, e⟩ := List.mem_map.mp hz; exact e.symm) ?_
    repeat' array_get_dec
    rfl
end KL

end
open PySem PySem.W PySem.Calls PyProof.Rows
theorem PySem.Challenge.cw_keyturns_k01_forms_or_not_holds : PySem.Challenge.rw_keyturns_k01_forms_or_not.Holds :=
  holds KL.spec
