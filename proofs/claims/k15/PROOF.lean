import PyProof.Rows.All
import Wide.All
import OpenK.AllK
import Wide.FinOn
import HandS.ForMost
import HandS.ForExc
import HandS.CallSlots
import HandS.Lambda
import HandS.TupAny
import HandS.Strs
import HandS.Wide
import HandS.Style
import HandS.TupLe
import HandS.Deep
import HandS.IsInst
import HandS.Conv
import KE.SortData
import HandS.More
import KE.KRevSl
import PyProof.Rows.StrRev
import KE.GoesEnum
import HandS.EndBits
import HandS.Zip
import HandS.SetFor
import HandS.Iter
import KE.DataFind
import HandS.TupMul
import KE.DataMinMax
import HandS.Flow
import KE.KxIndex
import HandS.Text
import HandS.Dict
import HandS.DictTup
import KE.KDictDisplayH
import HandS.SetKeys
import HandS.HotCalls
import HandS.ExcIs
import HandS.EndTab
import HandS.EndOwn
import HandS.CallLocal
import KE.KNestM
import PyProof.ReprRoads
import HandS.Codes
import PyProof.ReprLen
import PyProof.StrLawsRepr
import PyProof.FitsInt
import PySem.Challenge.RW_upanddowns_k15_whole_triangle
set_option Elab.async false
set_option linter.all false
set_option maxRecDepth 100000
/-! Dn: a heap-free reading of a def: each expression, statement and def as a plain Lean function over data, with one soundness lemma a construct over the layer HandS. -/
namespace Dn
open PySem L2

abbrev D := PyData
/-- the data in the slots of a frame -/
abbrev Rho := List (Option D)
/-- a result: data, an own error by its number, or outside of what is carried -/
inductive Res (α : Type) where
  | ok (a : α)
  | exc (c : Nat)
  | bad
def Res.bind {α β : Type} : Res α → (α → Res β) → Res β
  | .ok a, f => f a
  | .exc c, _ => .exc c
  | .bad, _ => .bad
/-- what a statement comes to -/
inductive Out where
  | next (r : Rho)
  | ret (d : D)
  | brk (r : Rho)
  | cont (r : Rho)
  | exc (c : Nat)
  | bad
theorem Res.bind_ok {α β : Type} {x : Res α} {f : α → Res β} {b : β} (h : x.bind f = .ok b) : ∃ a, x = .ok a ∧ f a = .ok b := by
  cases x with
  | ok a => exact ⟨a, rfl, h⟩
  | exc c => cases h
  | bad => cases h
theorem Res.bind_exc {α β : Type} {x : Res α} {f : α → Res β} {c : Nat} (h : x.bind f = .exc c) : x = .exc c ∨ ∃ a, x = .ok a ∧ f a = .exc c := by
  cases x with
  | ok a => exact .inr ⟨a, rfl, h⟩
  | exc c' =>
    have : c' = c := by cases h; rfl
    subst this
    exact .inl rfl
  | bad => cases h

/-- no table of code objects -/
def nTbl : HO → Prop
  | .tbl _ => False
  | _ => True
/-- the name of the lambdas that are followed -/
def lamQ : Str := "law.<locals>.<lambda>"
def TabQ (H : Hp) (P : Addr) (q : Str) : Prop := q = lamQ ∧ LamX.TabS H P q
/-- all that was tracked is as it was; tables of code objects may have grown -/
structure Same (H H' : Hp) : Prop where
  get : ∀ a o, H a = some o → (h : nTbl o := by trivial) → H' a = some o
  dm : ∀ a, H a ≠ none → H' a ≠ none
  tab : ∀ P q, TabQ H P q → TabQ H' P q
instance {H H' : Hp} : CoeFun (Same H H') (fun _ => ∀ a o, H a = some o → (h : nTbl o := by trivial) → H' a = some o) := ⟨@Same.get H H'⟩
theorem Same.of {H H' : Hp} (e : ∀ a o, H a = some o → H' a = some o) : Same H H' :=
  ⟨fun a o h _ => e a o h, (fun a h z => by
    cases q : H a with
    | none => exact h q
    | some o => rw [e a o q] at z; cases z), fun _ _ t => ⟨t.1, LamX.TabS.ext t.2 e⟩⟩
theorem Same.refl (H : Hp) : Same H H := .of fun _ _ h => h
theorem Same.trans {H H1 H2 : Hp} (a : Same H H1) (b : Same H1 H2) : Same H H2 :=
  ⟨fun c o h n => b.get c o (a.get c o h n) n, fun c h => b.dm c (a.dm c h), fun P q t => b.tab P q (a.tab P q t)⟩
theorem Same.free {H H' : Hp} (e : Same H H') {l : Addr} (h : H' l = none) : H l = none := by
  cases q : H l with
  | none => rfl
  | some o => exact absurd h (e.dm l (by rw [q]; exact fun z => by cases z))
def keyD : Key → D
  | .inl i => .int i
  | .inr x => .str x
def keysD (ks : List Key) : D := .tuple (ks.map keyD)
/-- ahead of the pairs of a dict whose keys are tuples -/
def tdMark : D × D := (.none, .none)
/-- .. of one that is changed no more -/
def tdLock : D × D := (.none, .bool true)
def isLock : D → Bool
  | .dict ((.none, .bool _) :: _) => true
  | _ => false
abbrev Av := Addr → Prop
/-- a tuple that has no dict of its own: locked where it was made, or of the written part -/
def TpAt (K : PySem.W.Frag) (H : Hp) (a : Addr) (xs : List V) : Prop := (∃ o, H a = some (.frz o (.tup xs)) ∧ o.dict = none) ∨
  ∃ (o : Obj) (its : Array Value) (n : Nat), K.lookup a = some o ∧ o.cls = .type "tuple" ∧ o.dict = none ∧ o.data = .seq its n ∧ its.size ≤ sizeLine ∧ Vals xs its.toList
theorem TpAt.sq {K : PySem.W.Frag} {H : Hp} {a : Addr} {xs : List V} (h : TpAt K H a xs) : SqT K H a xs := by
  rcases h with ⟨o, h, _⟩ | ⟨o, its, n, h1, h2, _, h3, h4, h5⟩
  · exact .inl (.inr ⟨o, h⟩)
  · exact .inr ⟨o, its, n, h1, h2, h3, h4, h5⟩
theorem TpAt.more {K : PySem.W.Frag} {H H' : Hp} {a : Addr} {xs : List V} (h : TpAt K H a xs) (e : Same H H') : TpAt K H' a xs := h.imp (fun ⟨o, q, d⟩ => ⟨o, e _ _ q, d⟩) id

mutual
/-- the value v stands for the data d in H; no changeable object of it is in O, none holds itself -/
inductive Dq (K : PySem.W.Frag) (H : Hp) : Av → V → D → Prop
  | non {O : Av} : Dq K H O .non .none
  | bl {O : Av} (b : Bool) : Dq K H O (.bl b) (.bool b)
  | int {O : Av} (i : Int) : Dq K H O (.int i) (.int i)
  | str {O : Av} (x : Str) : Dq K H O (.str x) (.str x)
  | tup {O : Av} {a : Addr} {xs : List V} {ds : List D} : TpAt K H a xs → DqL K H O xs ds → Dq K H O (.ref a) (.tuple ds)
  | lst {O : Av} {a : Addr} {xs : List V} {ds : List D} : ¬ O a → H a = some (.lst xs) → DqL K H (fun b => O b ∨ b = a) xs ds → Dq K H O (.ref a) (.list ds)
  | dK {O : Av} {a : Addr} {kvs : List (Key × V)} {ds : List D} : ¬ O a → H a = some (.dK kvs) → DqL K H (fun b => O b ∨ b = a) (kvs.map (·.2)) ds → Dq K H O (.ref a) (.dict ((kvs.map fun kv => keyD kv.1).zip ds))
  | dT {O : Av} {a : Addr} {kvs : List (List Key × V)} {ds : List D} : ¬ O a → H a = some (.dT kvs) → DqL K H (fun b => O b ∨ b = a) (kvs.map (·.2)) ds → Dq K H O (.ref a) (.dict (tdMark :: (kvs.map fun kv => keysD kv.1).zip ds))
  | dF {O : Av} {a : Addr} {o : Obj} {kvs : List (List Key × V)} {ds : List D} : H a = some (.frz o (.dT kvs)) → DqL K H O (kvs.map (·.2)) ds → Dq K H O (.ref a) (.dict (tdLock :: (kvs.map fun kv => keysD kv.1).zip ds))
inductive DqL (K : PySem.W.Frag) (H : Hp) : Av → List V → List D → Prop
  | nil {O : Av} : DqL K H O [] []
  | cons {O : Av} {v : V} {vs : List V} {d : D} {ds : List D} : Dq K H O v d → DqL K H O vs ds → DqL K H O (v :: vs) (d :: ds)
end

theorem sameT {K : PySem.W.Frag} {H H' : Hp} {a : Addr} {xs : List V} (e : Same H H') (h : SqT K H a xs) : SqT K H' a xs := by
  rcases h with (h | ⟨o, h⟩) | h
  · exact .inl (.inl (e _ _ h))
  · exact .inl (.inr ⟨o, e _ _ h⟩)
  · exact .inr h
section
variable {K : PySem.W.Frag} {H H' : Hp}
mutual
theorem Dq.mono (e : Same H H') : ∀ {O : Av} {v : V} {d : D}, Dq K H O v d → ∀ {O' : Av}, (∀ a, O' a → O a) → Dq K H' O' v d
  | _, _, _, .non, _, _ => .non
  | _, _, _, .bl b, _, _ => .bl b
  | _, _, _, .int i, _, _ => .int i
  | _, _, _, .str x, _, _ => .str x
  | _, _, _, .tup h1 h2, _, ho => .tup (h1.more e) (DqL.mono e h2 ho)
  | _, _, _, .lst h1 h2 h3, _, ho => .lst (fun z => h1 (ho _ z)) (e _ _ h2) (DqL.mono e h3 fun a z => z.imp (ho a) id)
  | _, _, _, .dK h1 h2 h3, _, ho => .dK (fun z => h1 (ho _ z)) (e _ _ h2) (DqL.mono e h3 fun a z => z.imp (ho a) id)
  | _, _, _, .dT h1 h2 h3, _, ho => .dT (fun z => h1 (ho _ z)) (e _ _ h2) (DqL.mono e h3 fun a z => z.imp (ho a) id)
  | _, _, _, .dF h2 h3, _, ho => .dF (e _ _ h2) (DqL.mono e h3 ho)
theorem DqL.mono (e : Same H H') : ∀ {O : Av} {v : List V} {d : List D}, DqL K H O v d → ∀ {O' : Av}, (∀ a, O' a → O a) → DqL K H' O' v d
  | _, _, _, .nil, _, _ => .nil
  | _, _, _, .cons h1 h2, _, ho => .cons (Dq.mono e h1 ho) (DqL.mono e h2 ho)
end
mutual
/-- what is not in H yet is no part of it -/
theorem Dq.fresh {p : Addr} (hp : H p = none) : ∀ {O : Av} {v : V} {d : D}, Dq K H O v d → Dq K H (fun b => O b ∨ b = p) v d
  | _, _, _, .non => .non
  | _, _, _, .bl b => .bl b
  | _, _, _, .int i => .int i
  | _, _, _, .str x => .str x
  | _, _, _, .tup h1 h2 => .tup h1 (DqL.fresh hp h2)
  | _, _, _, .lst h1 h2 h3 => .lst (fun z => z.elim h1 (ne_of_none h2 hp)) h2 (DqL.mono (Same.refl _) (DqL.fresh hp h3) fun a z => by
      rcases z with (z | z) | z
      · exact .inl (.inl z)
      · exact .inr z
      · exact .inl (.inr z))
  | _, _, _, .dK h1 h2 h3 => .dK (fun z => z.elim h1 (ne_of_none h2 hp)) h2 (DqL.mono (Same.refl _) (DqL.fresh hp h3) fun a z => by
      rcases z with (z | z) | z
      · exact .inl (.inl z)
      · exact .inr z
      · exact .inl (.inr z))
  | _, _, _, .dT h1 h2 h3 => .dT (fun z => z.elim h1 (ne_of_none h2 hp)) h2 (DqL.mono (Same.refl _) (DqL.fresh hp h3) fun a z => by
      rcases z with (z | z) | z
      · exact .inl (.inl z)
      · exact .inr z
      · exact .inl (.inr z))
  | _, _, _, .dF h2 h3 => .dF h2 (DqL.fresh hp h3)
theorem DqL.fresh {p : Addr} (hp : H p = none) : ∀ {O : Av} {v : List V} {d : List D}, DqL K H O v d → DqL K H (fun b => O b ∨ b = p) v d
  | _, _, _, .nil => .nil
  | _, _, _, .cons h1 h2 => .cons (Dq.fresh hp h1) (DqL.fresh hp h2)
end
end

mutual
/-- data without changeable parts -/
def imm : D → Bool
  | .list _ => false
  | .dict _ => false
  | .tuple ds => immL ds
  | .none => true
  | .bool _ => true
  | .int _ => true
  | .str _ => true
def immL : List D → Bool
  | [] => true
  | d :: ds => imm d && immL ds
end
section
variable {K : PySem.W.Frag} {H H' : Hp}
mutual
theorem Dq.imm_any : ∀ {O : Av} {v : V} {d : D}, Dq K H O v d → imm d = true → ∀ {O' : Av}, Dq K H O' v d
  | _, _, _, .non, _, _ => .non
  | _, _, _, .bl b, _, _ => .bl b
  | _, _, _, .int i, _, _ => .int i
  | _, _, _, .str x, _, _ => .str x
  | _, _, _, .tup h1 h2, h, _ => .tup h1 (DqL.imm_any h2 (by simpa only [imm] using h))
  | _, _, _, .lst h1 h2 h3, h, _ => by simp [imm] at h
  | _, _, _, .dK h1 h2 h3, h, _ => by simp [imm] at h
  | _, _, _, .dT h1 h2 h3, h, _ => by simp [imm] at h
  | _, _, _, .dF h2 h3, h, _ => by simp [imm] at h
theorem DqL.imm_any : ∀ {O : Av} {v : List V} {d : List D}, DqL K H O v d → immL d = true → ∀ {O' : Av}, DqL K H O' v d
  | _, _, _, .nil, _, _ => .nil
  | _, _, _, .cons h1 h2, h, _ => by
    have h' : (imm _ && immL _) = true := h
    rw [Bool.and_eq_true] at h'
    exact .cons (Dq.imm_any h1 h'.1) (DqL.imm_any h2 h'.2)
end
theorem DqL.length : ∀ {O : Av} {vs : List V} {ds : List D}, DqL K H O vs ds → vs.length = ds.length
  | _, _, _, .nil => rfl
  | _, _, _, .cons _ h => by simp only [List.length_cons]; rw [DqL.length h]
theorem DqL.get : ∀ {O : Av} {vs : List V} {ds : List D} {i : Nat} {d : D}, DqL K H O vs ds → ds[i]? = some d → ∃ v, vs[i]? = some v ∧ Dq K H O v d
  | _, _, _, _, _, .nil, e => by simp at e
  | _, _, _, 0, _, .cons h _, e => by simp at e; subst e; exact ⟨_, rfl, h⟩
  | _, _, _, i + 1, d, .cons _ t, e => by
    obtain ⟨u, h1, h2⟩ := DqL.get (i := i) (d := d) t (by simpa using e)
    exact ⟨u, by simpa using h1, h2⟩
theorem DqL.getV : ∀ {O : Av} {vs : List V} {ds : List D} {i : Nat} {v : V}, DqL K H O vs ds → vs[i]? = some v → ∃ d, ds[i]? = some d ∧ Dq K H O v d
  | _, _, _, _, _, .nil, e => by simp at e
  | _, _, _, 0, _, .cons h _, e => by simp at e; subst e; exact ⟨_, rfl, h⟩
  | _, _, _, i + 1, d, .cons _ t, e => by
    obtain ⟨u, h1, h2⟩ := DqL.getV (i := i) (v := d) t (by simpa using e)
    exact ⟨u, by simpa using h1, h2⟩
theorem DqL.append : ∀ {O : Av} {vs ws : List V} {ds es : List D}, DqL K H O vs ds → DqL K H O ws es → DqL K H O (vs ++ ws) (ds ++ es)
  | _, _, _, _, _, .nil, s => s
  | _, _, _, _, _, .cons r t, s => .cons r (DqL.append t s)
theorem DqL.take : ∀ {O : Av} {vs : List V} {ds : List D} (n : Nat), DqL K H O vs ds → DqL K H O (vs.take n) (ds.take n)
  | _, _, _, 0, _ => .nil
  | _, _, _, _ + 1, .nil => .nil
  | _, _, _, n + 1, .cons r t => .cons r (DqL.take n t)
theorem DqL.drop : ∀ {O : Av} {vs : List V} {ds : List D} (n : Nat), DqL K H O vs ds → DqL K H O (vs.drop n) (ds.drop n)
  | _, _, _, 0, r => r
  | _, _, _, _ + 1, .nil => .nil
  | _, _, _, n + 1, .cons _ t => DqL.drop n t
theorem DqL.set {O : Av} {x : V} {d : D} (r : Dq K H O x d) : ∀ {vs : List V} {ds : List D} (i : Nat), DqL K H O vs ds → DqL K H O (vs.set i x) (ds.set i d)
  | _, _, _, .nil => .nil
  | _, _, 0, .cons _ t => .cons r t
  | _, _, i + 1, .cons q t => .cons q (DqL.set r i t)
theorem DqL.reverse {O : Av} {vs : List V} {ds : List D} (h : DqL K H O vs ds) : DqL K H O vs.reverse ds.reverse := by
  induction h using DqL.rec (motive_1 := fun _ _ _ _ => True) with
  | nil => exact .nil
  | cons h1 h2 _ ih => rw [List.reverse_cons, List.reverse_cons]; exact ih.append (.cons h1 .nil)
  | _ => trivial
end

/-! ### slots -/
inductive Kd where
  | sh | she | own | owne | scr
  /-- a thing that no data stands for (a def, a caught error), by its place and a number -/
  | rf (a : Addr) (c : Nat)
  /-- behind the slots: the table of code objects at P, of the name q -/
  | tb (P : Addr) (q : Str)
  deriving DecidableEq
def Kd.isOwn : Kd → Bool
  | .own => true
  | .owne => true
  | _ => false
def Kd.isArg : Kd → Bool
  | .sh => true
  | .scr => true
  | .rf _ _ => true
  | _ => false
def Kd.isRd : Kd → Bool
  | .scr => false
  | .rf _ _ => false
  | .tb _ _ => false
  | _ => true
def kd (τ : List Kd) (i : Nat) : Kd := (τ[i]?).getD .sh
def dom (H : Hp) : Av := fun a => H a ≠ none
def OwnAt (τ : List Kd) (ρ : Rho) (σ : St) (i : Nat) (p : Addr) : Prop := (kd τ i).isOwn = true ∧ (∃ d, ρ[i]? = some (some d)) ∧ σ[i]? = some (some (.ref p))
def OwnOf (τ : List Kd) (ρ : Rho) (σ : St) : Av := fun p => ∃ i, OwnAt τ ρ σ i p
/-- a changeable object at p, its parts apart from O -/
def Cell (K : PySem.W.Frag) (H : Hp) (O : Av) (p : Addr) (d : D) : Prop :=
  (∃ vs ds, d = .list ds ∧ H p = some (.lst vs) ∧ DqL K H O vs ds) ∨
  (∃ kvs ds, d = .dict ((kvs.map fun kv => keyD kv.1).zip ds) ∧ H p = some (.dK kvs) ∧ DqL K H O (kvs.map (·.2)) ds) ∨
  (∃ kvs ds, d = .dict (tdMark :: (kvs.map fun kv => keysD kv.1).zip ds) ∧ H p = some (.dT kvs) ∧ DqL K H O (kvs.map (·.2)) ds)
/-- the script: locked, or of the written part -/
def ScrL (K : PySem.W.Frag) (H : Hp) (O : Av) (a : Addr) (xs : List V) : Prop := (∃ o, H a = some (.frz o (.lst xs))) ∨
  (∃ (o : Obj) (its : Array Value) (n : Nat), K.lookup a = some o ∧ o.cls = .type "list" ∧ o.dict = none ∧ o.data = .seq its n ∧ its.size ≤ sizeLine ∧ Vals xs its.toList) ∨ (¬ O a ∧ H a = some (.lst xs))
theorem ScrL.sq {K : PySem.W.Frag} {H : Hp} {O : Av} {a : Addr} {xs : List V} (h : ScrL K H O a xs) : SqL K H a xs := by
  rcases h with h | h | h
  · exact .inl (.inr h)
  · exact .inr h
  · exact .inl (.inl h.2)
theorem ScrL.more {K : PySem.W.Frag} {H H' : Hp} {O O' : Av} {a : Addr} {xs : List V} (h : ScrL K H O a xs) (e : Same H H') (ho : ∀ a, O' a → O a) : ScrL K H' O' a xs := by
  rcases h with ⟨o, q⟩ | h | ⟨h1, h2⟩
  · exact .inl ⟨o, e _ _ q⟩
  · exact .inr (.inl h)
  · exact .inr (.inr ⟨fun z => h1 (ho a z), e _ _ h2⟩)
def SlotOk (K : PySem.W.Frag) (H0 H : Hp) (O : Av) (v : V) (d : D) : Kd → Prop
  | .sh => Dq K H O v d
  | .she => Dq K H (fun a => O a ∨ dom H0 a) v d
  | .own => ∃ p, v = .ref p ∧ H0 p = none ∧ Cell K H O p d
  | .owne => ∃ p, v = .ref p ∧ H0 p = none ∧ Cell K H (fun a => O a ∨ dom H0 a) p d
  | .scr => ∃ a xs ds, v = .ref a ∧ d = .list ds ∧ ScrL K H O a xs ∧ DqL K H O xs ds
  | .rf a c => v = .ref a ∧ d = .int c
  | .tb _ _ => True
/-- what can be changed -/
def MutO : HO → Prop
  | .lst _ => True
  | .dK _ => True
  | .dT _ => True
  | _ => False
theorem MutO.n {o : HO} (h : MutO o) : nTbl o := by
  cases o <;> first | trivial | exact h
theorem tabs_upd {H : Hp} {p P : Addr} {o o' : HO} {q : Str} (t : TabQ H P q) (hp : H p = some o) (hm : MutO o) : TabQ (upd H p o') P q := by
  obtain ⟨t0, ps, h1, h2, h3⟩ := t
  refine ⟨t0, ps, by rw [upd_ne (fun z => by subst z; rw [hp] at h1; cases h1; exact hm)]; exact h1, h2, fun pos cv hc => ?_⟩
  obtain ⟨c, e1, e2⟩ := h3 pos cv hc
  refine ⟨c, e1, ?_⟩
  rw [upd_ne (fun z => by subst z; rw [hp] at e2; unfold LamX.CodeO at e2; cases e2; exact hm)]
  exact e2
theorem Same.updM {H0 H : Hp} {p : Addr} {o o' : HO} (e : Same H0 H) (h0 : H0 p = none) (hp : H p = some o) (hm : MutO o) : Same H0 (upd H p o') := by
  refine ⟨fun a u q n => ?_, fun a q => ?_, fun P q t => tabs_upd (e.tab P q t) hp hm⟩
  · rw [upd_ne (ne_of_none q h0)]
    exact e.get a u q n
  · by_cases ha : a = p
    · rw [ha]; exact fun z => absurd (upd_same.symm.trans z) (fun w => by cases w)
    · rw [upd_ne ha]; exact e.dm a q
/-- owned by a slot, or set apart -/
def OwnX (τ : List Kd) (B : Av) (ρ : Rho) (σ : St) : Av := fun p => OwnOf τ ρ σ p ∨ B p
structure SR (K : PySem.W.Frag) (τ : List Kd) (H0 : Hp) (B : Av) (ρ : Rho) (σ : St) (H : Hp) : Prop where
  len : σ.length = ρ.length
  ext : Same H0 H
  ok : ∀ i d, ρ[i]? = some (some d) → ∃ v, σ[i]? = some (some v) ∧ SlotOk K H0 H (OwnX τ B ρ σ) v d (kd τ i)
  dis : ∀ i j p, OwnAt τ ρ σ i p → OwnAt τ ρ σ j p → i = j
  bdm : ∀ p, B p → ∃ o, H p = some o ∧ MutO o
  bno : ∀ p, B p → ¬ OwnOf τ ρ σ p
  tbs : ∀ P q, Kd.tb P q ∈ τ → TabQ H P q

section
variable {K : PySem.W.Frag} {H H' H0 : Hp} {τ : List Kd} {B : Av} {ρ : Rho} {σ : St}
theorem Cell.mono {O O' : Av} {p : Addr} {d : D} (c : Cell K H O p d) (hp : H' p = H p) (e : ∀ vs ds, DqL K H O vs ds → DqL K H' O' vs ds) : Cell K H' O' p d := by
  rcases c with ⟨vs, ds, h1, h2, h3⟩ | ⟨vs, ds, h1, h2, h3⟩ | ⟨vs, ds, h1, h2, h3⟩
  · exact .inl ⟨vs, ds, h1, hp.trans h2, e _ _ h3⟩
  · exact .inr (.inl ⟨vs, ds, h1, hp.trans h2, e _ _ h3⟩)
  · exact .inr (.inr ⟨vs, ds, h1, hp.trans h2, e _ _ h3⟩)
theorem Cell.there {O : Av} {p : Addr} {d : D} (c : Cell K H O p d) : ∃ o, H p = some o ∧ nTbl o := by
  rcases c with ⟨vs, ds, h1, h2, h3⟩ | ⟨vs, ds, h1, h2, h3⟩ | ⟨vs, ds, h1, h2, h3⟩ <;> exact ⟨_, h2, trivial⟩
theorem SlotOk.ext {O O' : Av} {v : V} {d : D} {k : Kd} (s : SlotOk K H0 H O v d k) (e : Same H H') (ho : ∀ a, O' a → O a) : SlotOk K H0 H' O' v d k := by
  have h2 : ∀ a, (O' a ∨ dom H0 a) → (O a ∨ dom H0 a) := fun a z => z.imp (ho a) id
  cases k with
  | sh => exact Dq.mono e s ho
  | she => exact Dq.mono e s h2
  | own =>
    obtain ⟨p, h1, h3, h4⟩ := s
    obtain ⟨o, ho', hn'⟩ := h4.there
    exact ⟨p, h1, h3, h4.mono ((e _ _ ho').trans ho'.symm) fun _ _ q => DqL.mono e q ho⟩
  | owne =>
    obtain ⟨p, h1, h3, h4⟩ := s
    obtain ⟨o, ho', hn'⟩ := h4.there
    exact ⟨p, h1, h3, h4.mono ((e _ _ ho').trans ho'.symm) fun _ _ q => DqL.mono e q h2⟩
  | scr =>
    obtain ⟨a, xs, ds, h1, h3, h4, h5⟩ := s
    exact ⟨a, xs, ds, h1, h3, h4.more e ho, DqL.mono e h5 ho⟩
  | rf a c => exact s
  | tb _ _ => exact s
theorem dom_more {p : Addr} (e : Same H H') (h : dom H p) : dom H' p := e.dm p h
theorem SR.more (s : SR K τ H0 B ρ σ H) (e : Same H H') : SR K τ H0 B ρ σ H' :=
  ⟨s.len, s.ext.trans e, fun i d h => let ⟨v, h1, h2⟩ := s.ok i d h; ⟨v, h1, h2.ext e fun _ z => z⟩, s.dis, fun p h => let ⟨o, q, m⟩ := s.bdm p h; ⟨o, e.get _ _ q (MutO.n m), m⟩, s.bno, fun P q h => e.tab P q (s.tbs P q h)⟩
/-- what is owned stands in H, and came since the entry -/
theorem SR.ownNew (s : SR K τ H0 B ρ σ H) {p : Addr} (h : OwnOf τ ρ σ p) : dom H p ∧ H0 p = none := by
  obtain ⟨i, hk, ⟨d, hd⟩, hp⟩ := h
  obtain ⟨v, hv, so⟩ := s.ok i d hd
  rw [hp] at hv
  cases hv
  cases e : kd τ i with
  | own =>
    rw [e] at so
    obtain ⟨q, h1, h2, h3⟩ := so
    cases h1
    obtain ⟨o, ho, hn'⟩ := h3.there
    exact ⟨fun z => (by rw [ho] at z; cases z), h2⟩
  | owne =>
    rw [e] at so
    obtain ⟨q, h1, h2, h3⟩ := so
    cases h1
    obtain ⟨o, ho, hn'⟩ := h3.there
    exact ⟨fun z => (by rw [ho] at z; cases z), h2⟩
  | sh => rw [e] at hk; cases hk
  | she => rw [e] at hk; cases hk
  | scr => rw [e] at hk; cases hk
  | rf a c => rw [e] at hk; cases hk
  | tb _ _ => rw [e] at hk; cases hk
theorem SR.ownDom (s : SR K τ H0 B ρ σ H) {p : Addr} (h : OwnX τ B ρ σ p) : dom H p := by
  rcases h with h | h
  · exact (s.ownNew h).1
  · obtain ⟨o, q, _⟩ := s.bdm p h
    exact fun z => (by rw [q] at z; cases z)
end

/-! ### flags: how far a result is new -/
inductive Fl where
  | z | e | s
  deriving DecidableEq
def Fl.min : Fl → Fl → Fl
  | .z, _ => .z
  | _, .z => .z
  | .e, _ => .e
  | _, .e => .e
  | .s, .s => .s
/-- what a result of this flag avoids: H0 the def's entry, H the heap ahead of the expression, O what is owned -/
def av (fl : Fl) (H0 H : Hp) (O : Av) : Av := match fl with
  | .z => O
  | .e => fun a => O a ∨ dom H0 a
  | .s => dom H
/-- to be read as d -/
def Rv (K : PySem.W.Frag) (H : Hp) (A : Av) (v : V) (d : D) : Prop :=
  Dq K H A v d ∨ ∃ p, v = .ref p ∧ Cell K H A p d
section
variable {K : PySem.W.Frag} {H H' H0 H1 : Hp} {τ : List Kd} {B : Av} {ρ : Rho} {σ : St} {A A' : Av} {v : V} {d : D}
theorem Rv.mono (r : Rv K H A v d) (e : Same H H') (ho : ∀ a, A' a → A a) : Rv K H' A' v d := by
  rcases r with h | ⟨p, h1, h2⟩
  · exact .inl (Dq.mono e h ho)
  · obtain ⟨o, ho', hn'⟩ := h2.there
    exact .inr ⟨p, h1, h2.mono ((e _ _ ho').trans ho'.symm) fun _ _ q => DqL.mono e q ho⟩
theorem Rv.lst {ds : List D} (r : Rv K H A v (.list ds)) : ∃ a xs, v = .ref a ∧ H a = some (.lst xs) ∧ DqL K H A xs ds := by
  rcases r with h | ⟨p, h1, h2⟩
  · cases h with
    | lst h1 h2 h3 => exact ⟨_, _, rfl, h2, DqL.mono (Same.refl _) h3 fun _ z => .inl z⟩
  · rcases h2 with ⟨vs, es, e, q1, q2⟩ | ⟨vs, es, e, q1, q2⟩ | ⟨vs, es, e, q1, q2⟩
    · cases e
      exact ⟨p, vs, h1, q1, q2⟩
    · cases e
    · cases e
theorem Rv.list {ds : List D} (r : Rv K H A v (.list ds)) : ∃ a xs, v = .ref a ∧ SqL K H a xs ∧ DqL K H A xs ds :=
  let ⟨a, xs, h1, h2, h3⟩ := r.lst
  ⟨a, xs, h1, SqL.of h2, h3⟩
theorem Rv.dq (r : Rv K H A v d) (h1 : ∀ ds, d ≠ .list ds) (h2 : ∀ ds, d ≠ .dict ds) : Dq K H A v d := by
  rcases r with h | ⟨p, _, h⟩
  · exact h
  · rcases h with ⟨vs, es, e, q1, q2⟩ | ⟨vs, es, e, q1, q2⟩ | ⟨vs, es, e, q1, q2⟩
    · exact absurd e (h1 _)
    · exact absurd e (h2 _)
    · exact absurd e (h2 _)
theorem Rv.tup {ds : List D} (r : Rv K H A v (.tuple ds)) : ∃ a xs, v = .ref a ∧ TpAt K H a xs ∧ DqL K H A xs ds := by
  have h := r.dq (fun _ e => nomatch e) (fun _ e => nomatch e)
  cases h with
  | tup h1 h2 => exact ⟨_, _, rfl, h1, h2⟩
theorem Rv.tuple {ds : List D} (r : Rv K H A v (.tuple ds)) : ∃ a xs, v = .ref a ∧ SqT K H a xs ∧ DqL K H A xs ds :=
  let ⟨a, xs, h1, h2, h3⟩ := r.tup
  ⟨a, xs, h1, h2.sq, h3⟩
theorem Rv.int {i : Int} (r : Rv K H A v (.int i)) : v = .int i := by
  have h := r.dq (fun _ e => nomatch e) (fun _ e => nomatch e)
  cases h; rfl
theorem Rv.bl {i : Bool} (r : Rv K H A v (.bool i)) : v = .bl i := by
  have h := r.dq (fun _ e => nomatch e) (fun _ e => nomatch e)
  cases h; rfl
theorem Rv.str {i : Str} (r : Rv K H A v (.str i)) : v = .str i := by
  have h := r.dq (fun _ e => nomatch e) (fun _ e => nomatch e)
  cases h; rfl
theorem Rv.non (r : Rv K H A v .none) : v = .non := by
  have h := r.dq (fun _ e => nomatch e) (fun _ e => nomatch e)
  cases h; rfl
end
end Dn
set_option Elab.async false
set_option linter.all false
set_option maxRecDepth 100000
/-! tuples that are locked as they are made: so it is known that they have no dict, and their methods can be called -/
namespace Dn
open PySem L2 PySem.Spec PyProof.Rows
section
variable {X : Cx} {es : List Expr} {t : TA} {pos : Pos}
theorem laid_tup {pins : List (Addr × Obj)} {σ : L2.St} {H : Hp} {s : Shared} {xs : List V} {us : List Value} (I : Inv X pins σ H s) (hz : xs.length ≤ sizeLine) (r : Vals xs us) :
    Inv X pins σ (upd H s.heap.objs.size (.frz { cls := .type "tuple", data := .seq us.toArray } (.tup xs))) { s with heap := s.heap.push { cls := .type "tuple", data := .seq us.toArray } } :=
  I.laid (t' := s.toks) (fun b u e => Heap.get?_push_of_some _ e) (Nat.le_refl _) (show ObjOk X.prog X.w _ _ _ (.frz _ (.tup xs)) from ⟨Heap.get?_push_size _ rfl, hz, us, r, IsTup.new _ _⟩)
def tTupF (t : TA) : TE := fun σ H Q => t σ H fun xs H1 => xs.length ≤ sizeLine ∧ ∀ p (o : Obj), H1 p = none → o.dict = none → Q (.ref p) (upd H1 p (.frz o (.tup xs)))
theorem pe_tupF {x1} (h : PA X es t) : PE X (.Tuple es x1 pos) (tTupF t) := by
  refine ⟨fun pins s σ H Q I hq => ?_⟩
  refine wpAny_Tuple_spliced (thn (h.run pos pins s σ H _ I hq) fun us s1 ⟨xs, H1, I1, r, z, q⟩ => ⟨by rw [← r.length]; exact z, ?_⟩)
  exact ⟨.ref s1.heap.objs.size, _, laid_tup I1 z r, rfl, q _ _ (I1.hok.fresh (Nat.le_refl _)) rfl⟩
def rCatF (K : PySem.W.Frag) : R2 := fun x y H Q => ∃ a b xs ys, x = .ref a ∧ y = .ref b ∧ SqT K H a xs ∧ SqT K H b ys ∧ xs.length + ys.length ≤ sizeLine ∧
  (xs = [] → Q (.ref b) H) ∧ (xs ≠ [] → ys = [] → Q (.ref a) H) ∧ (xs ≠ [] → ys ≠ [] → ∀ p (o : Obj), H p = none → o.dict = none → Q (.ref p) (upd H p (.frz o (.tup (xs ++ ys)))))
theorem op_catF : OpR X (binaryOp .Add) (rCatF X.K) := by
  intro pins s σ H x y v u Q I rx ry h
  obtain ⟨a, b, xs, ys, rfl, rfl, ha, hb, hz, q0, q1, q2⟩ := h
  cases rx
  cases ry
  obtain ⟨its, r1, p1, _⟩ := I.tuple ha
  obtain ⟨its2, r2, p2, _⟩ := I.tuple hb
  by_cases hx : xs = []
  · subst hx
    cases r1
    exact cat_tup0 p1 p2 ⟨.ref b, H, I, rfl, q0 rfl⟩
  · refine HT.cat_tup p1 p2 (fun z => hx (r1.nil_iff.mp z)) (fun z => ⟨.ref a, H, I, rfl, q1 hx (r2.nil_iff.mp z)⟩) (fun z => ?_) (by rw [← r1.length, ← r2.length]; exact hz)
    exact ⟨.ref s.heap.objs.size, _, laid_tup I (by rw [List.length_append]; exact hz) (r1.append r2), rfl, q2 hx (fun w => z (r2.nil_iff.mpr w)) _ _ (I.hok.fresh (Nat.le_refl _)) rfl⟩
def rSlF (K : PySem.W.Frag) : V → Option Int → Option Int → Hp → VK → Prop := fun x lo hi H Q => ∃ a xs, x = .ref a ∧ SqT K H a xs ∧
  (HT.sIx xs.length 0 lo = 0 ∧ HT.sIx xs.length xs.length hi = xs.length → Q (.ref a) H) ∧ (¬ (HT.sIx xs.length 0 lo = 0 ∧ HT.sIx xs.length xs.length hi = xs.length) → ∀ p (o : Obj), H p = none → o.dict = none → Q (.ref p) (upd H p (.frz o (.tup (cutV xs lo hi)))))
theorem sl_tupF : SlR X (rSlF X.K) := by
  intro pins s σ H x v vl vu lo hi sl Q I rx hs pl pu h
  obtain ⟨a, xs, rfl, hx, q1, q2⟩ := h
  cases rx
  obtain ⟨its, r, ht, hz⟩ := I.tuple hx
  have hlen : its.toArray.size = xs.length := by rw [List.size_toArray]; exact r.length.symm
  refine ⟨"tuple", _, PyProof.Rows.slot_tuple_getitem.lookup, ht.typeIs, ?_⟩
  by_cases hw : HT.sIx xs.length 0 lo = 0 ∧ HT.sIx xs.length xs.length hi = xs.length
  · exact getItem_tuple_whole ht hs pl pu (by rw [hlen]; exact hw) ⟨.ref a, H, I, rfl, q1 hw⟩
  · refine HT.getItem_tuple_cut ht hs pl pu (by rw [hlen]; exact hw) ?_ (by rw [hlen]; exact hz)
    rw [hlen]
    exact ⟨.ref s.heap.objs.size, _, laid_tup I (Nat.le_trans (cutV_length xs lo hi) hz) ((r.drop (HT.sIx xs.length 0 lo)).take (HT.sIx xs.length xs.length hi - HT.sIx xs.length 0 lo)), rfl, q2 hw _ _ (I.hok.fresh (Nat.le_refl _)) rfl⟩
def rTupF (K : PySem.W.Frag) : List V → Hp → VK → Prop := fun xs H Q => ∃ p ys, xs = [.ref p] ∧ ((SqL K H p ys ∧ ∀ l (o : Obj), H l = none → o.dict = none → Q (.ref l) (upd H l (.frz o (.tup ys)))) ∨ (SqT K H p ys ∧ Q (.ref p) H))
theorem call_tupleF : CallR X (.type "tuple") (rTupF X.K) := by
  intro pins s σ H xs us Q I r h
  obtain ⟨p, ys, rfl, h⟩ := h
  obtain ⟨u, rfl, rx⟩ := vals1 r
  cases rx
  rcases h with ⟨hq, q⟩ | ⟨hq, q⟩
  · obtain ⟨its, r', pl, hz⟩ := I.list hq
    have hlen := r'.length
    refine call_tuple_list pl.isList (fun h' kp => ?_) (by simp only [List.size_toArray] <;> omega)
    have I1 : Inv X pins σ H { s with heap := h' } := I.kept (t' := s.toks) kp
    exact ⟨.ref h'.objs.size, _, laid_tup I1 hz r', rfl, q _ _ (I1.hok.fresh (Nat.le_refl _)) rfl⟩
  · obtain ⟨its, r', pl, hz⟩ := I.tuple hq
    exact call_tuple_same pl ⟨.ref p, H, I, rfl, q⟩
/-- t.m(e, ..), t a tuple -/
def tTM (K : PySem.W.Frag) (r : V → List V → Hp → VK → Prop) (to : TE) (t : TA) : TE := fun σ H Q => to σ H fun x H1 => (∃ a xs, x = .ref a ∧ TpAt K H1 a xs) ∧ t σ H1 fun xs H2 => r x xs H2 Q
theorem pe_tm {o e : Expr} {to : TE} {name : Str} {apos cpos : Pos} {id : String} {r : V → List V → Hp → VK → Prop} (slot : Slot "tuple" name id) (hty : typeOf (.builtin id) = pure (.type "method_descriptor")) (hm : MtR X id r) (ho : PE X o to) (ha : PA X (e :: es) t)
    (hbase : attributeBase o name X.env (eval o X.env) = eval o X.env := by rfl)
    (hfew : ((backTo cpos (starEach (e :: es) X.env)).all (fun x => !x.1) && (backToKw cpos (keywordEach [] X.env)).all (fun x => x.1.isSome)
      && decide ((e :: es).length + ([] : List Keyword).length + (if ([] : List Keyword).isEmpty then 0 else 1) < 30)) = true := by rfl)
    (hline : (apos.endLine == cpos.line) = true := by rfl) (hs : starEach (e :: es) X.env = (false, eval e X.env) :: starEach es X.env := by rfl) (hplain : (backTo cpos (starEach es X.env)).any (·.1) = false := by rfl) :
    PE X (.Call (.Attribute o name apos) (e :: es) [] cpos) (tTM X.K r to t) := by
  refine ⟨fun pins s σ H Q I h => ?_⟩
  refine wpAny_Call_method_late hbase hfew hline rfl (thn (ho.run pins s σ H _ I h) fun v s1 ⟨x, H1, I1, r1, ⟨a, xs, ex, tp⟩, q1⟩ => ?_)
  subst ex
  cases r1
  have hh : ∃ ob, s1.heap.get? a = some ob ∧ ob.cls = .type "tuple" ∧ ob.dict = none := by
    rcases tp with ⟨ob, h1, h2⟩ | ⟨ob, its, n, h1, h2, h3, _⟩
    · obtain ⟨g1, g2⟩ : s1.heap.get? a = some ob ∧ ObjOk X.prog X.w H1 s1.heap a (.tup xs) := I1.hok a _ h1
      obtain ⟨_, _, _, ob', g3, g4, _⟩ := g2
      rw [g1] at g3
      cases g3
      exact ⟨ob, g1, g4, h2⟩
    · exact ⟨ob, I1.kIn a ob h1, h2, h3⟩
  obtain ⟨ob, g1, g2, g3⟩ := hh
  refine ⟨"tuple", id, PySem.F.plainAttrs_tuple, slot, hty, ⟨ob, g1, g2⟩, fun a' e' => by cases e'; exact ⟨ob, g1, g3⟩, ?_⟩
  have hA := ha.run cpos pins s1 σ H1 _ I1 q1
  rw [hs] at hA ⊢
  refine Calls.callWith_builtin (by show (false || (backTo cpos (starEach es X.env)).any (·.1)) = false; rw [hplain] <;> rfl) (Calls.evalArgs_plain ?_)
  exact thn hA fun us s2 ⟨vs, H2, I2, r2, q2⟩ => hm pins s2 σ H2 (.ref a) vs (.ref a) us Q I2 rfl r2 q2
end
end Dn
set_option Elab.async false
set_option linter.all false
set_option maxRecDepth 100000
namespace Dn
open PySem L2

/-- a family of contexts (a def's body; a comprehension's block at every place) -/
structure Fam where
  ι : Type
  X : ι → Cx
  K : PySem.W.Frag
  W : WX
  Xc : Nat → Addr
  k : Nat
  hK : ∀ i, (X i).K = K
  tk : ∀ i, Takes (X i) W
  hot : Bool
  un : ∀ i, (X i).A.units + 16 * k + 200 < cLine
  room : hot = false → ∀ i, Room k (X i).A
  calm : hot = false → ∀ i, (X i).calm = true
  nd : ∀ i, (X i).N.Nodup
  po : ∀ i, PassesOwn (model (X i).prog (X i).w) (X i).A (X i).env (X i).xe

def Post {α : Type} (F : Fam) (σ : St) (H : Hp) (P : α → Prop) : Res α → Prop
  | .ok a => P a
  | .exc c => ∀ H', Same H H' → F.W (.ref (F.Xc c)) none σ H'
  | .bad => False
section
variable {F : Fam} {σ : St} {H H1 : Hp} {α β : Type}
theorem Post.bind {x : Res α} {k : α → Res β} {P : β → Prop} (h : Post F σ H P (x.bind k)) : Post F σ H (fun a => Post F σ H P (k a)) x := by
  cases x <;> exact h
theorem Post.to {x : Res α} {P P' : α → Prop} (h : Post F σ H P x) (e : Same H H1) (i : ∀ a, x = .ok a → P a → P' a) : Post F σ H1 P' x := by
  cases x with
  | ok a => exact i a rfl h
  | exc c => exact fun H' q => h H' (e.trans q)
  | bad => exact h
theorem Post.ok {x : Res α} {P : α → Prop} {a : α} (h : Post F σ H P x) (e : x = .ok a) : P a := by
  subst e; exact h
end
def ofO {α : Type} : Option α → Res α
  | some a => .ok a
  | none => .bad

abbrev RelD := Hp → Av → V → D → Prop
def SemG (RR : RelD) (F : Fam) (τ : List Kd) (t : TE) (f : Rho → Res D) (fl : Fl) : Prop :=
  ∀ H0 B ρ σ H (Q : VK), SR F.K τ H0 B ρ σ H → Post F σ H (fun d => ∀ v H', Same H H' → RR H' (av fl H0 H (OwnX τ B ρ σ)) v d → Q v H') (f ρ) → t σ H Q
/-- an expression, its value to be kept | to be read at once -/
def DnE (F : Fam) (τ : List Kd) (e : Expr) (f : Rho → Res D) (fl : Fl) : Prop := ∃ t, (∀ i, PE (F.X i) e t) ∧ SemG (Dq F.K) F τ t f fl
def DnR (F : Fam) (τ : List Kd) (e : Expr) (f : Rho → Res D) (fl : Fl) : Prop := ∃ t, (∀ i, PE (F.X i) e t) ∧ SemG (Rv F.K) F τ t f fl
def DnT (F : Fam) (τ : List Kd) (e : Expr) (f : Rho → Res Bool) : Prop := ∃ t : TT, (∀ i, PT (F.X i) e t) ∧
  ∀ H0 B ρ σ H (Q : Bool → Hp → Prop), SR F.K τ H0 B ρ σ H → Post F σ H (fun b => ∀ H', Same H H' → Q b H') (f ρ) → t σ H Q
def DnW (F : Fam) (τ : List Kd) (e : Expr) (f : Rho → Res Bool) : Prop := ∃ t : TT, (∀ i, PW (F.X i) e t) ∧
  ∀ H0 B ρ σ H (Q : Bool → Hp → Prop), SR F.K τ H0 B ρ σ H → Post F σ H (fun b => ∀ H', Same H H' → Q b H') (f ρ) → t σ H Q
/-- arguments to be kept; to be read -/
def DnA (F : Fam) (τ : List Kd) (es : List Expr) (f : Rho → Res (List D)) (fl : Fl) : Prop := ∃ t : TA, (∀ i, PA (F.X i) es t) ∧
  ∀ H0 B ρ σ H (Q : List V → Hp → Prop), SR F.K τ H0 B ρ σ H → Post F σ H (fun ds => ∀ vs H', Same H H' → DqL F.K H' (av fl H0 H (OwnX τ B ρ σ)) vs ds → Q vs H') (f ρ) → t σ H Q
inductive RvL (K : PySem.W.Frag) (H : Hp) (A : Av) : List V → List D → Prop
  | nil : RvL K H A [] []
  | cons {v : V} {vs : List V} {d : D} {ds : List D} : Rv K H A v d → RvL K H A vs ds → RvL K H A (v :: vs) (d :: ds)
def DnAR (F : Fam) (τ : List Kd) (es : List Expr) (f : Rho → Res (List D)) (fl : Fl) : Prop := ∃ t : TA, (∀ i, PA (F.X i) es t) ∧
  ∀ H0 B ρ σ H (Q : List V → Hp → Prop), SR F.K τ H0 B ρ σ H → Post F σ H (fun ds => ∀ vs H', Same H H' → RvL F.K H' (av fl H0 H (OwnX τ B ρ σ)) vs ds → Q vs H') (f ρ) → t σ H Q

section
variable {F : Fam} {τ : List Kd} {e a b c : Expr} {f fa fb fc : Rho → Res D} {fl la lb lc : Fl} {pos : Pos}
theorem av_le {fl fl' : Fl} {H0 H : Hp} {O : Av} (s : ∀ p, O p → dom H p) (s0 : ∀ p, dom H0 p → dom H p) : ∀ p, av (fl.min fl') H0 H O p → av fl H0 H O p := by
  intro p h
  cases fl <;> cases fl' <;> first | exact h | exact s p h | exact .inl h | (rcases h with h | h; exact s p h; exact s0 p h)
theorem av_le' {fl fl' : Fl} {H0 H : Hp} {O : Av} (s : ∀ p, O p → dom H p) (s0 : ∀ p, dom H0 p → dom H p) : ∀ p, av (fl.min fl') H0 H O p → av fl' H0 H O p := by
  intro p h
  cases fl <;> cases fl' <;> first | exact h | exact s p h | exact .inl h | (rcases h with h | h; exact s p h; exact s0 p h)
theorem dom_mono {H H1 : Hp} (e : Same H H1) : ∀ p, dom H p → dom H1 p := fun p h => e.dm p h
theorem SR.own_dom {K : PySem.W.Frag} {H0 H : Hp} {B : Av} {ρ : Rho} {σ : St} (s : SR K τ H0 B ρ σ H) : ∀ p, OwnX τ B ρ σ p → dom H p := fun p h => s.ownDom h
theorem SR.ent_dom {K : PySem.W.Frag} {H0 H : Hp} {B : Av} {ρ : Rho} {σ : St} (s : SR K τ H0 B ρ σ H) : ∀ p, dom H0 p → dom H p := dom_mono s.ext
/-- a later start avoids more -/
theorem av_later {fl : Fl} {H0 H H1 : Hp} {O : Av} (e : Same H H1) : ∀ p, av fl H0 H O p → av fl H0 H1 O p := by
  intro p h
  cases fl
  · exact h
  · exact h
  · exact dom_mono e p h
theorem av_dom {K : PySem.W.Frag} {H0 H : Hp} {B : Av} {ρ : Rho} {σ : St} {fl : Fl} (s : SR K τ H0 B ρ σ H) : ∀ p, av fl H0 H (OwnX τ B ρ σ) p → dom H p := by
  intro p h
  cases fl
  · exact s.own_dom p h
  · exact h.elim (s.own_dom p) (s.ent_dom p)
  · exact h
theorem av_own {K : PySem.W.Frag} {H0 H : Hp} {B : Av} {ρ : Rho} {σ : St} {fl : Fl} (s : SR K τ H0 B ρ σ H) : ∀ p, OwnX τ B ρ σ p → av fl H0 H (OwnX τ B ρ σ) p := by
  intro p h
  cases fl
  · exact h
  · exact .inl h
  · exact s.own_dom p h
theorem DnE.r (h : DnE F τ e f fl) : DnR F τ e f fl := by
  obtain ⟨t, h1, h2⟩ := h
  exact ⟨t, h1, fun H0 B ρ σ H Q s p => h2 H0 B ρ σ H Q s (p.to (Same.refl _) fun d _ k v H' e r => k v H' e (.inl r))⟩
/-- forget how new it is -/
theorem DnE.z (h : DnE F τ e f fl) : DnE F τ e f .z := by
  obtain ⟨t, h1, h2⟩ := h
  exact ⟨t, h1, fun H0 B ρ σ H Q s p => h2 H0 B ρ σ H Q s (p.to (Same.refl _) fun d _ k v H' e r => k v H' e (Dq.mono (Same.refl _) r (av_own s)))⟩
theorem DnE.to_e (h : DnE F τ e f .s) : DnE F τ e f .e := by
  obtain ⟨t, h1, h2⟩ := h
  exact ⟨t, h1, fun H0 B ρ σ H Q s p => h2 H0 B ρ σ H Q s (p.to (Same.refl _) fun d _ k v H' e r => k v H' e (Dq.mono (Same.refl _) r fun p z => av_dom (fl := .e) s p z))⟩
/-- unchangeable data is always new -/
def eImm (f : Rho → Res D) : Rho → Res D := fun ρ => (f ρ).bind fun d => if imm d = true then .ok d else .bad
theorem DnE.imm (h : DnE F τ e f fl) : DnE F τ e (eImm f) .s := by
  obtain ⟨t, h1, h2⟩ := h
  refine ⟨t, h1, fun H0 B ρ σ H Q s p => h2 H0 B ρ σ H Q s (p.bind.to (Same.refl _) fun d _ k v H' e r => ?_)⟩
  by_cases hi : Dn.imm d = true
  · rw [if_pos hi] at k
    exact k v H' e (r.imm_any hi)
  · rw [if_neg hi] at k
    exact k.elim

/-! ### names, constants -/
def eVar (i : Nat) : Rho → Res D := fun ρ => match ρ[i]? with
  | some (some d) => .ok d
  | _ => .bad
def eC (d : D) : Rho → Res D := fun _ => .ok d
theorem eVar_ok {i : Nat} {ρ : Rho} {d : D} (h : eVar i ρ = .ok d) : ρ[i]? = some (some d) := by
  unfold eVar at h
  split at h
  · cases h; assumption
  · cases h
theorem eVar_exc {i : Nat} {ρ : Rho} {c : Nat} (h : eVar i ρ = .exc c) : False := by
  unfold eVar at h
  split at h <;> cases h
theorem dn_var (i : Nat) {x : Str} (hk : kd τ i = .sh := by rfl) (hN : ∀ j, (F.X j).N[i]? = some x := by intro _; rfl) (hv : ∀ j, Vis (F.X j).env.scope x := by intro _; first | exact Or.inl rfl | exact Or.inr (Or.inl rfl) | exact Or.inr (Or.inr rfl))
    (hd : (x == ("__debug__" : Str)) = false := by decide) (hcd : (x == ("__classdict__" : Str)) = false := by decide) : DnE F τ (.Name x pos) (eVar i) .z := by
  refine ⟨tVar i, fun j => pe_var (hN j) (hv j) hd hcd, fun H0 B ρ σ H Q s p => ?_⟩
  cases hf : eVar i ρ with
  | ok d =>
    obtain ⟨v, h1, h2⟩ := s.ok i d (eVar_ok hf)
    rw [hk] at h2
    exact ⟨v, h1, p.ok hf v H (Same.refl _) h2⟩
  | exc c => exact (eVar_exc hf).elim
  | bad => rw [hf] at p; exact p.elim
theorem dn_varE (i : Nat) {x : Str} (hk : kd τ i = .she := by rfl) (hN : ∀ j, (F.X j).N[i]? = some x := by intro _; rfl) (hv : ∀ j, Vis (F.X j).env.scope x := by intro _; first | exact Or.inl rfl | exact Or.inr (Or.inl rfl) | exact Or.inr (Or.inr rfl))
    (hd : (x == ("__debug__" : Str)) = false := by decide) (hcd : (x == ("__classdict__" : Str)) = false := by decide) : DnE F τ (.Name x pos) (eVar i) .e := by
  refine ⟨tVar i, fun j => pe_var (hN j) (hv j) hd hcd, fun H0 B ρ σ H Q s p => ?_⟩
  cases hf : eVar i ρ with
  | ok d =>
    obtain ⟨v, h1, h2⟩ := s.ok i d (eVar_ok hf)
    rw [hk] at h2
    exact ⟨v, h1, p.ok hf v H (Same.refl _) h2⟩
  | exc c => exact (eVar_exc hf).elim
  | bad => rw [hf] at p; exact p.elim
/-- any name, to be read -/
theorem dr_var (i : Nat) {x : Str} (hk : (kd τ i).isRd = true := by rfl) (hN : ∀ j, (F.X j).N[i]? = some x := by intro _; rfl) (hv : ∀ j, Vis (F.X j).env.scope x := by intro _; first | exact Or.inl rfl | exact Or.inr (Or.inl rfl) | exact Or.inr (Or.inr rfl))
    (hd : (x == ("__debug__" : Str)) = false := by decide) (hcd : (x == ("__classdict__" : Str)) = false := by decide) : DnR F τ (.Name x pos) (eVar i) .z := by
  refine ⟨tVar i, fun j => pe_var (hN j) (hv j) hd hcd, fun H0 B ρ σ H Q s p => ?_⟩
  cases hf : eVar i ρ with
  | ok d =>
    obtain ⟨v, h1, h2⟩ := s.ok i d (eVar_ok hf)
    refine ⟨v, h1, p.ok hf v H (Same.refl _) ?_⟩
    cases q : kd τ i with
    | sh => rw [q] at h2; exact .inl h2
    | she => rw [q] at h2; exact .inl (Dq.mono (Same.refl _) h2 fun _ z => .inl z)
    | own =>
      rw [q] at h2
      obtain ⟨p, rfl, _, h4⟩ := h2
      exact .inr ⟨p, rfl, h4⟩
    | owne =>
      rw [q] at h2
      obtain ⟨p, rfl, _, h4⟩ := h2
      exact .inr ⟨p, rfl, h4.mono rfl fun _ _ z => DqL.mono (Same.refl _) z fun _ z => .inl z⟩
    | scr => rw [q] at hk; cases hk
    | rf a c => rw [q] at hk; cases hk
    | tb _ _ => rw [q] at hk; cases hk
  | exc c => exact (eVar_exc hf).elim
  | bad => rw [hf] at p; exact p.elim
theorem dn_int {i : Int} {j} : DnE F τ (.Constant (.int i) j pos) (eC (.int i)) .s := ⟨_, fun _ => pe_int, fun H0 B ρ σ H Q s p => p _ H (Same.refl _) (.int i)⟩
theorem dn_bl {i : Bool} {j} : DnE F τ (.Constant (.bool i) j pos) (eC (.bool i)) .s := ⟨_, fun _ => pe_bl, fun H0 B ρ σ H Q s p => p _ H (Same.refl _) (.bl i)⟩
theorem dn_str {i : Str} {j} : DnE F τ (.Constant (.str i) j pos) (eC (.str i)) .s := ⟨_, fun _ => pe_str, fun H0 B ρ σ H Q s p => p _ H (Same.refl _) (.str i)⟩
theorem dn_non {j} : DnE F τ (.Constant .none j pos) (eC .none) .s := ⟨_, fun _ => pe_non, fun H0 B ρ σ H Q s p => p _ H (Same.refl _) .non⟩
/-- a module's constant: an int, a text .. -/
theorem dn_globI {x : Str} {i : Int} {t : Tok} (hg : ∀ j, Gl (F.X j) x := by intro _; rfl) (hm : ∀ j, (F.X j).mg x = some (.int i t)) (hd : (x == ("__debug__" : Str)) = false := by decide) : DnE F τ (.Name x pos) (eC (.int i)) .s :=
  ⟨_, fun j => pe_glob (v := .int i) (hg j) (hm j) ⟨t, rfl⟩ hd, fun H0 B ρ σ H Q s p => p _ H (Same.refl _) (.int i)⟩
theorem dn_globS {x : Str} {i : Str} {t : Tok} (hg : ∀ j, Gl (F.X j) x := by intro _; rfl) (hm : ∀ j, (F.X j).mg x = some (.str i t)) (hd : (x == ("__debug__" : Str)) = false := by decide) : DnE F τ (.Name x pos) (eC (.str i)) .s :=
  ⟨_, fun j => pe_glob (v := .str i) (hg j) (hm j) ⟨t, rfl⟩ hd, fun H0 B ρ σ H Q s p => p _ H (Same.refl _) (.str i)⟩

/-! ### two-place operations -/
def OpSem (K : PySem.W.Frag) (r : R2) (g : D → D → Option D) : Prop := ∀ (A : Av) (H : Hp) (x y : V) (dx dy d : D), (∀ a, A a → dom H a) → Rv K H A x dx → Rv K H A y dy → g dx dy = some d →
  ∀ Q : VK, (∀ v H', Same H H' → Dq K H' A v d → Q v H') → r x y H Q
def OpD (F : Fam) (fo : Value → Value → Sem Value) (g : D → D → Option D) : Prop := ∃ r, (∀ i, OpR (F.X i) fo r) ∧ OpSem F.K r g
def eBin (g : D → D → Option D) (fa fb : Rho → Res D) : Rho → Res D := fun ρ => (fa ρ).bind fun x => (fb ρ).bind fun y => ofO (g x y)
/-- two readings in a row -/
theorem two {ta tb : TE} (ha : SemG (Rv F.K) F τ ta fa la) (hb : SemG (Rv F.K) F τ tb fb lb) {H0 : Hp} {B : Av} {ρ : Rho} {σ : St} {H : Hp} {R : V → V → Hp → Prop} {P : D → D → Prop} (s : SR F.K τ H0 B ρ σ H)
    (p : Post F σ H (fun x => Post F σ H (fun y => P x y) (fb ρ)) (fa ρ))
    (k : ∀ x y H2 dx dy, P dx dy → Same H H2 → SR F.K τ H0 B ρ σ H2 → Rv F.K H2 (av (la.min lb) H0 H (OwnX τ B ρ σ)) x dx → Rv F.K H2 (av (la.min lb) H0 H (OwnX τ B ρ σ)) y dy → R x y H2) :
    ta σ H fun x H1 => tb σ H1 fun y H2 => R x y H2 := by
  refine ha H0 B ρ σ H _ s (p.to (Same.refl _) fun dx _ p1 x H1 e1 r1 => ?_)
  refine hb H0 B ρ σ H1 _ (s.more e1) (p1.to e1 fun dy _ p2 y H2 e2 r2 => ?_)
  exact k x y H2 dx dy p2 (e1.trans e2) (s.more (e1.trans e2)) (r1.mono e2 (av_le s.own_dom s.ent_dom)) (r2.mono (Same.refl _) fun p z => av_later e1 p (av_le' s.own_dom s.ent_dom p z))
theorem dn_bin {op : Operator} {g : D → D → Option D} (ho : OpD F (binaryOp op) g) (ha : DnR F τ a fa la) (hb : DnR F τ b fb lb) : DnE F τ (.BinOp a op b pos) (eBin g fa fb) (la.min lb) := by
  obtain ⟨r, o1, o2⟩ := ho
  obtain ⟨ta, a1, a2⟩ := ha
  obtain ⟨tb, b1, b2⟩ := hb
  refine ⟨tOp r ta tb, fun i => pe_op (o1 i) (a1 i) (b1 i), fun H0 B ρ σ H Q s p => ?_⟩
  refine two a2 b2 s (P := fun x y => Post F σ H (fun d => ∀ v H', Same H H' → Dq F.K H' (av (la.min lb) H0 H (OwnX τ B ρ σ)) v d → Q v H') (ofO (g x y))) (p.bind.to (Same.refl _) fun x _ p1 => p1.bind) ?_
  intro x y H2 dx dy p2 e2 s2 r1 r2
  cases hg : g dx dy with
  | none => rw [hg] at p2; exact p2.elim
  | some d =>
    rw [hg] at p2
    exact o2 _ H2 x y dx dy d (fun p z => dom_mono e2 p (av_dom s p z)) r1 r2 hg Q fun v H' e q => p2 v H' (e2.trans e) q
theorem dn_cmp {op : CmpOp} {g : D → D → Option D} (ho : OpD F (compareOp op) g) (ha : DnR F τ a fa la) (hb : DnR F τ b fb lb) (hm : behindInMarks op b = false := by first | exact nomark _ | rfl | with_unfolding_all rfl) :
    DnE F τ (.Compare a [op] [b] pos) (eBin g fa fb) (la.min lb) := by
  obtain ⟨r, o1, o2⟩ := ho
  obtain ⟨ta, a1, a2⟩ := ha
  obtain ⟨tb, b1, b2⟩ := hb
  refine ⟨tOp r ta tb, fun i => pe_cmpR (o1 i) (a1 i) (b1 i) hm, fun H0 B ρ σ H Q s p => ?_⟩
  refine two a2 b2 s (P := fun x y => Post F σ H (fun d => ∀ v H', Same H H' → Dq F.K H' (av (la.min lb) H0 H (OwnX τ B ρ σ)) v d → Q v H') (ofO (g x y))) (p.bind.to (Same.refl _) fun x _ p1 => p1.bind) ?_
  intro x y H2 dx dy p2 e2 s2 r1 r2
  cases hg : g dx dy with
  | none => rw [hg] at p2; exact p2.elim
  | some d =>
    rw [hg] at p2
    exact o2 _ H2 x y dx dy d (fun p z => dom_mono e2 p (av_dom s p z)) r1 r2 hg Q fun v H' e q => p2 v H' (e2.trans e) q
def toB : D → Res Bool
  | .bool b => .ok b
  | _ => .bad
def eT (f : Rho → Res D) : Rho → Res Bool := fun ρ => (f ρ).bind toB
theorem toB_ok {d : D} {P : Bool → Prop} {σ : St} {H : Hp} (h : Post F σ H P (toB d)) : ∃ b, d = .bool b ∧ P b := by
  cases d <;> first | exact h.elim | exact ⟨_, rfl, h⟩
theorem dt_cmp {op : CmpOp} {g : D → D → Option D} (ho : OpD F (compareOp op) g) (ha : DnR F τ a fa la) (hb : DnR F τ b fb lb) (hm : behindInMarks op b = false := by first | exact nomark _ | rfl | with_unfolding_all rfl) :
    DnT F τ (.Compare a [op] [b] pos) (eT (eBin g fa fb)) := by
  obtain ⟨r, o1, o2⟩ := ho
  obtain ⟨ta, a1, a2⟩ := ha
  obtain ⟨tb, b1, b2⟩ := hb
  refine ⟨tTest (tOp r ta tb), fun i => pt_cmpR (o1 i) (a1 i) (b1 i) hm, fun H0 B ρ σ H Q s p => ?_⟩
  refine two a2 b2 s (P := fun x y => Post F σ H (fun d => Post F σ H (fun b => ∀ H', Same H H' → Q b H') (toB d)) (ofO (g x y))) (p.bind.bind.to (Same.refl _) fun x _ p1 => p1.bind) ?_
  intro x y H2 dx dy p2 e2 s2 r1 r2
  cases hg : g dx dy with
  | none => rw [hg] at p2; exact p2.elim
  | some d =>
    rw [hg] at p2
    obtain ⟨b, rfl, p3⟩ := toB_ok p2
    refine o2 _ H2 x y dx dy _ (fun p z => dom_mono e2 p (av_dom s p z)) r1 r2 hg _ fun v H' e q => ?_
    cases q
    exact ⟨b, rfl, p3 H' (e2.trans e)⟩
/-- a op b op' c -/
def eChain (g g' : D → D → Option D) (fa fb fc : Rho → Res D) : Rho → Res D := fun ρ => (fa ρ).bind fun x => (fb ρ).bind fun y => (ofO (g x y)).bind fun z => (toB z).bind fun k =>
  if k = true then (fc ρ).bind fun w => ofO (g' y w) else .ok (.bool false)
theorem chain_sem {r r' : R2} {ta tb tc : TE} {g g' : D → D → Option D} (o2 : OpSem F.K r g) (o2' : OpSem F.K r' g') (a2 : SemG (Rv F.K) F τ ta fa la) (b2 : SemG (Rv F.K) F τ tb fb lb) (c2 : SemG (Rv F.K) F τ tc fc lc) :
    SemG (Dq F.K) F τ (tChain r r' ta tb tc) (eChain g g' fa fb fc) .z := by
  intro H0 B ρ σ H Q s p
  refine two a2 b2 s (P := fun x y => Post F σ H (fun z => Post F σ H (fun k => Post F σ H (fun d => ∀ v H', Same H H' → Dq F.K H' (av .z H0 H (OwnX τ B ρ σ)) v d → Q v H') (if k = true then (fc ρ).bind fun w => ofO (g' y w) else .ok (.bool false))) (toB z)) (ofO (g x y)))
    (p.bind.to (Same.refl _) fun x _ p1 => p1.bind.to (Same.refl _) fun y _ p2 => p2.bind.to (Same.refl _) fun z _ p3 => p3.bind) ?_
  intro x y H2 dx dy p2 e2 s2 r1 r2
  cases hg : g dx dy with
  | none => rw [hg] at p2; exact p2.elim
  | some d =>
    rw [hg] at p2
    obtain ⟨k, rfl, p3⟩ := toB_ok p2
    refine o2 _ H2 x y dx dy _ (fun p z => dom_mono e2 p (av_dom s p z)) r1 r2 hg _ fun v H' e q => ?_
    cases q
    refine ⟨k, rfl, ?_⟩
    cases k with
    | false =>
      rw [if_neg Bool.false_ne_true] at p3 ⊢
      exact p3 _ H' (e2.trans e) (.bl false)
    | true =>
      rw [if_pos rfl] at p3 ⊢
      refine c2 H0 B ρ σ H' _ (s.more (e2.trans e)) (p3.bind.to (e2.trans e) fun dw _ p4 w H3 e3 r3 => ?_)
      cases hg' : g' dy dw with
      | none => rw [hg'] at p4; exact p4.elim
      | some d' =>
        rw [hg'] at p4
        have e5 := (e2.trans e).trans e3
        exact o2' (OwnX τ B ρ σ) H3 y w dy dw d' (fun p z => dom_mono e5 p (s.own_dom p z)) (r2.mono (e.trans e3) fun p z => av_own s p z) (r3.mono (Same.refl _) fun p z => av_own (s.more (e2.trans e)) p z) hg' Q fun v H' e' q => p4 v H' (e5.trans e') q
theorem dn_chain {op op' : CmpOp} {g g' : D → D → Option D} (ho : OpD F (compareOp op) g) (ho' : OpD F (compareOp op') g') (ha : DnR F τ a fa la) (hb : DnR F τ b fb lb) (hc : DnR F τ c fc lc) (hm : lastMarks [op, op'] [b, c] = false := by with_unfolding_all rfl) :
    DnE F τ (.Compare a [op, op'] [b, c] pos) (eChain g g' fa fb fc) .z := by
  obtain ⟨r, o1, o2⟩ := ho
  obtain ⟨r', o1', o2'⟩ := ho'
  obtain ⟨ta, a1, a2⟩ := ha
  obtain ⟨tb, b1, b2⟩ := hb
  obtain ⟨tc, c1, c2⟩ := hc
  exact ⟨_, fun i => pe_chain (o1 i) (o1' i) (a1 i) (b1 i) (c1 i) hm, chain_sem o2 o2' a2 b2 c2⟩
theorem test_sem {t : TE} (h : SemG (Dq F.K) F τ t f fl) : ∀ H0 B ρ σ H (Q : Bool → Hp → Prop), SR F.K τ H0 B ρ σ H → Post F σ H (fun b => ∀ H', Same H H' → Q b H') (eT f ρ) → tTest t σ H Q := by
  intro H0 B ρ σ H Q s p
  refine h H0 B ρ σ H _ s (p.bind.to (Same.refl _) fun d _ p1 v H' e q => ?_)
  obtain ⟨b, rfl, p3⟩ := toB_ok p1
  cases q
  exact ⟨b, rfl, p3 H' e⟩
theorem dt_chain {op op' : CmpOp} {g g' : D → D → Option D} (ho : OpD F (compareOp op) g) (ho' : OpD F (compareOp op') g') (ha : DnR F τ a fa la) (hb : DnR F τ b fb lb) (hc : DnR F τ c fc lc) (hm : lastMarks [op, op'] [b, c] = false := by with_unfolding_all rfl) :
    DnT F τ (.Compare a [op, op'] [b, c] pos) (eT (eChain g g' fa fb fc)) := by
  obtain ⟨r, o1, o2⟩ := ho
  obtain ⟨r', o1', o2'⟩ := ho'
  obtain ⟨ta, a1, a2⟩ := ha
  obtain ⟨tb, b1, b2⟩ := hb
  obtain ⟨tc, c1, c2⟩ := hc
  exact ⟨_, fun i => pt_chain (o1 i) (o1' i) (a1 i) (b1 i) (c1 i) hm, test_sem (chain_sem o2 o2' a2 b2 c2)⟩

/-! ### truth, and, or, not, if -/
def truD : D → Option Bool
  | .none => some false
  | .bool b => some b
  | .int i => some (i != 0)
  | .str x => if x.length ≤ sizeLine then some ((x.length : Int) != 0) else none
  | .list ds => some (!ds.isEmpty)
  | .tuple ds => some (!ds.isEmpty)
  | .dict _ => none
theorem isEmpty_len {α β : Type} : ∀ {xs : List α} {ys : List β}, xs.length = ys.length → xs.isEmpty = ys.isEmpty
  | [], [], _ => rfl
  | _ :: _, _ :: _, _ => rfl
  | [], _ :: _, h => by simp at h
  | _ :: _, [], h => by simp at h
theorem tru_of {K : PySem.W.Frag} {H : Hp} {A : Av} {v : V} {d : D} {b : Bool} (r : Rv K H A v d) (h : truD d = some b) : TruV K v H b := by
  cases d with
  | none => rw [r.non]; cases h; exact rfl
  | bool c => rw [r.bl]; cases h; exact rfl
  | int c => rw [r.int]; cases h; exact rfl
  | str x =>
    rw [r.str]
    simp only [truD] at h
    split at h
    · cases h; exact ⟨by assumption, rfl⟩
    · cases h
  | list ds =>
    obtain ⟨a, xs, rfl, h1, h2⟩ := r.list
    cases h
    exact .inl ⟨xs, h1, by rw [isEmpty_len h2.length]⟩
  | tuple ds =>
    obtain ⟨a, xs, rfl, h1, h2⟩ := r.tuple
    cases h
    exact .inr (.inl ⟨xs, h1, by rw [isEmpty_len h2.length]⟩)
  | dict ds => cases h
def eTru (f : Rho → Res D) : Rho → Res Bool := fun ρ => (f ρ).bind fun d => ofO (truD d)
theorem dt_tru (ha : DnR F τ a fa la) (he : ∀ j whole, isTrue a (F.X j).env whole = (do let v ← whole; standAt a.pos; holding [v] (truthy v)) := by intro _ _; rfl) : DnT F τ a (eTru fa) := by
  obtain ⟨ta, a1, a2⟩ := ha
  refine ⟨fun σ H Q => ta σ H fun x H' => ∃ k, TruV F.K x H' k ∧ Q k H', fun i => by have h := pt_truth (a1 i) (he i); rw [F.hK i] at h; exact h, fun H0 B ρ σ H Q s p => ?_⟩
  refine a2 H0 B ρ σ H _ s (p.bind.to (Same.refl _) fun d _ p1 v H' e r => ?_)
  cases ht : truD d with
  | none => rw [ht] at p1; exact p1.elim
  | some b =>
    rw [ht] at p1
    exact ⟨b, tru_of r ht, p1 H' e⟩
variable {ga gb : Rho → Res Bool} {rest : List Expr}
def tAndR (ga gb : Rho → Res Bool) : Rho → Res Bool := fun ρ => (ga ρ).bind fun b => if b = true then gb ρ else .ok false
def tOrR (ga gb : Rho → Res Bool) : Rho → Res Bool := fun ρ => (ga ρ).bind fun b => if b = true then .ok true else gb ρ
def tNotR (ga : Rho → Res Bool) : Rho → Res Bool := fun ρ => (ga ρ).bind fun b => .ok (!b)
theorem DnW.t (h : DnW F τ e ga) : DnT F τ e ga := let ⟨t, h1, h2⟩ := h; ⟨t, fun i => (h1 i).pt, h2⟩
theorem dw_and1 (h : DnT F τ a ga) : DnW F τ (.BoolOp .And [a] pos) ga := let ⟨t, h1, h2⟩ := h; ⟨t, fun i => pw_and1 (h1 i), h2⟩
theorem dw_or1 (h : DnT F τ a ga) : DnW F τ (.BoolOp .Or [a] pos) ga := let ⟨t, h1, h2⟩ := h; ⟨t, fun i => pw_or1 (h1 i), h2⟩
theorem dw_and (h : DnT F τ a ga) (h' : DnW F τ (.BoolOp .And (b :: rest) pos) gb) : DnW F τ (.BoolOp .And (a :: b :: rest) pos) (tAndR ga gb) := by
  obtain ⟨t, h1, h2⟩ := h
  obtain ⟨u, g1, g2⟩ := h'
  refine ⟨tAnd t u, fun i => pw_and (h1 i) (g1 i), fun H0 B ρ σ H Q s p => ?_⟩
  refine h2 H0 B ρ σ H _ s (p.bind.to (Same.refl _) fun c _ p1 H1 e1 => ?_)
  cases c with
  | true =>
    rw [if_pos rfl] at p1 ⊢
    exact g2 H0 B ρ σ H1 Q (s.more e1) (p1.to e1 fun b _ p2 H2 e2 => p2 H2 (e1.trans e2))
  | false =>
    rw [if_neg Bool.false_ne_true] at p1 ⊢
    exact p1 H1 e1
theorem dw_or (h : DnT F τ a ga) (h' : DnW F τ (.BoolOp .Or (b :: rest) pos) gb) : DnW F τ (.BoolOp .Or (a :: b :: rest) pos) (tOrR ga gb) := by
  obtain ⟨t, h1, h2⟩ := h
  obtain ⟨u, g1, g2⟩ := h'
  refine ⟨tOr t u, fun i => pw_or (h1 i) (g1 i), fun H0 B ρ σ H Q s p => ?_⟩
  refine h2 H0 B ρ σ H _ s (p.bind.to (Same.refl _) fun c _ p1 H1 e1 => ?_)
  cases c with
  | false =>
    rw [if_neg Bool.false_ne_true] at p1 ⊢
    exact g2 H0 B ρ σ H1 Q (s.more e1) (p1.to e1 fun b _ p2 H2 e2 => p2 H2 (e1.trans e2))
  | true =>
    rw [if_pos rfl] at p1 ⊢
    exact p1 H1 e1
theorem dt_not (h : DnT F τ a ga) : DnT F τ (.UnaryOp .Not a pos) (tNotR ga) := by
  obtain ⟨t, h1, h2⟩ := h
  refine ⟨tNot t, fun i => pt_not (h1 i), fun H0 B ρ σ H Q s p => ?_⟩
  exact h2 H0 B ρ σ H _ s (p.bind.to (Same.refl _) fun c _ p1 H1 e1 => p1 H1 e1)
/-- as values: bools alone -/
def eAnd (fa fb : Rho → Res D) : Rho → Res D := fun ρ => (fa ρ).bind fun x => (toB x).bind fun c => if c = true then fb ρ else .ok (.bool false)
def eOr (fa fb : Rho → Res D) : Rho → Res D := fun ρ => (fa ρ).bind fun x => (toB x).bind fun c => if c = true then .ok (.bool true) else fb ρ
def eNot (fa : Rho → Res D) : Rho → Res D := fun ρ => (fa ρ).bind fun x => (toB x).bind fun c => .ok (.bool !c)
theorem dn_one {op} (h : DnE F τ a fa la) : DnE F τ (.BoolOp op [a] pos) fa la := let ⟨t, h1, h2⟩ := h; ⟨t, fun i => pe_one (h1 i), h2⟩
theorem dn_and (h : DnE F τ a fa la) (h' : DnE F τ (.BoolOp .And (b :: rest) pos) fb lb) : DnE F τ (.BoolOp .And (a :: b :: rest) pos) (eAnd fa fb) .z := by
  obtain ⟨t, h1, h2⟩ := h
  obtain ⟨u, g1, g2⟩ := h'.z
  refine ⟨tAndV t u, fun i => pe_and (h1 i) (g1 i), fun H0 B ρ σ H Q s p => ?_⟩
  refine h2 H0 B ρ σ H _ s (p.bind.to (Same.refl _) fun d _ p1 v H1 e1 r1 => ?_)
  obtain ⟨c, rfl, p3⟩ := toB_ok p1.bind
  cases r1
  refine ⟨c, rfl, ?_⟩
  cases c with
  | true =>
    rw [if_pos rfl] at p3 ⊢
    exact g2 H0 B ρ σ H1 Q (s.more e1) (p3.to e1 fun b _ p2 v H2 e2 r => p2 v H2 (e1.trans e2) r)
  | false =>
    rw [if_neg Bool.false_ne_true] at p3 ⊢
    exact p3 _ H1 e1 (.bl false)
theorem dn_or (h : DnE F τ a fa la) (h' : DnE F τ (.BoolOp .Or (b :: rest) pos) fb lb) : DnE F τ (.BoolOp .Or (a :: b :: rest) pos) (eOr fa fb) .z := by
  obtain ⟨t, h1, h2⟩ := h
  obtain ⟨u, g1, g2⟩ := h'.z
  refine ⟨tOrV t u, fun i => pe_or (h1 i) (g1 i), fun H0 B ρ σ H Q s p => ?_⟩
  refine h2 H0 B ρ σ H _ s (p.bind.to (Same.refl _) fun d _ p1 v H1 e1 r1 => ?_)
  obtain ⟨c, rfl, p3⟩ := toB_ok p1.bind
  cases r1
  refine ⟨c, rfl, ?_⟩
  cases c with
  | false =>
    rw [if_neg Bool.false_ne_true] at p3 ⊢
    exact g2 H0 B ρ σ H1 Q (s.more e1) (p3.to e1 fun b _ p2 v H2 e2 r => p2 v H2 (e1.trans e2) r)
  | true =>
    rw [if_pos rfl] at p3 ⊢
    exact p3 _ H1 e1 (.bl true)
theorem dn_not (h : DnE F τ a fa la) : DnE F τ (.UnaryOp .Not a pos) (eNot fa) .s := by
  obtain ⟨t, h1, h2⟩ := h
  refine ⟨tNotV t, fun i => pe_not (h1 i), fun H0 B ρ σ H Q s p => ?_⟩
  refine h2 H0 B ρ σ H _ s (p.bind.to (Same.refl _) fun d _ p1 v H1 e1 r1 => ?_)
  obtain ⟨c, rfl, p3⟩ := toB_ok p1.bind
  cases r1
  exact ⟨c, rfl, p3 _ H1 e1 (.bl _)⟩
def eIf (gc : Rho → Res Bool) (fa fb : Rho → Res D) : Rho → Res D := fun ρ => (gc ρ).bind fun c => if c = true then fa ρ else fb ρ
theorem dn_if (h : DnT F τ c ga) (ha : DnE F τ a fa la) (hb : DnE F τ b fb lb) : DnE F τ (.IfExp c a b pos) (eIf ga fa fb) (la.min lb) := by
  obtain ⟨t, h1, h2⟩ := h
  obtain ⟨ta, a1, a2⟩ := ha
  obtain ⟨tb, b1, b2⟩ := hb
  refine ⟨tIf t ta tb, fun i => pe_ifExp (h1 i) (a1 i) (b1 i), fun H0 B ρ σ H Q s p => ?_⟩
  refine h2 H0 B ρ σ H _ s (p.bind.to (Same.refl _) fun c _ p1 H1 e1 => ?_)
  cases c with
  | true =>
    rw [if_pos rfl] at p1 ⊢
    exact a2 H0 B ρ σ H1 Q (s.more e1) (p1.to e1 fun b _ p2 v H2 e2 r => p2 v H2 (e1.trans e2) (Dq.mono (Same.refl _) r fun p z => av_later e1 p (av_le s.own_dom s.ent_dom p z)))
  | false =>
    rw [if_neg Bool.false_ne_true] at p1 ⊢
    exact b2 H0 B ρ σ H1 Q (s.more e1) (p1.to e1 fun b _ p2 v H2 e2 r => p2 v H2 (e1.trans e2) (Dq.mono (Same.refl _) r fun p z => av_later e1 p (av_le' s.own_dom s.ent_dom p z)))
/-- - a -/
def negD : D → Option D
  | .int i => some (.int (-i))
  | _ => none
def eUn (g : D → Option D) (fa : Rho → Res D) : Rho → Res D := fun ρ => (fa ρ).bind fun x => ofO (g x)
theorem dn_neg (h : DnE F τ a fa la) : DnE F τ (.UnaryOp .USub a pos) (eUn negD fa) .s := by
  obtain ⟨t, h1, h2⟩ := h
  refine ⟨tUn (rU fun i => .int (-i)) t, fun i => pe_un un_neg (h1 i), fun H0 B ρ σ H Q s p => ?_⟩
  refine h2 H0 B ρ σ H _ s (p.bind.to (Same.refl _) fun d _ p1 v H1 e1 r1 => ?_)
  cases d with
  | int i => cases r1; exact ⟨i, rfl, p1 _ H1 e1 (.int _)⟩
  | _ => exact p1.elim

/-! ### arguments, displays -/
variable {es : List Expr} {gs : Rho → Res (List D)}
def aNil : Rho → Res (List D) := fun _ => .ok []
def aCons (fa : Rho → Res D) (gs : Rho → Res (List D)) : Rho → Res (List D) := fun ρ => (fa ρ).bind fun x => (gs ρ).bind fun xs => .ok (x :: xs)
theorem da_nil : DnA F τ [] aNil .s := ⟨tNil, fun _ => pa_nil, fun H0 B ρ σ H Q s p => p [] H (Same.refl _) .nil⟩
theorem da_cons (ha : DnE F τ a fa la) (hr : DnA F τ es gs lb) (hs : ∀ i, starEach (a :: es) (F.X i).env = (false, eval a (F.X i).env) :: starEach es (F.X i).env := by intro _; rfl) : DnA F τ (a :: es) (aCons fa gs) (la.min lb) := by
  obtain ⟨ta, a1, a2⟩ := ha
  obtain ⟨tb, b1, b2⟩ := hr
  refine ⟨tCons ta tb, fun i => pa_cons (a1 i) (b1 i) (hs i), fun H0 B ρ σ H Q s p => ?_⟩
  refine a2 H0 B ρ σ H _ s (p.bind.to (Same.refl _) fun d _ p1 v H1 e1 r1 => ?_)
  refine b2 H0 B ρ σ H1 _ (s.more e1) (p1.bind.to e1 fun ds _ p2 vs H2 e2 r2 => ?_)
  exact p2 (v :: vs) H2 (e1.trans e2) (.cons (Dq.mono e2 r1 (av_le s.own_dom s.ent_dom)) (DqL.mono (Same.refl _) r2 fun p z => av_later e1 p (av_le' s.own_dom s.ent_dom p z)))
theorem dar_nil : DnAR F τ [] aNil .s := ⟨tNil, fun _ => pa_nil, fun H0 B ρ σ H Q s p => p [] H (Same.refl _) .nil⟩
theorem RvL.mono {K : PySem.W.Frag} {H H' : Hp} {A A' : Av} {vs : List V} {ds : List D} (r : RvL K H A vs ds) (e : Same H H') (ho : ∀ a, A' a → A a) : RvL K H' A' vs ds := by
  induction r with
  | nil => exact .nil
  | cons h _ ih => exact .cons (h.mono e ho) ih
theorem dar_cons (ha : DnR F τ a fa la) (hr : DnAR F τ es gs lb) (hs : ∀ i, starEach (a :: es) (F.X i).env = (false, eval a (F.X i).env) :: starEach es (F.X i).env := by intro _; rfl) : DnAR F τ (a :: es) (aCons fa gs) (la.min lb) := by
  obtain ⟨ta, a1, a2⟩ := ha
  obtain ⟨tb, b1, b2⟩ := hr
  refine ⟨tCons ta tb, fun i => pa_cons (a1 i) (b1 i) (hs i), fun H0 B ρ σ H Q s p => ?_⟩
  refine a2 H0 B ρ σ H _ s (p.bind.to (Same.refl _) fun d _ p1 v H1 e1 r1 => ?_)
  refine b2 H0 B ρ σ H1 _ (s.more e1) (p1.bind.to e1 fun ds _ p2 vs H2 e2 r2 => ?_)
  exact p2 (v :: vs) H2 (e1.trans e2) (.cons (r1.mono e2 (av_le s.own_dom s.ent_dom)) (r2.mono (Same.refl _) fun p z => av_later e1 p (av_le' s.own_dom s.ent_dom p z)))
theorem dom_upd {H : Hp} {p : Addr} {o : HO} (h : H p = none) : Same H (upd H p o) := .of fun a u e => by
  rw [upd_ne (ne_of_none e h)]
  exact e
/-- a new list, a new tuple, of parts that stand -/
theorem new_lst {K : PySem.W.Frag} {H : Hp} {A : Av} {p : Addr} {vs : List V} {ds : List D} (hp : H p = none) (hA : ∀ a, A a → dom H a) (h : DqL K H A vs ds) : Dq K (upd H p (.lst vs)) A (.ref p) (.list ds) :=
  .lst (fun z => hA p z hp) upd_same (DqL.mono (dom_upd hp) (DqL.fresh hp h) fun _ z => z)
theorem new_tup {K : PySem.W.Frag} {H : Hp} {A : Av} {p : Addr} {o : Obj} {vs : List V} {ds : List D} (hp : H p = none) (ho : o.dict = none) (h : DqL K H A vs ds) : Dq K (upd H p (.frz o (.tup vs))) A (.ref p) (.tuple ds) :=
  .tup (.inl ⟨o, upd_same, ho⟩) (DqL.mono (dom_upd hp) h fun _ z => z)
def fits (ds : List D) : Bool := decide (ds.length ≤ sizeLine)
def eLst (gs : Rho → Res (List D)) : Rho → Res D := fun ρ => (gs ρ).bind fun ds => if fits ds = true then .ok (.list ds) else .bad
def eTup (gs : Rho → Res (List D)) : Rho → Res D := fun ρ => (gs ρ).bind fun ds => if fits ds = true then .ok (.tuple ds) else .bad
theorem dn_lst (h : DnA F τ es gs fl) : DnE F τ (.List es pos) (eLst gs) fl := by
  obtain ⟨t, h1, h2⟩ := h
  refine ⟨tLst t, fun i => pe_lst (h1 i), fun H0 B ρ σ H Q s p => ?_⟩
  refine h2 H0 B ρ σ H _ s (p.bind.to (Same.refl _) fun ds _ p1 vs H1 e1 r1 => ?_)
  by_cases hf : fits ds = true
  · rw [if_pos hf] at p1
    refine ⟨by rw [r1.length]; exact of_decide_eq_true hf, fun q hq => ?_⟩
    exact p1 _ _ (e1.trans (dom_upd hq)) (new_lst hq (fun a z => dom_mono e1 a (av_dom s a z)) r1)
  · rw [if_neg hf] at p1; exact p1.elim
theorem dn_tup {x1} (h : DnA F τ es gs fl) : DnE F τ (.Tuple es x1 pos) (eTup gs) fl := by
  obtain ⟨t, h1, h2⟩ := h
  refine ⟨tTupF t, fun i => pe_tupF (h1 i), fun H0 B ρ σ H Q s p => ?_⟩
  refine h2 H0 B ρ σ H _ s (p.bind.to (Same.refl _) fun ds _ p1 vs H1 e1 r1 => ?_)
  by_cases hf : fits ds = true
  · rw [if_pos hf] at p1
    refine ⟨by rw [r1.length]; exact of_decide_eq_true hf, fun q o hq ho => ?_⟩
    exact p1 _ _ (e1.trans (dom_upd hq)) (new_tup hq ho r1)
  · rw [if_neg hf] at p1; exact p1.elim
theorem dn_dict0 : DnE F τ (.Dict [] [] pos) (eC (.dict [])) .s := ⟨tDNewK, fun _ => pe_dnewK, fun H0 B ρ σ H Q s p q hq =>
  p _ _ (dom_upd hq) (Dq.dK (kvs := []) (ds := []) (fun z => z hq) upd_same .nil)⟩
theorem dn_dict0T : DnE F τ (.Dict [] [] pos) (eC (.dict [tdMark])) .s := ⟨tDNewT, fun _ => pe_dnewT, fun H0 B ρ σ H Q s p q hq =>
  p _ _ (dom_upd hq) (Dq.dT (kvs := []) (ds := []) (fun z => z hq) upd_same .nil)⟩

/-! ### items, slices -/
def ixD : D → D → Option D
  | .list ds, .int i => atI ds i
  | .tuple ds, .int i => atI ds i
  | .str z, .int i => if z.length ≤ sizeLine then (atI z.cps.toList i).map fun c => .str ⟨#[c]⟩ else none
  | _, _ => none
theorem atI_dq {K : PySem.W.Frag} {H : Hp} {A : Av} {vs : List V} {ds : List D} {i : Int} {d : D} (h : DqL K H A vs ds) (e : atI ds i = some d) : ∃ v, atI vs i = some v ∧ Dq K H A v d := by
  unfold atI at e ⊢
  rw [h.length]
  cases q : ixN ds.length i with
  | none => rw [q] at e; cases e
  | some j =>
    rw [q] at e
    exact h.get e
theorem dn_ix (ha : DnR F τ a fa la) (hb : DnR F τ b fb lb) (hs : PlainIx b := by exact fun _ _ => rfl) : DnE F τ (.Subscript a b pos) (eBin ixD fa fb) (la.min lb) := by
  obtain ⟨ta, a1, a2⟩ := ha
  obtain ⟨tb, b1, b2⟩ := hb
  refine ⟨tOp (rIx F.K) ta tb, fun i => by have h := pe_ix (pos := pos) (ix_seq (X := F.X i)) (a1 i) (b1 i) hs; rw [F.hK i] at h; exact h, fun H0 B ρ σ H Q s p => ?_⟩
  refine two a2 b2 s (P := fun x y => Post F σ H (fun d => ∀ v H', Same H H' → Dq F.K H' (av (la.min lb) H0 H (OwnX τ B ρ σ)) v d → Q v H') (ofO (ixD x y))) (p.bind.to (Same.refl _) fun x _ p1 => p1.bind) ?_
  intro x y H2 dx dy p2 e2 s2 r1 r2
  cases hg : ixD dx dy with
  | none => rw [hg] at p2; exact p2.elim
  | some d =>
    rw [hg] at p2
    cases dy with
    | int i =>
      have hy := r2.int
      subst hy
      cases dx with
      | list ds =>
        obtain ⟨q, xs, rfl, h1, h2⟩ := r1.list
        obtain ⟨v, h3, h4⟩ := atI_dq h2 hg
        exact .inl ⟨q, xs, i, v, rfl, rfl, h1, h3, p2 v H2 e2 h4⟩
      | tuple ds =>
        obtain ⟨q, xs, rfl, h1, h2⟩ := r1.tuple
        obtain ⟨v, h3, h4⟩ := atI_dq h2 hg
        exact .inr (.inl ⟨q, xs, i, v, rfl, rfl, h1, h3, p2 v H2 e2 h4⟩)
      | str z =>
        have hx := r1.str
        subst hx
        simp only [ixD] at hg
        split at hg
        · cases q : atI z.cps.toList i with
          | none => rw [q] at hg; cases hg
          | some c =>
            rw [q] at hg
            cases hg
            exact .inr (.inr ⟨z, i, c, rfl, rfl, by assumption, q, p2 _ H2 e2 (.str _)⟩)
        · cases hg
      | _ => cases hg
    | _ => cases dx <;> cases hg
/-- the parts of a slice -/
def DnO (F : Fam) (τ : List Kd) (o : Option Expr) (f : Rho → Res (Option Int)) : Prop := ∃ t : TO, (∀ i, PO (F.X i) o t) ∧
  ∀ H0 B ρ σ H (Q : Option Int → Hp → Prop), SR F.K τ H0 B ρ σ H → Post F σ H (fun b => ∀ H', Same H H' → Q b H') (f ρ) → t σ H Q
def oNone : Rho → Res (Option Int) := fun _ => .ok none
def toI : D → Res Int
  | .int i => .ok i
  | _ => .bad
def oSome (fa : Rho → Res D) : Rho → Res (Option Int) := fun ρ => (fa ρ).bind fun d => (toI d).bind fun i => .ok (some i)
theorem do_none : DnO F τ none oNone := ⟨tNoPart, fun _ => po_none, fun H0 B ρ σ H Q s p => p H (Same.refl _)⟩
theorem do_some (ha : DnE F τ a fa la) : DnO F τ (some a) (oSome fa) := by
  obtain ⟨ta, a1, a2⟩ := ha
  refine ⟨tPart ta, fun i => po_some (a1 i), fun H0 B ρ σ H Q s p => ?_⟩
  refine a2 H0 B ρ σ H _ s (p.bind.to (Same.refl _) fun d _ p1 v H1 e1 r1 => ?_)
  cases d with
  | int i => cases r1; exact ⟨i, rfl, p1 H1 e1⟩
  | _ => exact p1.elim
def cutL {α : Type} (xs : List α) (lo hi : Option Int) : List α := (xs.drop (HT.sIx xs.length 0 lo)).take (HT.sIx xs.length xs.length hi - HT.sIx xs.length 0 lo)
def cutD (lo hi : Option Int) : D → Option D
  | .list ds => some (.list (cutL ds lo hi))
  | .tuple ds => some (.tuple (cutL ds lo hi))
  | .str z => if z.length ≤ sizeLine then some (.str (cutS z lo hi)) else none
  | _ => none
def eSl (fa : Rho → Res D) (fl fh : Rho → Res (Option Int)) : Rho → Res D := fun ρ => (fa ρ).bind fun x => (fl ρ).bind fun lo => (fh ρ).bind fun hi => ofO (cutD lo hi x)
theorem cut_dq {K : PySem.W.Frag} {H : Hp} {A : Av} {vs : List V} {ds : List D} (lo hi : Option Int) (h : DqL K H A vs ds) : DqL K H A (cutV vs lo hi) (cutL ds lo hi) := by
  unfold cutV cutL
  rw [h.length]
  exact (h.drop _).take _
theorem cut_all {α : Type} {ds : List α} {lo hi : Option Int} (h : HT.sIx ds.length 0 lo = 0 ∧ HT.sIx ds.length ds.length hi = ds.length) : cutL ds lo hi = ds := by
  unfold cutL
  rw [h.1, h.2]
  simp
theorem dn_sl {lo hi : Option Expr} {p2 : Pos} {ol oh : Rho → Res (Option Int)} (ha : DnR F τ a fa la) (hl : DnO F τ lo ol) (hh : DnO F τ hi oh) : DnE F τ (.Subscript a (.Slice lo hi none p2) pos) (eSl fa ol oh) la := by
  obtain ⟨ta, a1, a2⟩ := ha
  obtain ⟨tl, l1, l2⟩ := hl
  obtain ⟨th, h1, h2⟩ := hh
  refine ⟨tSl (fun x lo hi H Q => rSlL F.K x lo hi H Q ∨ rSlF F.K x lo hi H Q ∨ rSlS x lo hi H Q) ta tl th, fun i => by
    have h := pe_slice (pos := pos) (p2 := p2) ((sl_list (X := F.X i)).or ((sl_tupF (X := F.X i)).or (sl_str (X := F.X i)))) (a1 i) (l1 i) (h1 i)
    rw [F.hK i] at h; exact h, fun H0 B ρ σ H Q s p => ?_⟩
  refine a2 H0 B ρ σ H _ s (p.bind.to (Same.refl _) fun d _ p1 v H1 e1 r1 => ?_)
  refine l2 H0 B ρ σ H1 _ (s.more e1) (p1.bind.to e1 fun lo _ p2 H2 e2 => ?_)
  refine h2 H0 B ρ σ H2 _ (s.more (e1.trans e2)) (p2.bind.to (e1.trans e2) fun hi _ p3 H3 e3 => ?_)
  have e4 : Same H H3 := (e1.trans e2).trans e3
  have r4 := r1.mono (e2.trans e3) (A' := av la H0 H (OwnX τ B ρ σ)) fun _ z => z
  cases d with
  | list ds =>
    obtain ⟨q, xs, rfl, g1, g2⟩ := r4.list
    exact .inl ⟨q, xs, rfl, g1, fun pp hp => p3 _ _ (e4.trans (dom_upd hp)) (new_lst hp (fun a z => dom_mono e4 a (av_dom s a z)) (cut_dq lo hi g2))⟩
  | tuple ds =>
    obtain ⟨q, xs, rfl, g1, g2⟩ := r4.tup
    refine .inr (.inl ⟨q, xs, rfl, g1.sq, fun hw => ?_, fun _ pp o hp ho => p3 _ _ (e4.trans (dom_upd hp)) (new_tup hp ho (cut_dq lo hi g2))⟩)
    refine p3 _ _ e4 ?_
    rw [g2.length] at hw
    rw [cut_all hw]
    exact .tup g1 g2
  | str z =>
    have hx := r4.str
    subst hx
    simp only [cutD] at p3
    by_cases hz : z.length ≤ sizeLine
    · rw [if_pos hz] at p3
      exact .inr (.inr ⟨z, rfl, hz, p3 _ _ e4 (.str _)⟩)
    · rw [if_neg hz] at p3; exact p3.elim
  | _ => exact p3.elim
end
end Dn
set_option Elab.async false
set_option linter.all false
set_option maxRecDepth 100000
namespace Dn
open PySem L2
section
variable {F : Fam} {τ : List Kd}
theorem OpD.mk {fo : Value → Value → Sem Value} {g : D → D → Option D} {r : PySem.W.Frag → R2} (h : ∀ i, OpR (F.X i) fo (r (F.X i).K)) (s : OpSem F.K (r F.K) g) : OpD F fo g :=
  ⟨r F.K, fun i => by have q := h i; rw [F.hK i] at q; exact q, s⟩
/-! ### arithmetic -/
def addD : D → D → Option D
  | .int i, .int j => some (.int (i + j))
  | .str i, .str j => if i.length + j.length ≤ sizeLine then some (.str (i ++ j)) else none
  | .list i, .list j => if i.length + j.length ≤ sizeLine then some (.list (i ++ j)) else none
  | .tuple i, .tuple j => if i.length + j.length ≤ sizeLine then some (.tuple (i ++ j)) else none
  | _, _ => none
theorem op_addD : OpD F (binaryOp .Add) addD := by
  refine OpD.mk (r := fun K x y H Q => rI0 (fun i j => .int (i + j)) x y H Q ∨ (∃ i j, x = .str i ∧ y = .str j ∧ i.length + j.length ≤ sizeLine ∧ Q (.str (i ++ j)) H) ∨ rCat x y H Q ∨ rCatF K x y H Q)
    (fun i => op_add.or (op_add_str.or (op_cat.or op_catF))) ?_
  intro A H x y dx dy d hA rx ry hg Q k
  cases dx with
  | int i =>
    cases dy with
    | int j => cases hg; exact .inl ⟨i, j, rx.int, ry.int, k _ H (Same.refl _) (.int _)⟩
    | _ => cases hg
  | str i =>
    cases dy with
    | str j =>
      simp only [addD] at hg
      split at hg
      · cases hg; exact .inr (.inl ⟨i, j, rx.str, ry.str, by assumption, k _ H (Same.refl _) (.str _)⟩)
      · cases hg
    | _ => cases hg
  | list i =>
    cases dy with
    | list j =>
      simp only [addD] at hg
      split at hg
      · cases hg
        obtain ⟨a, xs, rfl, h1, h2⟩ := rx.lst
        obtain ⟨b, ys, rfl, g1, g2⟩ := ry.lst
        refine .inr (.inr (.inl ⟨a, b, xs, ys, rfl, rfl, h1, g1, by rw [h2.length, g2.length]; assumption, fun p hp => ?_⟩))
        exact k _ _ (dom_upd hp) (new_lst hp hA (h2.append g2))
      · cases hg
    | _ => cases hg
  | tuple i =>
    cases dy with
    | tuple j =>
      simp only [addD] at hg
      split at hg
      · cases hg
        obtain ⟨a, xs, rfl, h1, h2⟩ := rx.tup
        obtain ⟨b, ys, rfl, g1, g2⟩ := ry.tup
        have l1 := h2.length
        have l2 := g2.length
        refine .inr (.inr (.inr ⟨a, b, xs, ys, rfl, rfl, h1.sq, g1.sq, by rw [l1, l2]; assumption, fun e => ?_, fun _ e => ?_, fun _ _ p o hp ho => ?_⟩))
        · subst e
          cases h2
          exact k _ H (Same.refl _) (.tup g1 g2)
        · subst e
          cases g2
          rw [List.append_nil] at k
          exact k _ H (Same.refl _) (.tup h1 h2)
        · exact k _ _ (dom_upd hp) (new_tup hp ho (h2.append g2))
      · cases hg
    | _ => cases hg
  | _ => cases hg
def intD (g : Int → Int → Option D) : D → D → Option D
  | .int i, .int j => g i j
  | _, _ => none
theorem intD_sem {K : PySem.W.Frag} {C : Int → Int → Prop} {h : Int → Int → V} {g : Int → Int → Option D} (hc : ∀ i j d, g i j = some d → C i j ∧ ∀ H A, Dq K H A (h i j) d) : OpSem K (rI C h) (intD g) := by
  intro A H x y dx dy d hA rx ry hg Q k
  cases dx with
  | int i =>
    cases dy with
    | int j =>
      obtain ⟨h1, h2⟩ := hc i j d hg
      exact ⟨i, j, rx.int, ry.int, h1, k _ H (Same.refl _) (h2 H A)⟩
    | _ => cases hg
  | _ => cases hg
theorem intD_sem0 {K : PySem.W.Frag} {h : Int → Int → V} {g : Int → Int → Option D} (hc : ∀ i j d, g i j = some d → ∀ H A, Dq K H A (h i j) d) : OpSem K (rI0 h) (intD g) := by
  intro A H x y dx dy d hA rx ry hg Q k
  cases dx with
  | int i =>
    cases dy with
    | int j => exact ⟨i, j, rx.int, ry.int, k _ H (Same.refl _) (hc i j d hg H A)⟩
    | _ => cases hg
  | _ => cases hg
def subD : D → D → Option D := intD fun i j => some (.int (i - j))
theorem op_subD : OpD F (binaryOp .Sub) subD := OpD.mk (r := fun _ => _) (fun _ => op_sub) (intD_sem0 fun i j d e H A => by cases e; exact .int _)
/-- a * b: ints of together less than a million bits; a list again and again -/
def mulD : D → D → Option D
  | .int i, .int j => if i.natAbs.log2 + j.natAbs.log2 < 1000000 then some (.int (i * j)) else none
  | .list ds, .int k => if -(2 ^ 63) ≤ k ∧ k < 2 ^ 63 ∧ ds.length * k.toNat ≤ sizeLine then some (.list (List.replicate k.toNat ds).flatten) else none
  | _, _ => none
theorem DqL.rep {K : PySem.W.Frag} {H : Hp} {A : Av} {vs : List V} {ds : List D} (h : DqL K H A vs ds) : ∀ k : Nat, DqL K H A (List.replicate k vs).flatten (List.replicate k ds).flatten
  | 0 => .nil
  | k + 1 => by
    rw [List.replicate_succ, List.replicate_succ, List.flatten_cons, List.flatten_cons]
    exact h.append (DqL.rep h k)
theorem op_mulD : OpD F (binaryOp .Mult) mulD := by
  refine OpD.mk (r := fun _ x y H Q => rI CMulW (fun i j => .int (i * j)) x y H Q ∨ rRep x y H Q) (fun _ => op_mulW.or op_rep) ?_
  intro A H x y dx dy d hA rx ry hg Q k
  cases dx with
  | int i =>
    cases dy with
    | int j =>
      simp only [mulD] at hg
      split at hg
      · cases hg; exact .inl ⟨i, j, rx.int, ry.int, by assumption, k _ H (Same.refl _) (.int _)⟩
      · cases hg
    | _ => cases hg
  | list ds =>
    cases dy with
    | int j =>
      simp only [mulD] at hg
      split at hg
      · rename_i hc
        cases hg
        obtain ⟨a, xs, rfl, h1, h2⟩ := rx.lst
        refine .inr ⟨a, j, xs, rfl, ry.int, h1, hc.1, hc.2.1, by rw [h2.length]; exact hc.2.2, fun p hp => ?_⟩
        exact k _ _ (dom_upd hp) (new_lst hp hA (h2.rep _))
      · cases hg
    | _ => cases hg
  | _ => cases hg
def fdivD : D → D → Option D := intD fun i j => if 0 < j ∧ j.natAbs.log2 < 9000 then some (.int (i / j)) else none
theorem op_fdivD : OpD F (binaryOp .FloorDiv) fdivD := OpD.mk (r := fun _ => _) (fun _ => op_fdivW) (intD_sem fun i j d e => by
  split at e
  · cases e; exact ⟨by assumption, fun H A => .int _⟩
  · cases e)
def modD : D → D → Option D := intD fun i j => if 0 < j then some (.int (i % j)) else none
theorem op_modD : OpD F (binaryOp .Mod) modD := OpD.mk (r := fun _ => _) (fun _ => op_mod) (intD_sem fun i j d e => by
  split at e
  · cases e; exact ⟨by assumption, fun H A => .int _⟩
  · cases e)
def powD : D → D → Option D := intD fun i j => if 0 ≤ j ∧ j ≤ 1000000 ∧ i.natAbs < 2 ^ 64 then some (.int (i ^ j.toNat)) else none
theorem op_powD : OpD F (binaryOp .Pow) powD := OpD.mk (r := fun _ => _) (fun _ => op_pow) (intD_sem fun i j d e => by
  split at e
  · cases e; exact ⟨by assumption, fun H A => .int _⟩
  · cases e)
def shlD : D → D → Option D := intD fun i j => if 0 ≤ j ∧ j ≤ 1000000 ∧ i.natAbs < 2 ^ 64 then some (.int (i * 2 ^ j.toNat)) else none
theorem op_shlD : OpD F (binaryOp .LShift) shlD := OpD.mk (r := fun _ => _) (fun _ => op_shl) (intD_sem fun i j d e => by
  split at e
  · cases e; exact ⟨by assumption, fun H A => .int _⟩
  · cases e)
/-! ### order -/
def leD : D → D → Option D := intD fun i j => some (.bool (decide (i ≤ j)))
def gtD : D → D → Option D := intD fun i j => some (.bool (decide (j < i)))
def geD : D → D → Option D := intD fun i j => some (.bool (decide (j ≤ i)))
theorem op_leD : OpD F (compareOp .LtE) leD := OpD.mk (r := fun _ => _) (fun _ => op_le) (intD_sem0 fun i j d e H A => by cases e; exact .bl _)
theorem op_gtD : OpD F (compareOp .Gt) gtD := OpD.mk (r := fun _ => _) (fun _ => op_gt) (intD_sem0 fun i j d e H A => by cases e; exact .bl _)
theorem op_geD : OpD F (compareOp .GtE) geD := OpD.mk (r := fun _ => _) (fun _ => op_ge) (intD_sem0 fun i j d e H A => by cases e; exact .bl _)
/-- the ints of a list of data -/
def intsOf : List D → Option (List Int)
  | [] => some []
  | .int i :: ds => (intsOf ds).map (i :: ·)
  | _ :: _ => none
theorem intsOf_dq {K : PySem.W.Frag} {H : Hp} {A : Av} : ∀ {vs : List V} {ds : List D} {ns : List Int}, DqL K H A vs ds → intsOf ds = some ns → vs = ns.map V.int
  | _, _, _, .nil, e => by cases e; rfl
  | _, _, ns, .cons (d := d) (ds := ds) h t, e => by
    cases d with
    | int i =>
      simp only [intsOf] at e
      cases q : intsOf ds with
      | none => rw [q] at e; cases e
      | some ms =>
        rw [q] at e
        cases e
        cases h
        rw [intsOf_dq t q]
        rfl
    | _ => cases e
theorem intsOf_map (ns : List Int) : intsOf (ns.map PyData.int) = some ns := by
  induction ns with
  | nil => rfl
  | cons n ns ih => simp only [List.map_cons, intsOf, ih, Option.map_some]
def ltD : D → D → Option D
  | .int i, .int j => some (.bool (decide (i < j)))
  | .tuple i, .tuple j => (intsOf i).bind fun ns => (intsOf j).bind fun ms => some (.bool (HT.lexLt ns ms))
  | _, _ => none
theorem units_of (i : F.ι) : (F.X i).A.units + 199 < cLine := by
  have h := F.un i
  omega
theorem op_ltD : OpD F (compareOp .Lt) ltD := by
  refine OpD.mk (r := fun K x y H Q => rI0 (fun i j => .bl (decide (i < j))) x y H Q ∨ rLtT K x y H Q) (fun i => op_lt.or (op_ltT (by have := units_of i; omega))) ?_
  intro A H x y dx dy d hA rx ry hg Q k
  cases dx with
  | int i =>
    cases dy with
    | int j => cases hg; exact .inl ⟨i, j, rx.int, ry.int, k _ H (Same.refl _) (.bl _)⟩
    | _ => cases hg
  | tuple i =>
    cases dy with
    | tuple j =>
      simp only [ltD] at hg
      cases h1 : intsOf i with
      | none => rw [h1] at hg; cases hg
      | some ns =>
        cases h2 : intsOf j with
        | none => rw [h1, h2] at hg; cases hg
        | some ms =>
          rw [h1, h2] at hg
          cases hg
          obtain ⟨a, xs, rfl, g1, g2⟩ := rx.tuple
          obtain ⟨b, ys, rfl, q1, q2⟩ := ry.tuple
          rw [intsOf_dq g2 h1] at g1
          rw [intsOf_dq q2 h2] at q1
          exact .inr ⟨a, b, ns, ms, rfl, rfl, g1, q1, k _ H (Same.refl _) (.bl _)⟩
    | _ => cases hg
  | _ => cases hg
/-! ### ==, != of any data without dicts -/
mutual
theorem Dq.dp {K : PySem.W.Frag} {H : Hp} : ∀ {O : Av} {v : V} {d : D}, Dq K H O v d → d.canLay0 = true → Dp K H v d
  | _, _, _, .non, _ => .non
  | _, _, _, .bl b, _ => .bl b
  | _, _, _, .int i, _ => .int i
  | _, _, _, .str x, _ => .str x
  | _, _, _, .tup h1 h2, h => .tup h1.sq (DqL.dp h2 (by simpa only [PyData.canLay0] using h))
  | _, _, _, .lst _ h2 h3, h => .lst (SqL.of h2) (DqL.dp h3 (by simpa only [PyData.canLay0] using h))
  | _, _, _, .dK _ _ _, h => by simp [PyData.canLay0] at h
  | _, _, _, .dT _ _ _, h => by simp [PyData.canLay0] at h
  | _, _, _, .dF _ _, h => by simp [PyData.canLay0] at h
theorem DqL.dp {K : PySem.W.Frag} {H : Hp} : ∀ {O : Av} {v : List V} {d : List D}, DqL K H O v d → PyData.canLayAll0 d = true → DpAll K H v d
  | _, _, _, .nil, _ => .nil
  | _, _, _, .cons h1 h2, h => by
    have h' : (PyData.canLay0 _ && PyData.canLayAll0 _) = true := h
    rw [Bool.and_eq_true] at h'
    exact .cons (Dq.dp h1 h'.1) (DqL.dp h2 h'.2)
end
theorem Rv.dp {K : PySem.W.Frag} {H : Hp} {A : Av} {v : V} {d : D} (r : Rv K H A v d) (h : d.canLay0 = true) : Dp K H v d := by
  cases d with
  | list ds =>
    obtain ⟨a, xs, rfl, h1, h2⟩ := r.list
    exact .lst h1 (DqL.dp h2 (by simpa only [PyData.canLay0] using h))
  | dict ds => simp [PyData.canLay0] at h
  | _ => exact (r.dq (fun _ e => nomatch e) (fun _ e => nomatch e)).dp h
theorem shaped_lay {d : D} (h : SeqAt.shaped d = true) : d.canLay0 = true := by
  unfold SeqAt.shaped at h
  rw [Bool.and_eq_true] at h
  exact h.1
def eqD (x y : D) : Option D := if SeqAt.shaped x = true ∧ SeqAt.shaped y = true then some (.bool (PyData.eqv x y)) else none
def neD (x y : D) : Option D := if SeqAt.shaped x = true ∧ SeqAt.shaped y = true then some (.bool (!PyData.eqv x y)) else none
theorem op_eqD' : OpD F (compareOp .Eq) eqD := by
  refine OpD.mk (r := rEqD) (fun i => op_eqD (by have := units_of i; omega)) ?_
  intro A H x y dx dy d hA rx ry hg Q k
  unfold eqD at hg
  split at hg
  · rename_i h
    cases hg
    exact ⟨dx, dy, rx.dp (shaped_lay h.1), ry.dp (shaped_lay h.2), h.1, h.2, k _ H (Same.refl _) (.bl _)⟩
  · cases hg
theorem op_neD' : OpD F (compareOp .NotEq) neD := by
  refine OpD.mk (r := rNeD) (fun i => op_neD (by have := units_of i; omega)) ?_
  intro A H x y dx dy d hA rx ry hg Q k
  unfold neD at hg
  split at hg
  · rename_i h
    cases hg
    exact ⟨dx, dy, rx.dp (shaped_lay h.1), ry.dp (shaped_lay h.2), h.1, h.2, k _ H (Same.refl _) (.bl _)⟩
  · cases hg
/-! ### is, in -/
def isD : D → D → Option D
  | .bool a, .bool b => some (.bool (decide (a = b)))
  | .none, .none => some (.bool true)
  | .bool _, .none => some (.bool false)
  | .int _, .none => some (.bool false)
  | .str _, .none => some (.bool false)
  | .list _, .none => some (.bool false)
  | .tuple _, .none => some (.bool false)
  | .dict _, .none => some (.bool false)
  | _, _ => none
def isnD : D → D → Option D
  | .bool a, .bool b => some (.bool (!decide (a = b)))
  | .none, .none => some (.bool false)
  | .bool _, .none => some (.bool true)
  | .int _, .none => some (.bool true)
  | .str _, .none => some (.bool true)
  | .list _, .none => some (.bool true)
  | .tuple _, .none => some (.bool true)
  | .dict _, .none => some (.bool true)
  | _, _ => none
theorem Rv.ref_dict {K : PySem.W.Frag} {H : Hp} {A : Av} {v : V} {ds : List (D × D)} (r : Rv K H A v (.dict ds)) : ∃ a, v = .ref a := by
  rcases r with h | ⟨p, h, _⟩
  · cases h <;> exact ⟨_, rfl⟩
  · exact ⟨p, h⟩
theorem op_isD : OpD F (compareOp .Is) isD := by
  refine OpD.mk (r := fun _ x y H Q => (∃ a b, x = .bl a ∧ y = .bl b ∧ Q (.bl (decide (a = b))) H) ∨ (y = .non ∧ Q (.bl (decide (x = .non))) H)) (fun i => op_is_bl.or op_isN) ?_
  intro A H x y dx dy d hA rx ry hg Q k
  cases dx with
  | bool a =>
    cases dy with
    | bool b => cases hg; exact .inl ⟨a, b, rx.bl, ry.bl, k _ H (Same.refl _) (.bl _)⟩
    | none => cases hg; rw [rx.bl]; exact .inr ⟨ry.non, k _ H (Same.refl _) (by rw [decide_eq_false (fun z => nomatch z)]; exact .bl _)⟩
    | _ => cases hg
  | none =>
    cases dy with
    | none => cases hg; rw [rx.non]; exact .inr ⟨ry.non, k _ H (Same.refl _) (by rw [decide_eq_true rfl]; exact .bl _)⟩
    | _ => cases hg
  | int a =>
    cases dy with
    | none => cases hg; rw [rx.int]; exact .inr ⟨ry.non, k _ H (Same.refl _) (by rw [decide_eq_false (fun z => nomatch z)]; exact .bl _)⟩
    | _ => cases hg
  | str a =>
    cases dy with
    | none => cases hg; rw [rx.str]; exact .inr ⟨ry.non, k _ H (Same.refl _) (by rw [decide_eq_false (fun z => nomatch z)]; exact .bl _)⟩
    | _ => cases hg
  | list a =>
    cases dy with
    | none => cases hg; obtain ⟨a, xs, rfl, _⟩ := rx.lst; exact .inr ⟨ry.non, k _ H (Same.refl _) (by rw [decide_eq_false (fun z => nomatch z)]; exact .bl _)⟩
    | _ => cases hg
  | tuple a =>
    cases dy with
    | none => cases hg; obtain ⟨a, xs, rfl, _⟩ := rx.tuple; exact .inr ⟨ry.non, k _ H (Same.refl _) (by rw [decide_eq_false (fun z => nomatch z)]; exact .bl _)⟩
    | _ => cases hg
  | dict a =>
    cases dy with
    | none => cases hg; obtain ⟨a, rfl⟩ := rx.ref_dict; exact .inr ⟨ry.non, k _ H (Same.refl _) (by rw [decide_eq_false (fun z => nomatch z)]; exact .bl _)⟩
    | _ => cases hg
theorem op_isnD : OpD F (compareOp .IsNot) isnD := by
  refine OpD.mk (r := fun _ x y H Q => (∃ a b, x = .bl a ∧ y = .bl b ∧ Q (.bl (!decide (a = b))) H) ∨ (y = .non ∧ Q (.bl (!decide (x = .non))) H)) (fun i => op_isnot_bl.or op_notN) ?_
  intro A H x y dx dy d hA rx ry hg Q k
  cases dy with
  | bool b =>
    cases dx with
    | bool a => cases hg; exact .inl ⟨a, b, rx.bl, ry.bl, k _ H (Same.refl _) (.bl _)⟩
    | _ => cases hg
  | none =>
    refine .inr ⟨ry.non, ?_⟩
    cases dx with
    | none => cases hg; rw [rx.non]; exact k _ H (Same.refl _) (by rw [decide_eq_true rfl]; exact .bl _)
    | bool a => cases hg; rw [rx.bl]; exact k _ H (Same.refl _) (by rw [decide_eq_false (fun z => nomatch z)]; exact .bl _)
    | int a => cases hg; rw [rx.int]; exact k _ H (Same.refl _) (by rw [decide_eq_false (fun z => nomatch z)]; exact .bl _)
    | str a => cases hg; rw [rx.str]; exact k _ H (Same.refl _) (by rw [decide_eq_false (fun z => nomatch z)]; exact .bl _)
    | list a => cases hg; obtain ⟨a, xs, rfl, _⟩ := rx.lst; exact k _ H (Same.refl _) (by rw [decide_eq_false (fun z => nomatch z)]; exact .bl _)
    | tuple a => cases hg; obtain ⟨a, xs, rfl, _⟩ := rx.tuple; exact k _ H (Same.refl _) (by rw [decide_eq_false (fun z => nomatch z)]; exact .bl _)
    | dict a => cases hg; obtain ⟨a, rfl⟩ := rx.ref_dict; exact k _ H (Same.refl _) (by rw [decide_eq_false (fun z => nomatch z)]; exact .bl _)
  | _ => cases dx <;> cases hg
/-- x in a list, a tuple (any data); a sign in a text -/
def inB : D → D → Option Bool
  | x, .list ds => if SeqAt.shaped x = true ∧ SeqAt.shaped (.list ds) = true then some (ds.any fun z => PyData.eqv z x) else none
  | x, .tuple ds => if SeqAt.shaped x = true ∧ SeqAt.shaped (.tuple ds) = true then some (ds.any fun z => PyData.eqv z x) else none
  | .str ⟨⟨[c]⟩⟩, .str z => some (decide (c ∈ z.cps.toList))
  | _, _ => none
def inD (x y : D) : Option D := (inB x y).map .bool
def ninD (x y : D) : Option D := (inB x y).map fun b => .bool !b
def rInT (K : PySem.W.Frag) : R2 := fun x y H Q => ∃ d ds, Dp K H x d ∧ Dp K H y (.tuple ds) ∧ SeqAt.shaped d = true ∧ SeqAt.shaped (.tuple ds) = true ∧ Q (.bl (ds.any fun z => PyData.eqv z d)) H
def rNotInT (K : PySem.W.Frag) : R2 := fun x y H Q => ∃ d ds, Dp K H x d ∧ Dp K H y (.tuple ds) ∧ SeqAt.shaped d = true ∧ SeqAt.shaped (.tuple ds) = true ∧ Q (.bl (!ds.any fun z => PyData.eqv z d)) H
open PySem.Spec PyProof.Rows in
theorem op_inT {X : Cx} (hu : X.A.units + 65 < cLine) : OpR X (compareOp .In) (rInT X.K) := by
  intro pins s σ H x y v u Q I rx ry h
  obtain ⟨d, ds, hd, he, sd, se, q⟩ := h
  obtain ⟨as, r1⟩ := Dp.reads I d x v hd rx
  obtain ⟨bs, r2⟩ := Dp.reads I (.tuple ds) y u he ry
  exact SeqAt.in_tuple_reads r2 r1 (SeqAt.canLay_of_shaped se) (SeqAt.canLay_of_shaped sd) (room_in_shaped sd hu) ⟨.bl _, H, I, rfl, q⟩
open PySem.Spec PyProof.Rows in
theorem op_notInT {X : Cx} (hu : X.A.units + 65 < cLine) : OpR X (compareOp .NotIn) (rNotInT X.K) := by
  intro pins s σ H x y v u Q I rx ry h
  obtain ⟨d, ds, hd, he, sd, se, q⟩ := h
  obtain ⟨as, r1⟩ := Dp.reads I d x v hd rx
  obtain ⟨bs, r2⟩ := Dp.reads I (.tuple ds) y u he ry
  exact SeqAt.notIn_tuple_reads r2 r1 (SeqAt.canLay_of_shaped se) (SeqAt.canLay_of_shaped sd) (room_in_shaped sd hu) ⟨.bl _, H, I, rfl, q⟩
theorem inB_cases {K : PySem.W.Frag} {H : Hp} {A : Av} {x y : V} {dx dy : D} {b : Bool} (rx : Rv K H A x dx) (ry : Rv K H A y dy) (h : inB dx dy = some b) :
    (∃ d ds, Dp K H x d ∧ Dp K H y (.list ds) ∧ SeqAt.shaped d = true ∧ SeqAt.shaped (.list ds) = true ∧ b = ds.any fun z => PyData.eqv z d) ∨
    (∃ d ds, Dp K H x d ∧ Dp K H y (.tuple ds) ∧ SeqAt.shaped d = true ∧ SeqAt.shaped (.tuple ds) = true ∧ b = ds.any fun z => PyData.eqv z d) ∨
    (∃ (c : Nat) (z : Str), x = .str ⟨#[c]⟩ ∧ y = .str z ∧ b = decide (c ∈ z.cps.toList)) := by
  cases dy with
  | list ds =>
    have h' : (if SeqAt.shaped dx = true ∧ SeqAt.shaped (.list ds) = true then some (ds.any fun z => PyData.eqv z dx) else none) = some b := by
      cases dx <;> first | exact h | (rename_i q; obtain ⟨⟨q⟩⟩ := q; rcases q with _ | ⟨_, _ | _⟩ <;> exact h)
    split at h'
    · rename_i hs
      cases h'
      exact .inl ⟨dx, ds, rx.dp (shaped_lay hs.1), ry.dp (shaped_lay hs.2), hs.1, hs.2, rfl⟩
    · cases h'
  | tuple ds =>
    have h' : (if SeqAt.shaped dx = true ∧ SeqAt.shaped (.tuple ds) = true then some (ds.any fun z => PyData.eqv z dx) else none) = some b := by
      cases dx <;> first | exact h | (rename_i q; obtain ⟨⟨q⟩⟩ := q; rcases q with _ | ⟨_, _ | _⟩ <;> exact h)
    split at h'
    · rename_i hs
      cases h'
      exact .inr (.inl ⟨dx, ds, rx.dp (shaped_lay hs.1), ry.dp (shaped_lay hs.2), hs.1, hs.2, rfl⟩)
    · cases h'
  | str z =>
    cases dx with
    | str q =>
      have hx := rx.str
      obtain ⟨⟨q⟩⟩ := q
      rcases q with _ | ⟨c, _ | ⟨c2, q⟩⟩
      · cases h
      · cases h
        exact .inr (.inr ⟨c, z, hx, ry.str, rfl⟩)
      · cases h
    | _ => cases h
  | none => cases dx <;> first | cases h | (rename_i q; obtain ⟨⟨q⟩⟩ := q; rcases q with _ | ⟨_, _ | _⟩ <;> cases h)
  | bool _ => cases dx <;> first | cases h | (rename_i q; obtain ⟨⟨q⟩⟩ := q; rcases q with _ | ⟨_, _ | _⟩ <;> cases h)
  | int _ => cases dx <;> first | cases h | (rename_i q; obtain ⟨⟨q⟩⟩ := q; rcases q with _ | ⟨_, _ | _⟩ <;> cases h)
  | dict _ => cases dx <;> first | cases h | (rename_i q; obtain ⟨⟨q⟩⟩ := q; rcases q with _ | ⟨_, _ | _⟩ <;> cases h)
theorem op_inD' : OpD F (compareOp .In) inD := by
  refine OpD.mk (r := fun K x y H Q => rInD K x y H Q ∨ rInT K x y H Q ∨ (∃ (c : Nat) (z : Str), x = .str ⟨#[c]⟩ ∧ y = .str z ∧ Q (.bl (decide (c ∈ z.cps.toList))) H))
    (fun i => (op_inD (by have := units_of i; omega)).or ((op_inT (by have := units_of i; omega)).or op_in_sign)) ?_
  intro A H x y dx dy d hA rx ry hg Q k
  unfold inD at hg
  cases hb : inB dx dy with
  | none => rw [hb] at hg; cases hg
  | some b =>
    rw [hb] at hg
    cases hg
    rcases inB_cases rx ry hb with ⟨d, ds, h1, h2, h3, h4, rfl⟩ | ⟨d, ds, h1, h2, h3, h4, rfl⟩ | ⟨c, z, h1, h2, rfl⟩
    · exact .inl ⟨d, ds, h1, h2, h3, h4, k _ H (Same.refl _) (.bl _)⟩
    · exact .inr (.inl ⟨d, ds, h1, h2, h3, h4, k _ H (Same.refl _) (.bl _)⟩)
    · exact .inr (.inr ⟨c, z, h1, h2, k _ H (Same.refl _) (.bl _)⟩)
theorem op_ninD' : OpD F (compareOp .NotIn) ninD := by
  refine OpD.mk (r := fun K x y H Q => rNotInD K x y H Q ∨ rNotInT K x y H Q ∨ (∃ (c : Nat) (z : Str), x = .str ⟨#[c]⟩ ∧ y = .str z ∧ Q (.bl (!decide (c ∈ z.cps.toList))) H))
    (fun i => (op_notInD (by have := units_of i; omega)).or ((op_notInT (by have := units_of i; omega)).or op_notIn_sign)) ?_
  intro A H x y dx dy d hA rx ry hg Q k
  unfold ninD at hg
  cases hb : inB dx dy with
  | none => rw [hb] at hg; cases hg
  | some b =>
    rw [hb] at hg
    cases hg
    rcases inB_cases rx ry hb with ⟨d, ds, h1, h2, h3, h4, rfl⟩ | ⟨d, ds, h1, h2, h3, h4, rfl⟩ | ⟨c, z, h1, h2, rfl⟩
    · exact .inl ⟨d, ds, h1, h2, h3, h4, k _ H (Same.refl _) (.bl _)⟩
    · exact .inr (.inl ⟨d, ds, h1, h2, h3, h4, k _ H (Same.refl _) (.bl _)⟩)
    · exact .inr (.inr ⟨c, z, h1, h2, k _ H (Same.refl _) (.bl _)⟩)
end
end Dn
set_option Elab.async false
set_option linter.all false
set_option maxRecDepth 100000
namespace Dn
open PySem L2

/-! ### slots set, objects changed -/
theorem getset {α : Type} {l : List α} {i j : Nat} {a x : α} (h : (l.set i a)[j]? = some x) : (i = j ∧ x = a ∧ i < l.length) ∨ (i ≠ j ∧ l[j]? = some x) := by
  by_cases e : i = j
  · subst e
    rw [List.getElem?_set_self'] at h
    cases q : l[i]? with
    | none => rw [q] at h; cases h
    | some y =>
      rw [q] at h
      cases h
      exact .inl ⟨rfl, rfl, (List.getElem?_eq_some_iff.mp q).1⟩
  · rw [List.getElem?_set_ne e] at h
    exact .inr ⟨e, h⟩
section
variable {K : PySem.W.Frag} {H H' H0 : Hp} {τ : List Kd} {B : Av} {ρ : Rho} {σ : St} {i : Nat} {v : V} {d : D}
theorem own_put (hk : (kd τ i).isOwn = false) {x : Option D} {y : Option V} (j : Nat) (p : Addr) : OwnAt τ (ρ.set i x) (σ.set i y) j p ↔ OwnAt τ ρ σ j p := by
  by_cases e : i = j
  · subst e
    constructor <;> (rintro ⟨h, _⟩; rw [hk] at h; cases h)
  · unfold OwnAt
    rw [List.getElem?_set_ne e, List.getElem?_set_ne e]
theorem ownX_put (hk : (kd τ i).isOwn = false) {x : Option D} {y : Option V} (p : Addr) : OwnX τ B (ρ.set i x) (σ.set i y) p ↔ OwnX τ B ρ σ p :=
  or_congr_left ⟨fun ⟨j, h⟩ => ⟨j, (own_put hk j p).mp h⟩, fun ⟨j, h⟩ => ⟨j, (own_put hk j p).mpr h⟩⟩
theorem SR.put (s : SR K τ H0 B ρ σ H) (hk : (kd τ i).isOwn = false) (e : Same H H') (r : SlotOk K H0 H' (OwnX τ B ρ σ) v d (kd τ i)) : SR K τ H0 B (ρ.set i (some d)) (σ.set i (some v)) H' := by
  have s' := s.more e
  refine ⟨by rw [List.length_set, List.length_set]; exact s.len, s'.ext, fun j d' h => ?_, fun a b p h1 h2 => s.dis a b p ((own_put hk a p).mp h1) ((own_put hk b p).mp h2), s'.bdm, fun p h ⟨j, z⟩ => s.bno p h ⟨j, (own_put hk j p).mp z⟩, s'.tbs⟩
  rcases getset h with ⟨rfl, e1, hl⟩ | ⟨ne, h'⟩
  · cases e1
    refine ⟨v, by rw [List.getElem?_set_self (by rw [s.len]; exact hl)], ?_⟩
    exact r.ext (Same.refl _) fun p z => (ownX_put hk p).mp z
  · obtain ⟨w, h1, h2⟩ := s'.ok j d' h'
    exact ⟨w, by rw [List.getElem?_set_ne ne]; exact h1, h2.ext (Same.refl _) fun p z => (ownX_put hk p).mp z⟩
theorem SlotOk.fresh {O : Av} {k : Kd} {p : Addr} (hp : H p = none) (s : SlotOk K H0 H O v d k) : SlotOk K H0 H (fun b => O b ∨ b = p) v d k := by
  have h2 : ∀ vs ds, DqL K H (fun a => O a ∨ dom H0 a) vs ds → DqL K H (fun a => (O a ∨ a = p) ∨ dom H0 a) vs ds := fun vs ds q => DqL.mono (Same.refl _) (DqL.fresh hp q) fun a z => by
    rcases z with (z | z) | z
    · exact .inl (.inl z)
    · exact .inr z
    · exact .inl (.inr z)
  cases k with
  | sh => exact Dq.fresh hp s
  | she =>
    exact Dq.mono (Same.refl _) (Dq.fresh hp s) fun a z => by
      rcases z with (z | z) | z
      · exact .inl (.inl z)
      · exact .inr z
      · exact .inl (.inr z)
  | own =>
    obtain ⟨q, h1, h3, h4⟩ := s
    exact ⟨q, h1, h3, h4.mono rfl fun _ _ z => DqL.fresh hp z⟩
  | owne =>
    obtain ⟨q, h1, h3, h4⟩ := s
    exact ⟨q, h1, h3, h4.mono rfl h2⟩
  | scr =>
    obtain ⟨a, xs, ds, h1, h3, h4, h5⟩ := s
    refine ⟨a, xs, ds, h1, h3, ?_, DqL.fresh hp h5⟩
    rcases h4 with q | q | ⟨q1, q2⟩
    · exact .inl q
    · exact .inr (.inl q)
    · exact .inr (.inr ⟨fun z => z.elim q1 (ne_of_none q2 hp), q2⟩)
  | rf a c => exact s
  | tb _ _ => exact s
def isMut : D → Bool
  | .list _ => true
  | .dict ((.none, .bool _) :: _) => false
  | .dict _ => true
  | _ => false
/-- a new changeable thing into an owning slot -/
theorem SR.putOwn (s : SR K τ H0 B ρ σ H) (hk : (kd τ i).isOwn = true) (e : Same H H') (r : Dq K H' (dom H) v d) (hm : isMut d = true) :
    SR K τ H0 B (ρ.set i (some d)) (σ.set i (some v)) H' ∧ ∀ q, OwnX τ B (ρ.set i (some d)) (σ.set i (some v)) q → OwnX τ B ρ σ q ∨ H q = none := by
  have s' := s.more e
  obtain ⟨p, rfl, hp⟩ : ∃ p, v = .ref p ∧ H p = none := by
    cases r with
    | lst h1 _ _ => exact ⟨_, rfl, Classical.byContradiction fun z => h1 z⟩
    | dK h1 _ _ => exact ⟨_, rfl, Classical.byContradiction fun z => h1 z⟩
    | dT h1 _ _ => exact ⟨_, rfl, Classical.byContradiction fun z => h1 z⟩
    | _ => cases hm
  have hO : ∀ j q, OwnAt τ (ρ.set i (some d)) (σ.set i (some (.ref p))) j q → (j = i ∧ q = p) ∨ (j ≠ i ∧ OwnAt τ ρ σ j q) := by
    rintro j q ⟨h1, ⟨d', h2⟩, h3⟩
    rcases getset h3 with ⟨rfl, e1, _⟩ | ⟨ne, h3'⟩
    · cases e1; exact .inl ⟨rfl, rfl⟩
    · rcases getset h2 with ⟨e2, _⟩ | ⟨_, h2'⟩
      · exact absurd e2 ne
      · exact .inr ⟨Ne.symm ne, h1, ⟨d', h2'⟩, h3'⟩
  have hX : ∀ q, OwnX τ B (ρ.set i (some d)) (σ.set i (some (.ref p))) q → OwnX τ B ρ σ q ∨ q = p := by
    rintro q (⟨j, h⟩ | h)
    · rcases hO j q h with ⟨_, rfl⟩ | ⟨_, h'⟩
      · exact .inr rfl
      · exact .inl (.inl ⟨j, h'⟩)
    · exact .inl (.inr h)
  have hD : ∀ q, (OwnX τ B (ρ.set i (some d)) (σ.set i (some (.ref p))) q ∨ dom H0 q) → dom H q ∨ q = p := by
    rintro q (h | h)
    · exact (hX q h).imp (s.own_dom q) id
    · exact .inl (s.ent_dom q h)
  refine ⟨⟨by rw [List.length_set, List.length_set]; exact s.len, s'.ext, fun j d' h => ?_, fun a b q h1 h2 => ?_, s'.bdm, fun q h ⟨j, z⟩ => ?_, s'.tbs⟩, fun q h => (hX q h).imp id fun z => by rw [z]; exact hp⟩
  · rcases getset h with ⟨rfl, e1, hl⟩ | ⟨ne, h'⟩
    · cases e1
      refine ⟨.ref p, by rw [List.getElem?_set_self (by rw [s.len]; exact hl)], ?_⟩
      have h0 : H0 p = none := by
        cases q : H0 p with
        | none => rfl
        | some o => exact absurd hp (s.ext.dm p (by rw [q]; exact fun z => by cases z))
      have cell : Cell K H' (fun b => dom H b ∨ b = p) p d := by
        cases r with
        | lst _ h2 h3 => exact .inl ⟨_, _, rfl, h2, h3⟩
        | dK _ h2 h3 => exact .inr (.inl ⟨_, _, rfl, h2, h3⟩)
        | dT _ h2 h3 => exact .inr (.inr ⟨_, _, rfl, h2, h3⟩)
        | _ => cases hm
      cases q : kd τ i with
      | own => exact ⟨p, rfl, h0, cell.mono rfl fun _ _ z => DqL.mono (Same.refl _) z fun a y => hD a (.inl y)⟩
      | owne => exact ⟨p, rfl, h0, cell.mono rfl fun _ _ z => DqL.mono (Same.refl _) z fun a y => hD a y⟩
      | _ => rw [q] at hk; cases hk
    · obtain ⟨w, h1, h2⟩ := s.ok j d' h'
      exact ⟨w, by rw [List.getElem?_set_ne ne]; exact h1, (h2.fresh hp).ext e hX⟩
  · rcases hO a q h1 with ⟨rfl, e1⟩ | ⟨n1, g1⟩
    · rcases hO b q h2 with ⟨rfl, _⟩ | ⟨n2, g2⟩
      · rfl
      · subst e1
        exact absurd hp (s.own_dom q (.inl ⟨b, g2⟩))
    · rcases hO b q h2 with ⟨rfl, e2⟩ | ⟨n2, g2⟩
      · subst e2
        exact absurd hp (s.own_dom q (.inl ⟨a, g1⟩))
      · exact s.dis a b q g1 g2
  · rcases hO j q z with ⟨_, rfl⟩ | ⟨_, g⟩
    · obtain ⟨o, g, _⟩ := s.bdm q h
      rw [g] at hp; cases hp
    · exact s.bno q h ⟨j, g⟩
theorem tp_upd {a p : Addr} {o o' : HO} {xs : List V} (hp : H p = some o) (hm : MutO o) (h : TpAt K H a xs) : TpAt K (upd H p o') a xs := by
  refine h.imp (fun ⟨b, q, d⟩ => ⟨b, ?_, d⟩) id
  rw [upd_ne (fun z => by subst z; rw [hp] at q; cases q; exact hm)]
  exact q
mutual
theorem Dq.upd {p : Addr} {o o' : HO} (hp : H p = some o) (hm : MutO o) : ∀ {O : Av} {v : V} {d : D}, O p → Dq K H O v d → Dq K (L2.upd H p o') O v d
  | _, _, _, _, .non => .non
  | _, _, _, _, .bl b => .bl b
  | _, _, _, _, .int i => .int i
  | _, _, _, _, .str x => .str x
  | _, _, _, hO, .tup h1 h2 => .tup (tp_upd hp hm h1) (DqL.upd hp hm hO h2)
  | _, _, _, hO, .lst h1 h2 h3 => .lst h1 (by rw [upd_ne (fun z => h1 (by rw [z]; exact hO))]; exact h2) (DqL.upd hp hm (.inl hO) h3)
  | _, _, _, hO, .dK h1 h2 h3 => .dK h1 (by rw [upd_ne (fun z => h1 (by rw [z]; exact hO))]; exact h2) (DqL.upd hp hm (.inl hO) h3)
  | _, _, _, hO, .dT h1 h2 h3 => .dT h1 (by rw [upd_ne (fun z => h1 (by rw [z]; exact hO))]; exact h2) (DqL.upd hp hm (.inl hO) h3)
  | _, _, _, hO, .dF h2 h3 => .dF (by rw [upd_ne (fun z => by subst z; rw [hp] at h2; cases h2; exact hm)]; exact h2) (DqL.upd hp hm hO h3)
theorem DqL.upd {p : Addr} {o o' : HO} (hp : H p = some o) (hm : MutO o) : ∀ {O : Av} {v : List V} {d : List D}, O p → DqL K H O v d → DqL K (L2.upd H p o') O v d
  | _, _, _, _, .nil => .nil
  | _, _, _, hO, .cons h1 h2 => .cons (Dq.upd hp hm hO h1) (DqL.upd hp hm hO h2)
end
theorem SlotOk.upd {O : Av} {k : Kd} {p : Addr} {o o' : HO} (hp : H p = some o) (hm : MutO o) (hO : O p) (hv : k.isOwn = true → v ≠ .ref p) (s : SlotOk K H0 H O v d k) : SlotOk K H0 (L2.upd H p o') O v d k := by
  cases k with
  | sh => exact Dq.upd hp hm hO s
  | she => exact Dq.upd hp hm (.inl hO) s
  | own =>
    obtain ⟨q, h1, h3, h4⟩ := s
    exact ⟨q, h1, h3, h4.mono (upd_ne fun z => hv rfl (by rw [h1, z])) fun _ _ z => DqL.upd hp hm hO z⟩
  | owne =>
    obtain ⟨q, h1, h3, h4⟩ := s
    exact ⟨q, h1, h3, h4.mono (upd_ne fun z => hv rfl (by rw [h1, z])) fun _ _ z => DqL.upd hp hm (.inl hO) z⟩
  | scr =>
    obtain ⟨a, xs, ds, h1, h3, h4, h5⟩ := s
    refine ⟨a, xs, ds, h1, h3, ?_, DqL.upd hp hm hO h5⟩
    rcases h4 with ⟨b, q⟩ | q | ⟨q1, q2⟩
    · refine .inl ⟨b, ?_⟩
      rw [upd_ne (fun z => by subst z; rw [hp] at q; cases q; exact hm)]
      exact q
    · exact .inr (.inl q)
    · refine .inr (.inr ⟨q1, ?_⟩)
      rw [upd_ne (fun z => q1 (by rw [z]; exact hO))]
      exact q2
  | rf a c => exact s
  | tb _ _ => exact s
theorem own_mut {d' : D} (hi : ∃ e, ρ[i]? = some (some e)) (j : Nat) (p : Addr) : OwnAt τ (ρ.set i (some d')) σ j p ↔ OwnAt τ ρ σ j p := by
  obtain ⟨e0, hi⟩ := hi
  by_cases e : i = j
  · subst e
    unfold OwnAt
    rw [List.getElem?_set_self (List.getElem?_eq_some_iff.mp hi).1]
    exact ⟨fun ⟨a, _, c⟩ => ⟨a, ⟨e0, hi⟩, c⟩, fun ⟨a, _, c⟩ => ⟨a, ⟨d', rfl⟩, c⟩⟩
  · unfold OwnAt
    rw [List.getElem?_set_ne e]
theorem SR.mut {p : Addr} {o o' : HO} {d' : D} (s : SR K τ H0 B ρ σ H) (hi : OwnAt τ ρ σ i p) (hp : H p = some o) (hm : MutO o) (new : SlotOk K H0 (L2.upd H p o') (OwnX τ B ρ σ) (.ref p) d' (kd τ i)) :
    SR K τ H0 B (ρ.set i (some d')) σ (L2.upd H p o') ∧ ∀ q, OwnX τ B (ρ.set i (some d')) σ q ↔ OwnX τ B ρ σ q := by
  obtain ⟨hk, hd, hσ⟩ := id hi
  have hX : ∀ q, OwnX τ B (ρ.set i (some d')) σ q ↔ OwnX τ B ρ σ q := fun q => or_congr_left ⟨fun ⟨j, h⟩ => ⟨j, (own_mut hd j q).mp h⟩, fun ⟨j, h⟩ => ⟨j, (own_mut hd j q).mpr h⟩⟩
  have hO : OwnX τ B ρ σ p := .inl ⟨i, hi⟩
  have h0 := (s.ownNew ⟨i, hi⟩).2
  refine ⟨⟨by rw [List.length_set]; exact s.len, s.ext.updM h0 hp hm, fun j e h => ?_, fun a b q h1 h2 => s.dis a b q ((own_mut hd a q).mp h1) ((own_mut hd b q).mp h2), fun q h => ?_, fun q h ⟨j, z⟩ => s.bno q h ⟨j, (own_mut hd j q).mp z⟩, fun P q t => tabs_upd (s.tbs P q t) hp hm⟩, hX⟩
  · rcases getset h with ⟨rfl, e1, hl⟩ | ⟨ne, h'⟩
    · cases e1
      exact ⟨.ref p, hσ, new.ext (Same.refl _) fun q z => (hX q).mp z⟩
    · obtain ⟨w, h1, h2⟩ := s.ok j e h'
      refine ⟨w, h1, (h2.upd hp hm hO fun ho z => ?_).ext (Same.refl _) fun q z => (hX q).mp z⟩
      subst z
      exact ne (s.dis i j p hi ⟨ho, ⟨e, h'⟩, h1⟩)
  · obtain ⟨o, g, m⟩ := s.bdm q h
    exact ⟨o, by rw [upd_ne (fun e => s.bno q h (by rw [e]; exact ⟨i, hi⟩))]; exact g, m⟩
/-- what is owned can be changed -/
theorem SR.ownMut (s : SR K τ H0 B ρ σ H) {p : Addr} (h : OwnX τ B ρ σ p) : ∃ o, H p = some o ∧ MutO o := by
  rcases h with ⟨i, hk, ⟨d, hd⟩, hp⟩ | h
  · obtain ⟨v, hv, so⟩ := s.ok i d hd
    rw [hp] at hv
    cases hv
    have done : ∀ {O : Av} {q : Addr}, Cell K H O q d → ∃ o, H q = some o ∧ MutO o := by
      rintro O q (⟨vs, ds, h1, h2, h3⟩ | ⟨vs, ds, h1, h2, h3⟩ | ⟨vs, ds, h1, h2, h3⟩) <;> exact ⟨_, h2, trivial⟩
    cases e : kd τ i with
    | own => rw [e] at so; obtain ⟨q, h1, h2, h3⟩ := so; cases h1; exact done h3
    | owne => rw [e] at so; obtain ⟨q, h1, h2, h3⟩ := so; cases h1; exact done h3
    | _ => rw [e] at hk; cases hk
  · exact s.bdm p h
/-- an owning slot gives up what it owns -/
theorem SR.freeze (s : SR K τ H0 B ρ σ H) (i : Nat) (hk : (kd τ i).isOwn = true) : SR K (τ.set i .sh) H0 B ρ σ H ∧ ∀ q, OwnX (τ.set i .sh) B ρ σ q → OwnX τ B ρ σ q := by
  have hlt : i < τ.length := by
    unfold kd at hk
    cases q : τ[i]? with
    | none => rw [q] at hk; cases hk
    | some x => exact (List.getElem?_eq_some_iff.mp q).1
  have k1 : kd (τ.set i .sh) i = .sh := by unfold kd; rw [List.getElem?_set_self hlt]; rfl
  have k2 : ∀ j, i ≠ j → kd (τ.set i .sh) j = kd τ j := fun j h => by unfold kd; rw [List.getElem?_set_ne h]
  have hO : ∀ j q, OwnAt (τ.set i .sh) ρ σ j q → i ≠ j ∧ OwnAt τ ρ σ j q := by
    rintro j q ⟨h1, h2, h3⟩
    by_cases e : i = j
    · subst e; rw [k1] at h1; cases h1
    · rw [k2 j e] at h1; exact ⟨e, h1, h2, h3⟩
  have hX : ∀ q, OwnX (τ.set i .sh) B ρ σ q → OwnX τ B ρ σ q := by
    rintro q (⟨j, h⟩ | h)
    · exact .inl ⟨j, (hO j q h).2⟩
    · exact .inr h
  refine ⟨⟨s.len, s.ext, fun j d h => ?_, fun a b q h1 h2 => s.dis a b q (hO a q h1).2 (hO b q h2).2, s.bdm, fun q h ⟨j, z⟩ => s.bno q h ⟨j, (hO j q z).2⟩, fun P q t => s.tbs P q ((List.mem_or_eq_of_mem_set t).elim id (fun z => by cases z))⟩, hX⟩
  obtain ⟨w, h1, h2⟩ := s.ok j d h
  refine ⟨w, h1, ?_⟩
  by_cases e : i = j
  · subst e
    rw [k1]
    have at_ : ∀ p, w = .ref p → OwnAt τ ρ σ i p := fun p e => ⟨hk, ⟨d, h⟩, by rw [h1, e]⟩
    have nO : ∀ p, w = .ref p → ¬ OwnX (τ.set i .sh) B ρ σ p := by
      rintro p e (⟨j, z⟩ | z)
      · obtain ⟨n, z'⟩ := hO j p z
        exact n (s.dis i j p (at_ p e) z')
      · exact s.bno p z ⟨i, at_ p e⟩
    have done : ∀ p, w = .ref p → Cell K H (OwnX τ B ρ σ) p d → Dq K H (OwnX (τ.set i .sh) B ρ σ) w d := by
      intro p e c
      subst e
      have hs : ∀ a, (OwnX (τ.set i .sh) B ρ σ a ∨ a = p) → OwnX τ B ρ σ a := fun a z => z.elim (hX a) fun z => by rw [z]; exact .inl ⟨i, at_ p rfl⟩
      rcases c with ⟨vs, ds, g1, g2, g3⟩ | ⟨vs, ds, g1, g2, g3⟩ | ⟨vs, ds, g1, g2, g3⟩
      · subst g1; exact .lst (nO p rfl) g2 (DqL.mono (Same.refl _) g3 hs)
      · subst g1; exact .dK (nO p rfl) g2 (DqL.mono (Same.refl _) g3 hs)
      · subst g1; exact .dT (nO p rfl) g2 (DqL.mono (Same.refl _) g3 hs)
    cases q : kd τ i with
    | own => rw [q] at h2; obtain ⟨p, e, _, c⟩ := h2; exact done p e c
    | owne => rw [q] at h2; obtain ⟨p, e, _, c⟩ := h2; exact done p e (c.mono rfl fun _ _ z => DqL.mono (Same.refl _) z fun _ y => .inl y)
    | _ => rw [q] at hk; cases hk
  · rw [k2 j e]
    exact h2.ext (Same.refl _) hX
/-- a slot forgotten -/
theorem SR.forget (s : SR K τ H0 B ρ σ H) (i : Nat) : SR K τ H0 B (ρ.set i none) σ H ∧ ∀ q, OwnX τ B (ρ.set i none) σ q → OwnX τ B ρ σ q := by
  have hO : ∀ j q, OwnAt τ (ρ.set i none) σ j q → OwnAt τ ρ σ j q := by
    rintro j q ⟨h1, ⟨d, h2⟩, h3⟩
    rcases getset h2 with ⟨_, e, _⟩ | ⟨_, h2'⟩
    · cases e
    · exact ⟨h1, ⟨d, h2'⟩, h3⟩
  have hX : ∀ q, OwnX τ B (ρ.set i none) σ q → OwnX τ B ρ σ q := by
    rintro q (⟨j, h⟩ | h)
    · exact .inl ⟨j, hO j q h⟩
    · exact .inr h
  refine ⟨⟨by rw [List.length_set]; exact s.len, s.ext, fun j d h => ?_, fun a b q h1 h2 => s.dis a b q (hO a q h1) (hO b q h2), s.bdm, fun q h ⟨j, z⟩ => s.bno q h ⟨j, hO j q z⟩, s.tbs⟩, hX⟩
  rcases getset h with ⟨_, e, _⟩ | ⟨_, h'⟩
  · cases e
  · obtain ⟨w, h1, h2⟩ := s.ok j d h'
    exact ⟨w, h1, h2.ext (Same.refl _) hX⟩
end
end Dn
set_option Elab.async false
set_option linter.all false
set_option maxRecDepth 100000
namespace Dn
open PySem L2
/-! ### statements -/
/-- what stands and is not owned stays; what is owned behind was owned, or is new -/
structure Keep (O : Av) (H H' : Hp) : Prop where
  get : ∀ a o, H a = some o → ¬ O a → (h : nTbl o := by trivial) → H' a = some o
  dm : ∀ a, H a ≠ none → H' a ≠ none
instance {O : Av} {H H' : Hp} : CoeFun (Keep O H H') (fun _ => ∀ a o, H a = some o → ¬ O a → (h : nTbl o := by trivial) → H' a = some o) := ⟨@Keep.get O H H'⟩
theorem Keep.refl {O : Av} {H : Hp} : Keep O H H := ⟨fun _ _ h _ _ => h, fun _ h => h⟩
theorem Same.keep {O : Av} {H H' : Hp} (e : Same H H') : Keep O H H' := ⟨fun a o h _ n => e.get a o h n, e.dm⟩
def Kp (O : Av) (H : Hp) (O' : Av) (H' : Hp) : Prop := Keep O H H' ∧ ∀ a, O' a → O a ∨ H a = none
theorem Kp.same {O : Av} {H H' : Hp} (e : Same H H') : Kp O H O H' := ⟨e.keep, fun _ h => .inl h⟩
theorem Kp.refl {O : Av} {H : Hp} : Kp O H O H := Kp.same (Same.refl _)
theorem Kp.trans {O O1 O2 : Av} {H H1 H2 : Hp} (a : Kp O H O1 H1) (b : Kp O1 H1 O2 H2) : Kp O H O2 H2 := by
  refine ⟨⟨fun x o h n t => b.1.get x o (a.1.get x o h n t) (fun z => ?_) t, fun x h => b.1.dm x (a.1.dm x h)⟩, fun x h => ?_⟩
  · rcases a.2 x z with q | q
    · exact n q
    · rw [h] at q; cases q
  · rcases b.2 x h with q | q
    · exact a.2 x q
    · by_cases ho : O x
      · exact .inl ho
      · refine .inr ?_
        cases e : H x with
        | none => rfl
        | some o => exact absurd q (a.1.dm x (by rw [e]; exact fun z => by cases z))
theorem Kp.sub {O O' : Av} {H : Hp} (h : ∀ a, O' a → O a) : Kp O H O' H := ⟨Keep.refl, fun a z => .inl (h a z)⟩
def PostS (F : Fam) (τo : List Kd) (H0 : Hp) (B : Av) (H : Hp) (O : Av) (rf : Bool) (D : Ends) : Out → Prop
  | .next ρ' => ∀ σ' H', SR F.K τo H0 B ρ' σ' H' → Kp O H (OwnX τo B ρ' σ') H' → D.nx σ' H'
  | .brk ρ' => ∀ σ' H', SR F.K τo H0 B ρ' σ' H' → Kp O H (OwnX τo B ρ' σ') H' → D.bk σ' H'
  | .cont ρ' => ∀ σ' H', SR F.K τo H0 B ρ' σ' H' → Kp O H (OwnX τo B ρ' σ') H' → D.ct σ' H'
  | .ret d => ∀ v H', Same H0 H' → Dq F.K H' (if rf = true then dom H0 else B) v d → D.rt v H'
  | .exc c => ∀ σ' H', Same H0 H' → F.W (.ref (F.Xc c)) none σ' H'
  | .bad => False
def outOf {α : Type} (r : Res α) (k : α → Out) : Out := match r with
  | .ok a => k a
  | .exc c => .exc c
  | .bad => .bad
section
variable {F : Fam} {τ τo : List Kd} {H0 H H1 : Hp} {B O O1 : Av} {rf : Bool} {E : Ends}
theorem PostS.out {α : Type} {r : Res α} {k : α → Out} {σ : St} (s : Same H0 H) (p : PostS F τo H0 B H O rf E (outOf r k)) : Post F σ H (fun a => PostS F τo H0 B H O rf E (k a)) r := by
  cases r with
  | ok a => exact p
  | exc c => exact fun H' e => p σ H' (s.trans e)
  | bad => exact p
theorem PostS.later {o : Out} (p : PostS F τo H0 B H O rf E o) (k : Kp O H O1 H1) : PostS F τo H0 B H1 O1 rf E o := by
  cases o with
  | next ρ => exact fun σ' H' s q => p σ' H' s (k.trans q)
  | brk ρ => exact fun σ' H' s q => p σ' H' s (k.trans q)
  | cont ρ => exact fun σ' H' s q => p σ' H' s (k.trans q)
  | ret d => exact p
  | exc c => exact p
  | bad => exact p
end
def SemS (F : Fam) (τ τo : List Kd) (rf : Bool) (t : TS) (g : Rho → Out) : Prop := ∀ H0 B ρ σ H E, SR F.K τ H0 B ρ σ H → PostS F τo H0 B H (OwnX τ B ρ σ) rf E (g ρ) → t E σ H
def DnS (F : Fam) (τ τo : List Kd) (rf : Bool) (st : Stmt) (g : Rho → Out) : Prop := ∃ t, (∀ i, PS (F.X i) st t) ∧ SemS F τ τo rf t g
def DnB (F : Fam) (τ τo : List Kd) (rf : Bool) (sts : List Stmt) (g : Rho → Out) : Prop := ∃ t, (∀ i, PSs (F.X i) sts t) ∧ SemS F τ τo rf t g
section
variable {F : Fam} {τ τ1 τo : List Kd} {rf : Bool} {st : Stmt} {sts : List Stmt} {e a b c : Expr} {f fa fb : Rho → Res D} {fl la lb : Fl} {pos : Pos} {g g1 g2 : Rho → Out} {gc : Rho → Res Bool}
def sSeq (g1 g2 : Rho → Out) : Rho → Out := fun ρ => match g1 ρ with
  | .next ρ' => g2 ρ'
  | o => o
def sNext : Rho → Out := .next
theorem db_nil : DnB F τ τ rf [] sNext := ⟨tNext, fun _ => pss_nil, fun H0 B ρ σ H E s p => p σ H s Kp.refl⟩
theorem seq_sem {t u : TS} (h1 : SemS F τ τ1 rf t g1) (h2 : SemS F τ1 τo rf u g2) (hj : ∀ ρ, (∀ ρ', g1 ρ ≠ .brk ρ') ∧ (∀ ρ', g1 ρ ≠ .cont ρ') ∨ τ1 = τo) : SemS F τ τo rf (tSeq t u) (sSeq g1 g2) := by
  intro H0 B ρ σ H E s p
  refine h1 H0 B ρ σ H { E with nx := u E } s ?_
  unfold sSeq at p
  cases q : g1 ρ with
  | next ρ' => rw [q] at p; exact fun σ' H' s' k => h2 H0 B ρ' σ' H' E s' (p.later k)
  | ret d => rw [q] at p; exact p
  | brk ρ' =>
    rw [q] at p
    rcases hj ρ with ⟨h, _⟩ | h
    · exact absurd q (h ρ')
    · subst h; exact p
  | cont ρ' =>
    rw [q] at p
    rcases hj ρ with ⟨_, h⟩ | h
    · exact absurd q (h ρ')
    · subst h; exact p
  | exc c => rw [q] at p; exact p
  | bad => rw [q] at p; exact p
theorem db_cons (h1 : DnS F τ τ rf st g1) (h2 : DnB F τ τ rf sts g2) : DnB F τ τ rf (st :: sts) (sSeq g1 g2) := by
  obtain ⟨t, a1, a2⟩ := h1
  obtain ⟨u, b1, b2⟩ := h2
  exact ⟨tSeq t u, fun i => pss_cons (a1 i) (b1 i), seq_sem a2 b2 fun _ => .inr rfl⟩
/-- at the def's own level, where a break leads nowhere: the slots' kinds may change behind the statement -/
def noJump (g : Rho → Out) : Rho → Out := fun ρ => match g ρ with
  | .brk _ => .bad
  | .cont _ => .bad
  | o => o
theorem db_consF (h1 : DnS F τ τ1 rf st g1) (h2 : DnB F τ1 τo rf sts g2) : DnB F τ τo rf (st :: sts) (sSeq (noJump g1) g2) := by
  obtain ⟨t, a1, a2⟩ := h1
  obtain ⟨u, b1, b2⟩ := h2
  refine ⟨tSeq t u, fun i => pss_cons (a1 i) (b1 i), seq_sem (g1 := noJump g1) (τ1 := τ1) ?_ b2 fun ρ => .inl ?_⟩
  · intro H0 B ρ σ H E s p
    refine a2 H0 B ρ σ H E s ?_
    unfold noJump at p
    cases q : g1 ρ with
    | brk r => rw [q] at p; exact p.elim
    | cont r => rw [q] at p; exact p.elim
    | _ => rw [q] at p; exact p
  · unfold noJump
    constructor <;> (intro ρ'; cases g1 ρ <;> (intro z; cases z))
theorem db_one (h1 : DnS F τ τo rf st g1) : DnB F τ τo rf [st] g1 := by
  obtain ⟨t, a1, a2⟩ := h1
  exact ⟨t, fun i => pss_one (a1 i), a2⟩
/-- a list is no longer changed from here on -/
theorem db_freeze (i : Nat) (h : DnB F (τ.set i .sh) τo rf sts g) (hk : (kd τ i).isOwn = true := by rfl) : DnB F τ τo rf sts g := by
  obtain ⟨t, a1, a2⟩ := h
  refine ⟨t, a1, fun H0 B ρ σ H E s p => ?_⟩
  obtain ⟨s', hX⟩ := s.freeze i hk
  exact a2 H0 B ρ σ H E s' (p.later (Kp.sub hX))
theorem ds_pass : DnS F τ τ rf (.Pass pos) sNext := ⟨tNext, fun _ => ps_pass, fun H0 B ρ σ H E s p => p σ H s Kp.refl⟩
theorem ds_break : DnS F τ τ rf (.Break pos) .brk := ⟨tBreak, fun _ => ps_break, fun H0 B ρ σ H E s p => p σ H s Kp.refl⟩
theorem ds_cont : DnS F τ τ rf (.Continue pos) .cont := ⟨tCont, fun _ => ps_continue, fun H0 B ρ σ H E s p => p σ H s Kp.refl⟩
/-- an expression alone -/
def sDrop (f : Rho → Res D) : Rho → Out := fun ρ => outOf (f ρ) fun _ => .next ρ
theorem ds_expr (h : DnE F τ e f fl) (hs : ∀ i, swapsWith e none pos.line (F.X i).env = pure false := by intro _; rfl) : DnS F τ τ rf (.Expr e pos) (sDrop f) := by
  obtain ⟨t, h1, h2⟩ := h
  refine ⟨tDrop t, fun i => ps_expr (h1 i) (hs i), fun H0 B ρ σ H E s p => ?_⟩
  refine h2 H0 B ρ σ H _ s ((PostS.out s.ext p).to (Same.refl _) fun d _ p1 v H' e r => ?_)
  exact p1 σ H' (s.more e) (Kp.same e)
def sRet (f : Rho → Res D) : Rho → Out := fun ρ => outOf (f ρ) .ret
theorem ds_ret (h : DnE F τ e f fl) (hr : rf = false ∨ fl ≠ .z := by first | exact .inl rfl | exact .inr (by decide)) : DnS F τ τo rf (.Return (some e) pos) (sRet f) := by
  obtain ⟨t, h1, h2⟩ := h
  refine ⟨tRet t, fun i => ps_ret (h1 i), fun H0 B ρ σ H E s p => ?_⟩
  refine h2 H0 B ρ σ H _ s ((PostS.out s.ext p).to (Same.refl _) fun d _ p1 v H' e r => ?_)
  refine p1 v H' (s.ext.trans e) ?_
  cases rf with
  | false => exact Dq.mono (Same.refl _) r fun a z => av_own s a (.inr z)
  | true =>
    refine Dq.mono (Same.refl _) r fun a z => ?_
    rcases hr with hr | hr
    · cases hr
    · cases fl with
      | z => exact absurd rfl hr
      | e => exact .inr z
      | s => exact s.ent_dom a z
theorem ds_retN : DnS F τ τo rf (.Return none pos) (fun _ => .ret .none) := ⟨tRetN, fun _ => ps_retN, fun H0 B ρ σ H E s p => p _ H s.ext .non⟩
theorem Cell.dq {K : PySem.W.Frag} {H : Hp} {A A' : Av} {p : Addr} {d : D} (c : Cell K H A' p d) (h1 : ¬ A p) (h2 : ∀ a, (A a ∨ a = p) → A' a) : Dq K H A (.ref p) d := by
  rcases c with ⟨vs, ds, g1, g2, g3⟩ | ⟨vs, ds, g1, g2, g3⟩ | ⟨vs, ds, g1, g2, g3⟩
  · subst g1; exact .lst h1 g2 (DqL.mono (Same.refl _) g3 h2)
  · subst g1; exact .dK h1 g2 (DqL.mono (Same.refl _) g3 h2)
  · subst g1; exact .dT h1 g2 (DqL.mono (Same.refl _) g3 h2)
/-- what an owning slot holds -/
theorem SR.ownCell {K : PySem.W.Frag} {H0 H : Hp} {B : Av} {ρ : Rho} {σ : St} {i : Nat} {d : D} (s : SR K τ H0 B ρ σ H) (hk : (kd τ i).isOwn = true) (h : ρ[i]? = some (some d)) :
    ∃ p, σ[i]? = some (some (.ref p)) ∧ OwnAt τ ρ σ i p ∧ H0 p = none ∧ Cell K H (OwnX τ B ρ σ) p d ∧ (kd τ i = .owne → Cell K H (fun a => OwnX τ B ρ σ a ∨ dom H0 a) p d) := by
  obtain ⟨v, h1, h2⟩ := s.ok i d h
  cases q : kd τ i with
  | own =>
    rw [q] at h2
    obtain ⟨p, rfl, h3, h4⟩ := h2
    exact ⟨p, h1, ⟨hk, ⟨d, h⟩, h1⟩, h3, h4, fun z => by cases z⟩
  | owne =>
    rw [q] at h2
    obtain ⟨p, rfl, h3, h4⟩ := h2
    exact ⟨p, h1, ⟨hk, ⟨d, h⟩, h1⟩, h3, h4.mono rfl fun _ _ z => DqL.mono (Same.refl _) z fun _ y => .inl y, fun _ => h4⟩
  | _ => rw [q] at hk; cases hk
/-- return x, x owning -/
theorem ds_retOwn (i : Nat) {x : Str} {pos' : Pos} (hk : kd τ i = .owne ∨ (kd τ i = .own ∧ rf = false) := by first | exact .inl rfl | exact .inr ⟨rfl, rfl⟩) (hN : ∀ j, (F.X j).N[i]? = some x := by intro _; rfl) (hv : ∀ j, Vis (F.X j).env.scope x := by intro _; first | exact Or.inl rfl | exact Or.inr (Or.inl rfl) | exact Or.inr (Or.inr rfl))
    (hd : (x == ("__debug__" : Str)) = false := by decide) (hcd : (x == ("__classdict__" : Str)) = false := by decide) : DnS F τ τo rf (.Return (some (.Name x pos')) pos) (sRet (eVar i)) := by
  refine ⟨tRet (tVar i), fun j => ps_ret (pe_var (hN j) (hv j) hd hcd), fun H0 B ρ σ H E s p => ?_⟩
  unfold sRet at p
  cases hf : eVar i ρ with
  | ok d =>
    rw [hf] at p
    have ho : (kd τ i).isOwn = true := by rcases hk with h | ⟨h, _⟩ <;> rw [h] <;> rfl
    obtain ⟨q, h1, h2, h3, h4, h5⟩ := s.ownCell ho (eVar_ok hf)
    refine ⟨.ref q, h1, p (.ref q) H s.ext ?_⟩
    have hq : OwnX τ B ρ σ q := .inl ⟨i, h2⟩
    rcases hk with h | ⟨h, e⟩
    · cases rf with
      | true => exact (h5 h).dq (fun z => z h3) fun a z => z.elim .inr fun z => .inl (by rw [z]; exact hq)
      | false => exact h4.dq (fun z => s.bno q z ⟨i, h2⟩) fun a z => z.elim .inr fun z => by rw [z]; exact hq
    · subst e
      exact h4.dq (fun z => s.bno q z ⟨i, h2⟩) fun a z => z.elim .inr fun z => by rw [z]; exact hq
  | exc c => exact (eVar_exc hf).elim
  | bad => rw [hf] at p; exact p.elim

/-! ### name = e -/
def sAsg (i : Nat) (f : Rho → Res D) : Rho → Out := fun ρ => outOf (f ρ) fun d => .next (ρ.set i (some d))
def sAsgO (i : Nat) (f : Rho → Res D) : Rho → Out := fun ρ => outOf (f ρ) fun d => if isMut d = true then .next (ρ.set i (some d)) else .bad
theorem asg_sem {t : TE} {i : Nat} (h2 : SemG (Dq F.K) F τ t f fl) (hk : kd τ i = .sh ∨ (kd τ i = .she ∧ fl ≠ .z)) : SemS F τ τ rf (tAsg t (gName i)) (sAsg i f) := by
  intro H0 B ρ σ H E s p
  refine h2 H0 B ρ σ H _ s ((PostS.out s.ext p).to (Same.refl _) fun d _ p1 v H' e r => ?_)
  have hn : (kd τ i).isOwn = false := by rcases hk with h | ⟨h, _⟩ <;> rw [h] <;> rfl
  refine p1 _ H' (s.put hn e ?_) ((Kp.same e).trans (Kp.sub fun a z => (ownX_put hn a).mp z))
  rcases hk with h | ⟨h, hf⟩
  · rw [h]; exact Dq.mono (Same.refl _) r (av_own s)
  · rw [h]
    refine Dq.mono (Same.refl _) r fun a z => ?_
    cases fl with
    | z => exact absurd rfl hf
    | e => exact z
    | s => exact z.elim (s.own_dom a) (s.ent_dom a)
theorem asgO_sem {t : TE} {i : Nat} (h2 : SemG (Dq F.K) F τ t f .s) (hk : (kd τ i).isOwn = true) : SemS F τ τ rf (tAsg t (gName i)) (sAsgO i f) := by
  intro H0 B ρ σ H E s p
  refine h2 H0 B ρ σ H _ s ((PostS.out s.ext p).to (Same.refl _) fun d _ p1 v H' e r => ?_)
  by_cases hm : isMut d = true
  · rw [if_pos hm] at p1
    obtain ⟨s', hX⟩ := s.putOwn hk e r hm
    exact p1 _ H' s' ⟨e.keep, hX⟩
  · rw [if_neg hm] at p1; exact p1.elim
theorem ds_asg (i : Nat) {x : Str} {pos' : Pos} (h : DnE F τ e f fl) (hk : kd τ i = .sh ∨ (kd τ i = .she ∧ fl ≠ .z) := by first | exact .inl rfl | exact .inr ⟨rfl, by decide⟩) (hi : ∀ j, (F.X j).N[i]? = some x := by intro _; rfl) (hx : ∀ j, Loc (F.X j).env.scope x := by intro _; first | exact .inl rfl | exact .inr rfl)
    (hs : ∀ j, swapsWith e (some (.Name x pos')) pos.line (F.X j).env = pure false := by intro _; rfl) (hf : ∀ j, (F.X j).fn x = true ∨ (F.X j).env.scope.names.lookup x = some .local := by intro _; first | exact .inl rfl | exact .inr rfl) :
    DnS F τ τ rf (.Assign [.Name x pos'] e pos) (sAsg i f) := by
  obtain ⟨t, h1, h2⟩ := h
  exact ⟨_, fun j => ps_set (F.nd j) (hi j) (hx j) (h1 j) (hs j) (hf j), asg_sem h2 hk⟩
theorem ds_asgO (i : Nat) {x : Str} {pos' : Pos} (h : DnE F τ e f .s) (hk : (kd τ i).isOwn = true := by rfl) (hi : ∀ j, (F.X j).N[i]? = some x := by intro _; rfl) (hx : ∀ j, Loc (F.X j).env.scope x := by intro _; first | exact .inl rfl | exact .inr rfl)
    (hs : ∀ j, swapsWith e (some (.Name x pos')) pos.line (F.X j).env = pure false := by intro _; rfl) (hf : ∀ j, (F.X j).fn x = true ∨ (F.X j).env.scope.names.lookup x = some .local := by intro _; first | exact .inl rfl | exact .inr rfl) :
    DnS F τ τ rf (.Assign [.Name x pos'] e pos) (sAsgO i f) := by
  obtain ⟨t, h1, h2⟩ := h
  exact ⟨_, fun j => ps_set (F.nd j) (hi j) (hx j) (h1 j) (hs j) (hf j), asgO_sem h2 hk⟩
/-- x = y, y owning: what it owns goes over, to be changed no more -/
def sMove (i j : Nat) : Rho → Out := fun ρ => outOf (eVar j ρ) fun d => .next ((ρ.set j none).set i (some d))
theorem ds_move (i j : Nat) {x y : Str} {pos' py : Pos} (hk : kd τ i = .sh := by rfl) (hj : (kd τ j).isOwn = true := by rfl) (hN : ∀ k, (F.X k).N[j]? = some y := by intro _; rfl) (hv : ∀ k, Vis (F.X k).env.scope y := by intro _; first | exact Or.inl rfl | exact Or.inr (Or.inl rfl) | exact Or.inr (Or.inr rfl))
    (hd : (y == ("__debug__" : Str)) = false := by decide) (hcd : (y == ("__classdict__" : Str)) = false := by decide) (hi : ∀ j, (F.X j).N[i]? = some x := by intro _; rfl) (hx : ∀ j, Loc (F.X j).env.scope x := by intro _; first | exact .inl rfl | exact .inr rfl)
    (hs : ∀ j, swapsWith (.Name y py) (some (.Name x pos')) pos.line (F.X j).env = pure false := by intro _; rfl) (hf : ∀ j, (F.X j).fn x = true ∨ (F.X j).env.scope.names.lookup x = some .local := by intro _; first | exact .inl rfl | exact .inr rfl) :
    DnS F τ τ rf (.Assign [.Name x pos'] (.Name y py) pos) (sMove i j) := by
  refine ⟨_, fun k => ps_set (F.nd k) (hi k) (hx k) (pe_var (hN k) (hv k) hd hcd) (hs k) (hf k), fun H0 B ρ σ H E s p => ?_⟩
  unfold sMove at p
  cases hq : eVar j ρ with
  | ok d =>
    rw [hq] at p
    have hρ := eVar_ok hq
    obtain ⟨s1, hX1⟩ := s.freeze j hj
    obtain ⟨v, h1, h2⟩ := s1.ok j d hρ
    have hlt : j < τ.length := by
      unfold kd at hj
      cases q : τ[j]? with
      | none => rw [q] at hj; cases hj
      | some x => exact (List.getElem?_eq_some_iff.mp q).1
    have k1 : kd (τ.set j .sh) j = .sh := by unfold kd; rw [List.getElem?_set_self hlt]; rfl
    rw [k1] at h2
    obtain ⟨s2, hX2⟩ := s.forget j
    have hsub : ∀ q, OwnX τ B (ρ.set j none) σ q → OwnX (τ.set j .sh) B ρ σ q := by
      rintro q (⟨k, g1, ⟨e, g2⟩, g3⟩ | h)
      · rcases getset g2 with ⟨_, e, _⟩ | ⟨ne, g2'⟩
        · cases e
        · exact .inl ⟨k, by unfold kd; rw [List.getElem?_set_ne ne]; exact g1, ⟨_, g2'⟩, g3⟩
      · exact .inr h
    have hn : (kd τ i).isOwn = false := by rw [hk]; rfl
    refine ⟨v, h1, p _ H (s2.put (v := v) (d := d) hn (Same.refl _) (by rw [hk]; exact Dq.mono (Same.refl _) h2 hsub)) (Kp.sub fun a z => hX2 a ((ownX_put hn a).mp z))⟩
  | exc c => exact (eVar_exc hq).elim
  | bad => rw [hq] at p; exact p.elim

/-! ### if, while -/
def sIf (gc : Rho → Res Bool) (g1 g2 : Rho → Out) : Rho → Out := fun ρ => outOf (gc ρ) fun c => if c = true then g1 ρ else g2 ρ
theorem ds_if {sa sb : List Stmt} (hc : DnT F τ c gc) (h1 : DnB F τ τo rf sa g1) (h2 : DnB F τ τo rf sb g2) : DnS F τ τo rf (.If c sa sb pos) (sIf gc g1 g2) := by
  obtain ⟨tc, c1, c2⟩ := hc
  obtain ⟨ta, a1, a2⟩ := h1
  obtain ⟨tb, b1, b2⟩ := h2
  refine ⟨tIfS tc ta tb, fun i => ps_if (c1 i) (a1 i) (b1 i), fun H0 B ρ σ H E s p => ?_⟩
  refine c2 H0 B ρ σ H _ s ((PostS.out s.ext p).to (Same.refl _) fun k _ p1 H' e => ?_)
  cases k with
  | true =>
    rw [if_pos rfl] at p1 ⊢
    exact a2 H0 B ρ σ H' E (s.more e) (p1.later (Kp.same e))
  | false =>
    rw [if_neg Bool.false_ne_true] at p1 ⊢
    exact b2 H0 B ρ σ H' E (s.more e) (p1.later (Kp.same e))
/-- a while loop of at most n turns -/
def sWhile (gc : Rho → Res Bool) (gb : Rho → Out) : Nat → Rho → Out
  | 0, _ => .bad
  | n + 1, ρ => outOf (gc ρ) fun c => if c = true then (match gb ρ with
      | .next ρ' => sWhile gc gb n ρ'
      | .cont ρ' => sWhile gc gb n ρ'
      | .brk ρ' => .next ρ'
      | o => o) else .next ρ
theorem ds_while (n : Nat) {sb : List Stmt} (hc : DnT F τ c gc) (h1 : DnB F τ τ rf sb g1) : DnS F τ τ rf (.While c sb [] pos) (sWhile gc g1 n) := by
  obtain ⟨tc, c1, c2⟩ := hc
  obtain ⟨ta, a1, a2⟩ := h1
  refine ⟨tWhile tc ta, fun i => ps_while (F.po i) (c1 i) (a1 i), fun H0 B ρ σ H E s p => ?_⟩
  refine ⟨fun m σ' H' => ∃ ρ', SR F.K τ H0 B ρ' σ' H' ∧ PostS F τ H0 B H' (OwnX τ B ρ' σ') rf E (sWhile gc g1 m ρ'), ⟨n, ρ, s, p⟩, ?_⟩
  rintro m σ1 H1 ⟨ρ1, s1, p1⟩
  cases m with
  | zero => exact p1.elim
  | succ m =>
    refine c2 H0 B ρ1 σ1 H1 _ s1 ((PostS.out s1.ext p1).to (Same.refl _) fun k _ p2 H2 e2 => ?_)
    cases k with
    | false =>
      rw [if_neg Bool.false_ne_true] at p2 ⊢
      exact p2 σ1 H2 (s1.more e2) (Kp.same e2)
    | true =>
      rw [if_pos rfl] at p2 ⊢
      refine ⟨fun σ' H' => ∃ ρ', SR F.K τ H0 B ρ' σ' H' ∧ PostS F τ H0 B H' (OwnX τ B ρ' σ') rf E (sWhile gc g1 m ρ'), fun σ' H' ⟨ρ', s', p'⟩ => ⟨m, Nat.lt_succ_self m, ρ', s', p'⟩, ?_⟩
      refine a2 H0 B ρ1 σ1 H2 _ (s1.more e2) ?_
      cases q : g1 ρ1 with
      | next ρ' => rw [q] at p2; exact fun σ' H' s' k => ⟨ρ', s', (p2.later (Kp.same e2)).later k⟩
      | cont ρ' => rw [q] at p2; exact fun σ' H' s' k => ⟨ρ', s', (p2.later (Kp.same e2)).later k⟩
      | brk ρ' => rw [q] at p2; exact fun σ' H' s' k => p2 σ' H' s' ((Kp.same e2).trans k)
      | ret d => rw [q] at p2; exact p2
      | exc c => rw [q] at p2; exact p2
      | bad => rw [q] at p2; exact p2
end
end Dn
set_option Elab.async false
set_option linter.all false
set_option maxRecDepth 100000
namespace Dn
open PySem L2
/-! ### what is walked -/
section
variable {K : PySem.W.Frag} {H H' : Hp} {O : Av}
theorem tp_keep {a : Addr} {xs : List V} (hO : ∀ p, O p → ∃ o, H p = some o ∧ MutO o) (k : Keep O H H') (h : TpAt K H a xs) : TpAt K H' a xs := by
  refine h.imp (fun ⟨b, q, d⟩ => ⟨b, k _ _ q fun z => ?_, d⟩) id
  obtain ⟨o, q', m⟩ := hO a z
  rw [q] at q'; cases q'; exact m
mutual
/-- what avoids the owned stands through their changes, and avoids what is new -/
theorem Dq.keep (hO : ∀ p, O p → ∃ o, H p = some o ∧ MutO o) (k : Keep O H H') : ∀ {A : Av} {v : V} {d : D}, Dq K H A v d → (∀ a, O a → A a) → ∀ {O' : Av}, (∀ a, O' a → A a ∨ H a = none) → Dq K H' O' v d
  | _, _, _, .non, _, _, _ => .non
  | _, _, _, .bl b, _, _, _ => .bl b
  | _, _, _, .int i, _, _, _ => .int i
  | _, _, _, .str x, _, _, _ => .str x
  | _, _, _, .tup h1 h2, hA, _, ho => .tup (tp_keep hO k h1) (DqL.keep hO k h2 hA ho)
  | _, _, _, .lst h1 h2 h3, hA, _, ho => .lst (fun z => (ho _ z).elim h1 fun q => by rw [h2] at q; cases q) (k _ _ h2 fun z => h1 (hA _ z)) (DqL.keep hO k h3 (fun a z => .inl (hA a z)) fun a z => by
      rcases z with z | z
      · exact (ho a z).imp .inl id
      · exact .inl (.inr z))
  | _, _, _, .dK h1 h2 h3, hA, _, ho => .dK (fun z => (ho _ z).elim h1 fun q => by rw [h2] at q; cases q) (k _ _ h2 fun z => h1 (hA _ z)) (DqL.keep hO k h3 (fun a z => .inl (hA a z)) fun a z => by
      rcases z with z | z
      · exact (ho a z).imp .inl id
      · exact .inl (.inr z))
  | _, _, _, .dT h1 h2 h3, hA, _, ho => .dT (fun z => (ho _ z).elim h1 fun q => by rw [h2] at q; cases q) (k _ _ h2 fun z => h1 (hA _ z)) (DqL.keep hO k h3 (fun a z => .inl (hA a z)) fun a z => by
      rcases z with z | z
      · exact (ho a z).imp .inl id
      · exact .inl (.inr z))
  | _, _, _, .dF h2 h3, hA, _, ho => .dF (k _ _ h2 (fun z => by
      obtain ⟨o, q, m⟩ := hO _ z
      rw [h2] at q
      cases q
      exact m)) (DqL.keep hO k h3 hA ho)
theorem DqL.keep (hO : ∀ p, O p → ∃ o, H p = some o ∧ MutO o) (k : Keep O H H') : ∀ {A : Av} {v : List V} {d : List D}, DqL K H A v d → (∀ a, O a → A a) → ∀ {O' : Av}, (∀ a, O' a → A a ∨ H a = none) → DqL K H' O' v d
  | _, _, _, .nil, _, _, _ => .nil
  | _, _, _, .cons h1 h2, hA, _, ho => .cons (Dq.keep hO k h1 hA ho) (DqL.keep hO k h2 hA ho)
end
end
/-- what an iterator gives while P stands; O the owned at its start, H1 the heap there -/
def JOk (K : PySem.W.Frag) (J : It) (P : Hp → Prop) (O : Av) (H1 : Hp) (ds : List D) : Prop := ∀ H', P H' →
  (∀ i d, ds[i]? = some d → J.go i H' ∧ ∀ x H'', J.yld i H' x H'' → Same H' H'' ∧ ∀ O' : Av, (∀ a, O' a → O a ∨ H1 a = none) → Dq K H'' O' x d) ∧ J.stop ds.length H'
/-- st: also where the body changes what is owned -/
def DnI (F : Fam) (τ : List Kd) (tg iter : Expr) (fi : Rho → Res (List D)) (st : Bool) : Prop := ∃ wi : TI, (∀ i, PI (F.X i) tg iter wi) ∧
  ∀ H0 B ρ σ H (R : It → Hp → Prop), SR F.K τ H0 B ρ σ H →
    Post F σ H (fun ds => ∀ J H1, Same H H1 → JOk F.K J (if st = true then Keep (OwnX τ B ρ σ) H1 else Same H1) (OwnX τ B ρ σ) H1 ds → R J H1) (fi ρ) → wi σ H R
section
variable {F : Fam} {τ : List Kd} {tg iter a b c : Expr} {f fa fb fc : Rho → Res D} {fi : Rho → Res (List D)} {fl la lb lc : Fl} {pos p : Pos}
theorem DnI.weak (h : DnI F τ tg iter fi true) : DnI F τ tg iter fi false := by
  obtain ⟨wi, h1, h2⟩ := h
  refine ⟨wi, h1, fun H0 B ρ σ H R s p => h2 H0 B ρ σ H R s (p.to (Same.refl _) fun ds _ q J H1 e j => q J H1 e ?_)⟩
  intro H' k
  exact j H' (by rw [if_pos rfl]; exact Same.keep k)
def textD (z : Str) : List D := z.cps.toList.map fun c => .str ⟨#[c]⟩
def itemsD : D → Option (List D)
  | .list ds => some ds
  | .tuple ds => some ds
  | .str z => some (textD z)
  | _ => none
def iAny (f : Rho → Res D) : Rho → Res (List D) := fun ρ => (f ρ).bind fun d => ofO (itemsD d)
theorem getD_some {α β : Type} {xs : List α} {ys : List β} (h : xs.length = ys.length) {i : Nat} {y : β} (e : ys[i]? = some y) : ∃ x, xs[i]? = some x := by
  have := (List.getElem?_eq_some_iff.mp e).1
  exact ⟨xs[i], List.getElem?_eq_getElem (by omega)⟩
theorem jok_str {K : PySem.W.Frag} {P : Hp → Prop} {O : Av} {H1 : Hp} (z : Str) : JOk K (Its z) P O H1 (textD z) := by
  intro H' _
  refine ⟨fun i d e => ?_, ?_⟩
  · unfold textD at e
    rw [List.getElem?_map] at e
    cases q : z.cps.toList[i]? with
    | none => rw [q] at e; cases e
    | some c =>
      rw [q] at e
      cases e
      have q' : z.cps[i]? = some c := by rw [← Array.getElem?_toList]; exact q
      refine ⟨(Array.getElem?_eq_some_iff.mp q').1, ?_⟩
      rintro x H'' ⟨rfl, c', h1, rfl⟩
      rw [q'] at h1
      cases h1
      exact ⟨Same.refl _, fun O' _ => .str _⟩
  · show z.cps.size ≤ (textD z).length
    unfold textD
    rw [List.length_map, Array.length_toList]
    exact Nat.le_refl _
/-- over a list, a tuple, a text: the value is to be kept -/
theorem di_any (h : DnE F τ iter f fl) : DnI F τ tg iter (iAny f) true := by
  obtain ⟨t, h1, h2⟩ := h.z
  refine ⟨fun σ H R => iList F.K t σ H R ∨ iTup F.K t σ H R ∨ iStr t σ H R, fun i => ⟨fun pins s σ H R I hw => ?_⟩, fun H0 B ρ σ H R s p => ?_⟩
  · rcases hw with hw | hw | hw
    · have q := pi_list (tg := tg) (h1 i); rw [F.hK i] at q; exact q.run pins s σ H R I hw
    · have q := pi_tup (tg := tg) (h1 i); rw [F.hK i] at q; exact q.run pins s σ H R I hw
    · exact (pi_str (tg := tg) (h1 i)).run pins s σ H R I hw
  · unfold iAny at p
    cases hf : f ρ with
    | bad => rw [hf] at p; exact p.elim
    | exc c => exact .inl (h2 H0 B ρ σ H _ s (by rw [hf] at p ⊢; exact p))
    | ok d =>
      rw [hf] at p
      have p : Post F σ H _ (ofO (itemsD d)) := p
      cases d with
      | list ds =>
        refine .inl (h2 H0 B ρ σ H _ s ?_)
        rw [hf]
        intro v H1 e r
        cases r with
        | @lst _ a xs _ n1 n2 n3 =>
          refine ⟨a, rfl, ⟨xs, SqL.of n2⟩, p _ _ e fun H' k => ?_⟩
          rw [if_pos rfl] at k
          have n4 : SqL F.K H' a xs := SqL.of (k a _ n2 n1)
          have hO : ∀ p, OwnX τ B ρ σ p → ∃ o, H1 p = some o ∧ MutO o := fun p z => (s.more e).ownMut z
          refine ⟨fun i d hd => ?_, ⟨xs, n4, by rw [n3.length]; exact Nat.le_refl _⟩⟩
          obtain ⟨v, hv, hq⟩ := n3.get hd
          refine ⟨⟨xs, v, n4, hv⟩, ?_⟩
          rintro x H'' ⟨rfl, hx⟩
          have := hx xs n4
          rw [hv] at this
          cases this
          exact ⟨Same.refl _, fun O' ho => Dq.keep hO k hq (fun a z => .inl z) fun a z => (ho a z).imp .inl id⟩
      | tuple ds =>
        refine .inr (.inl (h2 H0 B ρ σ H _ s ?_))
        rw [hf]
        intro v H1 e r
        cases r with
        | @tup _ a xs _ n2 n3 =>
          refine ⟨a, rfl, ⟨xs, n2.sq⟩, p _ _ e fun H' k => ?_⟩
          rw [if_pos rfl] at k
          have hO : ∀ p, OwnX τ B ρ σ p → ∃ o, H1 p = some o ∧ MutO o := fun p z => (s.more e).ownMut z
          have n4 : SqT F.K H' a xs := (tp_keep hO k n2).sq
          refine ⟨fun i d hd => ?_, ⟨xs, n4, by rw [n3.length]; exact Nat.le_refl _⟩⟩
          obtain ⟨v, hv, hq⟩ := n3.get hd
          refine ⟨⟨xs, v, n4, hv⟩, ?_⟩
          rintro x H'' ⟨rfl, hx⟩
          have := hx xs n4
          rw [hv] at this
          cases this
          exact ⟨Same.refl _, fun O' ho => Dq.keep hO k hq (fun a z => z) fun a z => ho a z⟩
      | str z =>
        refine .inr (.inr (h2 H0 B ρ σ H _ s ?_))
        rw [hf]
        intro v H1 e r
        cases r
        exact ⟨z, rfl, p _ _ e (jok_str z)⟩
      | _ => exact p.elim
/-- .. to be read: in a comprehension -/
theorem di_read (h : DnR F τ iter f fl) : DnI F τ tg iter (iAny f) false := by
  obtain ⟨t, h1, h2⟩ := h
  refine ⟨fun σ H R => iList F.K t σ H R ∨ iTup F.K t σ H R ∨ iStr t σ H R, fun i => ⟨fun pins s σ H R I hw => ?_⟩, fun H0 B ρ σ H R s p => ?_⟩
  · rcases hw with hw | hw | hw
    · have q := pi_list (tg := tg) (h1 i); rw [F.hK i] at q; exact q.run pins s σ H R I hw
    · have q := pi_tup (tg := tg) (h1 i); rw [F.hK i] at q; exact q.run pins s σ H R I hw
    · exact (pi_str (tg := tg) (h1 i)).run pins s σ H R I hw
  · unfold iAny at p
    cases hf : f ρ with
    | bad => rw [hf] at p; exact p.elim
    | exc c => exact .inl (h2 H0 B ρ σ H _ s (by rw [hf] at p ⊢; exact p))
    | ok d =>
      rw [hf] at p
      have p : Post F σ H _ (ofO (itemsD d)) := p
      have fin : ∀ {H1 H'' : Hp} {x : V} {d' : D}, Dq F.K H1 (OwnX τ B ρ σ) x d' → Same H1 H'' → ∀ O' : Av, (∀ a, O' a → OwnX τ B ρ σ a ∨ H1 a = none) → SR F.K τ H0 B ρ σ H1 → Dq F.K H'' O' x d' := fun q e O' ho s1 =>
        Dq.keep (fun p z => s1.ownMut z) (Same.keep e) q (fun _ z => z) ho
      cases d with
      | list ds =>
        refine .inl (h2 H0 B ρ σ H _ s ?_)
        rw [hf]
        intro v H1 e r
        obtain ⟨a, xs, rfl, n2, n3⟩ := r.lst
        refine ⟨a, rfl, ⟨xs, SqL.of n2⟩, p _ _ e fun H' k => ?_⟩
        rw [if_neg Bool.false_ne_true] at k
        have n4 : SqL F.K H' a xs := SqL.of (k a _ n2)
        refine ⟨fun i d hd => ?_, ⟨xs, n4, by rw [n3.length]; exact Nat.le_refl _⟩⟩
        obtain ⟨v, hv, hq⟩ := n3.get hd
        refine ⟨⟨xs, v, n4, hv⟩, ?_⟩
        rintro x H'' ⟨rfl, hx⟩
        have := hx xs n4
        rw [hv] at this
        cases this
        exact ⟨Same.refl _, fun O' ho => fin (Dq.mono (Same.refl _) hq (av_own s)) k O' ho (s.more e)⟩
      | tuple ds =>
        refine .inr (.inl (h2 H0 B ρ σ H _ s ?_))
        rw [hf]
        intro v H1 e r
        obtain ⟨a, xs, rfl, n2, n3⟩ := r.tuple
        refine ⟨a, rfl, ⟨xs, n2⟩, p _ _ e fun H' k => ?_⟩
        rw [if_neg Bool.false_ne_true] at k
        have n4 : SqT F.K H' a xs := sameT k n2
        refine ⟨fun i d hd => ?_, ⟨xs, n4, by rw [n3.length]; exact Nat.le_refl _⟩⟩
        obtain ⟨v, hv, hq⟩ := n3.get hd
        refine ⟨⟨xs, v, n4, hv⟩, ?_⟩
        rintro x H'' ⟨rfl, hx⟩
        have := hx xs n4
        rw [hv] at this
        cases this
        exact ⟨Same.refl _, fun O' ho => fin (Dq.mono (Same.refl _) hq (av_own s)) k O' ho (s.more e)⟩
      | str z =>
        refine .inr (.inr (h2 H0 B ρ σ H _ s ?_))
        rw [hf]
        intro v H1 e r
        have hx := r.str
        subst hx
        exact ⟨z, rfl, p _ _ e (jok_str z)⟩
      | _ => exact p.elim
/-! ranges -/
def rangeD (lo : Int) (n : Nat) : List D := (List.range n).map fun (i : Nat) => PyData.int (lo + (i : Int))
def range1D : List D → Option (List D)
  | [.int j] => if -(2 ^ 62) ≤ j ∧ j < 2 ^ 62 then some (rangeD 0 j.toNat) else none
  | _ => none
def range2D : List D → Option (List D)
  | [.int i, .int j] => if -(2 ^ 62) ≤ i ∧ i < 2 ^ 62 ∧ -(2 ^ 62) ≤ j ∧ j < 2 ^ 62 then some (rangeD i (j - i).toNat) else none
  | _ => none
theorem range1D_of {ds xs : List D} (h : range1D ds = some xs) : ∃ j, ds = [.int j] ∧ -(2 ^ 62) ≤ j ∧ j < 2 ^ 62 ∧ xs = rangeD 0 j.toNat := by
  unfold range1D at h
  split at h
  · split at h
    · rename_i hj; cases h; exact ⟨_, rfl, hj.1, hj.2, rfl⟩
    · cases h
  · cases h
theorem range2D_of {ds xs : List D} (h : range2D ds = some xs) : ∃ i j, ds = [.int i, .int j] ∧ (-(2 ^ 62) ≤ i ∧ i < 2 ^ 62 ∧ -(2 ^ 62) ≤ j ∧ j < 2 ^ 62) ∧ xs = rangeD i (j - i).toNat := by
  unfold range2D at h
  split at h
  · split at h
    · rename_i hj; cases h; exact ⟨_, _, rfl, hj, rfl⟩
    · cases h
  · cases h
def iRange1 (gs : Rho → Res (List D)) : Rho → Res (List D) := fun ρ => (gs ρ).bind fun ds => ofO (range1D ds)
def iRange2 (gs : Rho → Res (List D)) : Rho → Res (List D) := fun ρ => (gs ρ).bind fun ds => ofO (range2D ds)
theorem jok_range {K : PySem.W.Frag} {P : Hp → Prop} {O : Av} {H1 : Hp} (lo : Int) (n : Nat) : JOk K (Itr lo n) P O H1 (rangeD lo n) := by
  intro H' _
  have hlen : (rangeD lo n).length = n := by unfold rangeD; rw [List.length_map, List.length_range]
  refine ⟨fun i d e => ?_, by rw [hlen]; exact Nat.le_refl _⟩
  have hi : i < n := by rw [← hlen]; exact (List.getElem?_eq_some_iff.mp e).1
  unfold rangeD at e
  rw [List.getElem?_map, List.getElem?_range hi] at e
  cases e
  refine ⟨hi, ?_⟩
  rintro x H'' ⟨rfl, rfl⟩
  exact ⟨Same.refl _, fun O' _ => .int _⟩
theorem di_range1 {gs : Rho → Res (List D)} (hm : ∀ i, (F.X i).mg "range" = none) (ha : DnA F τ [a] gs fl) (hg : ∀ i, Gl (F.X i) "range" := by intro _; rfl) (hs : ∀ i, starEach [a] (F.X i).env = [(false, eval a (F.X i).env)] := by intro _; rfl) :
    DnI F τ tg (.Call (.Name "range" p) [a] [] pos) (iRange1 gs) true := by
  obtain ⟨t, h1, h2⟩ := ha
  refine ⟨iRng1 t, fun i => pi_range1 (hg i) (hm i) (h1 i) (hs i), fun H0 B ρ σ H R s p => ?_⟩
  refine h2 H0 B ρ σ H _ s (p.bind.to (Same.refl _) fun ds _ q vs H1 e r => ?_)
  cases hr : range1D ds with
  | none => rw [hr] at q; exact q.elim
  | some xs =>
    rw [hr] at q
    obtain ⟨j, rfl, h3, h4, rfl⟩ := range1D_of hr
    cases r with
    | cons r1 r2 => cases r1; cases r2; exact ⟨j, rfl, h3, h4, q _ _ e (jok_range 0 _)⟩
theorem di_range2 {gs : Rho → Res (List D)} (hm : ∀ i, (F.X i).mg "range" = none) (ha : DnA F τ [a, b] gs fl) (hg : ∀ i, Gl (F.X i) "range" := by intro _; rfl)
    (hs : ∀ i, starEach [a, b] (F.X i).env = [(false, eval a (F.X i).env), (false, eval b (F.X i).env)] := by intro _; rfl) (hs2 : ∀ i, starEach [b] (F.X i).env = [(false, eval b (F.X i).env)] := by intro _; rfl) :
    DnI F τ tg (.Call (.Name "range" p) [a, b] [] pos) (iRange2 gs) true := by
  obtain ⟨t, h1, h2⟩ := ha
  refine ⟨iRng2 t, fun i => pi_range2 (hg i) (hm i) (h1 i) (hs i) (hs2 i), fun H0 B ρ σ H R s p => ?_⟩
  refine h2 H0 B ρ σ H _ s (p.bind.to (Same.refl _) fun ds _ q vs H1 e r => ?_)
  cases hr : range2D ds with
  | none => rw [hr] at q; exact q.elim
  | some xs =>
    rw [hr] at q
    obtain ⟨i, j, rfl, h3, rfl⟩ := range2D_of hr
    cases r with
    | cons r1 r2 =>
      cases r1
      cases r2 with
      | cons r3 r4 => cases r3; cases r4; exact ⟨i, j, rfl, h3, q _ _ e (jok_range i _)⟩

/-! ### targets -/
def DnG (F : Fam) (τ : List Kd) (tg : Expr) (h : D → Rho → Option Rho) (ts : List Nat) : Prop := ∃ g : TG, (∀ i, PG (F.X i) tg g) ∧
  ∀ H0 B ρ σ H v d ρ' (Q : St → Hp → Prop), SR F.K τ H0 B ρ σ H → Dq F.K H (OwnX τ B ρ σ) v d → h d ρ = some ρ' →
    (∀ σ', SR F.K τ H0 B ρ' σ' H → (∀ a, OwnX τ B ρ' σ' a ↔ OwnX τ B ρ σ a) → (∀ j, j ∉ ts → σ'[j]? = σ[j]?) → σ'.length = σ.length → Q σ' H) → g v σ H Q
def DnGs (F : Fam) (τ : List Kd) (tgs : List Expr) (h : List D → Rho → Option Rho) (ts : List Nat) : Prop := ∃ g : TGs, (∀ i, PGs (F.X i) tgs g) ∧
  ∀ H0 B ρ σ H vs ds ρ' (Q : St → Hp → Prop), SR F.K τ H0 B ρ σ H → DqL F.K H (OwnX τ B ρ σ) vs ds → h ds ρ = some ρ' →
    (∀ σ', SR F.K τ H0 B ρ' σ' H → (∀ a, OwnX τ B ρ' σ' a ↔ OwnX τ B ρ σ a) → (∀ j, j ∉ ts → σ'[j]? = σ[j]?) → σ'.length = σ.length → Q σ' H) → g vs σ H Q
def gN (i : Nat) : D → Rho → Option Rho := fun d ρ => some (ρ.set i (some d))
def gNils : List D → Rho → Option Rho := fun ds ρ => match ds with
  | [] => some ρ
  | _ => none
def gConss (h : D → Rho → Option Rho) (hs : List D → Rho → Option Rho) : List D → Rho → Option Rho := fun ds ρ => match ds with
  | d :: r => (h d ρ).bind fun ρ' => hs r ρ'
  | [] => none
def gT (n : Nat) (hs : List D → Rho → Option Rho) : D → Rho → Option Rho := fun d ρ => match d with
  | .tuple ds => if ds.length = n then hs ds ρ else none
  | _ => none
theorem dg_name (i : Nat) {x : Str} (hk : kd τ i = .sh := by rfl) (hi : ∀ j, (F.X j).N[i]? = some x := by intro _; rfl) (hx : ∀ j, Loc (F.X j).env.scope x := by intro _; first | exact .inl rfl | exact .inr rfl)
    (hf : ∀ j, (F.X j).fn x = true ∨ (F.X j).env.scope.names.lookup x = some .local := by intro _; first | exact .inl rfl | exact .inr rfl) : DnG F τ (.Name x pos) (gN i) [i] := by
  refine ⟨gName i, fun j => pg_name (F.nd j) (hi j) (hx j) (hf j), fun H0 B ρ σ H v d ρ' Q s r e k => ?_⟩
  cases e
  have hn : (kd τ i).isOwn = false := by rw [hk]; rfl
  refine k _ (s.put hn (Same.refl _) (by rw [hk]; exact r)) (fun a => ownX_put hn a) (fun j hj => ?_) (List.length_set ..)
  rw [List.getElem?_set_ne (fun z => hj (by rw [z]; exact List.mem_singleton.mpr rfl))]
theorem dgs_nil : DnGs F τ [] gNils [] := by
  refine ⟨gNil, fun j => pgs_nil, fun H0 B ρ σ H vs ds ρ' Q s r e k => ?_⟩
  cases r with
  | nil => cases e; exact ⟨rfl, k σ s (fun _ => Iff.rfl) (fun _ _ => rfl) rfl⟩
  | cons _ _ => cases e
theorem dgs_cons {tgs : List Expr} {h : D → Rho → Option Rho} {hs : List D → Rho → Option Rho} {ts us : List Nat} (h1 : DnG F τ tg h ts) (h2 : DnGs F τ tgs hs us)
    (hq : ∀ i, (assignEach (tg :: tgs) (F.X i).env).map (·.2) = assign tg (F.X i).env :: (assignEach tgs (F.X i).env).map (·.2) := by intro _; rfl) : DnGs F τ (tg :: tgs) (gConss h hs) (ts ++ us) := by
  obtain ⟨g, a1, a2⟩ := h1
  obtain ⟨gs, b1, b2⟩ := h2
  refine ⟨gCons g gs, fun j => pgs_cons (a1 j) (b1 j) (hq j), fun H0 B ρ σ H vs ds ρ' Q s r e k => ?_⟩
  cases r with
  | nil => cases e
  | @cons _ v vs d ds r1 r2 =>
    have e : (h d ρ).bind (fun ρ' => hs ds ρ') = some ρ' := e
    cases hd : h d ρ with
    | none => rw [hd] at e; cases e
    | some ρ1 =>
      rw [hd] at e
      refine ⟨v, vs, rfl, a2 H0 B ρ σ H v d ρ1 _ s r1 hd fun σ1 s1 o1 k1 l1 => ?_⟩
      refine b2 H0 B ρ1 σ1 H vs ds ρ' Q s1 (DqL.mono (Same.refl _) r2 fun a z => (o1 a).mp z) e fun σ2 s2 o2 k2 l2 => ?_
      refine k σ2 s2 (fun a => (o2 a).trans (o1 a)) (fun j hj => ?_) (l2.trans l1)
      rw [List.mem_append, not_or] at hj
      rw [k2 j hj.2, k1 j hj.1]
theorem dg_tup {tgs : List Expr} {kk : Nat} {hs : List D → Rho → Option Rho} {ts : List Nat} (n : Nat) (h : DnGs F τ tgs hs ts) (hn : ∀ i, (assignEach tgs (F.X i).env).length = n := by intro _; rfl)
    (hst : ∀ i, (assignEach tgs (F.X i).env).findIdx? (·.1) = none := by intro _; rfl) (hot0 : F.hot = false := by rfl) : DnG F τ (.Tuple tgs kk pos) (gT n hs) ts := by
  obtain ⟨g, a1, a2⟩ := h
  refine ⟨gTup F.K n g, fun j => by have q := pg_tup (pos := pos) (k := kk) (F.calm hot0 j) (a1 j) (hn j) (hst j); rw [F.hK j] at q; exact q, fun H0 B ρ σ H v d ρ' Q s r e k => ?_⟩
  cases d with
  | tuple ds =>
    have e : (if ds.length = n then hs ds ρ else none) = some ρ' := e
    split at e
    · rename_i hl
      cases r with
      | @tup _ a xs _ h1 h2 => exact ⟨a, xs, rfl, h1.sq, by rw [h2.length]; exact hl, a2 H0 B ρ σ H xs ds ρ' Q s h2 e k⟩
    · cases e
  | _ => cases e

/-! ### for -/
def loopD (h : D → Rho → Option Rho) (gb : Rho → Out) : List D → Rho → Out
  | [], ρ => .next ρ
  | d :: ds, ρ => match h d ρ with
    | none => .bad
    | some ρ1 => match gb ρ1 with
      | .next ρ2 => loopD h gb ds ρ2
      | .cont ρ2 => loopD h gb ds ρ2
      | .brk ρ2 => .next ρ2
      | o => o
def sFor (fi : Rho → Res (List D)) (h : D → Rho → Option Rho) (gb : Rho → Out) : Rho → Out := fun ρ => outOf (fi ρ) fun ds => loopD h gb ds ρ
theorem ds_for {rf : Bool} {h : D → Rho → Option Rho} {ts : List Nat} {sb : List Stmt} {gb : Rho → Out} (hi : DnI F τ tg iter fi true) (hg : DnG F τ tg h ts) (hb : DnB F τ τ rf sb gb)
    (hs : ∀ i x, foldedSetIterable iter (F.X i).env x = pure x := by intro _ _; rfl) (hot0 : F.hot = false := by rfl) : DnS F τ τ rf (.For tg iter sb [] pos) (sFor fi h gb) := by
  obtain ⟨wi, i1, i2⟩ := hi
  obtain ⟨g, g1, g2⟩ := hg
  obtain ⟨tb, b1, b2⟩ := hb
  refine ⟨tFor wi g tb, fun j => ps_for (F.po j) (F.calm hot0 j) (i1 j) (g1 j) (b1 j) (hs j), fun H0 B ρ σ H E s p => ?_⟩
  refine i2 H0 B ρ σ H _ s ((PostS.out s.ext p).to (Same.refl _) fun ds _ p1 J H1 e1 j1 => ?_)
  rw [if_pos rfl] at j1
  refine ⟨fun i m σ' H' => m = ds.length - i ∧ i ≤ ds.length ∧ ∃ ρ', SR F.K τ H0 B ρ' σ' H' ∧ Kp (OwnX τ B ρ σ) H1 (OwnX τ B ρ' σ') H' ∧ PostS F τ H0 B H' (OwnX τ B ρ' σ') rf E (loopD h gb (ds.drop i) ρ'),
    ⟨ds.length, by simp, Nat.zero_le _, ρ, s.more e1, Kp.refl, p1.later (Kp.same e1)⟩, ?_⟩
  rintro i m σ2 H2 ⟨rfl, hi, ρ2, s2, k2, p2⟩
  obtain ⟨go, stop⟩ := j1 H2 k2.1
  by_cases hlt : i < ds.length
  · have hd : ds[i]? = some ds[i] := List.getElem?_eq_getElem hlt
    obtain ⟨g0, gy⟩ := go i _ hd
    refine .inr ⟨g0, fun σ' H' => ∃ ρ', SR F.K τ H0 B ρ' σ' H' ∧ Kp (OwnX τ B ρ σ) H1 (OwnX τ B ρ' σ') H' ∧ PostS F τ H0 B H' (OwnX τ B ρ' σ') rf E (loopD h gb (ds.drop (i + 1)) ρ'),
      fun σ' H' ⟨ρ', a, b, c⟩ => ⟨ds.length - (i + 1), by omega, rfl, hlt, ρ', a, b, c⟩, fun x H3 y => ?_⟩
    obtain ⟨e3, q3⟩ := gy x H3 y
    rw [List.drop_eq_getElem_cons hlt] at p2
    unfold loopD at p2
    cases hh : h ds[i] ρ2 with
    | none => rw [hh] at p2; exact p2.elim
    | some ρ3 =>
      rw [hh] at p2
      dsimp only at p2
      refine g2 H0 B ρ2 σ2 H3 x _ ρ3 _ (s2.more e3) (q3 _ fun a z => k2.2 a z) hh fun σ3 s3 o3 _ _ => ?_
      refine b2 H0 B ρ3 σ3 H3 _ s3 ?_
      have k3 : Kp (OwnX τ B ρ2 σ2) H2 (OwnX τ B ρ3 σ3) H3 := (Kp.same e3).trans (Kp.sub fun a z => (o3 a).mp z)
      cases q : gb ρ3 with
      | next ρ4 => rw [q] at p2; exact fun σ4 H4 s4 k4 => ⟨ρ4, s4, (k2.trans k3).trans k4, (p2.later k3).later k4⟩
      | cont ρ4 => rw [q] at p2; exact fun σ4 H4 s4 k4 => ⟨ρ4, s4, (k2.trans k3).trans k4, (p2.later k3).later k4⟩
      | brk ρ4 => rw [q] at p2; exact fun σ4 H4 s4 k4 => p2 σ4 H4 s4 (k3.trans k4)
      | ret d => rw [q] at p2; exact p2
      | exc c => rw [q] at p2; exact p2
      | bad => rw [q] at p2; exact p2
  · have e : i = ds.length := by omega
    subst e
    rw [List.drop_length] at p2
    exact .inl ⟨stop, p2 σ2 H2 s2 Kp.refl⟩
end
end Dn
set_option Elab.async false
set_option linter.all false
set_option maxRecDepth 100000
namespace Dn
open PySem L2
/-! ### list comprehensions -/
def Fam.blk (F : Fam) (scope : Scope) : Fam where
  ι := F.ι × Shared × Hp × Addr × List (Str × Addr) × List Addr
  X := fun i => (F.X i.1).blk i.2.1 i.2.2.1 scope (compEnvC scope i.2.2.2.2.1 i.2.2.2.1 (F.X i.1).env) i.2.2.2.2.2
  K := F.K
  W := fun _ _ _ _ => False
  Xc := F.Xc
  k := F.k
  hK := fun i => F.hK i.1
  tk := fun i => takes0
  hot := F.hot
  un := fun i => F.un i.1
  room := fun h i => F.room h i.1
  calm := fun h i => F.calm h i.1
  nd := fun i => F.nd i.1
  po := fun i => PassesOwn.never
def wipeR (ρ : Rho) : List Nat → Rho
  | [] => ρ
  | v :: vs => (wipeR ρ vs).set v none
theorem wipe_get {σ : St} {j : Nat} : ∀ {vs : List Nat}, j ∉ vs → (wipe σ vs)[j]? = σ[j]?
  | [], _ => rfl
  | v :: vs, h => by
    rw [List.mem_cons, not_or] at h
    unfold wipe
    rw [List.getElem?_set_ne (Ne.symm h.1)]
    exact wipe_get h.2
theorem wipe_at {σ : St} {j : Nat} : ∀ {vs : List Nat}, j ∈ vs → (wipe σ vs)[j]? = if j < σ.length then some none else none
  | [], h => by cases h
  | v :: vs, h => by
    unfold wipe
    by_cases e : v = j
    · subst e
      rw [List.getElem?_set_self', ← wipe_length σ vs]
      by_cases hl : v < (wipe σ vs).length
      · rw [if_pos hl, List.getElem?_eq_getElem hl]; rfl
      · rw [if_neg hl, List.getElem?_eq_none (by omega)]; rfl
    · rw [List.getElem?_set_ne e]
      rcases List.mem_cons.mp h with h | h
      · exact absurd h.symm e
      · exact wipe_at h
theorem wipe_eq {σ σ' : St} {vs : List Nat} (hl : σ'.length = σ.length) (h : ∀ j, j ∉ vs → σ'[j]? = σ[j]?) : wipe σ' vs = wipe σ vs := by
  apply List.ext_getElem?
  intro j
  by_cases hj : j ∈ vs
  · rw [wipe_at hj, wipe_at hj, hl]
  · rw [wipe_get hj, wipe_get hj, h j hj]
theorem wipe_wipe (σ : St) (vs : List Nat) : wipe (wipe σ vs) vs = wipe σ vs := wipe_eq (wipe_length σ vs) fun j hj => wipe_get hj
theorem wipeR_get {ρ : Rho} {j : Nat} : ∀ {vs : List Nat}, j ∉ vs → (wipeR ρ vs)[j]? = ρ[j]?
  | [], _ => rfl
  | v :: vs, h => by
    rw [List.mem_cons, not_or] at h
    unfold wipeR
    rw [List.getElem?_set_ne (Ne.symm h.1)]
    exact wipeR_get h.2
theorem wipeR_some {ρ : Rho} {j : Nat} {d : D} : ∀ {vs : List Nat}, (wipeR ρ vs)[j]? = some (some d) → j ∉ vs ∧ ρ[j]? = some (some d)
  | [], h => ⟨by simp, h⟩
  | v :: vs, h => by
    unfold wipeR at h
    rcases getset h with ⟨_, e, _⟩ | ⟨ne, h'⟩
    · cases e
    · obtain ⟨h1, h2⟩ := wipeR_some h'
      exact ⟨by rw [List.mem_cons, not_or]; exact ⟨Ne.symm ne, h1⟩, h2⟩
theorem wipeR_length (ρ : Rho) : ∀ vs : List Nat, (wipeR ρ vs).length = ρ.length
  | [] => rfl
  | v :: vs => by unfold wipeR; rw [List.length_set, wipeR_length ρ vs]
section
variable {K : PySem.W.Frag} {H H' H1 H0 : Hp} {τ : List Kd} {B : Av} {ρ : Rho} {σ : St}
theorem own_by {τ : List Kd} {vs : List Nat} (h : (vs.all fun j => !(kd τ j).isOwn) = true) : ∀ j ∈ vs, (kd τ j).isOwn = false := fun j hj => by
  have := List.all_eq_true.mp h j hj
  simpa using this
theorem own_wipe {vs : List Nat} (hv : ∀ j ∈ vs, (kd τ j).isOwn = false) (j : Nat) (p : Addr) : OwnAt τ (wipeR ρ vs) (wipe σ vs) j p ↔ OwnAt τ ρ σ j p := by
  by_cases h : j ∈ vs
  · constructor <;> (rintro ⟨a, _⟩; rw [hv j h] at a; cases a)
  · unfold OwnAt
    rw [wipeR_get h, wipe_get h]
theorem ownX_wipe {vs : List Nat} (hv : ∀ j ∈ vs, (kd τ j).isOwn = false) (p : Addr) : OwnX τ B (wipeR ρ vs) (wipe σ vs) p ↔ OwnX τ B ρ σ p :=
  or_congr_left ⟨fun ⟨j, h⟩ => ⟨j, (own_wipe hv j p).mp h⟩, fun ⟨j, h⟩ => ⟨j, (own_wipe hv j p).mpr h⟩⟩
theorem SR.wipe (s : SR K τ H0 B ρ σ H) {vs : List Nat} (hv : ∀ j ∈ vs, (kd τ j).isOwn = false) : SR K τ H0 B (wipeR ρ vs) (L2.wipe σ vs) H := by
  refine ⟨by rw [wipe_length, wipeR_length]; exact s.len, s.ext, fun j d h => ?_, fun a b p h1 h2 => s.dis a b p ((own_wipe hv a p).mp h1) ((own_wipe hv b p).mp h2), s.bdm, fun p h ⟨j, z⟩ => s.bno p h ⟨j, (own_wipe hv j p).mp z⟩, s.tbs⟩
  obtain ⟨h1, h2⟩ := wipeR_some h
  obtain ⟨v, h3, h4⟩ := s.ok j d h2
  exact ⟨v, by rw [wipe_get h1]; exact h3, h4.ext (Same.refl _) fun p z => (ownX_wipe hv p).mp z⟩
/-- a new list set apart -/
theorem SR.apart (s : SR K τ H0 B ρ σ H1) {p : Addr} {acc : List V} (hp : H1 p = none) (e : Same H1 H') (hl : H' p = some (.lst acc)) : SR K τ H0 (fun a => B a ∨ a = p) ρ σ H' := by
  have h0 : H0 p = none := s.ext.free hp
  refine ⟨s.len, s.ext.trans e, fun j d h => ?_, s.dis, fun q h => ?_, fun q h z => ?_, fun P q t => e.tab P q (s.tbs P q t)⟩
  · obtain ⟨v, h3, h4⟩ := s.ok j d h
    refine ⟨v, h3, (h4.fresh hp).ext e fun a z => ?_⟩
    rcases z with z | z | z
    · exact .inl (.inl z)
    · exact .inl (.inr z)
    · exact .inr z
  · rcases h with h | h
    · obtain ⟨o, q1, q2⟩ := s.bdm q h
      exact ⟨o, e.get _ _ q1 (MutO.n q2), q2⟩
    · subst h; exact ⟨_, hl, trivial⟩
  · rcases h with h | h
    · exact s.bno q h z
    · subst h; exact absurd hp (s.own_dom q (.inl z))
end
def noX {α : Type} : Res α → Res α
  | .ok a => .ok a
  | _ => .bad
def compD (h : D → Rho → Option Rho) (ft : Rho → Res Bool) (fe : Rho → Res D) (ρ : Rho) : List D → Res (List D)
  | [] => .ok []
  | d :: ds => (ofO (h d ρ)).bind fun ρ1 => (ft ρ1).bind fun b => if b = true then (fe ρ1).bind fun y => (compD h ft fe ρ ds).bind fun ys => .ok (y :: ys) else compD h ft fe ρ ds
def eComp (fi : Rho → Res (List D)) (h : D → Rho → Option Rho) (ft : Rho → Res Bool) (fe : Rho → Res D) (vs : List Nat) : Rho → Res D := fun ρ =>
  (fi ρ).bind fun ds => (noX (compD h ft fe (wipeR ρ vs) ds)).bind fun ys => if fits ys = true then .ok (.list ys) else .bad
/-- a comprehension's tests -/
def DnTs (F : Fam) (τ : List Kd) (ifs : List Expr) (f : Rho → Res Bool) : Prop := ∃ t : TT, (∀ i, PTs (F.X i) ifs t) ∧
  ∀ H0 B ρ σ H (Q : Bool → Hp → Prop), SR F.K τ H0 B ρ σ H → Post F σ H (fun b => ∀ H', Same H H' → Q b H') (f ρ) → t σ H Q
section
variable {F : Fam} {τ : List Kd} {tg iter elt e : Expr} {ifs : List Expr} {scope : Scope} {own : List (Str × Nat)} {f fe : Rho → Res D} {ft : Rho → Res Bool} {fi : Rho → Res (List D)} {fl : Fl} {pos : Pos} {h : D → Rho → Option Rho} {ts : List Nat}
theorem dts_nil : DnTs F τ [] (fun _ => .ok true) := ⟨tYes, fun _ => pts_nil, fun H0 B ρ σ H Q s p => p H (Same.refl _)⟩
theorem dts_one {g : Rho → Res Bool} (h : DnT F τ e g) : DnTs F τ [e] g := let ⟨t, h1, h2⟩ := h; ⟨t, fun i => pts_one (h1 i), h2⟩
/-- a comprehension: as an expression, and as what a name is set to in one line -/
def DnLc (F : Fam) (τ : List Kd) (e : Expr) (f : Rho → Res D) (fl : Fl) : Prop := ∃ t, (∀ i, PE (F.X i) e t) ∧
  (∀ i (k : Nat) (y : Str) (py spos : Pos), (F.X i).N[k]? = some y → (F.X i).env.scope.names.lookup y = some .local → swapsWith e (some (.Name y py)) spos.line (F.X i).env = pure true → PS (F.X i) (.Assign [.Name y py] e spos) (tAsg t (gName k))) ∧ SemG (Dq F.K) F τ t f fl
theorem DnLc.de (h : DnLc F τ e f fl) : DnE F τ e f fl := let ⟨t, h1, _, h3⟩ := h; ⟨t, h1, h3⟩
theorem lc_sem {wi : TI} {g : TG} {tt : TT} {te : TE} {vs : List Nat} (hv : ∀ j ∈ vs, (kd τ j).isOwn = false) (hts : ∀ j ∈ ts, j ∈ vs)
    (i2 : ∀ H0 B ρ σ H (R : It → Hp → Prop), SR F.K τ H0 B ρ σ H → Post F σ H (fun ds => ∀ J H1, Same H H1 → JOk F.K J (Same H1) (OwnX τ B ρ σ) H1 ds → R J H1) (fi ρ) → wi σ H R)
    (g2 : ∀ H0 B ρ σ H v d ρ' (Q : St → Hp → Prop), SR F.K τ H0 B ρ σ H → Dq F.K H (OwnX τ B ρ σ) v d → h d ρ = some ρ' →
      (∀ σ', SR F.K τ H0 B ρ' σ' H → (∀ a, OwnX τ B ρ' σ' a ↔ OwnX τ B ρ σ a) → (∀ j, j ∉ ts → σ'[j]? = σ[j]?) → σ'.length = σ.length → Q σ' H) → g v σ H Q)
    (t2 : ∀ H0 B ρ σ H (Q : Bool → Hp → Prop), SR F.K τ H0 B ρ σ H → Post (F.blk scope) σ H (fun b => ∀ H', Same H H' → Q b H') (ft ρ) → tt σ H Q)
    (e2 : SemG (Dq F.K) (F.blk scope) τ te fe fl) : SemG (Dq F.K) F τ (tLc wi g tt te vs) (eComp fi h ft fe vs) fl := by
  intro H0 B ρ σ H Q s p
  refine i2 H0 B ρ σ H _ s (p.bind.to (Same.refl _) fun ds _ p1 J H1 e1 j1 => ?_)
  intro Dl hD
  cases hc : compD h ft fe (wipeR ρ vs) ds with
  | bad => rw [hc] at p1; exact p1.elim
  | exc c => rw [hc] at p1; exact p1.elim
  | ok all =>
    rw [hc] at p1
    have p1 : Post F σ H _ (if fits all = true then Res.ok (PyData.list all) else .bad) := p1
    by_cases hf : fits all = true
    rotate_left
    · rw [if_neg hf] at p1; exact p1.elim
    rw [if_pos hf] at p1
    have hfit : all.length ≤ sizeLine := of_decide_eq_true hf
    have s1 := s.more e1
    refine ⟨fun i m H' => m = ds.length - i ∧ i ≤ ds.length ∧ Same H1 H' ∧ ∃ acc ys rest, ys ++ rest = all ∧ compD h ft fe (wipeR ρ vs) (ds.drop i) = .ok rest ∧ H' Dl = some (.lst acc) ∧ DqL F.K H' (fun a => av fl H0 H (OwnX τ B ρ σ) a ∨ a = Dl) acc ys,
      ⟨ds.length, by simp, Nat.zero_le _, dom_upd hD, [], [], all, rfl, hc, upd_same, .nil⟩, ?_⟩
    rintro i m H2 ⟨rfl, hi, e2', acc, ys, rest, hall, hrest, hacc, hq⟩
    obtain ⟨go, stop⟩ := j1 H2 e2'
    by_cases hlt : i < ds.length
    · have hd : ds[i]? = some ds[i] := List.getElem?_eq_getElem hlt
      obtain ⟨g0, gy⟩ := go i _ hd
      rw [List.drop_eq_getElem_cons hlt] at hrest
      unfold compD at hrest
      obtain ⟨ρ1, hh, hrest⟩ := Res.bind_ok hrest
      obtain ⟨b, hb, hrest⟩ := Res.bind_ok hrest
      have hh : h ds[i] (wipeR ρ vs) = some ρ1 := by
        cases q : h ds[i] (wipeR ρ vs) with
        | none => rw [q] at hh; cases hh
        | some r => rw [q] at hh; cases hh; rfl
      refine .inr ⟨g0, fun H' => Same H1 H' ∧ ∃ acc ys rest, ys ++ rest = all ∧ compD h ft fe (wipeR ρ vs) (ds.drop (i + 1)) = .ok rest ∧ H' Dl = some (.lst acc) ∧ DqL F.K H' (fun a => av fl H0 H (OwnX τ B ρ σ) a ∨ a = Dl) acc ys,
        fun H' q => ⟨ds.length - (i + 1), by omega, rfl, hlt, q⟩, fun x H3 y => ?_⟩
      obtain ⟨e3, q3⟩ := gy x H3 y
      have e13 : Same H1 H3 := e2'.trans e3
      have sB : SR F.K τ H0 (fun a => B a ∨ a = Dl) (wipeR ρ vs) (L2.wipe σ vs) H3 := (s1.apart hD e13 (e3 _ _ hacc)).wipe hv
      have oB : ∀ a, OwnX τ (fun a => B a ∨ a = Dl) (wipeR ρ vs) (L2.wipe σ vs) a ↔ (OwnX τ B ρ σ a ∨ a = Dl) := fun a =>
        (ownX_wipe hv a).trans ⟨fun z => by rcases z with z | z | z; exact .inl (.inl z); exact .inl (.inr z); exact .inr z, fun z => by rcases z with (z | z) | z; exact .inl z; exact .inr (.inl z); exact .inr (.inr z)⟩
      refine g2 H0 _ (wipeR ρ vs) (L2.wipe σ vs) H3 x _ ρ1 _ sB (q3 _ fun a z => ((oB a).mp z).imp id fun z => by rw [z]; exact hD) hh fun σ3 s3 o3 k3 l3 => ?_
      refine ⟨?_, ?_⟩
      · rw [wipe_eq (σ := L2.wipe σ vs) l3 fun j hj => k3 j fun z => hj (hts j z), wipe_wipe]
      refine t2 H0 _ ρ1 σ3 H3 _ s3 ?_
      rw [hb]
      intro H4 e4
      cases b with
      | false =>
        rw [if_neg Bool.false_ne_true] at hrest ⊢
        have e24 := e3.trans e4
        exact ⟨e2'.trans e24, acc, ys, rest, hall, hrest, e24 _ _ hacc, DqL.mono e24 hq fun _ z => z⟩
      | true =>
        rw [if_pos rfl] at hrest ⊢
        obtain ⟨yd, hy, hrest⟩ := Res.bind_ok hrest
        obtain ⟨rs, hrs, hrest⟩ := Res.bind_ok hrest
        cases hrest
        refine e2 H0 _ ρ1 σ3 H4 _ (s3.more e4) ?_
        rw [hy]
        intro y H5 e5 r5
        have e25 := (e3.trans e4).trans e5
        have hacc5 : H5 Dl = some (.lst acc) := e25 _ _ hacc
        have hav : ∀ a, (av fl H0 H (OwnX τ B ρ σ) a ∨ a = Dl) → av fl H0 H4 (OwnX τ (fun a => B a ∨ a = Dl) ρ1 σ3) a := by
          intro a z
          have own : (OwnX τ B ρ σ a ∨ a = Dl) → OwnX τ (fun a => B a ∨ a = Dl) ρ1 σ3 a := fun z => (o3 a).mpr ((oB a).mpr z)
          cases fl with
          | z => exact own z
          | e =>
            rcases z with (z | z) | z
            · exact .inl (own (.inl z))
            · exact .inr z
            · exact .inl (own (.inr z))
          | s =>
            rcases z with z | z
            · exact dom_mono ((e1.trans e2').trans (e3.trans e4)) a z
            · subst z
              intro q
              rw [(e3.trans e4) _ _ hacc] at q; cases q
        have hq5 := DqL.mono e25 hq (O' := fun a => av fl H0 H (OwnX τ B ρ σ) a ∨ a = Dl) fun _ z => z
        have r5' : Dq F.K H5 (fun a => av fl H0 H (OwnX τ B ρ σ) a ∨ a = Dl) y yd := Dq.mono (Same.refl _) r5 hav
        refine ⟨acc, hacc5, ?_, ?_, acc ++ [y], ys ++ [yd], rs, by rw [List.append_assoc]; exact hall, hrs, upd_same, ?_⟩
        · rw [hq.length]
          have : all.length = ys.length + (rs.length + 1) := by rw [← hall, List.length_append, List.length_cons]
          omega
        · exact (e2'.trans e25).updM hD hacc5 trivial
        · exact DqL.upd hacc5 trivial (.inr rfl) (hq5.append (.cons r5' .nil))
    · have e : i = ds.length := by omega
      subst e
      rw [List.drop_length] at hrest
      cases hrest
      rw [List.append_nil] at hall
      subst hall
      refine .inl ⟨stop, p1 _ _ (e1.trans e2') ?_⟩
      exact .lst (fun z => dom_mono e1 Dl (av_dom s Dl z) hD) hacc hq
theorem dn_lc (hi : DnI F τ tg iter fi false) (hg : DnG (F.blk scope) τ tg h ts) (ht : DnTs (F.blk scope) τ ifs ft) (he : DnE (F.blk scope) τ elt fe fl)
    (ok : ∀ i, BlkOk (F.X i).N (F.X i).env.scope scope own) (hv : ∀ j ∈ own.map (·.2), (kd τ j).isOwn = false := by first | decide | exact own_by (by kernel_rfl)) (hts : ∀ j ∈ ts, j ∈ own.map (·.2) := by decide)
    (hs : ∀ i x, foldedSetIterable iter (F.X i).env x = pure x := by intro _ _; rfl) (hot0 : F.hot = false := by rfl) : DnLc F τ (.ListComp elt [⟨tg, iter, ifs, 0⟩] scope pos) (eComp fi h ft fe (own.map (·.2))) fl := by
  obtain ⟨wi, i1, i2⟩ := hi
  obtain ⟨g, g1, g2⟩ := hg
  obtain ⟨tt, t1, t2⟩ := ht
  obtain ⟨te, e1, e2⟩ := he
  refine ⟨tLc wi g tt te (own.map (·.2)), fun i => pe_lc (F.calm hot0 i) (F.nd i) (i1 i) (ok i) (fun s H C cl fp => g1 (i, s, H, C, cl, fp)) (fun s H C cl fp => t1 (i, s, H, C, cl, fp)) (fun s H C cl fp => e1 (i, s, H, C, cl, fp)) (hs i),
    fun i k y py spos hy hyl hsw => ps_setLc (F.calm hot0 i) (F.nd i) hy hyl hsw (i1 i) (ok i) (fun s H C cl fp => g1 (i, s, H, C, cl, fp)) (fun s H C cl fp => t1 (i, s, H, C, cl, fp)) (fun s H C cl fp => e1 (i, s, H, C, cl, fp)) (hs i), ?_⟩
  exact lc_sem (scope := scope) hv hts (fun H0 B ρ σ H R s p => i2 H0 B ρ σ H R s (by simpa using p)) g2 t2 e2
/-- name = [..] in one line -/
theorem ds_asgLc (i : Nat) {rf : Bool} {x : Str} {py spos : Pos} (h : DnLc F τ e f fl) (hk : kd τ i = .sh ∨ (kd τ i = .she ∧ fl ≠ .z) := by first | exact .inl rfl | exact .inr ⟨rfl, by decide⟩) (hi : ∀ j, (F.X j).N[i]? = some x := by intro _; rfl)
    (hx : ∀ j, (F.X j).env.scope.names.lookup x = some .local := by intro _; rfl) (hs : ∀ j, swapsWith e (some (.Name x py)) spos.line (F.X j).env = pure true := by intro _; exact sw_true rfl rfl rfl (by decide +kernel)) : DnS F τ τ rf (.Assign [.Name x py] e spos) (sAsg i f) := by
  obtain ⟨t, _, h1, h2⟩ := h
  exact ⟨_, fun j => h1 j i x py spos (hi j) (hx j) (hs j), asg_sem h2 hk⟩
theorem ds_asgLcO (i : Nat) {rf : Bool} {x : Str} {py spos : Pos} (h : DnLc F τ e f .s) (hk : (kd τ i).isOwn = true := by rfl) (hi : ∀ j, (F.X j).N[i]? = some x := by intro _; rfl)
    (hx : ∀ j, (F.X j).env.scope.names.lookup x = some .local := by intro _; rfl) (hs : ∀ j, swapsWith e (some (.Name x py)) spos.line (F.X j).env = pure true := by intro _; exact sw_true rfl rfl rfl (by decide +kernel)) : DnS F τ τ rf (.Assign [.Name x py] e spos) (sAsgO i f) := by
  obtain ⟨t, _, h1, h2⟩ := h
  exact ⟨_, fun j => h1 j i x py spos (hi j) (hx j) (hs j), asgO_sem h2 hk⟩
end
end Dn
set_option Elab.async false
set_option linter.all false
set_option maxRecDepth 100000
namespace Dn
open PySem L2
/-! ### defs -/
/-- an argument by the parameter's kind -/
def ArgOk (K : PySem.W.Frag) (H : Hp) (O : Av) (k : Kd) (v : V) (d : D) : Prop := match k with
  | .scr => ∃ a xs ds, v = .ref a ∧ d = .list ds ∧ ScrL K H O a xs ∧ DqL K H O xs ds
  | .rf a c => v = .ref a ∧ d = .int c
  | _ => Dq K H O v d
inductive Args (K : PySem.W.Frag) (H : Hp) (O : Av) : List Kd → List V → List D → Prop
  | nil : Args K H O [] [] []
  | cons {k : Kd} {κ : List Kd} {v : V} {vs : List V} {d : D} {ds : List D} : ArgOk K H O k v d → Args K H O κ vs ds → Args K H O (k :: κ) (v :: vs) (d :: ds)
/-- the promise of a def that is the function f over data -/
def spD (K : PySem.W.Frag) (Xc : Nat → Addr) (κ : List Kd) (fr : Bool) (f : List D → Res D) : Sp := fun vs H Q E => ∃ (ds : List D) (O : Av), (∀ p, O p → ∃ o, H p = some o ∧ MutO o) ∧ Args K H O κ vs ds ∧
  match f ds with
  | .ok d => ∀ v H', Same H H' → Dq K H' (if fr = true then dom H else O) v d → Q v H'
  | .exc c => ∀ H', Same H H' → E (.ref (Xc c)) none H'
  | .bad => False
theorem Args.len {K : PySem.W.Frag} {H : Hp} {O : Av} {κ : List Kd} {vs : List V} {ds : List D} (h : Args K H O κ vs ds) : vs.length = κ.length ∧ ds.length = κ.length := by
  induction h with
  | nil => exact ⟨rfl, rfl⟩
  | cons _ _ ih => simp only [List.length_cons]; exact ⟨by rw [ih.1], by rw [ih.2]⟩
theorem Args.get {K : PySem.W.Frag} {H : Hp} {O : Av} {κ : List Kd} {vs : List V} {ds : List D} (h : Args K H O κ vs ds) : ∀ {i : Nat} {d : D}, ds[i]? = some d → ∃ v k, vs[i]? = some v ∧ κ[i]? = some k ∧ ArgOk K H O k v d := by
  induction h with
  | nil => intro i d e; simp at e
  | cons h _ ih =>
    intro i d e
    cases i with
    | zero => simp at e; subst e; exact ⟨_, _, rfl, rfl, h⟩
    | succ i =>
      obtain ⟨v, k, h1, h2, h3⟩ := ih (i := i) (d := d) (by simpa using e)
      exact ⟨v, k, by simpa using h1, by simpa using h2, h3⟩
/-- a def's result from what its body comes to -/
def resOf : Out → Res D
  | .ret d => .ok d
  | .next _ => .ok .none
  | .exc c => .exc c
  | _ => .bad
/-- n: how many slots -/
def fnD (n : Nat) (g : Rho → Out) : List D → Res D := fun ds => resOf (g (ds.map some ++ List.replicate (n - ds.length) none))
/-- a def's family -/
def famOf (P : Program) (w : World) (K : PySem.W.Frag) (mg : Str → Option Value) (base : Heap) (N : List Str) (qual : Str) (scope : Scope) (f : Addr) (cdv : Value) (A : Around) (outer : List Env) (s : Shared) (H : Hp) (E : XK) (Xc : Nat → Addr) (k : Nat)
    (hr : Room k (A.deeper (PyProof.Rows.envOfC qual scope s.heap.objs.size f cdv))) (nd : N.Nodup) : Fam where
  ι := Unit
  X := fun _ => cxOf (L2.CX P w) P w K mg base N qual scope f cdv A outer s H E
  K := K
  W := fun cls d _ H => E cls d H
  Xc := Xc
  k := k
  hK := fun _ => rfl
  tk := fun _ => takes_of rfl rfl rfl rfl
  hot := false
  un := fun _ => hr.un
  room := fun _ _ => hr
  calm := fun _ _ => rfl
  nd := fun _ => nd
  po := fun _ => passes_of rfl
theorem start_get {N : List Str} {vs : List V} {i : Nat} {v : V} (h : vs[i]? = some v) : (L2.start N vs)[i]? = some (some v) := by
  unfold L2.start
  have hl := (List.getElem?_eq_some_iff.mp h).1
  rw [List.getElem?_append_left (by rw [List.length_map]; exact hl), List.getElem?_map, h]
  rfl
theorem entry_sr {K : PySem.W.Frag} {H : Hp} {O : Av} {κ τ : List Kd} {N : List Str} {vs : List V} {ds : List D} (hO : ∀ p, O p → ∃ o, H p = some o ∧ MutO o) (ha : Args K H O κ vs ds) (hτ : ∀ (i : Nat) (k : Kd), κ[i]? = some k → kd τ i = k) (hk : ∀ k ∈ κ, k.isArg = true) (hn : κ.length ≤ N.length) (htb : ∀ P q, Kd.tb P q ∈ τ → TabQ H P q) :
    SR K τ H O (ds.map some ++ List.replicate (N.length - ds.length) none) (L2.start N vs) H ∧ ∀ a, OwnX τ O (ds.map some ++ List.replicate (N.length - ds.length) none) (L2.start N vs) a ↔ O a := by
  obtain ⟨l1, l2⟩ := ha.len
  have slot : ∀ (i : Nat) (d : D), (ds.map some ++ List.replicate (N.length - ds.length) none)[i]? = some (some d) → ds[i]? = some d := by
    intro i d h
    by_cases hi : i < ds.length
    · rw [List.getElem?_append_left (by rw [List.length_map]; exact hi), List.getElem?_map] at h
      cases q : ds[i]? with
      | none => rw [q] at h; cases h
      | some x => rw [q] at h; cases h; rfl
    · rw [List.getElem?_append_right (by rw [List.length_map]; omega), List.getElem?_replicate] at h
      split at h <;> cases h
  have noOwn : ∀ j p, ¬ OwnAt τ (ds.map some ++ List.replicate (N.length - ds.length) none) (L2.start N vs) j p := by
    rintro j p ⟨h1, ⟨d, h2⟩, _⟩
    obtain ⟨v, k, _, g2, g3⟩ := ha.get (slot j d h2)
    rw [hτ j k g2] at h1
    have := hk k (List.mem_of_getElem? g2)
    cases k <;> first | (cases h1; done) | (cases this; done)
  have hX : ∀ a, OwnX τ O (ds.map some ++ List.replicate (N.length - ds.length) none) (L2.start N vs) a ↔ O a := fun a => ⟨fun z => z.elim (fun ⟨j, q⟩ => (noOwn j a q).elim) id, .inr⟩
  refine ⟨⟨?_, Same.refl _, fun i d h => ?_, fun i j p h1 _ => (noOwn i p h1).elim, hO, fun p _ ⟨j, z⟩ => noOwn j p z, htb⟩, hX⟩
  · unfold L2.start
    rw [List.length_append, List.length_append, List.length_map, List.length_map, List.length_replicate, List.length_replicate, l1, l2]
  · obtain ⟨v, k, g1, g2, g3⟩ := ha.get (slot i d h)
    refine ⟨v, start_get g1, ?_⟩
    rw [hτ i k g2]
    have hk' := hk k (List.mem_of_getElem? g2)
    cases k with
    | sh => exact Dq.mono (Same.refl _) g3 fun a z => (hX a).mp z
    | scr =>
      obtain ⟨a, xs, es, q1, q2, q3, q4⟩ := g3
      exact ⟨a, xs, es, q1, q2, q3.more (Same.refl _) fun a z => (hX a).mp z, DqL.mono (Same.refl _) q4 fun a z => (hX a).mp z⟩
    | rf a c => exact g3
    | _ => cases hk'
def noTb (τ : List Kd) : Bool := τ.all fun | .tb _ _ => false | _ => true
theorem noTb_mem {τ : List Kd} (h : noTb τ = true) (P : Addr) (q : Str) : Kd.tb P q ∉ τ := fun z => by
  have := List.all_eq_true.mp h _ z
  cases this
/-- THE RULE for a def; one that makes lambdas knows its table of code objects -/
theorem fn_okT {P : Program} {w : World} {K : PySem.W.Frag} {mg : Str → Option Value} {base : Heap} {x qual : Str} {st : Stmt} {f : Addr} {fd : FuncData} {N ps : List Str} {k : Nat} {Xc : Nat → Addr} {κ τ τo : List Kd} {rf : Bool} {g : Rho → Out}
    (F : Fun K x qual st f fd) (S : FnScope N ps (defScope st)) (hl : κ.length = ps.length) (hn : κ.length ≤ N.length) (hτ : ∀ (i : Nat) (k : Kd), κ[i]? = some k → kd τ i = k) (hk : ∀ k ∈ κ, k.isArg = true)
    (body : ∀ (cdv : Value) (_ : fd.code = cdv) (A : Around) (outer : List Env) (s : Shared) (H : Hp) (E : XK) (hr : Room k (A.deeper (PyProof.Rows.envOfC qual (defScope st) s.heap.objs.size f cdv))),
      DnB (famOf P w K mg base N qual (defScope st) f cdv A outer s H E Xc k hr S.nd) τ τo rf (defBody st) g) :
    FnOk P w K mg base (L2.CX P w) (k + 1) f fd ps (fun vs H Q E => (∀ P q, Kd.tb P q ∈ τ → TabQ H P q) ∧ spD K Xc κ rf (fnD N.length g) vs H Q E) := by
  obtain ⟨oc, od, kV, doc, pm, an, cdv, ct, osl, rfl, lk, hcd⟩ := F.ex
  refine fn_of lk hcd S (fun vs H Q E h => ?_) fun A outer s H vs Q E hr h => ?_
  · obtain ⟨_, ds, O, _, ha, _⟩ := h
    rw [ha.len.1, hl]
  · obtain ⟨htb, ds, O, hO, ha, h⟩ := h
    obtain ⟨t, h1, h2⟩ := body cdv rfl A outer s H E hr
    refine ⟨t, h1 (), ?_⟩
    obtain ⟨sr, hX⟩ := entry_sr (N := N) hO ha hτ hk hn htb
    refine h2 H O _ _ H _ sr ?_
    have h : match resOf (g (ds.map some ++ List.replicate (N.length - ds.length) none)) with
      | .ok d => ∀ v H', Same H H' → Dq K H' (if rf = true then dom H else O) v d → Q v H'
      | .exc c => ∀ H', Same H H' → E (.ref (Xc c)) none H'
      | .bad => False := h
    cases q : g (ds.map some ++ List.replicate (N.length - ds.length) none) with
    | next ρ => rw [q] at h; exact fun σ' H' s' _ => h .non H' s'.ext .non
    | ret d => rw [q] at h; exact fun v H' e r => h v H' e r
    | brk ρ => rw [q] at h; exact h.elim
    | cont ρ => rw [q] at h; exact h.elim
    | exc c => rw [q] at h; exact fun σ' H' e => h H' e
    | bad => rw [q] at h; exact h.elim
theorem fn_ok {P : Program} {w : World} {K : PySem.W.Frag} {mg : Str → Option Value} {base : Heap} {x qual : Str} {st : Stmt} {f : Addr} {fd : FuncData} {N ps : List Str} {k : Nat} {Xc : Nat → Addr} {κ τ τo : List Kd} {rf : Bool} {g : Rho → Out}
    (F : Fun K x qual st f fd) (S : FnScope N ps (defScope st)) (hl : κ.length = ps.length) (hn : κ.length ≤ N.length) (hτ : ∀ (i : Nat) (k : Kd), κ[i]? = some k → kd τ i = k) (hk : ∀ k ∈ κ, k.isArg = true)
    (body : ∀ (cdv : Value) (A : Around) (outer : List Env) (s : Shared) (H : Hp) (E : XK) (hr : Room k (A.deeper (PyProof.Rows.envOfC qual (defScope st) s.heap.objs.size f cdv))),
      DnB (famOf P w K mg base N qual (defScope st) f cdv A outer s H E Xc k hr S.nd) τ τo rf (defBody st) g) (hnt : noTb τ = true := by rfl) :
    FnOk P w K mg base (L2.CX P w) (k + 1) f fd ps (spD K Xc κ rf (fnD N.length g)) :=
  (fn_okT (τ := τ) F S hl hn hτ hk fun cdv _ => body cdv).imp fun vs H Q E h => ⟨fun P q z => absurd z (noTb_mem hnt P q), h⟩

/-! ### calls of defs -/
def allSh (n : Nat) : List Kd := List.replicate n .sh
theorem args_of {K : PySem.W.Frag} {H : Hp} {O : Av} : ∀ {vs : List V} {ds : List D}, DqL K H O vs ds → Args K H O (allSh ds.length) vs ds
  | _, _, .nil => .nil
  | _, _, .cons h t => .cons h (args_of t)
section
variable {F : Fam} {τ : List Kd} {e a b c : Expr} {es : List Expr} {f fa fb : Rho → Res D} {gs : Rho → Res (List D)} {fl la lb : Fl} {pos p : Pos} {x : Str} {k : Nat} {fa' : Addr} {fd : FuncData} {ps : List Str} {fn : List D → Res D}
def eCall (n : Nat) (fn : List D → Res D) (gs : Rho → Res (List D)) : Rho → Res D := fun ρ => (gs ρ).bind fun ds => if ds.length = n then fn ds else .bad
theorem call_sem {n : Nat} {fr : Bool} {t : TA} (h2 : ∀ H0 B ρ σ H (Q : List V → Hp → Prop), SR F.K τ H0 B ρ σ H → Post F σ H (fun ds => ∀ vs H', Same H H' → DqL F.K H' (av fl H0 H (OwnX τ B ρ σ)) vs ds → Q vs H') (gs ρ) → t σ H Q) :
    SemG (Dq F.K) F τ (tCallS (spD F.K F.Xc (allSh n) fr fn) (WE F.W) t) (eCall n fn gs) (if fr = true then .s else .z) := by
  intro H0 B ρ σ H Q s p
  refine h2 H0 B ρ σ H _ s (p.bind.to (Same.refl _) fun ds _ p1 vs H1 e1 r1 => ?_)
  by_cases hl : ds.length = n
  · rw [if_pos hl] at p1
    refine ⟨ds, OwnX τ B ρ σ, fun p z => (s.more e1).ownMut z, by rw [← hl]; exact args_of (DqL.mono (Same.refl _) r1 (av_own s)), ?_⟩
    cases q : fn ds with
    | ok d =>
      rw [q] at p1
      refine fun v H' e r => p1 v H' (e1.trans e) ?_
      cases fr with
      | false => exact r
      | true => exact Dq.mono (Same.refl _) r fun a z => dom_mono e1 a z
    | exc c => rw [q] at p1; exact fun H' e => p1 H' (e1.trans e)
    | bad => rw [q] at p1; exact p1.elim
  · rw [if_neg hl] at p1; exact p1.elim
theorem dn_call (n : Nat) {fr : Bool} (G : ∀ i, FnOk (F.X i).prog (F.X i).w (F.X i).K (F.X i).mg (F.X i).base (L2.CX (F.X i).prog (F.X i).w) k fa' fd ps (spD F.K F.Xc (allSh n) fr fn)) (hm : ∀ i, (F.X i).mg x = some (.ref fa')) (hk : PySem.W.keepIn F.K (.ref fa') = true) (hb : Binds F.K fd ps [])
    (ha : DnA F τ (e :: es) gs fl) (hr : k ≤ F.k := by exact Nat.le_of_ble_eq_true rfl) (hg : ∀ i, Gl (F.X i) x := by intro _; rfl) (hdb : (x == ("__debug__" : Str)) = false := by decide)
    (he : ∀ i, starEach (e :: es) (F.X i).env = (false, eval e (F.X i).env) :: starEach es (F.X i).env := by intro _; rfl) (hpl : ∀ i, (backTo pos (starEach es (F.X i).env)).any (·.1) = false := by intro _; rfl) (hot0 : F.hot = false := by rfl) :
    DnE F τ (.Call (.Name x p) (e :: es) [] pos) (eCall n fn gs) (if fr = true then .s else .z) := by
  obtain ⟨t, h1, h2⟩ := ha
  exact ⟨_, fun i => pe_callS (G i) ((F.room hot0 i).mono hr) (hg i) (hm i) (by rw [F.hK i]; exact hk) (by rw [F.hK i]; exact hb) (fun σ => passAt (F.tk i) σ) (h1 i) hdb (he i) (hpl i), call_sem h2⟩
/-- with arguments that are owned: an unchangeable answer alone -/
def eCallR (n : Nat) (fn : List D → Res D) (gs : Rho → Res (List D)) : Rho → Res D := fun ρ => (gs ρ).bind fun ds => if ds.length = n then (fn ds).bind fun d => if imm d = true then .ok d else .bad else .bad
theorem Rv.dq0 {K : PySem.W.Frag} {H : Hp} {A : Av} {v : V} {d : D} (r : Rv K H A v d) (hc : ∀ p, v = .ref p → Cell K H A p d → A p) : Dq K H (fun _ => False) v d := by
  rcases r with h | ⟨p, rfl, h⟩
  · exact Dq.mono (Same.refl _) h fun _ z => z.elim
  · exact h.dq (fun z => z) fun a z => z.elim (fun z => z.elim) fun z => by rw [z]; exact hc p rfl h

/-! ### built-ins -/
def CallSem (K : PySem.W.Frag) (r : List V → Hp → VK → Prop) (g : List D → Option D) : Prop := ∀ (A : Av) (H : Hp) (vs : List V) (ds : List D) (d : D), (∀ a, A a → dom H a) → RvL K H A vs ds → g ds = some d →
  ∀ Q : VK, (∀ v H', Same H H' → Dq K H' A v d → Q v H') → r vs H Q
def CallD (F : Fam) (fv : Value) (g : List D → Option D) : Prop := ∃ r, (∀ i, CallR (F.X i) fv r) ∧ CallSem F.K r g
theorem CallD.mk {fv : Value} {g : List D → Option D} {r : PySem.W.Frag → List V → Hp → VK → Prop} (h : ∀ i, CallR (F.X i) fv (r (F.X i).K)) (s : CallSem F.K (r F.K) g) : CallD F fv g :=
  ⟨r F.K, fun i => by have q := h i; rw [F.hK i] at q; exact q, s⟩
def eBi (g : List D → Option D) (gs : Rho → Res (List D)) : Rho → Res D := fun ρ => (gs ρ).bind fun ds => ofO (g ds)
theorem bi_sem {r : List V → Hp → VK → Prop} {g : List D → Option D} {t : TA} (hs : CallSem F.K r g) (h2 : ∀ H0 B ρ σ H (Q : List V → Hp → Prop), SR F.K τ H0 B ρ σ H → Post F σ H (fun ds => ∀ vs H', Same H H' → RvL F.K H' (av fl H0 H (OwnX τ B ρ σ)) vs ds → Q vs H') (gs ρ) → t σ H Q) :
    SemG (Dq F.K) F τ (tCB r t) (eBi g gs) fl := by
  intro H0 B ρ σ H Q s p
  refine h2 H0 B ρ σ H _ s (p.bind.to (Same.refl _) fun ds _ p1 vs H1 e1 r1 => ?_)
  cases hg : g ds with
  | none => rw [hg] at p1; exact p1.elim
  | some d =>
    rw [hg] at p1
    exact hs _ H1 vs ds d (fun a z => dom_mono e1 a (av_dom s a z)) r1 hg Q fun v H' e q => p1 v H' (e1.trans e) q
theorem bi_semS {r : List V → Hp → VK → Prop} {g : List D → Option D} {t : TA} (hs : CallSem F.K r g) (hi : ∀ ds d, g ds = some d → imm d = true) (h2 : ∀ H0 B ρ σ H (Q : List V → Hp → Prop), SR F.K τ H0 B ρ σ H → Post F σ H (fun ds => ∀ vs H', Same H H' → RvL F.K H' (av fl H0 H (OwnX τ B ρ σ)) vs ds → Q vs H') (gs ρ) → t σ H Q) :
    SemG (Dq F.K) F τ (tCB r t) (eBi g gs) .s := by
  intro H0 B ρ σ H Q s p
  refine h2 H0 B ρ σ H _ s (p.bind.to (Same.refl _) fun ds _ p1 vs H1 e1 r1 => ?_)
  cases hg : g ds with
  | none => rw [hg] at p1; exact p1.elim
  | some d =>
    rw [hg] at p1
    exact hs _ H1 vs ds d (fun a z => dom_mono e1 a (av_dom s a z)) r1 hg Q fun v H' e q => p1 v H' (e1.trans e) (q.imm_any (hi ds d hg))
/-- a built-in function whose answer may hold what it was given; one whose answer is unchangeable -/
theorem dn_bi {id : String} {g : List D → Option D} (hc : CallD F (.builtin id) g) (hm : ∀ i, (F.X i).mg x = none) (hv : bootBuiltins x = some (.builtin id)) (ha : DnAR F τ (e :: es) gs fl) (hg : ∀ i, Gl (F.X i) x := by intro _; rfl)
    (hn : x ≠ "__name__" := by decide) (hdb : (x == ("__debug__" : Str)) = false := by decide) (he : ∀ i, starEach (e :: es) (F.X i).env = (false, eval e (F.X i).env) :: starEach es (F.X i).env := by intro _; rfl) (hpl : ∀ i, (backTo pos (starEach es (F.X i).env)).any (·.1) = false := by intro _; rfl) :
    DnE F τ (.Call (.Name x p) (e :: es) [] pos) (eBi g gs) fl := by
  obtain ⟨t, h1, h2⟩ := ha
  obtain ⟨r, c1, c2⟩ := hc
  exact ⟨_, fun i => pe_callB (c1 i) (hg i) (hm i) hv (h1 i) hn hdb (he i) (hpl i), bi_sem c2 h2⟩
theorem dn_biS {id : String} {g : List D → Option D} (hc : CallD F (.builtin id) g) (hi : ∀ ds d, g ds = some d → imm d = true) (hm : ∀ i, (F.X i).mg x = none) (hv : bootBuiltins x = some (.builtin id)) (ha : DnAR F τ (e :: es) gs fl) (hg : ∀ i, Gl (F.X i) x := by intro _; rfl)
    (hn : x ≠ "__name__" := by decide) (hdb : (x == ("__debug__" : Str)) = false := by decide) (he : ∀ i, starEach (e :: es) (F.X i).env = (false, eval e (F.X i).env) :: starEach es (F.X i).env := by intro _; rfl) (hpl : ∀ i, (backTo pos (starEach es (F.X i).env)).any (·.1) = false := by intro _; rfl) :
    DnE F τ (.Call (.Name x p) (e :: es) [] pos) (eBi g gs) .s := by
  obtain ⟨t, h1, h2⟩ := ha
  obtain ⟨r, c1, c2⟩ := hc
  exact ⟨_, fun i => pe_callB (c1 i) (hg i) (hm i) hv (h1 i) hn hdb (he i) (hpl i), bi_semS c2 hi h2⟩
theorem dn_ty {T : String} {g : List D → Option D} (hc : CallD F (.type T) g) (hm : ∀ i, (F.X i).mg x = none) (hv : bootBuiltins x = some (.type T)) (ha : DnAR F τ (e :: es) gs fl) (hg : ∀ i, Gl (F.X i) x := by intro _; rfl)
    (hn : x ≠ "__name__" := by decide) (hdb : (x == ("__debug__" : Str)) = false := by decide) (he : ∀ i, starEach (e :: es) (F.X i).env = (false, eval e (F.X i).env) :: starEach es (F.X i).env := by intro _; rfl) (hpl : ∀ i, (backTo pos (starEach es (F.X i).env)).any (·.1) = false := by intro _; rfl) :
    DnE F τ (.Call (.Name x p) (e :: es) [] pos) (eBi g gs) fl := by
  obtain ⟨t, h1, h2⟩ := ha
  obtain ⟨r, c1, c2⟩ := hc
  exact ⟨_, fun i => pe_callTy (c1 i) (hg i) (hm i) hv (h1 i) hn hdb (he i) (hpl i), bi_sem c2 h2⟩
theorem dn_tyS {T : String} {g : List D → Option D} (hc : CallD F (.type T) g) (hi : ∀ ds d, g ds = some d → imm d = true) (hm : ∀ i, (F.X i).mg x = none) (hv : bootBuiltins x = some (.type T)) (ha : DnAR F τ (e :: es) gs fl) (hg : ∀ i, Gl (F.X i) x := by intro _; rfl)
    (hn : x ≠ "__name__" := by decide) (hdb : (x == ("__debug__" : Str)) = false := by decide) (he : ∀ i, starEach (e :: es) (F.X i).env = (false, eval e (F.X i).env) :: starEach es (F.X i).env := by intro _; rfl) (hpl : ∀ i, (backTo pos (starEach es (F.X i).env)).any (·.1) = false := by intro _; rfl) :
    DnE F τ (.Call (.Name x p) (e :: es) [] pos) (eBi g gs) .s := by
  obtain ⟨t, h1, h2⟩ := ha
  obtain ⟨r, c1, c2⟩ := hc
  exact ⟨_, fun i => pe_callTy (c1 i) (hg i) (hm i) hv (h1 i) hn hdb (he i) (hpl i), bi_semS c2 hi h2⟩
/-! ### raise C('..') -/
theorem ds_raise {rf : Bool} {τo : List Kd} (n : Nat) {m : Str} {j : Nat} {p2 pos2 : Pos} {bmB : List Value} {B newId initId : String} (FB : ExcBaseFacts B newId initId bmB) (q : PySem.W.excIn F.K (F.Xc n) bmB newId = true) (gC : ∀ i, (F.X i).mg x = some (.ref (F.Xc n))) (kC : PySem.W.keepIn F.K (.ref (F.Xc n)) = true)
    (b1 : PySem.W.subIn F.K (.ref (F.Xc n)) (.type "BaseException") = some true) (b2 : PySem.W.typeIn F.K (.ref (F.Xc n)) = some (.type "type")) (hg : ∀ i, Gl (F.X i) x := by intro _; rfl)
    (hdb : (x == ("__debug__" : Str)) = false := by decide) (hot0 : F.hot = false := by rfl) : DnS F τ τo rf (.Raise (some (.Call (.Name x p) [.Constant (.str m) j p2] [] pos)) none pos2) (fun _ => .exc n) := by
  refine ⟨fun _ σ H => F.W (.ref (F.Xc n)) none σ H, fun i => ?_, fun H0 B ρ σ H E s p => p σ H s.ext⟩
  exact ps_raise (F.calm hot0 i) (F.tk i) (pmk_own FB (by rw [F.hK i]; exact q) (gC i) (by rw [F.hK i]; exact kC) (raises_own (by rw [F.hK i]; exact b1) (by rw [F.hK i]; exact b2)) (hg i) hdb)
end
end Dn
set_option Elab.async false
set_option linter.all false
set_option maxRecDepth 100000
namespace Dn
open PySem L2
section
variable {F : Fam} {τ : List Kd}
/-! ### len, sum, min, max, abs, int, str -/
def lenD : List D → Option D
  | [.list ds] => some (.int ds.length)
  | [.tuple ds] => some (.int ds.length)
  | [.str z] => if z.length ≤ sizeLine then some (.int z.length) else none
  | _ => none
theorem lenD_imm : ∀ ds d, lenD ds = some d → imm d = true := by
  intro ds d h
  unfold lenD at h
  split at h
  · cases h; rfl
  · cases h; rfl
  · split at h <;> cases h; rfl
  · cases h
theorem c_len : CallD F (.builtin "len") lenD := by
  refine CallD.mk (r := fun K xs H Q => ∃ x n, xs = [x] ∧ LenV K x H n ∧ Q (.int n) H) (fun i => call_len) ?_
  intro A H vs ds d hA r hg Q k
  unfold lenD at hg
  split at hg
  · cases hg
    cases r with
    | cons r1 r2 =>
      cases r2
      obtain ⟨a, xs, rfl, h1, h2⟩ := r1.list
      exact ⟨_, _, rfl, .inl ⟨xs, h1, rfl⟩, k _ H (Same.refl _) (by rw [h2.length]; exact .int _)⟩
  · cases hg
    cases r with
    | cons r1 r2 =>
      cases r2
      obtain ⟨a, xs, rfl, h1, h2⟩ := r1.tuple
      exact ⟨_, _, rfl, .inr ⟨xs, h1, rfl⟩, k _ H (Same.refl _) (by rw [h2.length]; exact .int _)⟩
  · split at hg
    · cases hg
      cases r with
      | cons r1 r2 =>
        cases r2
        have := r1.str
        subst this
        exact ⟨_, _, rfl, ⟨by assumption, rfl⟩, k _ H (Same.refl _) (.int _)⟩
    · cases hg
  · cases hg
def sumD : List D → Option D
  | [.list ds] => (intsOf ds).map fun ns => .int ns.sum
  | _ => none
theorem sumD_imm : ∀ ds d, sumD ds = some d → imm d = true := by
  intro ds d h
  unfold sumD at h
  split at h
  · cases q : intsOf _ with
    | none => rw [q] at h; cases h
    | some ns => rw [q] at h; cases h; rfl
  · cases h
theorem c_sum (hot0 : F.hot = false := by rfl) : CallD F (.builtin "sum") sumD := by
  refine CallD.mk (r := rSum) (fun i => cr_sum (F.calm hot0 i)) ?_
  intro A H vs ds d hA r hg Q k
  unfold sumD at hg
  split at hg
  · rename_i ds
    cases q : intsOf ds with
    | none => rw [q] at hg; cases hg
    | some ns =>
      rw [q] at hg
      cases hg
      cases r with
      | cons r1 r2 =>
        cases r2
        obtain ⟨a, xs, rfl, h1, h2⟩ := r1.list
        rw [intsOf_dq h2 q] at h1
        exact ⟨a, ns, rfl, h1, k _ H (Same.refl _) (.int _)⟩
  · cases hg
def maxI : List Int → Int
  | [] => 0
  | x :: xs => xs.foldl max x
def minI : List Int → Int
  | [] => 0
  | x :: xs => xs.foldl min x
theorem foldl_max (xs : List Int) : ∀ x : Int, (xs.foldl max x = x ∨ xs.foldl max x ∈ xs) ∧ x ≤ xs.foldl max x ∧ ∀ y ∈ xs, y ≤ xs.foldl max x := by
  induction xs with
  | nil => intro x; exact ⟨.inl rfl, Int.le_refl _, fun y h => by cases h⟩
  | cons a r ih =>
    intro x
    obtain ⟨h1, h2, h3⟩ := ih (max x a)
    rw [List.foldl_cons]
    refine ⟨?_, by omega, fun y hy => ?_⟩
    · rcases h1 with h1 | h1
      · rw [h1]
        by_cases q : x ≤ a
        · rw [Int.max_eq_right q]; exact .inr (List.mem_cons_self ..)
        · rw [Int.max_eq_left (by omega)]; exact .inl rfl
      · exact .inr (List.mem_cons_of_mem _ h1)
    · rcases List.mem_cons.mp hy with e | e
      · subst e; omega
      · exact h3 y e
theorem foldl_min (xs : List Int) : ∀ x : Int, (xs.foldl min x = x ∨ xs.foldl min x ∈ xs) ∧ xs.foldl min x ≤ x ∧ ∀ y ∈ xs, xs.foldl min x ≤ y := by
  induction xs with
  | nil => intro x; exact ⟨.inl rfl, Int.le_refl _, fun y h => by cases h⟩
  | cons a r ih =>
    intro x
    obtain ⟨h1, h2, h3⟩ := ih (min x a)
    rw [List.foldl_cons]
    refine ⟨?_, by omega, fun y hy => ?_⟩
    · rcases h1 with h1 | h1
      · rw [h1]
        by_cases q : x ≤ a
        · rw [Int.min_eq_left q]; exact .inl rfl
        · rw [Int.min_eq_right (by omega)]; exact .inr (List.mem_cons_self ..)
      · exact .inr (List.mem_cons_of_mem _ h1)
    · rcases List.mem_cons.mp hy with e | e
      · subst e; omega
      · exact h3 y e
theorem maxI_mem : ∀ {ns : List Int}, 0 < ns.length → maxI ns ∈ ns ∧ ∀ y ∈ ns, y ≤ maxI ns
  | x :: xs, _ => by
    obtain ⟨h1, h2, h3⟩ := foldl_max xs x
    refine ⟨?_, fun y hy => ?_⟩
    · rcases h1 with h1 | h1
      · show xs.foldl max x ∈ x :: xs
        rw [h1]; exact List.mem_cons_self ..
      · exact List.mem_cons_of_mem _ h1
    · rcases List.mem_cons.mp hy with e | e
      · subst e; exact h2
      · exact h3 y e
theorem minI_mem : ∀ {ns : List Int}, 0 < ns.length → minI ns ∈ ns ∧ ∀ y ∈ ns, minI ns ≤ y
  | x :: xs, _ => by
    obtain ⟨h1, h2, h3⟩ := foldl_min xs x
    refine ⟨?_, fun y hy => ?_⟩
    · rcases h1 with h1 | h1
      · show xs.foldl min x ∈ x :: xs
        rw [h1]; exact List.mem_cons_self ..
      · exact List.mem_cons_of_mem _ h1
    · rcases List.mem_cons.mp hy with e | e
      · subst e; exact h2
      · exact h3 y e
/-- max of two ints -/
def maxD : List D → Option D
  | [.int i, .int j] => some (.int (if j > i then j else i))
  | _ => none
def minD : List D → Option D
  | [.int i, .int j] => some (.int (if j < i then j else i))
  | _ => none
theorem maxD_imm : ∀ ds d, maxD ds = some d → imm d = true := by
  intro ds d h
  unfold maxD at h
  split at h <;> cases h
  rfl
theorem minD_imm : ∀ ds d, minD ds = some d → imm d = true := by
  intro ds d h
  unfold minD at h
  split at h <;> cases h
  rfl
theorem c_max (hot0 : F.hot = false := by rfl) : CallD F (.builtin "max") maxD := by
  refine CallD.mk (r := fun K xs H Q => ∃ i j, xs = [.int i, .int j] ∧ Q (.int (if j > i then j else i)) H) (fun i => call_max2 (F.calm hot0 i)) ?_
  intro A H vs ds d hA r hg Q k
  unfold maxD at hg
  split at hg <;> cases hg
  cases r with
  | cons r1 r2 =>
    cases r2 with
    | cons r3 r4 =>
      cases r4
      exact ⟨_, _, by rw [r1.int, r3.int], k _ H (Same.refl _) (.int _)⟩
theorem c_min (hot0 : F.hot = false := by rfl) : CallD F (.builtin "min") minD := by
  refine CallD.mk (r := fun K xs H Q => ∃ i j, xs = [.int i, .int j] ∧ Q (.int (if j < i then j else i)) H) (fun i => call_min2 (F.calm hot0 i)) ?_
  intro A H vs ds d hA r hg Q k
  unfold minD at hg
  split at hg <;> cases hg
  cases r with
  | cons r1 r2 =>
    cases r2 with
    | cons r3 r4 =>
      cases r4
      exact ⟨_, _, by rw [r1.int, r3.int], k _ H (Same.refl _) (.int _)⟩
def absD : List D → Option D
  | [.int i] => some (.int (if i < 0 then -i else i))
  | _ => none
theorem absD_imm : ∀ ds d, absD ds = some d → imm d = true := by
  intro ds d h
  unfold absD at h
  split at h <;> cases h
  rfl
theorem c_abs : CallD F (.builtin "abs") absD := by
  refine CallD.mk (r := fun K xs H Q => ∃ i, xs = [.int i] ∧ Q (.int (if i < 0 then -i else i)) H) (fun i => call_abs) ?_
  intro A H vs ds d hA r hg Q k
  unfold absD at hg
  split at hg <;> cases hg
  cases r with
  | cons r1 r2 => cases r2; exact ⟨_, by rw [r1.int], k _ H (Same.refl _) (.int _)⟩
def intT : List D → Option D
  | [.int i] => some (.int i)
  | [.bool b] => some (.int (if b then 1 else 0))
  | _ => none
theorem intT_imm : ∀ ds d, intT ds = some d → imm d = true := by
  intro ds d h
  unfold intT at h
  split at h <;> cases h <;> rfl
theorem c_int : CallD F (.type "int") intT := by
  refine CallD.mk (r := fun K xs H Q => (∃ i, xs = [.int i] ∧ Q (.int i) H) ∨ ∃ k, xs = [.bl k] ∧ Q (.int (if k then 1 else 0)) H) (fun i => call_int1) ?_
  intro A H vs ds d hA r hg Q k
  unfold intT at hg
  split at hg <;> cases hg
  · cases r with
    | cons r1 r2 => cases r2; exact .inl ⟨_, by rw [r1.int], k _ H (Same.refl _) (.int _)⟩
  · cases r with
    | cons r1 r2 => cases r2; exact .inr ⟨_, by rw [r1.bl], k _ H (Same.refl _) (.int _)⟩
def strT : List D → Option D
  | [.int i] => if i.natAbs.log2 < 1920 then some (.str (toString i)) else none
  | _ => none
theorem strT_imm : ∀ ds d, strT ds = some d → imm d = true := by
  intro ds d h
  unfold strT at h
  split at h
  · split at h <;> cases h; rfl
  · cases h
theorem c_str : CallD F (.type "str") strT := by
  refine CallD.mk (r := fun K xs H Q => ∃ i, xs = [.int i] ∧ i.natAbs.log2 < 1920 ∧ Q (.str (toString i)) H) (fun i => call_str_int) ?_
  intro A H vs ds d hA r hg Q k
  unfold strT at hg
  split at hg
  · split at hg
    · cases hg
      cases r with
      | cons r1 r2 => cases r2; exact ⟨_, by rw [r1.int], by assumption, k _ H (Same.refl _) (.str _)⟩
    · cases hg
  · cases hg
/-! ### list(x), tuple(x) -/
def listT : List D → Option D
  | [.list ds] => some (.list ds)
  | [.tuple ds] => some (.list ds)
  | _ => none
theorem c_list : CallD F (.type "list") listT := by
  refine CallD.mk (r := fun K xs H Q => ∃ p ys, xs = [.ref p] ∧ (SqL K H p ys ∨ SqT K H p ys) ∧ ∀ l, H l = none → Q (.ref l) (upd H l (.lst ys))) (fun i => call_list_of) ?_
  intro A H vs ds d hA r hg Q k
  unfold listT at hg
  split at hg <;> cases hg
  · cases r with
    | cons r1 r2 =>
      cases r2
      obtain ⟨a, xs, rfl, h1, h2⟩ := r1.list
      exact ⟨a, xs, rfl, .inl h1, fun p hp => k _ _ (dom_upd hp) (new_lst hp hA h2)⟩
  · cases r with
    | cons r1 r2 =>
      cases r2
      obtain ⟨a, xs, rfl, h1, h2⟩ := r1.tuple
      exact ⟨a, xs, rfl, .inr h1, fun p hp => k _ _ (dom_upd hp) (new_lst hp hA h2)⟩
def tupleT : List D → Option D
  | [.list ds] => some (.tuple ds)
  | [.tuple ds] => some (.tuple ds)
  | _ => none
theorem c_tuple : CallD F (.type "tuple") tupleT := by
  refine CallD.mk (r := rTupF) (fun i => call_tupleF) ?_
  intro A H vs ds d hA r hg Q k
  unfold tupleT at hg
  split at hg <;> cases hg
  · cases r with
    | cons r1 r2 =>
      cases r2
      obtain ⟨a, xs, rfl, h1, h2⟩ := r1.list
      exact ⟨a, xs, rfl, .inl ⟨h1, fun p o hp ho => k _ _ (dom_upd hp) (new_tup hp ho h2)⟩⟩
  · cases r with
    | cons r1 r2 =>
      cases r2
      obtain ⟨a, xs, rfl, h1, h2⟩ := r1.tup
      exact ⟨a, xs, rfl, .inr ⟨h1.sq, k _ _ (Same.refl _) (.tup h1 h2)⟩⟩
/-! ### all, any of a list of truths -/
def boolsOf : List D → Option (List Bool)
  | [] => some []
  | .bool i :: ds => (boolsOf ds).map (i :: ·)
  | _ :: _ => none
theorem boolsOf_dq {K : PySem.W.Frag} {H : Hp} {A : Av} : ∀ {vs : List V} {ds : List D} {ns : List Bool}, DqL K H A vs ds → boolsOf ds = some ns → vs = ns.map V.bl
  | _, _, _, .nil, e => by cases e; rfl
  | _, _, ns, .cons (d := d) (ds := ds) h t, e => by
    cases d with
    | bool i =>
      simp only [boolsOf] at e
      cases q : boolsOf ds with
      | none => rw [q] at e; cases e
      | some ms =>
        rw [q] at e
        cases e
        cases h
        rw [boolsOf_dq t q]
        rfl
    | _ => cases e
theorem boolsOf_map (ns : List Bool) : boolsOf (ns.map PyData.bool) = some ns := by
  induction ns with
  | nil => rfl
  | cons n ns ih => simp only [List.map_cons, boolsOf, ih, Option.map_some]
def allD : List D → Option D
  | [.list ds] => (boolsOf ds).map fun bs => .bool (bs.all id)
  | _ => none
def anyD : List D → Option D
  | [.list ds] => (boolsOf ds).map fun bs => .bool (bs.any id)
  | _ => none
theorem allD_imm : ∀ ds d, allD ds = some d → imm d = true := by
  intro ds d h
  unfold allD at h
  split at h
  · cases q : boolsOf _ with
    | none => rw [q] at h; cases h
    | some ns => rw [q] at h; cases h; rfl
  · cases h
theorem anyD_imm : ∀ ds d, anyD ds = some d → imm d = true := by
  intro ds d h
  unfold anyD at h
  split at h
  · cases q : boolsOf _ with
    | none => rw [q] at h; cases h
    | some ns => rw [q] at h; cases h; rfl
  · cases h
theorem c_all (hot0 : F.hot = false := by rfl) : CallD F (.builtin "all") allD := by
  refine CallD.mk (r := rAll) (fun i => cr_all (F.calm hot0 i)) ?_
  intro A H vs ds d hA r hg Q k
  unfold allD at hg
  split at hg
  · rename_i ds
    cases q : boolsOf ds with
    | none => rw [q] at hg; cases hg
    | some ns =>
      rw [q] at hg
      cases hg
      cases r with
      | cons r1 r2 =>
        cases r2
        obtain ⟨a, xs, rfl, h1, h2⟩ := r1.list
        rw [boolsOf_dq h2 q] at h1
        exact ⟨a, ns, rfl, h1, k _ H (Same.refl _) (.bl _)⟩
  · cases hg
theorem c_any (hot0 : F.hot = false := by rfl) : CallD F (.builtin "any") anyD := by
  refine CallD.mk (r := rAny) (fun i => cr_any (F.calm hot0 i)) ?_
  intro A H vs ds d hA r hg Q k
  unfold anyD at hg
  split at hg
  · rename_i ds
    cases q : boolsOf ds with
    | none => rw [q] at hg; cases hg
    | some ns =>
      rw [q] at hg
      cases hg
      cases r with
      | cons r1 r2 =>
        cases r2
        obtain ⟨a, xs, rfl, h1, h2⟩ := r1.list
        rw [boolsOf_dq h2 q] at h1
        exact ⟨a, ns, rfl, h1, k _ H (Same.refl _) (.bl _)⟩
  · cases hg
/-! ### isinstance(x, T), T a built-in type -/
def kindD : D → String
  | .none => "NoneType"
  | .bool _ => "bool"
  | .int _ => "int"
  | .str _ => "str"
  | .list _ => "list"
  | .tuple _ => "tuple"
  | .dict _ => "dict"
/-- a value's type, locked dicts with tuple keys with it -/
inductive TyY (K : PySem.W.Frag) (H : Hp) : V → Value → Prop where
  | x {v : V} {t : Value} (h : TyX K H v t) : TyY K H v t
  | fT {a : Addr} {o : Obj} {kvs : List (List L2.Key × V)} (e : H a = some (.frz o (.dT kvs))) : TyY K H (.ref a) (.type "dict")
def rIsiY (K : PySem.W.Frag) : List V → Hp → VK → Prop := fun xs H Q => ∃ (x c : V) (t u : Value) (b : Bool), xs = [x, c] ∧ ClsV c u ∧ TyY K H x t ∧ PySem.W.kitOne K t u = some b ∧ Q (.bl b) H
theorem call_isiY {X : Cx} : CallR X (.builtin "isinstance") (rIsiY X.K) := by
  intro pins s σ H xs us Q I r h
  obtain ⟨x, c, t, u, b, rfl, k, ty, e, q⟩ := h
  cases ty with
  | x ty => exact call_isi pins s σ H _ us Q I r ⟨x, c, t, u, b, rfl, k, ty, e, q⟩
  | @fT a o kvs ea =>
    obtain ⟨u1, u2, rfl, r1, r2⟩ := vals2 r
    have e2 := k.eq r2
    subst e2
    cases (show u1 = Value.ref a from r1)
    obtain ⟨_, _, _, xs, _, o, es, ep, h1, h2, _⟩ := (show ObjOk X.prog X.w H s.heap a (.frz o (.dT kvs)) from I.hok a _ ea)
    exact PySem.W.kia_one PySem.W.kitx_dict I.kIn ⟨o, h1, h2.1⟩ e (fun z => nomatch z) fun tk => ⟨.bl b, H, I.tok tk, rfl, q⟩
theorem ty_of {K : PySem.W.Frag} {H : Hp} {A : Av} {v : V} {d : D} (r : Rv K H A v d) : TyY K H v (.type (kindD d)) := by
  cases d with
  | none => rw [r.non]; exact .x <| .base .non
  | bool b => rw [r.bl]; exact .x <| .base (.bl b)
  | int b => rw [r.int]; exact .x <| .base (.int b)
  | str b => rw [r.str]; exact .x <| .base (.str b)
  | list ds => obtain ⟨a, xs, rfl, h, _⟩ := r.lst; exact .x <| .base (.lst h)
  | tuple ds =>
    obtain ⟨a, xs, rfl, h, _⟩ := r.tup
    rcases h with ⟨o, h, _⟩ | ⟨o, its, n, h1, h2, _⟩
    · exact .x <| .fTuple h
    · exact .x <| .kTuple h1 h2
  | dict ds =>
    rcases r with h | ⟨p, rfl, h⟩
    · cases h with
      | dK _ h _ => exact .x <| .base (.dK h)
      | dT _ h _ => exact .x <| .base (.dT h)
      | dF h _ => exact .fT h
    · rcases h with ⟨_, _, e, _⟩ | ⟨_, _, _, h, _⟩ | ⟨_, _, _, h, _⟩
      · cases e
      · exact .x <| .base (.dK h)
      · exact .x <| .base (.dT h)
/-- of: the answers, for the seven kinds -/
def isiD (T : String) (d : D) : Option D := (kitB (kindD d) T).map .bool
def eIsi (T : String) (f : Rho → Res D) : Rho → Res D := fun ρ => (f ρ).bind fun d => ofO (isiD T d)
variable {e a b : Expr} {f fa fb : Rho → Res D} {fl la lb : Fl} {pos p q : Pos} {x : Str}
theorem dn_isi {T : String} (h : DnR F τ e f fl) (hm : ∀ i, (F.X i).mg "isinstance" = none) (hx : ∀ i, (F.X i).mg x = none) (hv : bootBuiltins x = some (.type T)) (hg : ∀ i, Gl (F.X i) "isinstance" := by intro _; rfl) (hgx : ∀ i, Gl (F.X i) x := by intro _; rfl)
    (hn : x ≠ "__name__" := by decide) (hdb : (x == ("__debug__" : Str)) = false := by decide) (he : ∀ i, starEach [e, .Name x q] (F.X i).env = (false, eval e (F.X i).env) :: starEach [.Name x q] (F.X i).env := by intro _; rfl)
    (he2 : ∀ i, starEach [.Name x q] (F.X i).env = (false, eval (.Name x q) (F.X i).env) :: starEach [] (F.X i).env := by intro _; rfl) (hpl : ∀ i, (backTo pos (starEach [.Name x q] (F.X i).env)).any (·.1) = false := by intro _; rfl) :
    DnE F τ (.Call (.Name "isinstance" p) [e, .Name x q] [] pos) (eIsi T f) .s := by
  obtain ⟨t, h1, h2⟩ := h
  refine ⟨tCB (rIsiY F.K) (tCons t (tCons (tC (.ty T)) tNil)), fun i => by
    have z := pe_callB (p := p) (pos := pos) (call_isiY (X := F.X i)) (hg i) (hm i) (by decide +kernel) (pa_cons (h1 i) (pa_cons (pe_bltn (v := .ty T) (hgx i) (hx i) hv rfl hn hdb) pa_nil (he2 i)) (he i)) (by decide) (by decide) (he i) (hpl i)
    rw [F.hK i] at z; exact z, fun H0 B ρ σ H Q s p => ?_⟩
  refine h2 H0 B ρ σ H _ s (p.bind.to (Same.refl _) fun d _ p1 v H1 e1 r1 => ?_)
  unfold isiD at p1
  cases hk : kitB (kindD d) T with
  | none => rw [hk] at p1; exact p1.elim
  | some b =>
    rw [hk] at p1
    exact ⟨v, .ty T, .type (kindD d), .type T, b, rfl, .ty T, ty_of r1, kit_ty hk, p1 _ H1 e1 (.bl b)⟩
/-! ### list(range(..)), tuple(range(..)) -/
def rgD (a b : Int) : Option (List D) := if -(2 ^ 62) ≤ a ∧ a < 2 ^ 62 ∧ -(2 ^ 62) ≤ b ∧ b < 2 ^ 62 ∧ (b - a).toNat ≤ 2 ^ 24 then some (rangeD a (b - a).toNat) else none
def eRg1 (f : Rho → Res D) : Rho → Res (List D) := fun ρ => (f ρ).bind fun d => (toI d).bind fun i => ofO (rgD 0 i)
def eRg2 (fa fb : Rho → Res D) : Rho → Res (List D) := fun ρ => (fa ρ).bind fun d => (fb ρ).bind fun e => (toI d).bind fun i => (toI e).bind fun j => ofO (rgD i j)
def eListOf (f : Rho → Res (List D)) : Rho → Res D := fun ρ => (f ρ).bind fun ds => .ok (.list ds)
def eTupOf (f : Rho → Res (List D)) : Rho → Res D := fun ρ => (f ρ).bind fun ds => .ok (.tuple ds)
def DnRg (F : Fam) (τ : List Kd) (e : Expr) (f : Rho → Res (List D)) : Prop := ∃ t : St → Hp → (Int → Int → Hp → Prop) → Prop, (∀ i, PRg (F.X i) e t) ∧
  ∀ H0 B ρ σ H (Q : Int → Int → Hp → Prop), SR F.K τ H0 B ρ σ H → Post F σ H (fun ds => ∀ a b H', RgOk a b → ds = rangeD a (b - a).toNat → Same H H' → Q a b H') (f ρ) → t σ H Q
theorem toI_ok {d : D} {P : Int → Prop} {σ : St} {H : Hp} (h : Post F σ H P (toI d)) : ∃ b, d = .int b ∧ P b := by
  cases d <;> first | exact h.elim | exact ⟨_, rfl, h⟩
theorem rgD_ok {a b : Int} {P : List D → Prop} {σ : St} {H : Hp} (h : Post F σ H P (ofO (rgD a b))) : RgOk a b ∧ P (rangeD a (b - a).toNat) := by
  unfold rgD at h
  split at h
  · exact ⟨by assumption, h⟩
  · exact h.elim
theorem dg_1 (hm : ∀ i, (F.X i).mg "range" = none) (h : DnE F τ a fa la) (hg : ∀ i, Gl (F.X i) "range" := by intro _; rfl) (na : ∀ i, starEach [a] (F.X i).env = (false, eval a (F.X i).env) :: starEach [] (F.X i).env := by intro _; rfl) : DnRg F τ (.Call (.Name "range" p) [a] [] pos) (eRg1 fa) := by
  obtain ⟨t, h1, h2⟩ := h
  refine ⟨tRg1 t, fun i => prg_1 (hg i) (hm i) (h1 i) (na i), fun H0 B ρ σ H Q s p => ?_⟩
  refine h2 H0 B ρ σ H _ s (p.bind.to (Same.refl _) fun d _ p1 v H1 e1 r1 => ?_)
  obtain ⟨n, rfl, p2⟩ := toI_ok p1.bind
  cases r1
  obtain ⟨h3, p3⟩ := rgD_ok p2
  exact ⟨n, rfl, p3 0 n H1 h3 rfl e1⟩
theorem dg_2 (hm : ∀ i, (F.X i).mg "range" = none) (ha : DnE F τ a fa la) (hb : DnE F τ b fb lb) (hg : ∀ i, Gl (F.X i) "range" := by intro _; rfl) (na : ∀ i, starEach [a, b] (F.X i).env = (false, eval a (F.X i).env) :: starEach [b] (F.X i).env := by intro _; rfl)
    (nb : ∀ i, starEach [b] (F.X i).env = (false, eval b (F.X i).env) :: starEach [] (F.X i).env := by intro _; rfl) (hp : ∀ i, (backTo pos (starEach [b] (F.X i).env)).any (·.1) = false := by intro _; rfl) : DnRg F τ (.Call (.Name "range" p) [a, b] [] pos) (eRg2 fa fb) := by
  obtain ⟨t, h1, h2⟩ := ha
  obtain ⟨u, g1, g2⟩ := hb
  refine ⟨tRg2 t u, fun i => prg_2 (hg i) (hm i) (h1 i) (g1 i) (na i) (nb i) (hp i), fun H0 B ρ σ H Q s p => ?_⟩
  refine h2 H0 B ρ σ H _ s (p.bind.to (Same.refl _) fun d _ p1 v H1 e1 r1 => ?_)
  refine g2 H0 B ρ σ H1 _ (s.more e1) (p1.bind.to e1 fun d2 _ p2 v2 H2 e2 r2 => ?_)
  obtain ⟨i, rfl, p3⟩ := toI_ok p2.bind
  obtain ⟨j, rfl, p4⟩ := toI_ok p3.bind
  cases r1
  cases r2
  obtain ⟨h3, p5⟩ := rgD_ok p4
  exact ⟨i, j, rfl, rfl, p5 i j H2 h3 rfl (e1.trans e2)⟩
theorem rg_dq {K : PySem.W.Frag} {H : Hp} {A : Av} (a b : Int) : DqL K H A (rgV a b) (rangeD a (b - a).toNat) := by
  unfold rgV rangeD
  generalize (b - a).toNat = n
  generalize List.range n = l
  induction l with
  | nil => exact .nil
  | cons x r ih => exact .cons (.int _) ih
theorem dn_listRg {f : Rho → Res (List D)} (h : DnRg F τ e f) (hm : ∀ i, (F.X i).mg "list" = none) (hg : ∀ i, Gl (F.X i) "list" := by intro _; rfl) (na : ∀ i, starEach [e] (F.X i).env = (false, eval e (F.X i).env) :: starEach [] (F.X i).env := by intro _; rfl) (hot0 : F.hot = false := by rfl) :
    DnE F τ (.Call (.Name "list" p) [e] [] pos) (eListOf f) .s := by
  obtain ⟨t, h1, h2⟩ := h
  refine ⟨tLstRg t, fun i => pe_listRg (F.calm hot0 i) (hg i) (hm i) (h1 i) (na i), fun H0 B ρ σ H Q s p => ?_⟩
  refine h2 H0 B ρ σ H _ s (p.bind.to (Same.refl _) fun ds _ p1 a b H1 h3 e e1 => ⟨h3, fun q hq => ?_⟩)
  subst e
  exact p1 _ _ (e1.trans (dom_upd hq)) (new_lst hq (fun a z => dom_mono e1 a z) (rg_dq a b))
def tTupRgF (te : St → Hp → (Int → Int → Hp → Prop) → Prop) : TE := fun σ H Q => te σ H fun a b H1 => RgOk a b ∧ ∀ q (o : Obj), H1 q = none → o.dict = none → Q (.ref q) (upd H1 q (.frz o (.tup (rgV a b))))
open PySem.Spec PyProof.Rows in
theorem pe_tupRgF {X : Cx} {te : L2.St → Hp → (Int → Int → Hp → Prop) → Prop} (hc : X.calm = true) (hg : Gl X "tuple") (hm : X.mg "tuple" = none) (he : PRg X e te) (na : starEach [e] X.env = (false, eval e X.env) :: starEach [] X.env) : PE X (.Call (.Name "tuple" p) [e] [] pos) (tTupRgF te) := by
  refine ⟨fun pins s σ H Q I h => ?_⟩
  refine Call_ (ld_blt I hg hm boot_tuple (PyProof.Rows.callWith_type1 (args_cons (thn (he pins s σ H _ I h) fun x s1 ⟨r, a, b, t, u, v, H1, ex, hr, I1, ok, q⟩ => args_nil ?_) na) na))
  subst ex
  obtain ⟨b1, b2, b3, b4, b5⟩ := ok
  refine call_tuple_range (n := (b - a).toNat) (I1.ok.hd hc) hr (small_one b1 b2 b3 b4) (rangeSize_nat a b) b5 fun h' tk acc hk hi => ?_
  have I2 : Inv X pins σ H1 { s1 with heap := h', toks := tk } := I1.kept hk
  have z := laid_tup I2 (xs := rgV a b) (us := acc.toList) (by rw [rgV_length, sizeLine_eq]; omega) (vals_rg hi)
  rw [Array.toArray_toList] at z
  exact ⟨.ref h'.objs.size, _, z, rfl, q _ _ (I2.hok.fresh (Nat.le_refl _)) rfl⟩
theorem dn_tupRg {f : Rho → Res (List D)} (h : DnRg F τ e f) (hm : ∀ i, (F.X i).mg "tuple" = none) (hg : ∀ i, Gl (F.X i) "tuple" := by intro _; rfl) (na : ∀ i, starEach [e] (F.X i).env = (false, eval e (F.X i).env) :: starEach [] (F.X i).env := by intro _; rfl) (hot0 : F.hot = false := by rfl) :
    DnE F τ (.Call (.Name "tuple" p) [e] [] pos) (eTupOf f) .s := by
  obtain ⟨t, h1, h2⟩ := h
  refine ⟨tTupRgF t, fun i => pe_tupRgF (F.calm hot0 i) (hg i) (hm i) (h1 i) (na i), fun H0 B ρ σ H Q s p => ?_⟩
  refine h2 H0 B ρ σ H _ s (p.bind.to (Same.refl _) fun ds _ p1 a b H1 h3 e e1 => ⟨h3, fun q o hq ho => ?_⟩)
  subst e
  exact p1 _ _ (e1.trans (dom_upd hq)) (new_tup hq ho (rg_dq a b))
end
end Dn
set_option Elab.async false
set_option linter.all false
set_option maxRecDepth 100000
namespace Dn
open PySem PySem.Calls PyProof.Rows PySem.W
section
variable {prog : Program} {w : World} {A : Around} {E : Value → Shared → Prop} {s : Shared}
theorem collect_tup {l : Addr} {vs : List Value} {Q : List Value → Shared → Prop} (hl : IsTup s.heap l vs.toArray)
    (h : Q vs { s with heap := (s.heap.push (seqObj "list" #[] 0)).update s.heap.objs.size (Obj.mapSeq (· ++ vs.toArray)) }) (hsz : vs.length ≤ sizeLine) :
    wpAny (model prog w) A (collect (.ref l)) Q E s := by
  obtain ⟨o, ho, hc, n, hd⟩ := id hl
  unfold collect
  refine wpAny_bind (wpAny_runValue (codeAny_builtin entry_proto_collect' ?_))
  show wpAny _ _ (do again (.builtin "list.__iadd__" ⟨[← newList [], .ref l], []⟩)) _ _ s
  refine wpAny_bind (wpAny_newList (wpAny_pure ⟨Code.quiet_builtin _ (by decide +kernel), codeAny_builtin entry_list_iadd' ?_⟩))
  show wpAny _ _ (Builtin.List.listExtendWith (.ref s.heap.objs.size) (.ref l) (.ref s.heap.objs.size)) _ _ { s with heap := s.heap.push (seqObj "list" #[] 0) }
  unfold Builtin.List.listExtendWith
  have ho' : (s.heap.push (seqObj "list" #[] 0)).get? l = some o := Heap.get?_push_of_some _ ho
  refine wpAny_bind (wpAny_typeOf (T := "tuple") ⟨o, ho', hc⟩ ?_)
  have ht : (Value.type "tuple" == Value.type "tuple") = true := by rfl
  rw [if_pos (by rw [ht]; simp)]
  refine wpAny_bind (listItems_at ho' hd ?_)
  refine wpAny_bind (listItems_at (xs := #[]) (n := 0) (Heap.get?_push_size _ rfl) rfl ?_)
  rw [if_neg (by simp)]
  refine wpAny_bind (listUpdate_at (xs := #[]) (n := 0) (Heap.get?_push_size _ rfl) rfl ?_ (Nat.zero_le _) (by show (#[] ++ vs.toArray).size ≤ sizeLine + 1; simp only [Array.size_append, List.size_toArray, List.length_nil]; omega))
  refine wpAny_pure ?_
  show wpAny (model prog w) A (do
      let o ← load s.heap.objs.size
      match o.data with
      | .seq xs _ => pure xs.toList
      | _ => unsupported "internal:collect") Q E { s with heap := (s.heap.push (seqObj "list" #[] 0)).update s.heap.objs.size (Obj.mapSeq (· ++ vs.toArray)) }
  refine wpAny_bind (wpAny_load (get?_update_seq (Heap.get?_push_size _ rfl) _) ?_)
  show wpAny _ _ (pure ((#[] : Array Value) ++ vs.toArray).toList) Q E _
  rw [show ((#[] : Array Value) ++ vs.toArray).toList = vs by simp]
  exact wpAny_pure h
theorem sorted_of_sortT {l : Addr} {vs : List Value} {Q : Value → Shared → Prop} (hl : IsTup s.heap l vs.toArray) (hL : vs.length ≤ sizeLine)
    (body : ∀ E' : Value → Shared → Prop, wpAny (model prog w) A.in1.in1 (Builtin.«list.sort» ⟨[.ref (s.heap.objs.size + 1)], []⟩) (fun f s' => f = .done (.ret .none) ∧ Q (.ref (s.heap.objs.size + 1)) s') E' { s with heap := copyHeap s.heap vs }) :
    wpAny (model prog w) A (call (.builtin "sorted") [.ref l]) Q E s := by
  refine call_function_entry_kw kind_sorted plain_sorted entry_sorted (args_sorted1 _) ?_
  unfold Builtin.«sorted»
  refine wpAny_bind (m := checkCount "sorted" 1 1 _) (wpAny_pure ?_)
  refine wpAny_bind (collect_tup hl ?_ hL)
  refine wpAny_bind (wpAny_newList ?_ hL)
  have hsz : ((s.heap.push (seqObj "list" #[] 0)).update s.heap.objs.size (Obj.mapSeq (· ++ vs.toArray))).objs.size = s.heap.objs.size + 1 := by
    rw [Heap.size_update, size_push']
  show wpAny _ _ _ _ _ { s with heap := copyHeap s.heap vs }
  rw [hsz]
  refine wpAny_bind (wpAny_holding (wpAny_call_entry_kw slot_list_sort ⟨_, copyHeap_at s.heap vs, rfl⟩ entry_list_sort ?body (args_list_sort _)))
  case body =>
    show wpAny (model prog w) A.in1.in1 (Builtin.«list.sort» ⟨[.ref (s.heap.objs.size + 1)], []⟩) _ _ _
    refine wpAny_mono (body _) (fun f s' hf => ?_) fun _ _ e => e
    obtain ⟨rfl, hq⟩ := hf
    exact ⟨_, rfl, wpAny_pure ⟨_, rfl, hq⟩⟩
theorem sorted_dataT {β : Type} {vs : List Value} {bs : List β} {enc : β → PyData} {R : Value → β → Prop} {l : Addr} {Q : Value → Shared → Prop} (hl : IsTup s.heap l vs.toArray) (e : EachIs R vs bs) (er : EachIs (fun v b => ∃ as, Reads s.heap v (enc b) as) vs bs) (hal : AllAlike (bs.map enc)) (hk : Sortable (bs.map enc)) (hL : bs.length ≤ sizeLine)
    (hu : ∀ b, b ∈ bs → A.units + 2 + (enc b).depth < cLine) (h : ∀ out, out.length = bs.length → EachIs R out (bs.mergeSort (dataLe false enc)) → Q (.ref (s.heap.objs.size + 1)) { s with heap := sortedAll s.heap vs (List.toArray out) }) :
    wpAny (model prog w) A (call (.builtin "sorted") [.ref l]) Q E s := by
  have er' : EachIs (fun v b => ∃ as, Reads (sortingHeap (copyHeap s.heap vs) (s.heap.objs.size + 1) vs) v (enc b) as) vs bs := er.mono fun _ _ ⟨as, r⟩ => ⟨as, PyProof.Rows.Reads.keeps (fun _ _ => sorting_copy_old) r⟩
  have S := SortsAt.data (prog := prog) (w := w) (A := A.in1.in1) (s := { s with heap := sortingHeap (copyHeap s.heap vs) (s.heap.objs.size + 1) vs }) (each_map (R := fun v d => ∃ as, Reads (sortingHeap (copyHeap s.heap vs) (s.heap.objs.size + 1) vs) v d as) enc er') hal hk (bound_map hu)
  exact sorted_of_sortT hl (by rw [e.length]; exact hL) fun _ => list_sort_vals (s := { s with heap := copyHeap s.heap vs }) (copyHeap_at s.heap vs) S (by rw [e.length]; exact hL)
    ⟨rfl, h _ (by rw [sortVals_length false rfl]; exact e.length) (sortVals_data false e er' hal)⟩
end
end Dn
namespace Dn
open PySem L2
open PySem.W (AllAlike Sortable EachIs dataLe alike)
/-- the values of an EachIs -/
theorem vals_each : ∀ {vs : List Value} {bs : List (V × D)}, EachIs (fun u b => RelV b.1 u) vs bs → Vals (bs.map (·.1)) vs
  | _, _, .nil => .nil
  | _, _, .cons h t => .cons h (vals_each t)
theorem each_vals : ∀ {xs : List V} {us : List Value} {ds : List D}, Vals xs us → xs.length = ds.length → EachIs (fun u (b : V × D) => RelV b.1 u) us (xs.zip ds)
  | _, _, [], .nil, _ => .nil
  | _, _, _ :: _, .cons h t, e => .cons h (each_vals t (by simpa using e))
  | _, _, [], .cons _ _, e => by simp at e
  | _, _, _ :: _, .nil, e => by simp at e
theorem each_reads {h : Heap} : ∀ {xs : List V} {us : List Value} {ds : List D} {as : List Addr}, Vals xs us → xs.length = ds.length → ReadsAll h us ds as → EachIs (fun u (b : V × D) => ∃ as, Reads h u b.2 as) us (xs.zip ds)
  | _, _, [], _, .nil, _, _ => .nil
  | _, _, _ :: _, _, .cons h t, e, r => by
    cases r with
    | cons r1 r2 => exact .cons ⟨_, r1⟩ (each_reads t (by simpa using e) r2)
  | _, _, [], _, .cons _ _, e, _ => by simp at e
  | _, _, _ :: _, _, .nil, e, _ => by simp at e
def alikeAllB (ds : List D) : Bool := ds.all fun d => ds.all fun d' => alike d d'
def isTupNE : D → Bool
  | .tuple (_ :: _) => true
  | _ => false
def isPlainK : D → Bool
  | .none => false
  | .tuple _ => false
  | _ => true
def sortOk (ds : List D) : Bool := alikeAllB ds && (ds.all isTupNE || ds.all isPlainK) && ds.all fun d => SeqAt.shaped d
theorem sortOk_of {ds : List D} (h : sortOk ds = true) : AllAlike ds ∧ Sortable ds ∧ ∀ d ∈ ds, SeqAt.shaped d = true := by
  unfold sortOk alikeAllB at h
  simp only [Bool.and_eq_true, List.all_eq_true, Bool.or_eq_true] at h
  obtain ⟨⟨h1, h2⟩, h3⟩ := h
  refine ⟨h1, ?_, h3⟩
  rcases h2 with h2 | h2
  · refine .inl fun d hd => ?_
    have q := h2 d hd
    unfold isTupNE at q
    split at q
    · exact ⟨_, _, rfl⟩
    · cases q
  · refine .inr fun d hd => ?_
    have q := h2 d hd
    unfold isPlainK at q
    split at q
    · cases q
    · cases q
    · rename_i h4 h5
      exact ⟨fun z => h4 z, fun xs z => h5 xs z⟩
def leAny (a b : D) : Bool := dataLe false (fun d : D => d) a b
def sortL (ds : List D) : List D := ds.mergeSort leAny
def sortedD : List D → Option D
  | [.list ds] => if sortOk ds = true then some (.list (sortL ds)) else none
  | [.tuple ds] => if sortOk ds = true then some (.list (sortL ds)) else none
  | _ => none
section
variable {X : Cx}
def rSrt (K : PySem.W.Frag) : List V → Hp → VK → Prop := fun vs H Q => ∃ (a : Addr) (xs : List V) (ds : List D), vs = [V.ref a] ∧ (SqL K H a xs ∨ SqT K H a xs) ∧ DpAll K H xs ds ∧ sortOk ds = true ∧
  ∀ p, H p = none → Q (.ref p) (upd H p (.lst (((xs.zip ds).mergeSort (dataLe false (·.2))).map (·.1))))
theorem DpAll.len {K : PySem.W.Frag} {H : Hp} : ∀ {xs : List V} {ds : List D}, DpAll K H xs ds → xs.length = ds.length
  | _, _, .nil => rfl
  | _, _, .cons _ t => by simp only [List.length_cons]; rw [DpAll.len t]
open PySem.Spec PyProof.Rows in
theorem cr_srt (hu : X.A.units + 100 < cLine) : CallR X (.builtin "sorted") (rSrt X.K) := by
  intro pins s σ H vs us Q I r h
  obtain ⟨a, xs, ds, rfl, hs, hd, ho, q⟩ := h
  obtain ⟨h1, h2, h3⟩ := sortOk_of ho
  have hl := DpAll.len hd
  have em : (xs.zip ds).map (·.2) = ds := List.map_snd_zip (by omega)
  have lz : (xs.zip ds).length = xs.length := by rw [List.length_zip]; omega
  rw [Vals.ref1 r]
  have fin : ∀ (its : List Value) (hz : xs.length ≤ sizeLine), Vals xs its → ∀ out, out.length = (xs.zip ds).length → EachIs (fun u (b : V × D) => RelV b.1 u) out ((xs.zip ds).mergeSort (dataLe false (·.2))) →
      EP X pins σ Q (.ref (s.heap.objs.size + 1)) { s with heap := sortedAll s.heap its (List.toArray out) } := by
    intro its hz rv out lo eo
    obtain ⟨ep, he'⟩ := PyProof.Rows.sortedAll_at s.heap its out.toArray
    refine ⟨.ref _, upd H (s.heap.objs.size + 1) (.lst (((xs.zip ds).mergeSort (dataLe false (·.2))).map (·.1))), I.laid (t' := s.toks) (fun _ _ => PyProof.Rows.sortedAll_old) (Nat.le_succ _) ⟨?_, out, ep, vals_each eo, he'⟩, rfl, q _ (I.hok.fresh (Nat.le_succ _))⟩
    rw [List.length_map, List.length_mergeSort, lz]
    exact hz
  have bound : ∀ b, b ∈ xs.zip ds → X.A.units + 2 + b.2.depth < cLine := fun b hb => by
    have z := SeqAt.depth_of_shaped (h3 b.2 (by rw [← em]; exact List.mem_map.mpr ⟨b, hb, rfl⟩))
    omega
  rcases hs with hs | hs
  · obtain ⟨its, rv, hL, hz⟩ := I.list hs
    obtain ⟨as, ra⟩ := Dp.readsAll I ds xs its hd rv
    exact PySem.W.sorted_data (enc := (·.2)) (R := fun u (b : V × D) => RelV b.1 u) hL.isList (each_vals rv hl) (each_reads rv hl ra) (by rw [em]; exact h1) (by rw [em]; exact h2) (by rw [lz]; exact hz) bound (fin its hz rv)
  · obtain ⟨its, rv, hL, hz⟩ := I.tuple hs
    obtain ⟨as, ra⟩ := Dp.readsAll I ds xs its hd rv
    exact sorted_dataT (enc := (·.2)) (R := fun u (b : V × D) => RelV b.1 u) hL (each_vals rv hl) (each_reads rv hl ra) (by rw [em]; exact h1) (by rw [em]; exact h2) (by rw [lz]; exact hz) bound (fin its hz rv)
end
theorem DqL.ofMem {K : PySem.W.Frag} {H : Hp} {A : Av} : ∀ {l : List (V × D)}, (∀ b ∈ l, Dq K H A b.1 b.2) → DqL K H A (l.map (·.1)) (l.map (·.2))
  | [], _ => .nil
  | b :: r, h => .cons (h b (List.mem_cons_self ..)) (DqL.ofMem fun c hc => h c (List.mem_cons_of_mem _ hc))
theorem DqL.zipMem {K : PySem.W.Frag} {H : Hp} {A : Av} : ∀ {vs : List V} {ds : List D}, DqL K H A vs ds → ∀ b ∈ vs.zip ds, Dq K H A b.1 b.2
  | _, _, .nil, b, hb => by simp at hb
  | _, _, .cons h t, b, hb => by
    rw [List.zip_cons_cons] at hb
    rcases List.mem_cons.mp hb with e | e
    · subst e; exact h
    · exact DqL.zipMem t b e
section
variable {F : Fam}
theorem sort_dq {K : PySem.W.Frag} {H : Hp} {A : Av} {vs : List V} {ds : List D} (h : DqL K H A vs ds) : DqL K H A (((vs.zip ds).mergeSort (dataLe false (·.2))).map (·.1)) (sortL ds) := by
  have e : sortL ds = ((vs.zip ds).mergeSort (dataLe false (·.2))).map (·.2) := by
    have e1 := PySem.W.sort_maps (r := dataLe false fun b : V × D => b.2) (s := leAny) (fun b : V × D => b.2) (l := vs.zip ds) (fun _ _ _ _ => rfl)
    rw [e1, List.map_snd_zip (by rw [h.length]; exact Nat.le_refl _)]
    rfl
  rw [e]
  exact DqL.ofMem fun b hb => DqL.zipMem h b ((List.mergeSort_perm _ _).mem_iff.mp hb)
theorem lay_all {ds : List D} (h : ∀ d ∈ ds, SeqAt.shaped d = true) : PyData.canLayAll0 ds = true := by
  induction ds with
  | nil => rfl
  | cons d r ih =>
    show (PyData.canLay0 d && PyData.canLayAll0 r) = true
    rw [Bool.and_eq_true]
    exact ⟨shaped_lay (h d (List.mem_cons_self ..)), ih fun x hx => h x (List.mem_cons_of_mem _ hx)⟩
theorem c_sorted : CallD F (.builtin "sorted") sortedD := by
  refine CallD.mk (r := rSrt) (fun i => cr_srt (by have := units_of i; omega)) ?_
  intro A H vs ds d hA r hg Q k
  unfold sortedD at hg
  split at hg
  · split at hg
    · rename_i hs
      cases hg
      cases r with
      | cons r1 r2 =>
        cases r2
        obtain ⟨a, xs, rfl, h1, h2⟩ := r1.list
        exact ⟨a, xs, _, rfl, .inl h1, DqL.dp h2 (lay_all (sortOk_of hs).2.2), hs, fun p hp => k _ _ (dom_upd hp) (new_lst hp hA (sort_dq h2))⟩
    · cases hg
  · split at hg
    · rename_i hs
      cases hg
      cases r with
      | cons r1 r2 =>
        cases r2
        obtain ⟨a, xs, rfl, h1, h2⟩ := r1.tuple
        exact ⟨a, xs, _, rfl, .inr h1, DqL.dp h2 (lay_all (sortOk_of hs).2.2), hs, fun p hp => k _ _ (dom_upd hp) (new_lst hp hA (sort_dq h2))⟩
    · cases hg
  · cases hg
end
end Dn
set_option Elab.async false
set_option linter.all false
set_option maxRecDepth 100000
namespace Dn
open PySem L2
/-! ### a list that a slot owns is changed -/
section
variable {K : PySem.W.Frag} {H H0 : Hp} {τ : List Kd} {B : Av} {ρ : Rho} {σ : St} {i : Nat} {ds : List D}
theorem SR.setList (s : SR K τ H0 B ρ σ H) (hk : (kd τ i).isOwn = true) (h : ρ[i]? = some (some (.list ds))) :
    ∃ p vs, σ[i]? = some (some (.ref p)) ∧ OwnX τ B ρ σ p ∧ H p = some (.lst vs) ∧ DqL K H (OwnX τ B ρ σ) vs ds ∧ (kd τ i = .owne → DqL K H (fun a => OwnX τ B ρ σ a ∨ dom H0 a) vs ds) ∧
      ∀ H' vs' ds', Same H H' → DqL K H' (OwnX τ B ρ σ) vs' ds' → (kd τ i = .owne → DqL K H' (fun a => OwnX τ B ρ σ a ∨ dom H0 a) vs' ds') →
        SR K τ H0 B (ρ.set i (some (.list ds'))) σ (upd H' p (.lst vs')) ∧ (∀ q, OwnX τ B (ρ.set i (some (.list ds'))) σ q ↔ OwnX τ B ρ σ q) ∧ Kp (OwnX τ B ρ σ) H (OwnX τ B (ρ.set i (some (.list ds'))) σ) (upd H' p (.lst vs')) := by
  obtain ⟨p, h1, h2, h3, h4, h5⟩ := s.ownCell hk h
  have lst : ∀ {O : Av}, Cell K H O p (.list ds) → ∃ vs, H p = some (.lst vs) ∧ DqL K H O vs ds := by
    rintro O (⟨vs, es, e, q1, q2⟩ | ⟨vs, es, e, q1, q2⟩ | ⟨vs, es, e, q1, q2⟩)
    · cases e; exact ⟨vs, q1, q2⟩
    · cases e
    · cases e
  obtain ⟨vs, g1, g2⟩ := lst h4
  have hO : OwnX τ B ρ σ p := .inl ⟨i, h2⟩
  refine ⟨p, vs, h1, hO, g1, g2, fun q => ?_, fun H' vs' ds' e d1 d2 => ?_⟩
  · obtain ⟨vs2, g3, g4⟩ := lst (h5 q)
    rw [g1] at g3
    cases g3
    exact g4
  · have s' := s.more e
    have hp : H' p = some (.lst vs) := e _ _ g1
    have new : SlotOk K H0 (upd H' p (.lst vs')) (OwnX τ B ρ σ) (.ref p) (.list ds') (kd τ i) := by
      cases q : kd τ i with
      | own => exact ⟨p, rfl, h3, .inl ⟨vs', ds', rfl, upd_same, DqL.upd hp trivial hO d1⟩⟩
      | owne => exact ⟨p, rfl, h3, .inl ⟨vs', ds', rfl, upd_same, DqL.upd hp trivial (.inl hO) (d2 q)⟩⟩
      | _ => rw [q] at hk; cases hk
    obtain ⟨s2, hX⟩ := s'.mut h2 hp trivial new
    refine ⟨s2, hX, ⟨fun a o ha hn t => ?_, fun a ha => ?_⟩, fun a z => .inl ((hX a).mp z)⟩
    · rw [upd_ne (fun z => hn (by rw [z]; exact hO))]
      exact e.get a o ha t
    · by_cases hap : a = p
      · rw [hap]; exact fun z => absurd (upd_same.symm.trans z) (fun w => by cases w)
      · rw [upd_ne hap]; exact e.dm a ha
end
/-- an expression that changes what a slot owns -/
def DnM (F : Fam) (τ : List Kd) (e : Expr) (f : Rho → Res (D × Rho)) : Prop := ∃ t, (∀ i, PE (F.X i) e t) ∧
  ∀ H0 B ρ σ H (Q : VK), SR F.K τ H0 B ρ σ H → Post F σ H (fun r => ∀ v H', SR F.K τ H0 B r.2 σ H' → Kp (OwnX τ B ρ σ) H (OwnX τ B r.2 σ) H' → Dq F.K H' (OwnX τ B r.2 σ) v r.1 → Q v H') (f ρ) → t σ H Q
section
variable {F : Fam} {τ : List Kd} {rf : Bool} {e a b : Expr} {es : List Expr} {f fa fb : Rho → Res D} {fm : Rho → Res (D × Rho)} {fl la lb : Fl} {pos px apos cpos : Pos} {x : Str}
def sDropM (f : Rho → Res (D × Rho)) : Rho → Out := fun ρ => outOf (f ρ) fun r => .next r.2
theorem ds_exprM (h : DnM F τ e fm) (hs : ∀ i, swapsWith e none pos.line (F.X i).env = pure false := by intro _; rfl) : DnS F τ τ rf (.Expr e pos) (sDropM fm) := by
  obtain ⟨t, h1, h2⟩ := h
  refine ⟨tDrop t, fun i => ps_expr (h1 i) (hs i), fun H0 B ρ σ H E s p => ?_⟩
  refine h2 H0 B ρ σ H _ s ((PostS.out s.ext p).to (Same.refl _) fun r _ p1 v H' s' k' q => ?_)
  exact p1 σ H' s' k'
/-- target = an expression that changes -/
def sAsgGM (h : D → Rho → Option Rho) (f : Rho → Res (D × Rho)) : Rho → Out := fun ρ => outOf (f ρ) fun r => outOf (ofO (h r.1 r.2)) .next
theorem ds_asgGM {tg : Expr} {hg : D → Rho → Option Rho} {ts : List Nat} (h : DnM F τ e fm) (g : DnG F τ tg hg ts) (hs : ∀ i, swapsWithSole [tg] e pos.line (F.X i).env = pure false := by intro _; rfl) (hw : ∀ i, swappedStores [tg] e (F.X i).env = pure none := by intro _; rfl)
    (h1 : ∀ i, (assignEach [tg] (F.X i).env).map (·.2) = [assign tg (F.X i).env] := by intro _; rfl) : DnS F τ τ rf (.Assign [tg] e pos) (sAsgGM hg fm) := by
  obtain ⟨t, a1, a2⟩ := h
  obtain ⟨gg, g1, g2⟩ := g
  refine ⟨tAsg t gg, fun i => ps_asg (a1 i) (g1 i) (hs i) (hw i) (h1 i), fun H0 B ρ σ H E s p => ?_⟩
  refine a2 H0 B ρ σ H _ s ((PostS.out s.ext p).to (Same.refl _) fun r _ p1 v H' s' k' q => ?_)
  cases hh : hg r.1 r.2 with
  | none => rw [hh] at p1; exact p1.elim
  | some ρ' =>
    rw [hh] at p1
    exact g2 H0 B r.2 σ H' v r.1 ρ' _ s' q hh fun σ' s2 o2 _ _ => p1 σ' H' s2 (k'.trans (Kp.sub fun a z => (o2 a).mp z))
/-- target = e, a target of several names -/
def sAsgG (h : D → Rho → Option Rho) (f : Rho → Res D) : Rho → Out := fun ρ => outOf (f ρ) fun d => outOf (ofO (h d ρ)) .next
theorem ds_asgG {tg : Expr} {hg : D → Rho → Option Rho} {ts : List Nat} (h : DnE F τ e f fl) (g : DnG F τ tg hg ts) (hs : ∀ i, swapsWithSole [tg] e pos.line (F.X i).env = pure false := by intro _; rfl) (hw : ∀ i, swappedStores [tg] e (F.X i).env = pure none := by intro _; rfl)
    (h1 : ∀ i, (assignEach [tg] (F.X i).env).map (·.2) = [assign tg (F.X i).env] := by intro _; rfl) : DnS F τ τ rf (.Assign [tg] e pos) (sAsgG hg f) := by
  obtain ⟨t, a1, a2⟩ := h
  obtain ⟨gg, g1, g2⟩ := g
  refine ⟨tAsg t gg, fun i => ps_asg (a1 i) (g1 i) (hs i) (hw i) (h1 i), fun H0 B ρ σ H E s p => ?_⟩
  refine a2 H0 B ρ σ H _ s ((PostS.out s.ext p).to (Same.refl _) fun d _ p1 v H' e q => ?_)
  cases hh : hg d ρ with
  | none => rw [hh] at p1; exact p1.elim
  | some ρ' =>
    rw [hh] at p1
    exact g2 H0 B ρ σ H' v d ρ' _ (s.more e) (Dq.mono (Same.refl _) q (av_own s)) hh fun σ' s2 o2 _ _ => p1 σ' H' s2 ((Kp.same e).trans (Kp.sub fun a z => (o2 a).mp z))
/-! #### x.append(e), x.extend(e), x.insert(i, e), x.pop(), x.pop(i) -/
def ownL (i : Nat) (ρ : Rho) : Res (List D) := match ρ[i]? with
  | some (some (.list ds)) => .ok ds
  | _ => .bad
theorem ownL_ok {σ : St} {H : Hp} {i : Nat} {ρ : Rho} {P : List D → Prop} (h : Post F σ H P (ownL i ρ)) : ∃ ds, ρ[i]? = some (some (.list ds)) ∧ P ds := by
  unfold ownL at h
  split at h
  · exact ⟨_, by assumption, h⟩
  · exact h.elim
def eAppend (i : Nat) (f : Rho → Res D) : Rho → Res (D × Rho) := fun ρ => (ownL i ρ).bind fun ds => (f ρ).bind fun d => if ds.length < sizeLine then .ok (.none, ρ.set i (some (.list (ds ++ [d])))) else .bad
theorem dm_append (i : Nat) (h : DnE F τ e f fl) (hk : kd τ i = .own ∨ (kd τ i = .owne ∧ fl ≠ .z) := by first | exact .inl rfl | exact .inr ⟨rfl, by decide⟩) (hN : ∀ j, (F.X j).N[i]? = some x := by intro _; rfl) (hv : ∀ j, Vis (F.X j).env.scope x := by intro _; first | exact Or.inl rfl | exact Or.inr (Or.inl rfl) | exact Or.inr (Or.inr rfl))
    (hd : (x == ("__debug__" : Str)) = false := by decide) (hcd : (x == ("__classdict__" : Str)) = false := by decide) (hbase : ∀ j, attributeBase (.Name x px) "append" (F.X j).env (eval (.Name x px) (F.X j).env) = eval (.Name x px) (F.X j).env := by intro _; rfl)
    (hfew : ∀ j, ((backTo cpos (starEach [e] (F.X j).env)).all (fun x => !x.1) && (backToKw cpos (keywordEach [] (F.X j).env)).all (fun x => x.1.isSome) && decide ([e].length + ([] : List Keyword).length + (if ([] : List Keyword).isEmpty then 0 else 1) < 30)) = true := by intro _; rfl)
    (hline : (apos.endLine == cpos.line) = true := by rfl) (hs : ∀ j, starEach [e] (F.X j).env = (false, eval e (F.X j).env) :: starEach [] (F.X j).env := by intro _; rfl) :
    DnM F τ (.Call (.Attribute (.Name x px) "append" apos) [e] [] cpos) (eAppend i f) := by
  obtain ⟨t, h1, h2⟩ := h
  have ho : (kd τ i).isOwn = true := by rcases hk with q | ⟨q, _⟩ <;> rw [q] <;> rfl
  refine ⟨tBM F.K "list" rAppend (tVar i) (tCons t tNil), fun j => by
    have z := pe_bm (X := F.X j) PySem.F.plainAttrs_list PySem.F.slot_list_append PySem.F.type_list_append mt_append (pe_var (hN j) (hv j) hd hcd) (pa_cons (h1 j) pa_nil (hs j)) (hbase j) (hfew j) hline (hs j) rfl
    rw [F.hK j] at z; exact z, fun H0 B ρ σ H Q s p => ?_⟩
  obtain ⟨ds, hρ, p1⟩ := ownL_ok p.bind
  obtain ⟨q, vs, g1, gO, g2, g3, g4, g5⟩ := s.setList ho hρ
  refine ⟨.ref q, g1, .inl ⟨rfl, vs, SqL.of g2⟩, ?_⟩
  refine h2 H0 B ρ σ H _ s (p1.bind.to (Same.refl _) fun d _ p2 v H' e' r => ?_)
  by_cases hl : ds.length < sizeLine
  · rw [if_pos hl] at p2
    have hz : vs.length < sizeLine := by rw [g3.length]; exact hl
    obtain ⟨k1, k2, k3⟩ := g5 H' (vs ++ [v]) (ds ++ [d]) e' ((DqL.mono e' g3 fun _ z => z).append (.cons (Dq.mono (Same.refl _) r (av_own s)) .nil)) (fun hq => by
      refine (DqL.mono e' (g4 hq) fun _ z => z).append (.cons (Dq.mono (Same.refl _) r fun a z => ?_) .nil)
      rcases hk with w | ⟨_, w⟩
      · rw [hq] at w; cases w
      · cases fl with
        | z => exact absurd rfl w
        | e => exact z
        | s => exact z.elim (s.own_dom a) (s.ent_dom a))
    exact ⟨q, vs, v, rfl, rfl, e' _ _ g2, hz, p2 _ _ k1 k3 .non⟩
  · rw [if_neg hl] at p2; exact p2.elim
/-- found.append(left.pop(..)): the argument changes another slot's list -/
def eAppendM (i : Nat) (f : Rho → Res (D × Rho)) : Rho → Res (D × Rho) := fun ρ => (ownL i ρ).bind fun ds => (f ρ).bind fun r => (ownL i r.2).bind fun ds' => if ds'.length < sizeLine then .ok (.none, r.2.set i (some (.list (ds' ++ [r.1])))) else .bad
theorem dm_appendM (i : Nat) (h : DnM F τ e fm) (hk : kd τ i = .own := by rfl) (hN : ∀ j, (F.X j).N[i]? = some x := by intro _; rfl) (hv : ∀ j, Vis (F.X j).env.scope x := by intro _; first | exact Or.inl rfl | exact Or.inr (Or.inl rfl) | exact Or.inr (Or.inr rfl))
    (hd : (x == ("__debug__" : Str)) = false := by decide) (hcd : (x == ("__classdict__" : Str)) = false := by decide) (hbase : ∀ j, attributeBase (.Name x px) "append" (F.X j).env (eval (.Name x px) (F.X j).env) = eval (.Name x px) (F.X j).env := by intro _; rfl)
    (hfew : ∀ j, ((backTo cpos (starEach [e] (F.X j).env)).all (fun x => !x.1) && (backToKw cpos (keywordEach [] (F.X j).env)).all (fun x => x.1.isSome) && decide ([e].length + ([] : List Keyword).length + (if ([] : List Keyword).isEmpty then 0 else 1) < 30)) = true := by intro _; rfl)
    (hline : (apos.endLine == cpos.line) = true := by rfl) (hs : ∀ j, starEach [e] (F.X j).env = (false, eval e (F.X j).env) :: starEach [] (F.X j).env := by intro _; rfl) :
    DnM F τ (.Call (.Attribute (.Name x px) "append" apos) [e] [] cpos) (eAppendM i fm) := by
  obtain ⟨t, h1, h2⟩ := h
  have ho : (kd τ i).isOwn = true := by rw [hk]; rfl
  refine ⟨tBM F.K "list" rAppend (tVar i) (tCons t tNil), fun j => by
    have z := pe_bm (X := F.X j) PySem.F.plainAttrs_list PySem.F.slot_list_append PySem.F.type_list_append mt_append (pe_var (hN j) (hv j) hd hcd) (pa_cons (h1 j) pa_nil (hs j)) (hbase j) (hfew j) hline (hs j) rfl
    rw [F.hK j] at z; exact z, fun H0 B ρ σ H Q s p => ?_⟩
  obtain ⟨ds, hρ, p1⟩ := ownL_ok p.bind
  obtain ⟨q, vs, g1, gO, g2, _⟩ := s.setList ho hρ
  refine ⟨.ref q, g1, .inl ⟨rfl, vs, SqL.of g2⟩, ?_⟩
  refine h2 H0 B ρ σ H _ s (p1.bind.to (Same.refl _) fun r _ p2 v H' s' k' rv => ?_)
  obtain ⟨ds', hρ', p3⟩ := ownL_ok p2.bind
  obtain ⟨q', vs', f1, fO, f2, f3, f4, f5⟩ := s'.setList ho hρ'
  rw [g1] at f1
  cases f1
  by_cases hl : ds'.length < sizeLine
  · rw [if_pos hl] at p3
    have hz : vs'.length < sizeLine := by rw [f3.length]; exact hl
    obtain ⟨k1, k2, k3⟩ := f5 H' (vs' ++ [v]) (ds' ++ [r.1]) (Same.refl _) (f3.append (.cons rv .nil)) (fun hq => by rw [hk] at hq; cases hq)
    exact ⟨q, vs', v, rfl, rfl, f2, hz, p3 _ _ k1 (k'.trans k3) .non⟩
  · rw [if_neg hl] at p3; exact p3.elim
def eExtend (i : Nat) (f : Rho → Res D) : Rho → Res (D × Rho) := fun ρ => (ownL i ρ).bind fun ds => (f ρ).bind fun d => match d with
  | .list es => if ds.length + es.length ≤ sizeLine then .ok (.none, ρ.set i (some (.list (ds ++ es)))) else .bad
  | _ => .bad
theorem dm_extend (i : Nat) (h : DnE F τ e f fl) (hk : kd τ i = .own ∨ (kd τ i = .owne ∧ fl ≠ .z) := by first | exact .inl rfl | exact .inr ⟨rfl, by decide⟩) (hN : ∀ j, (F.X j).N[i]? = some x := by intro _; rfl) (hv : ∀ j, Vis (F.X j).env.scope x := by intro _; first | exact Or.inl rfl | exact Or.inr (Or.inl rfl) | exact Or.inr (Or.inr rfl))
    (hd : (x == ("__debug__" : Str)) = false := by decide) (hcd : (x == ("__classdict__" : Str)) = false := by decide) (hbase : ∀ j, attributeBase (.Name x px) "extend" (F.X j).env (eval (.Name x px) (F.X j).env) = eval (.Name x px) (F.X j).env := by intro _; rfl)
    (hfew : ∀ j, ((backTo cpos (starEach [e] (F.X j).env)).all (fun x => !x.1) && (backToKw cpos (keywordEach [] (F.X j).env)).all (fun x => x.1.isSome) && decide ([e].length + ([] : List Keyword).length + (if ([] : List Keyword).isEmpty then 0 else 1) < 30)) = true := by intro _; rfl)
    (hline : (apos.endLine == cpos.line) = true := by rfl) (hs : ∀ j, starEach [e] (F.X j).env = (false, eval e (F.X j).env) :: starEach [] (F.X j).env := by intro _; rfl) :
    DnM F τ (.Call (.Attribute (.Name x px) "extend" apos) [e] [] cpos) (eExtend i f) := by
  obtain ⟨t, h1, h2⟩ := h
  have ho : (kd τ i).isOwn = true := by rcases hk with q | ⟨q, _⟩ <;> rw [q] <;> rfl
  refine ⟨tBM F.K "list" rExtend (tVar i) (tCons t tNil), fun j => by
    have z := pe_bm (X := F.X j) PySem.F.plainAttrs_list PySem.F.slot_list_extend PySem.F.type_list_extend mt_extend (pe_var (hN j) (hv j) hd hcd) (pa_cons (h1 j) pa_nil (hs j)) (hbase j) (hfew j) hline (hs j) rfl
    rw [F.hK j] at z; exact z, fun H0 B ρ σ H Q s p => ?_⟩
  obtain ⟨ds, hρ, p1⟩ := ownL_ok p.bind
  obtain ⟨q, vs, g1, gO, g2, g3, g4, g5⟩ := s.setList ho hρ
  refine ⟨.ref q, g1, .inl ⟨rfl, vs, SqL.of g2⟩, ?_⟩
  refine h2 H0 B ρ σ H _ s (p1.bind.to (Same.refl _) fun d _ p2 v H' e' r => ?_)
  cases d with
  | list es =>
    have p2 : Post F σ H _ (if ds.length + es.length ≤ sizeLine then Res.ok (PyData.none, ρ.set i (some (.list (ds ++ es)))) else .bad) := p2
    by_cases hl : ds.length + es.length ≤ sizeLine
    · rw [if_pos hl] at p2
      cases r with
      | @lst _ b ws _ r1 r2 r3 =>
        have hz : vs.length + ws.length ≤ sizeLine := by rw [g3.length, r3.length]; exact hl
        obtain ⟨k1, k2, k3⟩ := g5 H' (vs ++ ws) (ds ++ es) e' ((DqL.mono e' g3 fun _ z => z).append (DqL.mono (Same.refl _) r3 fun a z => .inl (av_own s a z))) (fun hq => by
          refine (DqL.mono e' (g4 hq) fun _ z => z).append (DqL.mono (Same.refl _) r3 fun a z => .inl ?_)
          rcases hk with w | ⟨_, w⟩
          · rw [hq] at w; cases w
          · cases fl with
            | z => exact absurd rfl w
            | e => exact z
            | s => exact z.elim (s.own_dom a) (s.ent_dom a))
        exact ⟨q, b, vs, ws, rfl, rfl, e' _ _ g2, r2, hz, p2 _ _ k1 k3 .non⟩
    · rw [if_neg hl] at p2; exact p2.elim
  | _ => exact p2.elim
def eInsert (i : Nat) (fa fb : Rho → Res D) : Rho → Res (D × Rho) := fun ρ => (ownL i ρ).bind fun ds => (fa ρ).bind fun k => (fb ρ).bind fun d => (toI k).bind fun k => if ds.length < sizeLine ∧ 0 ≤ k ∧ k < 2 ^ 63 then .ok (.none, ρ.set i (some (.list (ds.take k.toNat ++ [d] ++ ds.drop k.toNat)))) else .bad
theorem dm_insert (i : Nat) (ha : DnE F τ a fa la) (hb : DnE F τ b fb lb) (hk : kd τ i = .own := by rfl) (hN : ∀ j, (F.X j).N[i]? = some x := by intro _; rfl) (hv : ∀ j, Vis (F.X j).env.scope x := by intro _; first | exact Or.inl rfl | exact Or.inr (Or.inl rfl) | exact Or.inr (Or.inr rfl))
    (hd : (x == ("__debug__" : Str)) = false := by decide) (hcd : (x == ("__classdict__" : Str)) = false := by decide) (hbase : ∀ j, attributeBase (.Name x px) "insert" (F.X j).env (eval (.Name x px) (F.X j).env) = eval (.Name x px) (F.X j).env := by intro _; rfl)
    (hfew : ∀ j, ((backTo cpos (starEach [a, b] (F.X j).env)).all (fun x => !x.1) && (backToKw cpos (keywordEach [] (F.X j).env)).all (fun x => x.1.isSome) && decide ([a, b].length + ([] : List Keyword).length + (if ([] : List Keyword).isEmpty then 0 else 1) < 30)) = true := by intro _; rfl)
    (hline : (apos.endLine == cpos.line) = true := by rfl) (hs : ∀ j, starEach [a, b] (F.X j).env = (false, eval a (F.X j).env) :: starEach [b] (F.X j).env := by intro _; rfl) (hs2 : ∀ j, starEach [b] (F.X j).env = (false, eval b (F.X j).env) :: starEach [] (F.X j).env := by intro _; rfl)
    (hpl : ∀ j, (backTo cpos (starEach [b] (F.X j).env)).any (·.1) = false := by intro _; rfl) :
    DnM F τ (.Call (.Attribute (.Name x px) "insert" apos) [a, b] [] cpos) (eInsert i fa fb) := by
  obtain ⟨t, a1, a2⟩ := ha
  obtain ⟨u, b1, b2⟩ := hb
  have ho : (kd τ i).isOwn = true := by rw [hk]; rfl
  refine ⟨tBM F.K "list" _ (tVar i) (tCons t (tCons u tNil)), fun j => by
    have z := pe_bm (X := F.X j) PySem.F.plainAttrs_list PySem.F.slot_list_insert PySem.F.type_list_insert mt_insert (pe_var (hN j) (hv j) hd hcd) (pa_cons (a1 j) (pa_cons (b1 j) pa_nil (hs2 j)) (hs j)) (hbase j) (hfew j) hline (hs j) (hpl j)
    rw [F.hK j] at z; exact z, fun H0 B ρ σ H Q s p => ?_⟩
  obtain ⟨ds, hρ, p1⟩ := ownL_ok p.bind
  obtain ⟨q, vs, g1, gO, g2, g3, g4, g5⟩ := s.setList ho hρ
  refine ⟨.ref q, g1, .inl ⟨rfl, vs, SqL.of g2⟩, ?_⟩
  refine a2 H0 B ρ σ H _ s (p1.bind.to (Same.refl _) fun k _ p2 v1 H1 e1 r1 => ?_)
  refine b2 H0 B ρ σ H1 _ (s.more e1) (p2.bind.to e1 fun d _ p3 v H' e2 r => ?_)
  have hk' : ∃ n, k = .int n := by cases k <;> first | exact p3.elim | exact ⟨_, rfl⟩
  obtain ⟨n, rfl⟩ := hk'
  cases r1
  have p3 : Post F σ H _ (if ds.length < sizeLine ∧ 0 ≤ n ∧ n < 2 ^ 63 then Res.ok (PyData.none, ρ.set i (some (.list (ds.take n.toNat ++ [d] ++ ds.drop n.toNat)))) else .bad) := p3
  have e' := e1.trans e2
  by_cases hl : ds.length < sizeLine ∧ 0 ≤ n ∧ n < 2 ^ 63
  · rw [if_pos hl] at p3
    have hz : vs.length < sizeLine := by rw [g3.length]; exact hl.1
    have g3' := DqL.mono e' g3 (O' := OwnX τ B ρ σ) fun _ z => z
    obtain ⟨k1, k2, k3⟩ := g5 H' (vs.take n.toNat ++ [v] ++ vs.drop n.toNat) (ds.take n.toNat ++ [d] ++ ds.drop n.toNat) e' (((g3'.take _).append (.cons (Dq.mono (Same.refl _) r (av_own (s.more e1))) .nil)).append (g3'.drop _)) (fun hq => by rw [hk] at hq; cases hq)
    exact ⟨q, vs, n, v, rfl, rfl, e' _ _ g2, hz, hl.2.1, hl.2.2, p3 _ _ k1 k3 .non⟩
  · rw [if_neg hl] at p3; exact p3.elim
def ePop (i : Nat) : Rho → Res (D × Rho) := fun ρ => (ownL i ρ).bind fun ds => match ds[ds.length - 1]? with
  | some d => .ok (d, ρ.set i (some (.list ds.dropLast)))
  | none => .bad
theorem DqL.dropLast {K : PySem.W.Frag} {H : Hp} {O : Av} {vs : List V} {ds : List D} (h : DqL K H O vs ds) : DqL K H O vs.dropLast ds.dropLast := by
  rw [List.dropLast_eq_take, List.dropLast_eq_take, h.length]
  exact h.take _
theorem DqL.eraseIdx {K : PySem.W.Frag} {H : Hp} {O : Av} : ∀ {vs : List V} {ds : List D} (k : Nat), DqL K H O vs ds → DqL K H O (vs.eraseIdx k) (ds.eraseIdx k)
  | _, _, _, .nil => .nil
  | _, _, 0, .cons _ t => t
  | _, _, k + 1, .cons h t => .cons h (DqL.eraseIdx k t)
theorem dm_pop (i : Nat) (hk : kd τ i = .own := by rfl) (hN : ∀ j, (F.X j).N[i]? = some x := by intro _; rfl) (hv : ∀ j, Vis (F.X j).env.scope x := by intro _; first | exact Or.inl rfl | exact Or.inr (Or.inl rfl) | exact Or.inr (Or.inr rfl))
    (hd : (x == ("__debug__" : Str)) = false := by decide) (hcd : (x == ("__classdict__" : Str)) = false := by decide) (hbase : ∀ j, attributeBase (.Name x px) "pop" (F.X j).env (eval (.Name x px) (F.X j).env) = eval (.Name x px) (F.X j).env := by intro _; rfl)
    (hline : (apos.endLine == cpos.line) = true := by rfl) : DnM F τ (.Call (.Attribute (.Name x px) "pop" apos) [] [] cpos) (ePop i) := by
  have ho : (kd τ i).isOwn = true := by rw [hk]; rfl
  refine ⟨tBM0 F.K "list" rPop (tVar i), fun j => by
    have z := pe_bm0 (X := F.X j) PySem.F.plainAttrs_list PySem.F.slot_list_pop PySem.F.type_list_pop mt_pop (pe_var (hN j) (hv j) hd hcd) (hbase j) hline
    rw [F.hK j] at z; exact z, fun H0 B ρ σ H Q s p => ?_⟩
  obtain ⟨ds, hρ, p1⟩ := ownL_ok p.bind
  obtain ⟨q, vs, g1, gO, g2, g3, g4, g5⟩ := s.setList ho hρ
  refine ⟨.ref q, g1, .inl ⟨rfl, vs, SqL.of g2⟩, ?_⟩
  cases hl : ds[ds.length - 1]? with
  | none => rw [hl] at p1; exact p1.elim
  | some d =>
    rw [hl] at p1
    obtain ⟨v, hv', r⟩ := g3.get hl
    obtain ⟨k1, k2, k3⟩ := g5 H vs.dropLast ds.dropLast (Same.refl _) g3.dropLast (fun hq => by rw [hk] at hq; cases hq)
    refine ⟨q, vs, v, rfl, rfl, g2, by rw [g3.length]; exact hv', p1 _ _ k1 k3 ?_⟩
    exact Dq.upd g2 trivial ((k2 q).mpr gO) (Dq.mono (Same.refl _) r fun a z => (k2 a).mp z)
def ePopAt (i : Nat) (f : Rho → Res D) : Rho → Res (D × Rho) := fun ρ => (ownL i ρ).bind fun ds => (f ρ).bind fun k => (toI k).bind fun k => if fits ds = true then (match ixN ds.length k with
  | some j => match ds[j]? with
    | some d => .ok (d, ρ.set i (some (.list (ds.eraseIdx j))))
    | none => .bad
  | none => .bad) else .bad
theorem dm_popAt (i : Nat) (h : DnE F τ e f fl) (hk : kd τ i = .own := by rfl) (hN : ∀ j, (F.X j).N[i]? = some x := by intro _; rfl) (hv : ∀ j, Vis (F.X j).env.scope x := by intro _; first | exact Or.inl rfl | exact Or.inr (Or.inl rfl) | exact Or.inr (Or.inr rfl))
    (hd : (x == ("__debug__" : Str)) = false := by decide) (hcd : (x == ("__classdict__" : Str)) = false := by decide) (hbase : ∀ j, attributeBase (.Name x px) "pop" (F.X j).env (eval (.Name x px) (F.X j).env) = eval (.Name x px) (F.X j).env := by intro _; rfl)
    (hfew : ∀ j, ((backTo cpos (starEach [e] (F.X j).env)).all (fun x => !x.1) && (backToKw cpos (keywordEach [] (F.X j).env)).all (fun x => x.1.isSome) && decide ([e].length + ([] : List Keyword).length + (if ([] : List Keyword).isEmpty then 0 else 1) < 30)) = true := by intro _; rfl)
    (hline : (apos.endLine == cpos.line) = true := by rfl) (hs : ∀ j, starEach [e] (F.X j).env = (false, eval e (F.X j).env) :: starEach [] (F.X j).env := by intro _; rfl) :
    DnM F τ (.Call (.Attribute (.Name x px) "pop" apos) [e] [] cpos) (ePopAt i f) := by
  obtain ⟨t, h1, h2⟩ := h
  have ho : (kd τ i).isOwn = true := by rw [hk]; rfl
  refine ⟨tBM F.K "list" rPopAt (tVar i) (tCons t tNil), fun j => by
    have z := pe_bm (X := F.X j) PySem.F.plainAttrs_list PySem.F.slot_list_pop PySem.F.type_list_pop mt_popAt (pe_var (hN j) (hv j) hd hcd) (pa_cons (h1 j) pa_nil (hs j)) (hbase j) (hfew j) hline (hs j) rfl
    rw [F.hK j] at z; exact z, fun H0 B ρ σ H Q s p => ?_⟩
  obtain ⟨ds, hρ, p1⟩ := ownL_ok p.bind
  obtain ⟨q, vs, g1, gO, g2, g3, g4, g5⟩ := s.setList ho hρ
  refine ⟨.ref q, g1, .inl ⟨rfl, vs, SqL.of g2⟩, ?_⟩
  refine h2 H0 B ρ σ H _ s (p1.bind.to (Same.refl _) fun k _ p2 v1 H' e' r1 => ?_)
  have hk' : ∃ n, k = .int n := by cases k <;> first | exact p2.elim | exact ⟨_, rfl⟩
  obtain ⟨n, rfl⟩ := hk'
  cases r1
  have p2 : Post F σ H _ (if fits ds = true then (match ixN ds.length n with
    | some j => match ds[j]? with
      | some d => Res.ok (d, ρ.set i (some (PyData.list (ds.eraseIdx j))))
      | none => .bad
    | none => .bad) else .bad) := p2
  by_cases hfit : fits ds = true
  rotate_left
  · rw [if_neg hfit] at p2; exact p2.elim
  rw [if_pos hfit] at p2
  have hfit : ds.length ≤ sizeLine := of_decide_eq_true hfit
  have hsl : sizeLine = 16777216 := sizeLine_eq
  cases hj : ixN ds.length n with
  | none => rw [hj] at p2; exact p2.elim
  | some j =>
    rw [hj] at p2
    dsimp only at p2
    cases hl : ds[j]? with
    | none => rw [hl] at p2; exact p2.elim
    | some d =>
      rw [hl] at p2
      have g3' := DqL.mono e' g3 (O' := OwnX τ B ρ σ) fun _ z => z
      obtain ⟨v, hv', r⟩ := g3'.get hl
      obtain ⟨k1, k2, k3⟩ := g5 H' (vs.eraseIdx j) (ds.eraseIdx j) e' (g3'.eraseIdx _) (fun hq => by rw [hk] at hq; cases hq)
      obtain ⟨i1, i2, i3, i4⟩ := ixN_seq hj
      have hlen := g3.length
      refine ⟨q, vs, n, j, v, rfl, rfl, e' _ _ g2, by omega, by omega, by rw [hlen]; exact i1, hv', p2 _ _ k1 k3 ?_⟩
      · exact Dq.upd (e' _ _ g2) trivial ((k2 q).mpr gO) (Dq.mono (Same.refl _) r fun a z => (k2 a).mp z)
/-! #### targets that change -/
def okO {α : Type} : Res α → Option α
  | .ok a => some a
  | _ => none
theorem okO_some {α : Type} {r : Res α} {a : α} (h : okO r = some a) : r = .ok a := by
  cases r with
  | ok b => cases h; rfl
  | exc c => cases h
  | bad => cases h
def DnGX (F : Fam) (τ : List Kd) (tg : Expr) (h : D → Rho → Option Rho) : Prop := ∃ g : TG, (∀ i, PG (F.X i) tg g) ∧
  ∀ H0 B ρ σ H v d ρ' (Q : St → Hp → Prop), SR F.K τ H0 B ρ σ H → Dq F.K H (OwnX τ B ρ σ) v d → h d ρ = some ρ' → (∀ σ' H', SR F.K τ H0 B ρ' σ' H' → Kp (OwnX τ B ρ σ) H (OwnX τ B ρ' σ') H' → Q σ' H') → g v σ H Q
def DnGXs (F : Fam) (τ : List Kd) (tgs : List Expr) (h : List D → Rho → Option Rho) : Prop := ∃ g : TGs, (∀ i, PGs (F.X i) tgs g) ∧
  ∀ H0 B ρ σ H vs ds ρ' (Q : St → Hp → Prop), SR F.K τ H0 B ρ σ H → DqL F.K H (OwnX τ B ρ σ) vs ds → h ds ρ = some ρ' → (∀ σ' H', SR F.K τ H0 B ρ' σ' H' → Kp (OwnX τ B ρ σ) H (OwnX τ B ρ' σ') H' → Q σ' H') → g vs σ H Q
theorem dgx_of {tg : Expr} {h : D → Rho → Option Rho} {ts : List Nat} (g : DnG F τ tg h ts) : DnGX F τ tg h := by
  obtain ⟨g, g1, g2⟩ := g
  exact ⟨g, g1, fun H0 B ρ σ H v d ρ' Q s r hh p => g2 H0 B ρ σ H v d ρ' Q s r hh fun σ' s2 o2 _ _ => p σ' H s2 (Kp.sub fun a z => (o2 a).mp z)⟩
def gSubD (i : Nat) (f : Rho → Res D) : D → Rho → Option Rho := fun d ρ => (okO (ownL i ρ)).bind fun ds => (okO (f ρ)).bind fun k => (okO (toI k)).bind fun k => (ixN ds.length k).map fun j => ρ.set i (some (.list (ds.set j d)))
theorem dgx_sub (i : Nat) (h : DnE F τ e f fl) (hk : kd τ i = .own := by rfl) (hN : ∀ j, (F.X j).N[i]? = some x := by intro _; rfl) (hv : ∀ j, Vis (F.X j).env.scope x := by intro _; first | exact Or.inl rfl | exact Or.inr (Or.inl rfl) | exact Or.inr (Or.inr rfl))
    (hd : (x == ("__debug__" : Str)) = false := by decide) (hcd : (x == ("__classdict__" : Str)) = false := by decide)
    (ha : ∀ k v, assign (.Subscript (.Name x px) e pos) (F.X k).env v = (do
      let ov ← holding [v] (eval (.Name x px) (F.X k).env)
      let iv ← holding [v, ov] (eval e (F.X k).env)
      standAt pos
      holding [v, ov, iv] (setItem ov iv v)
      release [v, ov, iv] []) := by intro _ _; rfl) : DnGX F τ (.Subscript (.Name x px) e pos) (gSubD i f) := by
  obtain ⟨t, h1, h2⟩ := h
  have ho : (kd τ i).isOwn = true := by rw [hk]; rfl
  refine ⟨gSub (tVar i) t rSetL, fun j => pg_sub (pe_var (hN j) (hv j) hd hcd) (h1 j) set_list (ha j), fun H0 B ρ σ H v d ρ' Q s r hh p => ?_⟩
  unfold gSubD at hh
  cases hL : okO (ownL i ρ) with
  | none => rw [hL] at hh; cases hh
  | some ds =>
    rw [hL] at hh
    have hρ : ρ[i]? = some (some (.list ds)) := by
      have z := okO_some hL
      unfold ownL at z
      split at z
      · cases z; assumption
      · cases z
    cases hF : okO (f ρ) with
    | none => rw [hF] at hh; cases hh
    | some k =>
      rw [hF] at hh
      have hf := okO_some hF
      obtain ⟨q, vs, g1, gO, g2, g3, g4, g5⟩ := s.setList ho hρ
      refine ⟨.ref q, g1, ?_⟩
      refine h2 H0 B ρ σ H _ s ?_
      rw [hf]
      intro v1 H' e' r1
      cases k with
      | int n =>
        have hh : (ixN ds.length n).map (fun j => ρ.set i (some (PyData.list (ds.set j d)))) = some ρ' := hh
        cases hj : ixN ds.length n with
        | none => rw [hj] at hh; cases hh
        | some j =>
          rw [hj] at hh
          cases hh
          cases r1
          obtain ⟨k1, k2, k3⟩ := g5 H' (vs.set j v) (ds.set j d) e' (DqL.set (Dq.mono e' r fun _ z => z) j (DqL.mono e' g3 fun _ z => z)) (fun hq => by rw [hk] at hq; cases hq)
          exact ⟨q, vs, n, j, rfl, rfl, e' _ _ g2, by rw [g3.length]; exact hj, p σ _ k1 k3⟩
      | _ => cases hh
theorem dgxs_nil : DnGXs F τ [] gNils := by
  refine ⟨gNil, fun j => pgs_nil, fun H0 B ρ σ H vs ds ρ' Q s r hh p => ?_⟩
  cases r with
  | nil => cases hh; exact ⟨rfl, p σ H s Kp.refl⟩
  | cons _ _ => cases hh
theorem dgxs_cons {tg : Expr} {tgs : List Expr} {h : D → Rho → Option Rho} {hs : List D → Rho → Option Rho} (h1 : DnGX F τ tg h) (h2 : DnGXs F τ tgs hs)
    (hq : ∀ i, (assignEach (tg :: tgs) (F.X i).env).map (·.2) = assign tg (F.X i).env :: (assignEach tgs (F.X i).env).map (·.2) := by intro _; rfl) : DnGXs F τ (tg :: tgs) (gConss h hs) := by
  obtain ⟨g, a1, a2⟩ := h1
  obtain ⟨gs, b1, b2⟩ := h2
  refine ⟨gCons g gs, fun j => pgs_cons (a1 j) (b1 j) (hq j), fun H0 B ρ σ H vs ds ρ' Q s r e p => ?_⟩
  cases r with
  | nil => cases e
  | @cons _ v vs d ds r1 r2 =>
    have e : (h d ρ).bind (fun ρ' => hs ds ρ') = some ρ' := e
    cases hd : h d ρ with
    | none => rw [hd] at e; cases e
    | some ρ1 =>
      rw [hd] at e
      refine ⟨v, vs, rfl, a2 H0 B ρ σ H v d ρ1 _ s r1 hd fun σ1 H1 s1 k1 => ?_⟩
      exact b2 H0 B ρ1 σ1 H1 vs ds ρ' Q s1 (DqL.keep (fun p z => s.ownMut z) k1.1 r2 (fun _ z => z) k1.2) e fun σ2 H2 s2 k2 => p σ2 H2 s2 (k1.trans k2)
theorem dgx_tup {tgs : List Expr} {kk : Nat} {hs : List D → Rho → Option Rho} (n : Nat) (h : DnGXs F τ tgs hs) (hn : ∀ i, (assignEach tgs (F.X i).env).length = n := by intro _; rfl)
    (hst : ∀ i, (assignEach tgs (F.X i).env).findIdx? (·.1) = none := by intro _; rfl) (hot0 : F.hot = false := by rfl) : DnGX F τ (.Tuple tgs kk pos) (gT n hs) := by
  obtain ⟨g, a1, a2⟩ := h
  refine ⟨gTup F.K n g, fun j => by have q := pg_tup (pos := pos) (k := kk) (F.calm hot0 j) (a1 j) (hn j) (hst j); rw [F.hK j] at q; exact q, fun H0 B ρ σ H v d ρ' Q s r e k => ?_⟩
  cases d with
  | tuple ds =>
    have e : (if ds.length = n then hs ds ρ else none) = some ρ' := e
    split at e
    · rename_i hl
      cases r with
      | @tup _ a xs _ h1 h2 => exact ⟨a, xs, rfl, h1.sq, by rw [h2.length]; exact hl, a2 H0 B ρ σ H xs ds ρ' Q s h2 e k⟩
    · cases e
  | _ => cases e
theorem ds_asgX {tg : Expr} {hg : D → Rho → Option Rho} (h : DnE F τ e f fl) (g : DnGX F τ tg hg) (hs : ∀ i, swapsWithSole [tg] e pos.line (F.X i).env = pure false := by intro _; rfl) (hw : ∀ i, swappedStores [tg] e (F.X i).env = pure none := by intro _; rfl)
    (h1 : ∀ i, (assignEach [tg] (F.X i).env).map (·.2) = [assign tg (F.X i).env] := by intro _; rfl) : DnS F τ τ rf (.Assign [tg] e pos) (sAsgG hg f) := by
  obtain ⟨t, a1, a2⟩ := h
  obtain ⟨gg, g1, g2⟩ := g
  refine ⟨tAsg t gg, fun i => ps_asg (a1 i) (g1 i) (hs i) (hw i) (h1 i), fun H0 B ρ σ H E s p => ?_⟩
  refine a2 H0 B ρ σ H _ s ((PostS.out s.ext p).to (Same.refl _) fun d _ p1 v H' e q => ?_)
  cases hh : hg d ρ with
  | none => rw [hh] at p1; exact p1.elim
  | some ρ' =>
    rw [hh] at p1
    exact g2 H0 B ρ σ H' v d ρ' _ (s.more e) (Dq.mono (Same.refl _) q (av_own s)) hh fun σ' H2 s2 k2 => p1 σ' H2 s2 ((Kp.same e).trans k2)
/-- a, b = x, y: two local names -/
def sPar (i j : Nat) (gs : Rho → Res (List D)) : Rho → Out := fun ρ => outOf (gs ρ) fun ds => match ds with
  | [d, e] => .next ((ρ.set i (some d)).set j (some e))
  | _ => .bad
theorem ds_par (i j : Nat) {y : Str} {gs : Rho → Res (List D)} {py pt pt2 : Pos} {kt k2 : Nat} (ha : DnA F τ [a, b] gs fl) (hij : i ≠ j := by decide) (ki : kd τ i = .sh := by rfl) (kj : kd τ j = .sh := by rfl) (hi : ∀ k, (F.X k).N[i]? = some x := by intro _; rfl) (hj : ∀ k, (F.X k).N[j]? = some y := by intro _; rfl)
    (hx : ∀ k, (F.X k).env.scope.names.lookup x = some .local := by intro _; rfl) (hy : ∀ k, (F.X k).env.scope.names.lookup y = some .local := by intro _; rfl)
    (hw : ∀ k, swappedStores [.Tuple [.Name x px, .Name y py] kt pt] (.Tuple [a, b] k2 pt2) (F.X k).env = pure (some [x, y]) := by intro _; rfl)
    (hs : ∀ k, swapsWithSole [.Tuple [.Name x px, .Name y py] kt pt] (.Tuple [a, b] k2 pt2) pos.line (F.X k).env = pure false := by intro _; rfl) (hot0 : F.hot = false := by rfl) :
    DnS F τ τ rf (.Assign [.Tuple [.Name x px, .Name y py] kt pt] (.Tuple [a, b] k2 pt2) pos) (sPar i j gs) := by
  obtain ⟨t, a1, a2⟩ := ha
  refine ⟨tPar i j t, fun k => ps_par (F.calm hot0 k) (F.nd k) (hi k) (hj k) hij (hx k) (hy k) (a1 k) (hw k) (hs k), fun H0 B ρ σ H E s p => ?_⟩
  refine a2 H0 B ρ σ H _ s ((PostS.out s.ext p).to (Same.refl _) fun ds _ p1 vs H1 e1 r1 => ?_)
  cases r1 with
  | nil => exact p1.elim
  | @cons _ v vs d ds r2 r3 =>
    cases r3 with
    | nil => exact p1.elim
    | @cons _ w ws e es r4 r5 =>
      cases r5 with
      | cons _ _ => exact p1.elim
      | nil =>
        have n1 : (kd τ i).isOwn = false := by rw [ki]; rfl
        have n2 : (kd τ j).isOwn = false := by rw [kj]; rfl
        have s1 := s.put (v := v) (d := d) n1 e1 (by rw [ki]; exact Dq.mono (Same.refl _) r2 (av_own s))
        have s2 := s1.put (v := w) (d := e) n2 (Same.refl _) (by rw [kj]; exact Dq.mono (Same.refl _) r4 fun a z => av_own s a ((ownX_put n1 a).mp z))
        exact ⟨v, w, rfl, p1 _ H1 s2 ((Kp.same e1).trans (Kp.sub fun a z => (ownX_put n1 a).mp ((ownX_put n2 a).mp z)))⟩
end
end Dn
set_option Elab.async false
set_option linter.all false
set_option maxRecDepth 100000
namespace Dn
open PySem L2
/-- one expression, two readings -/
theorem pe_or {X : Cx} {e : Expr} {t u : TE} (h : PE X e t) (g : PE X e u) : PE X e (fun σ H Q => t σ H Q ∨ u σ H Q) :=
  ⟨fun pins s σ H Q I q => q.elim (h.run pins s σ H Q I) (g.run pins s σ H Q I)⟩
section
open PySem.Spec PyProof.Rows
variable {prog : Program} {w : World} {A : Around} {E : Value → Shared → Prop} {s : Shared}
theorem pick_rev (xs : Array Value) : ((List.range xs.size).filterMap fun (m : Nat) => xs[(((xs.size : Int) - 1) + (m : Int) * (-1)).toNat]?) = xs.toList.reverse := by
  have e : (fun (m : Nat) => xs[(((xs.size : Int) - 1) + (m : Int) * (-1)).toNat]?) = fun (m : Nat) => xs.toList[(((xs.size : Int) - 1) + (m : Int) * (-1)).toNat]? := by
    funext m
    rw [Array.getElem?_toList]
  rw [e]
  have hs : xs.size = xs.toList.length := by rw [Array.length_toList]
  rw [hs]
  generalize xs.toList = l
  have h2 : ∀ n, n ≤ l.length → (List.range n).filterMap (fun (m : Nat) => l[(((l.length : Int) - 1) + (m : Int) * (-1)).toNat]?) = (l.drop (l.length - n)).reverse := by
    intro n
    induction n with
    | zero => intro _; simp
    | succ n ih =>
      intro hn
      rw [List.range_succ, List.filterMap_append, ih (by omega)]
      have hi : (((l.length : Int) - 1) + (n : Int) * (-1)).toNat = l.length - (n + 1) := by omega
      have hlt : l.length - (n + 1) < l.length := by omega
      have e2 : l[(((l.length : Int) - 1) + (n : Int) * (-1)).toNat]? = some l[l.length - (n + 1)] := by rw [hi]; exact List.getElem?_eq_getElem hlt
      rw [List.filterMap_cons, e2]
      have e3 : l.drop (l.length - (n + 1)) = l[l.length - (n + 1)] :: l.drop (l.length - n) := by
        rw [List.drop_eq_getElem_cons hlt]
        congr 1
        congr 1
        omega
      rw [e3, List.reverse_cons]
      rfl
  have h3 := h2 l.length (Nat.le_refl _)
  rw [Nat.sub_self, List.drop_zero] at h3
  exact h3
theorem getItem_tuple_rev {t sl : Addr} {items : Array Value} {u : Tok} {Q : Value → Shared → Prop} (ht : IsTup s.heap t items) (hs : s.heap.IsSliceOf sl .none .none (.int (-1) u))
    (h : Q (.ref s.heap.objs.size) { s with heap := s.heap.push { cls := .type "tuple", data := .seq items.toList.reverse.toArray } })
    (hsz : items.size ≤ sizeLine) : wpAny (model prog w) A (getItem (.ref t) (.ref sl)) Q E s := by
  have htake : sizeOk (.seq items.toList.reverse.toArray) := by
    show items.toList.reverse.toArray.size ≤ sizeLine
    rw [List.size_toArray, List.length_reverse, Array.length_toList]
    exact hsz
  obtain ⟨os, hos, hcs, hds⟩ := id hs
  have hTs : s.TypeIs (.ref sl) "slice" := ⟨os, hos, hcs⟩
  unfold getItem
  try with_reducible refine wpAny_holding ?_
  first | refine wpAny_bind (wpAny_pure ?_) | skip
  refine wpAny_bind (wpAny_sequenceKey ht.typeIs (by decide) ?_)
  refine wpAny_bind (wpAny_callSpecial?_slot (name := Str.ofString "__getitem__") ht.typeIs PyProof.Rows.slot_tuple_getitem
    (wpAny_call_entry PyProof.Rows.slot_tuple_getitem ht.typeIs entry_tuple_getitem ?_ (args_tuple_getitem _ _)))
  show wpAny _ _ (Builtin.Tuple.tupleItemsOf (.ref t) >>= _) _ _ s
  refine wpAny_bind (tupleItemsOf_ ht ?_)
  refine wpAny_bind (wpAny_typeOf hTs ?_)
  rw [if_pos (by decide)]
  have ap : wpAny (model prog w) A.in1 (Builtin.Slice.sliceApplied (.ref sl) (pure (items.size : Int))) (fun r s' => r = ((items.size : Int) - 1, -1, items.size) ∧ s' = s) E s := by
    unfold Builtin.Slice.sliceApplied Builtin.Slice.sliceFields
    refine wpAny_bind (wpAny_bind (wpAny_field hos hds (x := .none) rfl (wpAny_bind (wpAny_field hos hds (x := .none) rfl (wpAny_bind (wpAny_field hos hds (x := .int (-1) u) rfl (wpAny_pure ?_)))))))
    refine wpAny_bind (slicePart_int ?_)
    show wpAny _ _ (if ((-1 : Int) == 0) = true then _ else _) _ _ s
    rw [if_neg (by decide)]
    refine wpAny_bind (slicePart_none (wpAny_bind (slicePart_none (wpAny_bind (wpAny_pure ?_)))))
    refine wpAny_pure ⟨?_, rfl⟩
    have e : Builtin.Slice.slicePlaces ((items.size : Int) - 1) (-1) (-1) = items.size := by
      unfold Builtin.Slice.slicePlaces
      have h1 : ¬ ((-1 : Int) > 0) := by omega
      simp only [h1, if_false]
      split
      · have : (- -1 : Int) = 1 := by decide
        rw [this, Int.ediv_one]; omega
      · omega
    show ((items.size : Int) - 1, (-1 : Int), Builtin.Slice.slicePlaces ((items.size : Int) - 1) (-1) (-1)) = _
    rw [e]
  refine wpAny_bind (wpAny_mono ap (fun r s' hr => ?_) fun _ _ e => e)
  obtain ⟨rfl, rfl⟩ := hr
  have hno : ¬ ((((items.size : Int) - 1) == 0 && (-1 : Int) == 1 && items.size == items.size) = true) := by
    rw [show ((-1 : Int) == 1) = false from rfl, Bool.and_false, Bool.false_and]
    exact Bool.false_ne_true
  show wpAny _ _ (if (((items.size : Int) - 1) == 0 && (-1 : Int) == 1 && items.size == items.size) = true then _ else _) _ _ _
  rw [if_neg hno, pick_rev]
  first
    | exact wpAny_bind (m := Builtin.Tuple.tupleExact _) (wpAny_newObj_type (wpAny_pure ⟨_, rfl, wpAny_pure h⟩) htake)
    | exact wpAny_bind (m := Builtin.Tuple.tupleExact _) (wpAny_newObj_type (wpAny_bind (wpAny_pure (wpAny_pure ⟨_, rfl, wpAny_pure h⟩))) htake)
    | exact wpAny_bind (wpAny_bind (m := Builtin.Tuple.tupleExact _) (wpAny_newObj_type (wpAny_pure (wpAny_pure ⟨_, rfl, wpAny_pure h⟩)) htake))
    | exact wpAny_bind (wpAny_bind (m := Builtin.Tuple.tupleExact _) (wpAny_newObj_type (wpAny_pure ⟨_, rfl, wpAny_pure h⟩) htake))
end
def revS (z : Str) : Str := ⟨z.cps.toList.reverse.toArray⟩
section
variable {X : Cx}
def tRevA (K : PySem.W.Frag) (te : TE) : TE := fun σ H Q => te σ H fun x H1 => (∃ a xs, x = .ref a ∧ SqT K H1 a xs ∧ ∀ p (o : Obj), H1 p = none → o.dict = none → Q (.ref p) (upd H1 p (.frz o (.tup xs.reverse)))) ∨
  (∃ z, x = .str z ∧ z.length ≤ sizeLine ∧ Q (.str (revS z)) H1)
open PySem.Spec PyProof.Rows in
theorem pe_revA {e : Expr} {te : TE} {k : Nat} {p1 p2 p3 pos : Pos} (he : PE X e te) : PE X (.Subscript e (.Slice none none (some (.UnaryOp .USub (.Constant (.int 1) k p1) p2)) p3) pos) (tRevA X.K te) := by
  refine ⟨fun pins s σ H Q I h => ?_⟩
  refine Subscript_ (thn (he.run pins s σ H _ I h) fun v s1 ⟨x, H1, I1, r1, q1⟩ => ?_)
  have hst : PO X (some (.UnaryOp .USub (.Constant (.int 1) k p1) p2)) (tPart (tUn (rU fun i => .int (-i)) (tC (.int 1)))) := po_some (pe_un un_neg pe_int)
  refine wpAny_Slice (thn (po_none.run pins s1 σ H1 (fun o H2 => o = none ∧ H2 = H1) I1 ⟨rfl, rfl⟩) fun vl s2 ⟨l, H2, I2, pl, el, e2⟩ => ?_)
  subst el e2
  refine thn (po_none.run pins s2 σ H2 (fun o H3 => o = none ∧ H3 = H2) I2 ⟨rfl, rfl⟩) fun vu s3 ⟨u, H3, I3, pu, eu, e3⟩ => ?_
  subst eu e3
  refine thn (hst.run pins s3 σ H3 (fun o H4 => o = some (-1) ∧ H4 = H3) I3 ⟨1, rfl, -1, rfl, rfl, rfl⟩) fun vs s4 ⟨o, H4, I4, ps, eo, e4⟩ => ?_
  subst eo e4
  cases pl
  cases pu
  cases ps with
  | int _ tk =>
  have I5 : Inv X pins σ H4 { s4 with heap := s4.heap.push { cls := .type "slice", data := .fields #[.none, .none, .int (-1) tk] } } := I4.kept (t' := s4.toks) fun b ob q => Heap.get?_push_of_some _ q
  rcases q1 with ⟨a, xs, ex, hx, q⟩ | ⟨z, ex, hz, q⟩
  · subst ex
    cases r1
    obtain ⟨its, r, ht, hz⟩ := I5.tuple hx
    have hlen := r.length
    show wpAny (model X.prog X.w) X.A (subscriptTail e (.Slice none none (some (.UnaryOp .USub (.Constant (.int 1) k p1) p2)) p3) (.ref a) (.ref s4.heap.objs.size)) (EP X pins σ Q) X.xe { s4 with heap := s4.heap.push { cls := .type "slice", data := .fields #[.none, .none, .int (-1) tk] } }
    refine tail_any (ops := [.ref a, .ref s4.heap.objs.size]) ht.typeIs PyProof.Rows.slot_tuple_getitem.lookup ?_ (by with_unfolding_all rfl)
    refine getItem_tuple_rev ht (Heap.IsSliceOf.new _ .none .none (.int (-1) tk)) ?_ (by rw [List.size_toArray]; omega)
    exact ⟨.ref _, _, laid_tup I5 (by rw [List.length_reverse]; exact hz) r.reverse, rfl, q _ _ (I5.hok.fresh (Nat.le_refl _)) rfl⟩
  · subst ex
    obtain ⟨t, rfl⟩ := r1
    show wpAny (model X.prog X.w) X.A (subscriptTail e (.Slice none none (some (.UnaryOp .USub (.Constant (.int 1) k p1) p2)) p3) (.str z t) (.ref s4.heap.objs.size)) (EP X pins σ Q) X.xe { s4 with heap := s4.heap.push { cls := .type "slice", data := .fields #[.none, .none, .int (-1) tk] } }
    refine tail_any (ops := [.str z t, .ref s4.heap.objs.size]) (typeIs_str _ _ _) PySem.F.slot_str_getitem.lookup ?_ (by with_unfolding_all rfl)
    refine wpAny_getItem_str_slice (l := none) (u := none) (st := some (-1, tk)) ⟨_, Heap.get?_push_size _ rfl, rfl, rfl⟩ rfl ?_
    have hlist : ((Builtin.Str.strSliceIndices none none (-1) z.length).filterMap (z.cps[·]?)) = z.cps.toList.reverse := by
      rw [picked_rev]
      have e0 : (List.filterMap (fun x => z.cps[x]?) (List.map (fun k => z.length - 1 - k) (List.range z.length))) = (List.range z.cps.toList.length).filterMap (fun k => z.cps.toList[z.cps.toList.length - 1 - k]?) := by
        rw [List.filterMap_map]
        have hl : z.cps.toList.length = z.length := by rw [Array.length_toList]; rfl
        rw [hl]
        congr 1
        funext m
        show z.cps[z.length - 1 - m]? = z.cps.toList[z.length - 1 - m]?
        rw [Array.getElem?_toList]
      rw [e0]
      generalize z.cps.toList = l
      have h2 : ∀ n, n ≤ l.length → (List.range n).filterMap (fun (m : Nat) => l[l.length - 1 - m]?) = (l.drop (l.length - n)).reverse := by
        intro n
        induction n with
        | zero => intro _; simp
        | succ n ih =>
          intro hn
          rw [List.range_succ, List.filterMap_append, ih (by omega)]
          have hlt : l.length - 1 - n < l.length := by omega
          have e2 : l[l.length - 1 - n]? = some l[l.length - 1 - n] := List.getElem?_eq_getElem hlt
          rw [List.filterMap_cons, e2]
          have e3 : l.drop (l.length - (n + 1)) = l[l.length - 1 - n] :: l.drop (l.length - n) := by
            have : l.length - (n + 1) = l.length - 1 - n := by omega
            rw [this, List.drop_eq_getElem_cons hlt]
            congr 2
            omega
          rw [e3, List.reverse_cons]
          rfl
      have h3 := h2 l.length (Nat.le_refl _)
      rw [Nat.sub_self, List.drop_zero] at h3
      exact h3
    show Made.post (if ((-1 : Int) == 1 && (Builtin.Str.strSliceIndices none none (-1) z.length).length == z.length) = true then Made.val (.str z t) else Made.str ⟨((Builtin.Str.strSliceIndices none none (-1) z.length).filterMap (z.cps[·]?)).toArray⟩) _ _
    rw [if_neg (by rw [show ((-1 : Int) == 1) = false from rfl, Bool.false_and]; exact Bool.false_ne_true), hlist]
    refine ⟨?_, .str (revS z), H4, I5.tok _, ⟨_, rfl⟩, q⟩
    show z.cps.toList.reverse.toArray.size ≤ sizeLine
    rw [List.size_toArray, List.length_reverse, Array.length_toList]
    exact hz
end
def revD : D → Option D
  | .list ds => some (.list ds.reverse)
  | .tuple ds => some (.tuple ds.reverse)
  | .str z => if z.length ≤ sizeLine then some (.str (revS z)) else none
  | _ => none
section
variable {F : Fam} {τ : List Kd} {e a b : Expr} {es : List Expr} {f fa fb : Rho → Res D} {fl la lb : Fl} {pos p apos cpos : Pos} {x : Str}
theorem dn_rev {k : Nat} {p1 p2 p3 : Pos} (h : DnR F τ e f fl) : DnE F τ (.Subscript e (.Slice none none (some (.UnaryOp .USub (.Constant (.int 1) k p1) p2)) p3) pos) (eUn revD f) fl := by
  obtain ⟨t, h1, h2⟩ := h
  refine ⟨fun σ H Q => tRevL F.K t σ H Q ∨ tRevA F.K t σ H Q, fun i => by have z := pe_or (pe_revL (pos := pos) (k := k) (p1 := p1) (p2 := p2) (p3 := p3) (h1 i)) (pe_revA (h1 i)); rw [F.hK i] at z; exact z, fun H0 B ρ σ H Q s p => ?_⟩
  unfold eUn at p
  cases hf : f ρ with
  | bad => rw [hf] at p; exact p.elim
  | exc c => exact .inl (h2 H0 B ρ σ H _ s (by rw [hf] at p ⊢; exact p))
  | ok d =>
    rw [hf] at p
    have p : Post F σ H _ (ofO (revD d)) := p
    cases d with
    | list ds =>
      refine .inl (h2 H0 B ρ σ H _ s ?_)
      rw [hf]
      intro v H1 e1 r
      obtain ⟨a, xs, rfl, g1, g2⟩ := r.list
      exact ⟨a, xs, rfl, g1, fun q hq => p _ _ (e1.trans (dom_upd hq)) (new_lst hq (fun a z => dom_mono e1 a (av_dom s a z)) g2.reverse)⟩
    | tuple ds =>
      refine .inr (h2 H0 B ρ σ H _ s ?_)
      rw [hf]
      intro v H1 e1 r
      obtain ⟨a, xs, rfl, g1, g2⟩ := r.tuple
      exact .inl ⟨a, xs, rfl, g1, fun q o hq ho => p _ _ (e1.trans (dom_upd hq)) (new_tup hq ho g2.reverse)⟩
    | str z =>
      refine .inr (h2 H0 B ρ σ H _ s ?_)
      rw [hf]
      intro v H1 e1 r
      have := r.str
      subst this
      simp only [revD] at p
      by_cases hz : z.length ≤ sizeLine
      · rw [if_pos hz] at p
        exact .inr ⟨z, rfl, hz, p _ _ e1 (.str _)⟩
      · rw [if_neg hz] at p; exact p.elim
    | _ => exact p.elim
end
/-! ### x.index(y), x.count(y) -/
def firstAt (y : D) : List D → Option Nat
  | [] => none
  | d :: ds => if PyData.eqv d y = true then some 0 else (firstAt y ds).map (· + 1)
theorem firstAt_of {y : D} : ∀ {ds : List D} {j : Nat}, firstAt y ds = some j → (∃ z, ds[j]? = some z ∧ PyData.eqv z y = true) ∧ ∀ (m : Nat) (z : D), m < j → ds[m]? = some z → PyData.eqv z y = false
  | [], _, h => by cases h
  | d :: ds, j, h => by
    unfold firstAt at h
    by_cases q : PyData.eqv d y = true
    · rw [if_pos q] at h
      cases h
      exact ⟨⟨d, rfl, q⟩, fun m z hm => by omega⟩
    · rw [if_neg q] at h
      cases w : firstAt y ds with
      | none => rw [w] at h; cases h
      | some k =>
        rw [w] at h
        cases h
        obtain ⟨⟨z, h1, h2⟩, h3⟩ := firstAt_of w
        refine ⟨⟨z, by simpa using h1, h2⟩, fun m z' hm hz => ?_⟩
        cases m with
        | zero => simp at hz; subst hz; exact Bool.eq_false_iff.mpr q
        | succ m => exact h3 m z' (by have : m + 1 < k + 1 := hm; omega) (by simpa using hz)
def indexD : D → D → Option D
  | .list ds, y => if SeqAt.shaped (.list ds) = true ∧ SeqAt.shaped y = true then (firstAt y ds).map fun (j : Nat) => PyData.int (j : Int) else none
  | .tuple ds, y => if SeqAt.shaped (.tuple ds) = true ∧ SeqAt.shaped y = true then (firstAt y ds).map fun (j : Nat) => PyData.int (j : Int) else none
  | _, _ => none
section
variable {X : Cx}
def rIndexT (K : PySem.W.Frag) : V → List V → Hp → VK → Prop := fun x xs H Q => ∃ (a : Addr) (y : V) (d : PyData) (ds : List PyData) (j : Nat) (z : PyData), x = V.ref a ∧ xs = [y] ∧ Dp K H (V.ref a) (.tuple ds) ∧ Dp K H y d ∧
  SeqAt.shaped (.tuple ds) = true ∧ SeqAt.shaped d = true ∧ ds[j]? = some z ∧ PyData.eqv z d = true ∧ (∀ (m : Nat) (z' : PyData), m < j → ds[m]? = some z' → PyData.eqv z' d = false) ∧ Q (.int (j : Nat)) H
open PySem.Spec PyProof.Rows in
theorem mt_indexT (hu : X.A.units + 65 < cLine) : MtR X "tuple.index" (rIndexT X.K) := by
  intro pins s σ H x xs v us Q I rx rxs h
  obtain ⟨a, y, d, ds, j, z, rfl, rfl, hl, hy, sl, sd, hz, hzj, hno, q⟩ := h
  cases rx
  cases rxs with
  | cons ry rt =>
    rename_i uy ut
    cases rt
    obtain ⟨bs, r1⟩ := Dp.reads I d y uy hy ry
    have hxs : PyData.canLayAll0 ds = true := SeqAt.canLay_of_shaped sl
    have hroom : X.A.units + 1 + min (PyData.depthAll ds) d.depth < cLine := room_in_shaped sd hu
    cases hl with
    | tup hs ha =>
      obtain ⟨its, rv, ⟨⟨cls, dd, data, sls⟩, ho, hc, n, hdt⟩, hlen⟩ := I.tuple hs
      simp only at hc hdt
      subst hc hdt
      obtain ⟨as, h4⟩ := Dp.readsAll I ds _ its ha rv
      have hn : its.length = ds.length := SeqAt.ReadsAll.length ds its as h4
      have hmap : its.map (SeqAt.readOf s.heap) = ds := SeqAt.readsAll_map ds its as hxs h4
      obtain ⟨hjd, _⟩ := List.getElem?_eq_some_iff.mp hz
      have hjl : j < its.length := by omega
      have hj : j < its.toArray.size := by simpa using hjl
      have at_ : ∀ (m : Nat) (hm : m < its.toArray.size) (z' : PyData), ds[m]? = some z' → SeqAt.readOf s.heap its.toArray[m] = z' := by
        intro m hm z' hz'
        have hml : m < its.length := by simpa using hm
        rw [← hmap, List.getElem?_map, List.getElem?_eq_getElem hml] at hz'
        have e1 : SeqAt.readOf s.heap its[m] = z' := Option.some.inj (show some (SeqAt.readOf s.heap its[m]) = some z' from hz')
        simpa using e1
      refine call_meets PySem.F.slot_tuple_index ⟨_, ho, rfl⟩ PySem.F.entry_tuple_index (PySem.F.args_tuple_index_2 _ _)
        (TI.tuple_indexAt a its.toArray n dd sls uy (fun u => PyData.eqv (SeqAt.readOf s.heap u) d) j hj ?_ ?_) ⟨ho, SeqAt.items_eqAt (vs := its.toArray) (show ReadsAll s.heap its.toArray.toList ds as from h4) r1 hxs (SeqAt.canLay_of_shaped sd) hroom, ?_⟩
      · show PyData.eqv (SeqAt.readOf s.heap its.toArray[j]) d = true
        rw [at_ j hj z hz]
        exact hzj
      · intro m hm hmj
        have hmd : m < ds.length := by have : m < its.length := by simpa using hm
                                       omega
        have hz' : ds[m]? = some ds[m] := List.getElem?_eq_getElem hmd
        show PyData.eqv (SeqAt.readOf s.heap its.toArray[m]) d = false
        rw [at_ m hm _ hz']
        exact hno m _ hmj hz'
      · exact ⟨.int (j : Nat), H, I.tok _, ⟨_, rfl⟩, q⟩
def rCountD (K : PySem.W.Frag) : V → List V → Hp → VK → Prop := fun x xs H Q => ∃ (a : Addr) (y : V) (d : PyData) (ds : List PyData), x = V.ref a ∧ xs = [y] ∧ Dp K H (V.ref a) (.list ds) ∧ Dp K H y d ∧
  SeqAt.shaped (.list ds) = true ∧ SeqAt.shaped d = true ∧ Q (.int ((ds.countP fun z => PyData.eqv z d : Nat) : Int)) H
open PySem.Spec PyProof.Rows in
theorem mt_countD (hu : X.A.units + 65 < cLine) : MtR X "list.count" (rCountD X.K) := by
  intro pins s σ H x xs v us Q I rx rxs h
  obtain ⟨a, y, d, ds, rfl, rfl, hl, hy, sl, sd, q⟩ := h
  cases rx
  cases rxs with
  | cons ry rt =>
    rename_i uy ut
    cases rt
    obtain ⟨bs, r1⟩ := Dp.reads I d y uy hy ry
    have hxs : PyData.canLayAll0 ds = true := SeqAt.canLay_of_shaped sl
    have hroom : X.A.units + 1 + min (PyData.depthAll ds) d.depth < cLine := room_in_shaped sd hu
    cases hl with
    | lst hs ha =>
      obtain ⟨its, rv, ⟨⟨cls, dd, data, sls⟩, n, ho, hc, hdn, hdt⟩, hlen⟩ := I.list hs
      simp only at hc hdt
      subst hc hdt
      obtain ⟨as, h4⟩ := Dp.readsAll I ds _ its ha rv
      have hmap : its.map (SeqAt.readOf s.heap) = ds := SeqAt.readsAll_map ds its as hxs h4
      refine call_meets PySem.F.slot_list_count ⟨_, ho, rfl⟩ PySem.F.entry_list_count (PySem.F.args_list_count_2 _ _)
        (SeqAt.list_countAt a its.toArray n dd sls uy (fun u => PyData.eqv (SeqAt.readOf s.heap u) d)) ⟨ho, SeqAt.items_eqAt (vs := its.toArray) (show ReadsAll s.heap its.toArray.toList ds as from h4) r1 hxs (SeqAt.canLay_of_shaped sd) hroom, ?_⟩
      have ec : its.toArray.toList.countP (fun u => PyData.eqv (SeqAt.readOf s.heap u) d) = ds.countP fun z => PyData.eqv z d := by
        rw [← hmap, List.countP_map]
        rfl
      rw [ec]
      exact ⟨.int _, H, I.tok _, ⟨_, rfl⟩, q⟩
end
section
variable {F : Fam} {τ : List Kd} {e a b : Expr} {es : List Expr} {f fa fb : Rho → Res D} {fl la lb : Fl} {pos p apos cpos : Pos} {x : Str}
def isSeq : D → Bool
  | .list _ => true
  | .tuple _ => true
  | _ => false
def isLst : D → Bool
  | .list _ => true
  | _ => false
/-- where the first is of a kind -/
def eBinK (k : D → Bool) (g : D → D → Option D) (fa fb : Rho → Res D) : Rho → Res D := fun ρ => (fa ρ).bind fun x => if k x = true then (fb ρ).bind fun y => ofO (g x y) else .bad
theorem dn_index (ha : DnR F τ a fa la) (hb : DnR F τ b fb lb) (hbase : ∀ j, attributeBase a "index" (F.X j).env (eval a (F.X j).env) = eval a (F.X j).env := by intro _; rfl)
    (hfew : ∀ j, ((backTo cpos (starEach [b] (F.X j).env)).all (fun x => !x.1) && (backToKw cpos (keywordEach [] (F.X j).env)).all (fun x => x.1.isSome) && decide ([b].length + ([] : List Keyword).length + (if ([] : List Keyword).isEmpty then 0 else 1) < 30)) = true := by intro _; rfl)
    (hline : (apos.endLine == cpos.line) = true := by rfl) (hs : ∀ j, starEach [b] (F.X j).env = (false, eval b (F.X j).env) :: starEach [] (F.X j).env := by intro _; rfl) :
    DnE F τ (.Call (.Attribute a "index" apos) [b] [] cpos) (eBinK isSeq indexD fa fb) .s := by
  obtain ⟨t, a1, a2⟩ := ha
  obtain ⟨u, b1, b2⟩ := hb
  refine ⟨fun σ H Q => tBM F.K "list" (rIndexD F.K) t (tCons u tNil) σ H Q ∨ tTM F.K (rIndexT F.K) t (tCons u tNil) σ H Q, fun i => by
    have z := pe_or (pe_bm (X := F.X i) PySem.F.plainAttrs_list PySem.F.slot_list_index PySem.F.type_list_index (mt_indexD (by have := units_of i; omega)) (a1 i) (pa_cons (b1 i) pa_nil (hs i)) (hbase i) (hfew i) hline (hs i) rfl)
      (pe_tm (X := F.X i) PySem.F.slot_tuple_index PySem.F.type_tuple_index (mt_indexT (by have := units_of i; omega)) (a1 i) (pa_cons (b1 i) pa_nil (hs i)) (hbase i) (hfew i) hline (hs i) rfl)
    rw [F.hK i] at z; exact z, fun H0 B ρ σ H Q s p => ?_⟩
  unfold eBinK at p
  cases hf : fa ρ with
  | bad => rw [hf] at p; exact p.elim
  | exc c => exact .inl (a2 H0 B ρ σ H _ s (by rw [hf] at p ⊢; exact p))
  | ok d =>
    rw [hf] at p
    have p : Post F σ H _ (if isSeq d = true then (fb ρ).bind fun y => ofO (indexD d y) else .bad) := p
    cases d with
    | list ds =>
      refine .inl (a2 H0 B ρ σ H _ s ?_)
      rw [hf]
      intro v H1 e1 r
      obtain ⟨q, xs, rfl, g1, g2⟩ := r.list
      refine ⟨.inl ⟨rfl, xs, g1⟩, ?_⟩
      refine b2 H0 B ρ σ H1 _ (s.more e1) (p.bind.to e1 fun y _ p1 w H2 e2 r2 => ?_)
      simp only [indexD] at p1
      by_cases hsh : SeqAt.shaped (.list ds) = true ∧ SeqAt.shaped y = true
      · rw [if_pos hsh] at p1
        cases hj : firstAt y ds with
        | none => rw [hj] at p1; exact p1.elim
        | some j =>
          rw [hj] at p1
          obtain ⟨⟨z, h1, h2⟩, h3⟩ := firstAt_of hj
          exact ⟨q, w, y, ds, j, z, rfl, rfl, (r.mono e2 (A' := av la H0 H (OwnX τ B ρ σ)) fun _ z => z).dp (shaped_lay hsh.1), r2.dp (shaped_lay hsh.2), hsh.1, hsh.2, h1, h2, h3, p1 _ _ (e1.trans e2) (.int _)⟩
      · rw [if_neg hsh] at p1; exact p1.elim
    | tuple ds =>
      refine .inr (a2 H0 B ρ σ H _ s ?_)
      rw [hf]
      intro v H1 e1 r
      obtain ⟨q, xs, rfl, g1, g2⟩ := r.tup
      refine ⟨⟨q, xs, rfl, g1⟩, ?_⟩
      refine b2 H0 B ρ σ H1 _ (s.more e1) (p.bind.to e1 fun y _ p1 w H2 e2 r2 => ?_)
      simp only [indexD] at p1
      by_cases hsh : SeqAt.shaped (.tuple ds) = true ∧ SeqAt.shaped y = true
      · rw [if_pos hsh] at p1
        cases hj : firstAt y ds with
        | none => rw [hj] at p1; exact p1.elim
        | some j =>
          rw [hj] at p1
          obtain ⟨⟨z, h1, h2⟩, h3⟩ := firstAt_of hj
          exact ⟨q, w, y, ds, j, z, rfl, rfl, (r.mono e2 (A' := av la H0 H (OwnX τ B ρ σ)) fun _ z => z).dp (shaped_lay hsh.1), r2.dp (shaped_lay hsh.2), hsh.1, hsh.2, h1, h2, h3, p1 _ _ (e1.trans e2) (.int _)⟩
      · rw [if_neg hsh] at p1; exact p1.elim
    | _ => exact p.elim
def countD : D → D → Option D
  | .list ds, y => if SeqAt.shaped (.list ds) = true ∧ SeqAt.shaped y = true then some (.int ((ds.countP fun z => PyData.eqv z y : Nat) : Int)) else none
  | _, _ => none
theorem dn_count (ha : DnR F τ a fa la) (hb : DnR F τ b fb lb) (hbase : ∀ j, attributeBase a "count" (F.X j).env (eval a (F.X j).env) = eval a (F.X j).env := by intro _; rfl)
    (hfew : ∀ j, ((backTo cpos (starEach [b] (F.X j).env)).all (fun x => !x.1) && (backToKw cpos (keywordEach [] (F.X j).env)).all (fun x => x.1.isSome) && decide ([b].length + ([] : List Keyword).length + (if ([] : List Keyword).isEmpty then 0 else 1) < 30)) = true := by intro _; rfl)
    (hline : (apos.endLine == cpos.line) = true := by rfl) (hs : ∀ j, starEach [b] (F.X j).env = (false, eval b (F.X j).env) :: starEach [] (F.X j).env := by intro _; rfl) :
    DnE F τ (.Call (.Attribute a "count" apos) [b] [] cpos) (eBinK isLst countD fa fb) .s := by
  obtain ⟨t, a1, a2⟩ := ha
  obtain ⟨u, b1, b2⟩ := hb
  refine ⟨tBM F.K "list" (rCountD F.K) t (tCons u tNil), fun i => by
    have z := pe_bm (X := F.X i) PySem.F.plainAttrs_list PySem.F.slot_list_count PySem.F.type_list_count (mt_countD (by have := units_of i; omega)) (a1 i) (pa_cons (b1 i) pa_nil (hs i)) (hbase i) (hfew i) hline (hs i) rfl
    rw [F.hK i] at z; exact z, fun H0 B ρ σ H Q s p => ?_⟩
  refine a2 H0 B ρ σ H _ s (p.bind.to (Same.refl _) fun d _ p0 v H1 e1 r => ?_)
  cases d with
  | list ds =>
    obtain ⟨q, xs, rfl, g1, g2⟩ := r.list
    refine ⟨.inl ⟨rfl, xs, g1⟩, ?_⟩
    have p0 : Post F σ H _ ((fb ρ).bind fun y => ofO (countD (.list ds) y)) := p0
    refine b2 H0 B ρ σ H1 _ (s.more e1) (p0.bind.to e1 fun y _ p1 w H2 e2 r2 => ?_)
    simp only [countD] at p1
    by_cases hsh : SeqAt.shaped (.list ds) = true ∧ SeqAt.shaped y = true
    · rw [if_pos hsh] at p1
      exact ⟨q, w, y, ds, rfl, rfl, (r.mono e2 (A' := av la H0 H (OwnX τ B ρ σ)) fun _ z => z).dp (shaped_lay hsh.1), r2.dp (shaped_lay hsh.2), hsh.1, hsh.2, p1 _ _ (e1.trans e2) (.int _)⟩
    · rw [if_neg hsh] at p1; exact p1.elim
  | _ => exact p0.elim
/-! ### sep.join(texts) -/
def strsOf : List D → Option (List Str)
  | [] => some []
  | .str i :: ds => (strsOf ds).map (i :: ·)
  | _ :: _ => none
theorem strsOf_dq {K : PySem.W.Frag} {H : Hp} {A : Av} : ∀ {vs : List V} {ds : List D} {ns : List Str}, DqL K H A vs ds → strsOf ds = some ns → vs = ns.map V.str
  | _, _, _, .nil, e => by cases e; rfl
  | _, _, ns, .cons (d := d) (ds := ds) h t, e => by
    cases d with
    | str i =>
      simp only [strsOf] at e
      cases q : strsOf ds with
      | none => rw [q] at e; cases e
      | some ms =>
        rw [q] at e
        cases e
        cases h
        rw [strsOf_dq t q]
        rfl
    | _ => cases e
theorem strsOf_map (ns : List Str) : strsOf (ns.map PyData.str) = some ns := by
  induction ns with
  | nil => rfl
  | cons n ns ih => simp only [List.map_cons, strsOf, ih, Option.map_some]
def joinL (a : Str) (ds : List D) : Option D := (strsOf ds).bind fun ys => if (ys.map (·.length)).sum + ys.length * a.length ≤ 16777216 then some (.str (Txt.join a ys)) else none
def joinD : D → D → Option D
  | .str a, .list ds => joinL a ds
  | .str a, .tuple ds => joinL a ds
  | _, _ => none
def isTxt : D → Bool
  | .str _ => true
  | _ => false
theorem dn_join (ha : DnR F τ a fa la) (hb : DnR F τ b fb lb) (hs : ∀ j, starEach [b] (F.X j).env = [(false, eval b (F.X j).env)] := by intro _; rfl) (hbase : ∀ j, attributeBase a "join" (F.X j).env (eval a (F.X j).env) = eval a (F.X j).env := by intro _; rfl) (hline : (apos.endLine == cpos.line) = true := by rfl) :
    DnE F τ (.Call (.Attribute a "join" apos) [b] [] cpos) (eBinK isTxt joinD fa fb) .s := by
  obtain ⟨t, a1, a2⟩ := ha
  obtain ⟨u, b1, b2⟩ := hb
  refine ⟨tM1 (fun x xs H Q => ∃ a p, ∃ ys : List Str, x = .str a ∧ xs = [.ref p] ∧ (SqL F.K H p (ys.map V.str) ∨ SqT F.K H p (ys.map V.str)) ∧ (ys.map (·.length)).sum + ys.length * a.length ≤ 16777216 ∧ Q (.str (Txt.join a ys)) H) t u, fun i => by
    have z := pe_join (X := F.X i) (apos := apos) (pos := cpos) (a1 i) (b1 i) (hs i) (hbase i) hline
    rw [F.hK i] at z; exact z, fun H0 B ρ σ H Q s p => ?_⟩
  refine a2 H0 B ρ σ H _ s (p.bind.to (Same.refl _) fun d _ p0 v H1 e1 r => ?_)
  cases d with
  | str z =>
    have := r.str
    subst this
    refine ⟨⟨z, rfl⟩, ?_⟩
    have p0 : Post F σ H _ ((fb ρ).bind fun y => ofO (joinD (.str z) y)) := p0
    refine b2 H0 B ρ σ H1 _ (s.more e1) (p0.bind.to e1 fun y _ p1 w H2 e2 r2 => ?_)
    have fin : ∀ (q : Addr) (xs : List V) (ds : List D), w = .ref q → (SqL F.K H2 q xs ∨ SqT F.K H2 q xs) → (∃ A : Av, DqL F.K H2 A xs ds) → Post F σ H (fun d => ∀ (v : V) (H' : Hp), Same H H' → Dq F.K H' (av .s H0 H (OwnX τ B ρ σ)) v d → Q v H') (ofO (joinL z ds)) →
        ∃ a p, ∃ ys : List Str, V.str z = .str a ∧ [w] = [.ref p] ∧ (SqL F.K H2 p (ys.map V.str) ∨ SqT F.K H2 p (ys.map V.str)) ∧ (ys.map (·.length)).sum + ys.length * a.length ≤ 16777216 ∧ Q (.str (Txt.join a ys)) H2 := by
      rintro q xs ds rfl hsq ⟨A, hd⟩ p1
      unfold joinL at p1
      cases hy : strsOf ds with
      | none => rw [hy] at p1; exact p1.elim
      | some ys =>
        rw [hy] at p1
        have p1 : Post F σ H _ (ofO (if (ys.map (·.length)).sum + ys.length * z.length ≤ 16777216 then some (PyData.str (Txt.join z ys)) else none)) := p1
        by_cases hl : (ys.map (·.length)).sum + ys.length * z.length ≤ 16777216
        · rw [if_pos hl] at p1
          rw [strsOf_dq hd hy] at hsq
          exact ⟨z, q, ys, rfl, rfl, hsq, hl, p1 _ _ (e1.trans e2) (.str _)⟩
        · rw [if_neg hl] at p1; exact p1.elim
    cases y with
    | list ds =>
      obtain ⟨q, xs, rfl, g1, g2⟩ := r2.list
      exact fin q xs ds rfl (.inl g1) ⟨_, g2⟩ p1
    | tuple ds =>
      obtain ⟨q, xs, rfl, g1, g2⟩ := r2.tuple
      exact fin q xs ds rfl (.inr g1) ⟨_, g2⟩ p1
    | _ => exact p1.elim
  | _ => exact p0.elim
/-! ### the script -/
def lenScr : D → Option D
  | .list ds => some (.int ds.length)
  | _ => none
theorem dn_lenScr (i : Nat) {px : Pos} (hm : ∀ j, (F.X j).mg "len" = none) (hk : kd τ i = .scr := by rfl) (hN : ∀ j, (F.X j).N[i]? = some x := by intro _; rfl) (hv : ∀ j, Vis (F.X j).env.scope x := by intro _; first | exact Or.inl rfl | exact Or.inr (Or.inl rfl) | exact Or.inr (Or.inr rfl))
    (hg : ∀ j, Gl (F.X j) "len" := by intro _; rfl) (hd : (x == ("__debug__" : Str)) = false := by decide) (hcd : (x == ("__classdict__" : Str)) = false := by decide) (he : ∀ j, starEach [.Name x px] (F.X j).env = (false, eval (.Name x px) (F.X j).env) :: starEach [] (F.X j).env := by intro _; rfl) :
    DnE F τ (.Call (.Name "len" p) [.Name x px] [] pos) (eUn lenScr (eVar i)) .s := by
  refine ⟨tCB (fun xs H Q => ∃ x n, xs = [x] ∧ LenV F.K x H n ∧ Q (.int n) H) (tCons (tVar i) tNil), fun j => by
    have z := pe_callB (p := p) (pos := pos) (call_len (X := F.X j)) (hg j) (hm j) PySem.boot_len (pa_cons (pe_var (hN j) (hv j) hd hcd) pa_nil (he j)) (by decide) (by decide) (he j) rfl
    rw [F.hK j] at z; exact z, fun H0 B ρ σ H Q s p => ?_⟩
  unfold eUn at p
  cases hf : eVar i ρ with
  | ok d =>
    rw [hf] at p
    obtain ⟨v, h1, h2⟩ := s.ok i d (eVar_ok hf)
    rw [hk] at h2
    obtain ⟨a, xs, ds, rfl, rfl, h3, h4⟩ := h2
    exact ⟨.ref a, h1, .ref a, xs.length, rfl, .inl ⟨xs, h3.sq, rfl⟩, p _ H (Same.refl _) (by rw [h4.length]; exact .int _)⟩
  | exc c => exact (eVar_exc hf).elim
  | bad => rw [hf] at p; exact p.elim
theorem dn_ixScr (i : Nat) {px : Pos} (hb : DnR F τ b fb lb) (hk : kd τ i = .scr := by rfl) (hN : ∀ j, (F.X j).N[i]? = some x := by intro _; rfl) (hv : ∀ j, Vis (F.X j).env.scope x := by intro _; first | exact Or.inl rfl | exact Or.inr (Or.inl rfl) | exact Or.inr (Or.inr rfl))
    (hd : (x == ("__debug__" : Str)) = false := by decide) (hcd : (x == ("__classdict__" : Str)) = false := by decide) (hs : PlainIx b := by exact fun _ _ => rfl) :
    DnE F τ (.Subscript (.Name x px) b pos) (eBin ixD (eVar i) fb) .z := by
  obtain ⟨u, b1, b2⟩ := hb
  refine ⟨tOp (rIxL F.K) (tVar i) u, fun j => by have h := pe_ix (pos := pos) (ix_list (X := F.X j)) (pe_var (pos := px) (hN j) (hv j) hd hcd) (b1 j) hs; rw [F.hK j] at h; exact h, fun H0 B ρ σ H Q s p => ?_⟩
  unfold eBin at p
  cases hf : eVar i ρ with
  | ok d =>
    rw [hf] at p
    have p : Post F σ H _ ((fb ρ).bind fun y => ofO (ixD d y)) := p
    obtain ⟨v, h1, h2⟩ := s.ok i d (eVar_ok hf)
    rw [hk] at h2
    obtain ⟨a, xs, ds, rfl, rfl, h3, h4⟩ := h2
    refine ⟨.ref a, h1, ?_⟩
    refine b2 H0 B ρ σ H _ s (p.bind.to (Same.refl _) fun y _ p1 w H2 e2 r2 => ?_)
    cases y with
    | int k =>
      have := r2.int
      subst this
      have p1 : Post F σ H _ (ofO (atI ds k)) := p1
      cases ha : atI ds k with
      | none => rw [ha] at p1; exact p1.elim
      | some d =>
        rw [ha] at p1
        obtain ⟨v, h5, h6⟩ := atI_dq h4 ha
        exact ⟨a, xs, k, v, rfl, rfl, (h3.more e2 fun _ z => z).sq, h5, p1 v H2 e2 (Dq.mono e2 h6 fun _ z => z)⟩
    | _ => exact p1.elim
  | exc c => exact (eVar_exc hf).elim
  | bad => rw [hf] at p; exact p.elim
/-- script[:n], script[a:b] -/
theorem dn_slScr (i : Nat) {px p2 : Pos} {lo hi : Option Expr} {ol oh : Rho → Res (Option Int)} (hl : DnO F τ lo ol) (hh : DnO F τ hi oh) (hk : kd τ i = .scr := by rfl) (hN : ∀ j, (F.X j).N[i]? = some x := by intro _; rfl) (hv : ∀ j, Vis (F.X j).env.scope x := by intro _; first | exact Or.inl rfl | exact Or.inr (Or.inl rfl) | exact Or.inr (Or.inr rfl))
    (hd : (x == ("__debug__" : Str)) = false := by decide) (hcd : (x == ("__classdict__" : Str)) = false := by decide) :
    DnE F τ (.Subscript (.Name x px) (.Slice lo hi none p2) pos) (eSl (eVar i) ol oh) .z := by
  obtain ⟨tl, l1, l2⟩ := hl
  obtain ⟨th, h1, h2⟩ := hh
  refine ⟨tSl (rSlL F.K) (tVar i) tl th, fun j => by
    have h := pe_slice (pos := pos) (p2 := p2) (sl_list (X := F.X j)) (pe_var (pos := px) (hN j) (hv j) hd hcd) (l1 j) (h1 j)
    rw [F.hK j] at h; exact h, fun H0 B ρ σ H Q s p => ?_⟩
  unfold eSl at p
  cases hf : eVar i ρ with
  | ok d =>
    rw [hf] at p
    have p : Post F σ H _ ((ol ρ).bind fun lo => (oh ρ).bind fun hi => ofO (cutD lo hi d)) := p
    obtain ⟨v, g1, g2⟩ := s.ok i d (eVar_ok hf)
    rw [hk] at g2
    obtain ⟨a, xs, ds, rfl, rfl, h3, h4⟩ := g2
    refine ⟨.ref a, g1, ?_⟩
    refine l2 H0 B ρ σ H _ s (p.bind.to (Same.refl _) fun lo _ p1 H1 e1 => ?_)
    refine h2 H0 B ρ σ H1 _ (s.more e1) (p1.bind.to e1 fun hi _ p2 H2 e2 => ?_)
    have e4 := e1.trans e2
    exact ⟨a, xs, rfl, (h3.more e4 fun _ z => z).sq, fun q hq => p2 _ _ (e4.trans (dom_upd hq)) (new_lst hq (fun a z => dom_mono e4 a (s.own_dom a z)) (cut_dq lo hi (DqL.mono e4 h4 fun _ z => z)))⟩
  | exc c => exact (eVar_exc hf).elim
  | bad => rw [hf] at p; exact p.elim
/-- f(script, e) -/
def eCallS (i : Nat) (fn : List D → Res D) (fb : Rho → Res D) : Rho → Res D := fun ρ => (eVar i ρ).bind fun x => (fb ρ).bind fun y => fn [x, y]
theorem dn_callScr (i : Nat) {px : Pos} {y : Str} {k : Nat} {fa' : Addr} {fd : FuncData} {ps : List Str} {fn : List D → Res D} (G : ∀ i, FnOk (F.X i).prog (F.X i).w (F.X i).K (F.X i).mg (F.X i).base (L2.CX (F.X i).prog (F.X i).w) k fa' fd ps (spD F.K F.Xc [.scr, .sh] false fn)) (hm : ∀ i, (F.X i).mg y = some (.ref fa')) (hk' : PySem.W.keepIn F.K (.ref fa') = true) (hb' : Binds F.K fd ps [])
    (hb : DnE F τ b fb lb) (hr : k ≤ F.k := by exact Nat.le_of_ble_eq_true rfl) (hg : ∀ i, Gl (F.X i) y := by intro _; rfl) (hdb : (y == ("__debug__" : Str)) = false := by decide) (hk : kd τ i = .scr := by rfl) (hN : ∀ j, (F.X j).N[i]? = some x := by intro _; rfl) (hv : ∀ j, Vis (F.X j).env.scope x := by intro _; first | exact Or.inl rfl | exact Or.inr (Or.inl rfl) | exact Or.inr (Or.inr rfl))
    (hd : (x == ("__debug__" : Str)) = false := by decide) (hcd : (x == ("__classdict__" : Str)) = false := by decide) (he : ∀ i, starEach [.Name x px, b] (F.X i).env = (false, eval (.Name x px) (F.X i).env) :: starEach [b] (F.X i).env := by intro _; rfl)
    (he2 : ∀ i, starEach [b] (F.X i).env = (false, eval b (F.X i).env) :: starEach [] (F.X i).env := by intro _; rfl) (hpl : ∀ i, (backTo pos (starEach [b] (F.X i).env)).any (·.1) = false := by intro _; rfl) (hot0 : F.hot = false := by rfl) :
    DnE F τ (.Call (.Name y p) [.Name x px, b] [] pos) (eCallS i fn fb) .z := by
  obtain ⟨u, b1, b2⟩ := hb
  refine ⟨_, fun j => pe_callS (G j) ((F.room hot0 j).mono hr) (hg j) (hm j) (by rw [F.hK j]; exact hk') (by rw [F.hK j]; exact hb') (fun σ => passAt (F.tk j) σ) (pa_cons (pe_var (hN j) (hv j) hd hcd) (pa_cons (b1 j) pa_nil (he2 j)) (he j)) hdb (he j) (hpl j), fun H0 B ρ σ H Q s p => ?_⟩
  unfold eCallS at p
  cases hf : eVar i ρ with
  | ok d =>
    rw [hf] at p
    have p : Post F σ H _ ((fb ρ).bind fun y => fn [d, y]) := p
    obtain ⟨v, g1, g2⟩ := s.ok i d (eVar_ok hf)
    rw [hk] at g2
    obtain ⟨a, xs, ds, rfl, rfl, h3, h4⟩ := g2
    refine ⟨.ref a, g1, ?_⟩
    refine b2 H0 B ρ σ H _ s (p.bind.to (Same.refl _) fun dy _ p1 w H1 e1 r1 => ?_)
    refine ⟨[.list ds, dy], OwnX τ B ρ σ, fun p z => (s.more e1).ownMut z, .cons ⟨a, xs, ds, rfl, rfl, h3.more e1 fun _ z => z, DqL.mono e1 h4 fun _ z => z⟩ (.cons (Dq.mono (Same.refl _) r1 (av_own s)) .nil), ?_⟩
    cases q : fn [.list ds, dy] with
    | ok d => rw [q] at p1; exact fun v H' e r => p1 v H' (e1.trans e) r
    | exc c => rw [q] at p1; exact fun H' e => p1 H' (e1.trans e)
    | bad => rw [q] at p1; exact p1.elim
  | exc c => exact (eVar_exc hf).elim
  | bad => rw [hf] at p; exact p.elim
end
end Dn
set_option Elab.async false
set_option linter.all false
set_option maxRecDepth 100000
/-! enumerate and zip over lists, tuples, texts in any mix; what they hand out is locked -/
namespace Dn
open PySem L2 PySem.Spec PyProof.Rows
set_option maxHeartbeats 1000000 in
theorem meets_enum1B {v : Value} {o : Obj} {Hh : Heap → Prop} (B : Begins v o Hh) :
    Meets (Builtin.«enumerate.__new__» ⟨[.type "enumerate", v], []⟩) (fun _ R s => Hh s.heap ∧
      R (.ok (.ret (.ref (s.heap.push o).objs.size))) { s with heap := (s.heap.push o).push { cls := .type "enumerate", data := .fields #[.none, .bool false, .ref s.heap.objs.size, rawInt 0, .none, .none] } }) :=
  .of_wp fun prog w A R s h => by
    obtain ⟨hp, g, d, tk, os⟩ := s; obtain ⟨h1, h⟩ := h
    have hsub := sub_enumerate
    have q1 : ∀ {A' : Around} {E : Value → Shared → Prop} {Q : Value → Shared → Prop}, Q (.ref hp.objs.size) ⟨hp.push o, g, d, tk, os⟩ → wpAny (model prog w) A' (pyIter v) Q E ⟨hp, g, d, tk, os⟩ :=
      fun q => B.iter prog w _ _ ⟨hp, g, d, tk, os⟩ _ h1 q
    wp_walk using q1
    refine wpAny_stack_any fun st => wpAny_pure ?_
    split
    · rename_i c _ _ _ _ _
      cases (c == Value.type "enumerate")
      · wp_walk using q1
        exact ⟨_, rfl, h⟩
      · wp_walk using q1
        exact ⟨_, rfl, h⟩
    · wp_walk using q1
      exact ⟨_, rfl, h⟩
theorem enum1_begins {prog : Program} {w : World} {A : Around} {E : Value → Shared → Prop} {s : Shared} {v : Value} {o : Obj} {Hh : Heap → Prop} {Q : Value → Shared → Prop} (B : Begins v o Hh) (h1 : Hh s.heap)
    (h : ∀ h', IsEnum h' (s.heap.objs.size + 1) s.heap.objs.size 0 .none → h'.get? s.heap.objs.size = some o → h'.objs.size = s.heap.objs.size + 2 →
      (∀ b o, s.heap.get? b = some o → h'.get? b = some o) → Q (.ref (s.heap.objs.size + 1)) { s with heap := h' }) :
    wpAny (model prog w) A (call (.type "enumerate") [v]) Q E s := by
  refine callType_new F.called_enumerate (by decide) (F.typeCall_enumerate_1 _) (F.newCall_enumerate_1 _) (fun obj => F.args_object_init_2 obj _) F.entry_enumerate_new
    (meets_enum1B B) ⟨h1, ?_⟩
  have hz : (s.heap.push o).objs.size = s.heap.objs.size + 1 := Heap.size_push ..
  show _ ∧ _
  rw [hz]
  have he : IsEnum ((s.heap.push o).push { cls := .type "enumerate", data := .fields #[.none, .bool false, .ref s.heap.objs.size, rawInt 0, .none, .none] }) (s.heap.objs.size + 1) s.heap.objs.size 0 .none := by
    have := Heap.get?_push_size (s.heap.push o) (o := { cls := .type "enumerate", data := .fields #[.none, .bool false, .ref s.heap.objs.size, rawInt 0, .none, .none] }) rfl
    rw [hz] at this; exact this
  refine ⟨⟨_, he, rfl⟩, h _ he (Heap.get?_push_of_some _ (Heap.get?_push_size _ B.free)) (by rw [Heap.size_push, hz]) fun b o x => Heap.get?_push_of_some _ (Heap.get?_push_of_some _ x)⟩

/-! ### sources -/
inductive Src where
  | lst (a : Addr)
  | tup (a : Addr)
  | txt (x : Str)
def Src.val : Src → V
  | .lst a => .ref a
  | .tup a => .ref a
  | .txt x => .str x
def chV (x : Str) : List V := x.cps.toList.map fun c => .str ⟨#[c]⟩
def Src.has (K : PySem.W.Frag) (H : Hp) (xs : List V) : Src → Prop
  | .lst a => SqL K H a xs
  | .tup a => SqT K H a xs
  | .txt x => xs = chV x
def Src.at (it : Addr) (t : Tok) (i : Nat) (h : Heap) : Src → Prop
  | .lst a => h.IsListIter it a i
  | .tup a => h.IsTupleIter it a i
  | .txt x => h.IsStrIter it (strIterType x) x t i
def Src.fp : Src → List Addr
  | .lst a => [a]
  | .tup a => [a]
  | .txt _ => []
def Src.obj (t : Tok) : Src → Obj
  | .lst a => { cls := .type "list_iterator", data := .fields #[.ref a, .int 0 0] }
  | .tup a => { cls := .type "tuple_iterator", data := .fields #[.ref a, .int 0 0] }
  | .txt x => { cls := .type (strIterType x), data := .fields #[.str x t, .int 0 0] }
theorem Src.at_obj {it : Addr} {t : Tok} {h : Heap} : ∀ {q : Src}, h.get? it = some (q.obj t) → q.at it t 0 h
  | .lst _, e => ⟨_, e, rfl, rfl⟩
  | .tup _, e => ⟨_, e, rfl, rfl⟩
  | .txt _, e => ⟨_, e, rfl, rfl⟩
theorem Src.at_keep {it : Addr} {t : Tok} {i : Nat} {h h' : Heap} (k : ∀ o, h.get? it = some o → h'.get? it = some o) : ∀ {q : Src}, q.at it t i h → q.at it t i h'
  | .lst _, ⟨o, e, r⟩ => ⟨o, k o e, r⟩
  | .tup _, ⟨o, e, r⟩ => ⟨o, k o e, r⟩
  | .txt _, ⟨o, e, r⟩ => ⟨o, k o e, r⟩
theorem Src.at_get {it : Addr} {t : Tok} {i : Nat} {h : Heap} : ∀ {q : Src}, q.at it t i h → ∃ o, h.get? it = some o ∧ ∀ v, o.data ≠ .cell v
  | .lst _, ⟨o, e, _, d⟩ => ⟨o, e, fun v z => by rw [d] at z; cases z⟩
  | .tup _, ⟨o, e, _, d⟩ => ⟨o, e, fun v z => by rw [d] at z; cases z⟩
  | .txt _, ⟨o, e, _, d⟩ => ⟨o, e, fun v z => by rw [d] at z; cases z⟩
section
variable {X : Cx} {pins : List (Addr × Obj)} {σ : L2.St} {H : Hp} {s : Shared}
theorem Src.inj (I : Inv X pins σ H s) {xs ys : List V} : ∀ {q : Src}, q.has X.K H xs → q.has X.K H ys → xs = ys
  | .lst _, h, h' => I.list_inj h h'
  | .tup _, h, h' => I.tuple_inj h h'
  | .txt _, h, h' => Eq.trans h (Eq.symm h')
theorem src_lt (I : Inv X pins σ H s) {xs : List V} : ∀ {q : Src}, q.has X.K H xs → ∀ b ∈ q.fp, b < s.heap.objs.size
  | .lst a, h, b, hb => by
    obtain ⟨its, rv, p, _⟩ := I.list h
    rw [List.mem_singleton.mp hb]; exact p.lt
  | .tup a, h, b, hb => by
    obtain ⟨its, rv, ⟨o, e, _⟩, _⟩ := I.tuple h
    rw [List.mem_singleton.mp hb]; exact Heap.lt_size e
  | .txt _, _, b, hb => by cases hb
theorem src_begins (I : Inv X pins σ H s) {xs : List V} {u : Value} : ∀ {q : Src}, q.has X.K H xs → RelV q.val u → ∃ (t : Tok) (Hh : Heap → Prop), Begins u (q.obj t) Hh ∧ Hh s.heap
  | .lst a, h, r => by
    obtain ⟨its, rv, p, _⟩ := I.list h
    cases r
    exact ⟨0, _, begins_list a its.toArray, p.isList⟩
  | .tup a, h, r => by
    obtain ⟨its, rv, p, _⟩ := I.tuple h
    cases r
    exact ⟨0, _, begins_tuple a its.toArray, p⟩
  | .txt x, _, r => by
    obtain ⟨t, rfl⟩ := r
    exact ⟨t, _, begins_text x t, trivial⟩
theorem src_draws (I : Inv X pins σ H s) {A : Around} (hh : A.handled = none) {xs : List V} {it : Addr} (t : Tok) : ∀ {q : Src}, q.has X.K H xs → it ∉ q.fp →
    ∃ (P : Nat → Value → Prop) (St : Nat → Heap → Prop), Draws X.prog X.w A it (it :: q.fp) xs.length P St ∧ (∀ j v, P j v → ∃ x, xs[j]? = some x ∧ RelV x v) ∧ (∀ j, q.at it t j s.heap → St j s.heap) ∧ ∀ j h, St j h → q.at it t j h
  | .lst a, h, hn => by
    obtain ⟨its, rv, p, _⟩ := I.list h
    have hl := rv.length
    have D := Draws.list (prog := X.prog) (w := X.w) hh it a (fun e => hn (by rw [← e]; exact List.mem_singleton.mpr rfl)) its.toArray
    rw [List.size_toArray, ← hl] at D
    refine ⟨_, _, D, fun j v e => ?_, fun j st => ⟨st, p.isList⟩, fun j h st => st.1⟩
    have e : its[j]? = some v := by simpa using e
    have : j < xs.length := by rw [hl]; exact (List.getElem?_eq_some_iff.mp e).1
    obtain ⟨u, h1, h2⟩ := rv.get (List.getElem?_eq_getElem this)
    rw [e] at h1; cases h1
    exact ⟨_, List.getElem?_eq_getElem this, h2⟩
  | .tup a, h, hn => by
    obtain ⟨its, rv, p, _⟩ := I.tuple h
    have hl := rv.length
    have D := Draws.tuple (prog := X.prog) (w := X.w) hh it a (fun e => hn (by rw [← e]; exact List.mem_singleton.mpr rfl)) its.toArray
    rw [List.size_toArray, ← hl] at D
    refine ⟨_, _, D, fun j v e => ?_, fun j st => ⟨st, p⟩, fun j h st => st.1⟩
    have e : its[j]? = some v := by simpa using e
    have : j < xs.length := by rw [hl]; exact (List.getElem?_eq_some_iff.mp e).1
    obtain ⟨u, h1, h2⟩ := rv.get (List.getElem?_eq_getElem this)
    rw [e] at h1; cases h1
    exact ⟨_, List.getElem?_eq_getElem this, h2⟩
  | .txt x, h, hn => by
    have h : xs = chV x := h
    subst h
    have D := Draws.text (prog := X.prog) (w := X.w) hh it x t
    have hl : (chV x).length = x.cps.size := by unfold chV; rw [List.length_map, Array.length_toList]
    rw [← hl] at D
    refine ⟨_, _, D, fun j v e => ?_, fun j st => st, fun j h st => st⟩
    obtain ⟨c, u, e, rfl⟩ := e
    refine ⟨.str ⟨#[c]⟩, ?_, u, rfl⟩
    unfold chV
    rw [List.getElem?_map, Array.getElem?_toList, e] <;> rfl
end
/-! ### enumerate -/
def IteS (K : PySem.W.Frag) (q : Src) : It :=
  ⟨fun i H => ∃ (xs : List V) (x : V), q.has K H xs ∧ xs[i]? = some x,
    fun i H v H' => ∃ (T : Addr) (o : Obj) (x : V), v = .ref T ∧ H T = none ∧ o.dict = none ∧ H' = upd H T (.frz o (.tup [.int (i : Nat), x])) ∧ ∀ xs, q.has K H xs → xs[i]? = some x,
    fun i H => ∃ xs : List V, q.has K H xs ∧ xs.length = i⟩
theorem turn_enumS {P : Program} {w : World} {K : PySem.W.Frag} {elts : List Expr} {kk : Nat} {tpos : Pos} (q : Src) (t : Tok) (e it : Addr) (hei : e ≠ it) (hef : e ∉ q.fp) (hif : it ∉ q.fp) :
    Turn P w K (.Tuple elts kk tpos) (IteS K q) [e, it] e (fun i h => (∃ old, IsEnum h e it ((i : Nat) : Int) old) ∧ q.at it t i h) where
  mem := by simp
  obj := fun i h st b hb => by
    obtain ⟨⟨old, he⟩, ha⟩ := st
    have e' : b = e ∨ b = it := by simpa using hb
    rcases e' with z | z
    · rw [z]; exact ⟨_, he, fun v q => nomatch q⟩
    · rw [z]; exact Src.at_get ha
  keep := fun i h h' st k => let ⟨⟨old, he⟩, hi⟩ := st; ⟨⟨old, k e (by simp) _ he⟩, Src.at_keep (fun o q => k it (by simp) o q) hi⟩
  item := by
    intro X hP hw hK hc i pins s σ H E I hf st hg
    subst hP hw hK
    obtain ⟨⟨old, he⟩, hit⟩ := st
    obtain ⟨xs, x, hq, hx⟩ := hg
    obtain ⟨Pd, St, D, hPd, hS, hS'⟩ := src_draws I (A := X.A.in1) (I.ok.hd hc) t hq hif
    have hlt : i < xs.length := (List.getElem?_eq_some_iff.mp hx).1
    have hel : e < s.heap.objs.size := Heap.lt_size he
    have hil : it < s.heap.objs.size := by obtain ⟨_, q, _⟩ := Src.at_get hit; exact Heap.lt_size q
    refine wpAny_pyNext_enum_itemD D he (hS i hit) hlt hei (fun z => by rcases List.mem_cons.mp z with z | z; exact hei z; exact hef z) fun u h' tk hu ho hst hT hsz hk => ?_
    refine ⟨_, rfl, wpAny_letOwnedTupleGo_enum (s := { s with heap := h', toks := tk + 1 }) ho fun h'' he' sb => ?_⟩
    obtain ⟨x', hx', ru⟩ := hPd i u hu
    rw [hx] at hx'; cases hx'
    have hT2 : h''.get? s.heap.objs.size = some { cls := .type "tuple", data := .seq #[.int i tk, u] } := (sb.2 _ (Nat.ne_of_gt hel)).trans hT
    have new : ObjOk X.prog X.w (upd H s.heap.objs.size (.frz { cls := .type "tuple", data := .seq #[.int i tk, u] } (.tup [.int (i : Nat), x]))) h'' s.heap.objs.size (.frz { cls := .type "tuple", data := .seq #[.int i tk, u] } (.tup [.int (i : Nat), x])) :=
      ⟨hT2, by show 2 ≤ sizeLine; decide, [.int i tk, u], .cons ⟨_, rfl⟩ (.cons ru .nil), ⟨_, hT2, rfl, _, rfl⟩⟩
    have I1 : Inv X pins σ (upd H s.heap.objs.size (.frz { cls := .type "tuple", data := .seq #[.int i tk, u] } (.tup [.int (i : Nat), x]))) { s with heap := h'', toks := tk + 1 } :=
      I.turnedNew (ch := [e, it]) (fun b ob hb q => (sb.2 b (fun z => hb (by simp [z]))).trans (hk b ob (fun z => hb (by simp [z])) (fun z => hb (by simp [z])) q)) hf (Nat.le_refl _) new
    refine ⟨.ref s.heap.objs.size, _, I1, rfl, ⟨_, _, x, rfl, I.hok.fresh (Nat.le_refl _), rfl, rfl, fun ys hy => by rw [Src.inj I hy hq]; exact hx⟩, ⟨⟨u, ?_⟩, Src.at_keep (fun o q => (sb.2 it (Ne.symm hei)).trans q) (hS' _ _ hst)⟩, fun b hb => ?_⟩
    · have e1 : ((i + 1 : Nat) : Int) = (i : Int) + 1 := by omega
      rw [e1]; exact he'
    · have hb' : b < s.heap.objs.size := by
        have e' : b = e ∨ b = it := by simpa using hb
        rcases e' with z | z
        · rw [z]; exact hel
        · rw [z]; exact hil
      rw [upd_ne (Nat.ne_of_lt hb')]
      exact (hf b hb).1
  done := by
    intro X hP hw hK hc i pins s σ H E I hf st hg
    subst hP hw hK
    obtain ⟨⟨old, he⟩, hit⟩ := st
    obtain ⟨xs, hq, hx⟩ := hg
    obtain ⟨Pd, St, D, hPd, hS, hS'⟩ := src_draws I (A := X.A.in1) (I.ok.hd hc) t hq hif
    obtain ⟨f0, f1, f2, f3, f4, f5⟩ := hf it (by simp)
    exact wpAny_pyNext_enum_endD D he (by rw [hx]; exact hS i hit) fun h' eb => ⟨rfl, I.turned (t' := s.toks) (fun b o hb q => eb b o hb q) f0 f1 f3 f4 f5⟩
  self := fun A i s Q E st h => let ⟨⟨_, he⟩, _⟩ := st; wpAny_pyIter_enum he h
def iEnumS (K : PySem.W.Frag) (ta : TA) : TI := fun σ H R => ta σ H fun vs H1 => ∃ q xs, vs = [Src.val q] ∧ q.has K H1 xs ∧ R (IteS K q) H1
theorem pi_enumS {X : Cx} {e : Expr} {ta : TA} {p pos tpos : Pos} {elts : List Expr} {kk : Nat} (hg : Gl X "enumerate") (hm : X.mg "enumerate" = none) (ha : PA X [e] ta) (hs : starEach [e] X.env = [(false, eval e X.env)] := by rfl) :
    PI X (.Tuple elts kk tpos) (.Call (.Name "enumerate" p) [e] [] pos) (iEnumS X.K ta) := by
  refine ⟨fun pins s σ H R I h => ?_⟩
  refine Call_ (ld_blt I hg hm boot_enumerate (PyProof.Rows.callWith_type1 (thn (ha.run pos pins s σ H _ I h) fun us s1 ⟨vs, H1, I1, r1, q1⟩ => ?_) hs rfl))
  obtain ⟨q, xs, ex, hq, k⟩ := q1
  subst ex
  obtain ⟨u, rfl, r⟩ := vals1 r1
  obtain ⟨t, Hh, B, hB⟩ := src_begins I1 hq r
  refine enum1_begins B hB fun h' he hit hsz hk => wpAny_pyIter_enum he ?_
  have I2 : Inv X pins σ H1 { s1 with heap := h' } := I1.kept (t' := s1.toks) hk
  have lt := src_lt I1 hq
  refine ⟨s1.heap.objs.size + 1, [s1.heap.objs.size + 1, s1.heap.objs.size], _, _, H1, rfl, I2, turn_enumS q t (s1.heap.objs.size + 1) s1.heap.objs.size (Nat.succ_ne_self _) (fun z => absurd (lt _ z) (by show ¬ ((s1.heap.objs.size + 1 : Nat) < s1.heap.objs.size); omega)) (fun z => absurd (lt _ z) (Nat.lt_irrefl _)), ⟨⟨.none, he⟩, Src.at_obj hit⟩, fun b hb => ?_, k⟩
  have e' : b = s1.heap.objs.size + 1 ∨ b = s1.heap.objs.size := by simpa using hb
  have hle : s1.heap.objs.size ≤ b := by
    rcases e' with z | z
    · rw [z]; exact Nat.le_add_right _ _
    · rw [z]; exact Nat.le_refl _
  exact I1.fpOk hle (I1.hok.fresh hle)
end Dn
set_option Elab.async false
set_option linter.all false
set_option maxRecDepth 100000
namespace Dn
open PySem L2 PySem.Spec PyProof.Rows
/-! ### zip of 2 -/
def ItzS2 (K : PySem.W.Frag) (q1 q2 : Src) : It :=
  ⟨fun i H => ∃ (l1 l2 : List V) (x1 x2 : V), q1.has K H l1 ∧ q2.has K H l2 ∧ l1[i]? = some x1 ∧ l2[i]? = some x2,
    fun i H v H' => ∃ (T : Addr) (o : Obj) (x1 x2 : V), v = .ref T ∧ H T = none ∧ o.dict = none ∧ H' = upd H T (.frz o (.tup [x1, x2])) ∧ (∀ xs, q1.has K H xs → xs[i]? = some x1) ∧ (∀ xs, q2.has K H xs → xs[i]? = some x2),
    fun i H => ∃ l1 l2 : List V, q1.has K H l1 ∧ q2.has K H l2 ∧ i ≤ l1.length ∧ i ≤ l2.length ∧ (i = l1.length ∨ i = l2.length)⟩
theorem turn_zipS2 {P : Program} {w : World} {K : PySem.W.Frag} {elts : List Expr} {kk : Nat} {tpos : Pos} {q1 q2 : Src} (t1 t2 : Tok) {z TI TO i1 i2 : Addr} (S : ZipSep2 z TI TO i1 i2 (i1 :: q1.fp) (i2 :: q2.fp)) (n1 : i1 ∉ q1.fp) (n2 : i2 ∉ q2.fp) :
    Turn P w K (.Tuple elts kk tpos) (ItzS2 K q1 q2) [z, TI, TO, i1, i2] z (fun i h => IsZip h z TI TO .none ∧ IsTupOf2 h TI (.ref i1) (.ref i2) ∧ (∃ y1 y2, IsTupOf2 h TO y1 y2) ∧ q1.at i1 t1 i h ∧ q2.at i2 t2 i h) where
  mem := by simp
  obj := fun i h st c hc => by
    obtain ⟨hz, hTI, ⟨y1, y2, hTO⟩, h1, h2⟩ := st
    have e' : c = z ∨ c = TI ∨ c = TO ∨ c = i1 ∨ c = i2 := by simpa using hc
    rcases e' with q | q | q | q | q
    · rw [q]; exact ⟨_, hz, fun v q => nomatch q⟩
    · rw [q]; exact ⟨_, hTI, fun v q => nomatch q⟩
    · rw [q]; exact ⟨_, hTO, fun v q => nomatch q⟩
    · rw [q]; exact Src.at_get h1
    · rw [q]; exact Src.at_get h2
  keep := fun i h h' st k => by
    obtain ⟨hz, hTI, ⟨y1, y2, hTO⟩, h1, h2⟩ := st
    exact ⟨k z (by simp) _ hz, k TI (by simp) _ hTI, ⟨y1, y2, k TO (by simp) _ hTO⟩, Src.at_keep (fun o q => k i1 (by simp) o q) h1, Src.at_keep (fun o q => k i2 (by simp) o q) h2⟩
  item := by
    intro X hP hw hK hc i pins s σ H E I hf st hg
    subst hP hw hK
    obtain ⟨hz, hTI, ⟨y1, y2, hTO⟩, h1, h2⟩ := st
    obtain ⟨l1, l2, x1, x2, hq1, hq2, hx1, hx2⟩ := hg
    obtain ⟨P1, St1, D1, hP1, hS1, hs1⟩ := src_draws I (A := X.A.in1) (I.ok.hd hc) t1 hq1 n1
    obtain ⟨P2, St2, D2, hP2, hS2, hs2⟩ := src_draws I (A := X.A.in1) (I.ok.hd hc) t2 hq2 n2
    have hzl : z < s.heap.objs.size := Heap.lt_size hz
    refine wpAny_pyNext_zipD2_item S D1 D2 hz hTI hTO (hS1 i h1) (hS2 i h2) (List.getElem?_eq_some_iff.mp hx1).1 (List.getElem?_eq_some_iff.mp hx2).1 fun u1 u2 h' tk w1 w2 z' TO' st1 st2 hT hsz hk => ?_
    refine ⟨_, rfl, wpAny_letOwnedTupleGo_zip (s := { s with heap := h', toks := tk }) z' fun h'' z'' sb => ?_⟩
    obtain ⟨x', hx', ru1⟩ := hP1 i u1 w1
    rw [hx1] at hx'; cases hx'
    obtain ⟨x', hx', ru2⟩ := hP2 i u2 w2
    rw [hx2] at hx'; cases hx'
    have hT2 : h''.get? s.heap.objs.size = some { cls := .type "tuple", data := .seq #[u1, u2] } := (sb.2 _ (Nat.ne_of_gt hzl)).trans hT
    have new : ObjOk X.prog X.w (upd H s.heap.objs.size (.frz { cls := .type "tuple", data := .seq #[u1, u2] } (.tup [x1, x2]))) h'' s.heap.objs.size (.frz { cls := .type "tuple", data := .seq #[u1, u2] } (.tup [x1, x2])) :=
      ⟨hT2, by show 2 ≤ sizeLine; decide, [u1, u2], .cons ru1 (.cons ru2 .nil), ⟨_, hT2, rfl, _, rfl⟩⟩
    have I1 : Inv X pins σ (upd H s.heap.objs.size (.frz { cls := .type "tuple", data := .seq #[u1, u2] } (.tup [x1, x2]))) { s with heap := h'', toks := tk } :=
      I.turnedNew (t' := tk) (ch := [z, TI, TO, i1, i2]) (fun c o hb q => (sb.2 c (fun q' => hb (by simp [q']))).trans (hk c o (fun q' => hb (by simp [q'])) (fun q' => hb (by simp [q'])) (fun q' => hb (by simp [q'])) (fun q' => hb (by simp [q'])) q)) hf (Nat.le_refl _) new
    refine ⟨.ref s.heap.objs.size, _, I1, rfl, ⟨_, _, x1, x2, rfl, I.hok.fresh (Nat.le_refl _), rfl, rfl, fun l hl => by rw [Src.inj I hl hq1]; exact hx1, fun l hl => by rw [Src.inj I hl hq2]; exact hx2⟩, ⟨z'', ?_, ⟨u1, u2, ?_⟩, Src.at_keep (fun o q => (sb.2 _ (fun q' => S.zi1 q'.symm)).trans q) (hs1 _ _ st1), Src.at_keep (fun o q => (sb.2 _ (fun q' => S.zi2 q'.symm)).trans q) (hs2 _ _ st2)⟩, fun c hcm => ?_⟩
    · exact (sb.2 _ S.TIz).trans (hk _ _ S.TIz S.TITO S.TIi1 S.TIi2 hTI)
    · exact (sb.2 _ S.TOz).trans TO'
    · have hlt : c < s.heap.objs.size := by
        have e' : c = z ∨ c = TI ∨ c = TO ∨ c = i1 ∨ c = i2 := by simpa using hcm
        rcases e' with q | q | q | q | q
        · rw [q]; exact Heap.lt_size hz
        · rw [q]; exact Heap.lt_size hTI
        · rw [q]; exact Heap.lt_size hTO
        · rw [q]; obtain ⟨_, e1, _⟩ := Src.at_get h1; exact Heap.lt_size e1
        · rw [q]; obtain ⟨_, e1, _⟩ := Src.at_get h2; exact Heap.lt_size e1
      rw [upd_ne (Nat.ne_of_lt hlt)]
      exact (hf c hcm).1
  done := by
    intro X hP hw hK hc i pins s σ H E I hf st hg
    subst hP hw hK
    obtain ⟨hz, hTI, ⟨y1, y2, hTO⟩, h1, h2⟩ := st
    obtain ⟨l1, l2, hq1, hq2, le1, le2, hend⟩ := hg
    obtain ⟨P1, St1, D1, hP1, hS1, hs1⟩ := src_draws I (A := X.A.in1) (I.ok.hd hc) t1 hq1 n1
    obtain ⟨P2, St2, D2, hP2, hS2, hs2⟩ := src_draws I (A := X.A.in1) (I.ok.hd hc) t2 hq2 n2
    exact wpAny_pyNext_zipD2_end S D1 D2 hz hTI hTO (hS1 i h1) (hS2 i h2) le1 le2 hend fun h' tk hk => ⟨rfl, I.turnedL (t' := tk) (ch := [z, TI, TO, i1, i2]) (fun c o hb q => hk c o (fun q' => hb (by simp [q'])) (fun q' => hb (by simp [q'])) (fun q' => hb (by simp [q'])) (fun q' => hb (by simp [q'])) q) hf⟩
  self := fun A i s Q E st h => wpAny_pyIter_zip st.1 h
def iZipS2 (K : PySem.W.Frag) (ta : TA) : TI := fun σ H R => ta σ H fun vs H1 => ∃ q1 q2 l1 l2, vs = [Src.val q1, Src.val q2] ∧ q1.has K H1 l1 ∧ q2.has K H1 l2 ∧ R (ItzS2 K q1 q2) H1
theorem pi_zipS2 {X : Cx} {e1 e2 : Expr} {ta : TA} {p pos tpos : Pos} {elts : List Expr} {kk : Nat} (hg : Gl X "zip") (hm : X.mg "zip" = none) (ha : PA X [e1, e2] ta)
    (hs : starEach [e1, e2] X.env = (false, eval e1 X.env) :: starEach [e2] X.env := by rfl) (hpl : (backTo pos (starEach [e2] X.env)).any (·.1) = false := by rfl) :
    PI X (.Tuple elts kk tpos) (.Call (.Name "zip" p) [e1, e2] [] pos) (iZipS2 X.K ta) := by
  refine ⟨fun pins s σ H R I h => ?_⟩
  refine Call_ (ld_blt I hg hm PyProof.Rows.boot_zip (PyProof.Rows.callWith_type1 (thn (ha.run pos pins s σ H _ I h) fun us s1 ⟨vs, H1, I1, r1, k1⟩ => ?_) hs hpl))
  obtain ⟨q1, q2, l1, l2, ex, hq1, hq2, k⟩ := k1
  subst ex
  cases r1 with
  | cons r2 r1 =>
    cases r1 with
    | cons r3 r1 =>
      cases r1
      obtain ⟨t1, Hh1, B1, hB1⟩ := src_begins I1 hq1 r2
      obtain ⟨t2, Hh2, B2, hB2⟩ := src_begins I1 hq2 r3
      refine zip_begins2 B1 B2 hB1 hB2 fun h' hz hTI hTO g1 g2 hsz hk => wpAny_pyIter_zip hz ?_
      have I2 : Inv X pins σ H1 { s1 with heap := h' } := I1.kept (t' := s1.toks) hk
      have S := zip_sep2 (src_lt I1 hq1) (src_lt I1 hq2)
      refine ⟨s1.heap.objs.size + 4, [s1.heap.objs.size + 4, s1.heap.objs.size + 2, s1.heap.objs.size + 3, s1.heap.objs.size, s1.heap.objs.size + 1], _, _, H1, rfl, I2, turn_zipS2 t1 t2 S (fun z => absurd (src_lt I1 hq1 _ z) (by show ¬ ((s1.heap.objs.size : Nat) < s1.heap.objs.size); omega)) (fun z => absurd (src_lt I1 hq2 _ z) (by show ¬ ((s1.heap.objs.size + 1 : Nat) < s1.heap.objs.size); omega)), ⟨hz, hTI, ⟨_, _, hTO⟩, Src.at_obj g1, Src.at_obj g2⟩, fun c hcm => ?_, k⟩
      have e' : c = s1.heap.objs.size + 4 ∨ c = s1.heap.objs.size + 2 ∨ c = s1.heap.objs.size + 3 ∨ c = s1.heap.objs.size ∨ c = s1.heap.objs.size + 1 := by simpa using hcm
      have hle : s1.heap.objs.size ≤ c := by
        rcases e' with q | q | q | q | q
        · rw [q]; exact Nat.le_add_right _ _
        · rw [q]; exact Nat.le_add_right _ _
        · rw [q]; exact Nat.le_add_right _ _
        · rw [q]; exact Nat.le_refl _
        · rw [q]; exact Nat.le_add_right _ _
      exact I1.fpOk hle (I1.hok.fresh hle)
/-! ### zip of 3 -/
def ItzS3 (K : PySem.W.Frag) (q1 q2 q3 : Src) : It :=
  ⟨fun i H => ∃ (l1 l2 l3 : List V) (x1 x2 x3 : V), q1.has K H l1 ∧ q2.has K H l2 ∧ q3.has K H l3 ∧ l1[i]? = some x1 ∧ l2[i]? = some x2 ∧ l3[i]? = some x3,
    fun i H v H' => ∃ (T : Addr) (o : Obj) (x1 x2 x3 : V), v = .ref T ∧ H T = none ∧ o.dict = none ∧ H' = upd H T (.frz o (.tup [x1, x2, x3])) ∧ (∀ xs, q1.has K H xs → xs[i]? = some x1) ∧ (∀ xs, q2.has K H xs → xs[i]? = some x2) ∧ (∀ xs, q3.has K H xs → xs[i]? = some x3),
    fun i H => ∃ l1 l2 l3 : List V, q1.has K H l1 ∧ q2.has K H l2 ∧ q3.has K H l3 ∧ i ≤ l1.length ∧ i ≤ l2.length ∧ i ≤ l3.length ∧ (i = l1.length ∨ i = l2.length ∨ i = l3.length)⟩
theorem turn_zipS3 {P : Program} {w : World} {K : PySem.W.Frag} {elts : List Expr} {kk : Nat} {tpos : Pos} {q1 q2 q3 : Src} (t1 t2 t3 : Tok) {z TI TO i1 i2 i3 : Addr} (S : ZipSep3 z TI TO i1 i2 i3 (i1 :: q1.fp) (i2 :: q2.fp) (i3 :: q3.fp)) (n1 : i1 ∉ q1.fp) (n2 : i2 ∉ q2.fp) (n3 : i3 ∉ q3.fp) :
    Turn P w K (.Tuple elts kk tpos) (ItzS3 K q1 q2 q3) [z, TI, TO, i1, i2, i3] z (fun i h => IsZip h z TI TO .none ∧ IsTupOf3 h TI (.ref i1) (.ref i2) (.ref i3) ∧ (∃ y1 y2 y3, IsTupOf3 h TO y1 y2 y3) ∧ q1.at i1 t1 i h ∧ q2.at i2 t2 i h ∧ q3.at i3 t3 i h) where
  mem := by simp
  obj := fun i h st c hc => by
    obtain ⟨hz, hTI, ⟨y1, y2, y3, hTO⟩, h1, h2, h3⟩ := st
    have e' : c = z ∨ c = TI ∨ c = TO ∨ c = i1 ∨ c = i2 ∨ c = i3 := by simpa using hc
    rcases e' with q | q | q | q | q | q
    · rw [q]; exact ⟨_, hz, fun v q => nomatch q⟩
    · rw [q]; exact ⟨_, hTI, fun v q => nomatch q⟩
    · rw [q]; exact ⟨_, hTO, fun v q => nomatch q⟩
    · rw [q]; exact Src.at_get h1
    · rw [q]; exact Src.at_get h2
    · rw [q]; exact Src.at_get h3
  keep := fun i h h' st k => by
    obtain ⟨hz, hTI, ⟨y1, y2, y3, hTO⟩, h1, h2, h3⟩ := st
    exact ⟨k z (by simp) _ hz, k TI (by simp) _ hTI, ⟨y1, y2, y3, k TO (by simp) _ hTO⟩, Src.at_keep (fun o q => k i1 (by simp) o q) h1, Src.at_keep (fun o q => k i2 (by simp) o q) h2, Src.at_keep (fun o q => k i3 (by simp) o q) h3⟩
  item := by
    intro X hP hw hK hc i pins s σ H E I hf st hg
    subst hP hw hK
    obtain ⟨hz, hTI, ⟨y1, y2, y3, hTO⟩, h1, h2, h3⟩ := st
    obtain ⟨l1, l2, l3, x1, x2, x3, hq1, hq2, hq3, hx1, hx2, hx3⟩ := hg
    obtain ⟨P1, St1, D1, hP1, hS1, hs1⟩ := src_draws I (A := X.A.in1) (I.ok.hd hc) t1 hq1 n1
    obtain ⟨P2, St2, D2, hP2, hS2, hs2⟩ := src_draws I (A := X.A.in1) (I.ok.hd hc) t2 hq2 n2
    obtain ⟨P3, St3, D3, hP3, hS3, hs3⟩ := src_draws I (A := X.A.in1) (I.ok.hd hc) t3 hq3 n3
    have hzl : z < s.heap.objs.size := Heap.lt_size hz
    refine wpAny_pyNext_zipD3_item S D1 D2 D3 hz hTI hTO (hS1 i h1) (hS2 i h2) (hS3 i h3) (List.getElem?_eq_some_iff.mp hx1).1 (List.getElem?_eq_some_iff.mp hx2).1 (List.getElem?_eq_some_iff.mp hx3).1 fun u1 u2 u3 h' tk w1 w2 w3 z' TO' st1 st2 st3 hT hsz hk => ?_
    refine ⟨_, rfl, wpAny_letOwnedTupleGo_zip (s := { s with heap := h', toks := tk }) z' fun h'' z'' sb => ?_⟩
    obtain ⟨x', hx', ru1⟩ := hP1 i u1 w1
    rw [hx1] at hx'; cases hx'
    obtain ⟨x', hx', ru2⟩ := hP2 i u2 w2
    rw [hx2] at hx'; cases hx'
    obtain ⟨x', hx', ru3⟩ := hP3 i u3 w3
    rw [hx3] at hx'; cases hx'
    have hT2 : h''.get? s.heap.objs.size = some { cls := .type "tuple", data := .seq #[u1, u2, u3] } := (sb.2 _ (Nat.ne_of_gt hzl)).trans hT
    have new : ObjOk X.prog X.w (upd H s.heap.objs.size (.frz { cls := .type "tuple", data := .seq #[u1, u2, u3] } (.tup [x1, x2, x3]))) h'' s.heap.objs.size (.frz { cls := .type "tuple", data := .seq #[u1, u2, u3] } (.tup [x1, x2, x3])) :=
      ⟨hT2, by show 3 ≤ sizeLine; decide, [u1, u2, u3], .cons ru1 (.cons ru2 (.cons ru3 .nil)), ⟨_, hT2, rfl, _, rfl⟩⟩
    have I1 : Inv X pins σ (upd H s.heap.objs.size (.frz { cls := .type "tuple", data := .seq #[u1, u2, u3] } (.tup [x1, x2, x3]))) { s with heap := h'', toks := tk } :=
      I.turnedNew (t' := tk) (ch := [z, TI, TO, i1, i2, i3]) (fun c o hb q => (sb.2 c (fun q' => hb (by simp [q']))).trans (hk c o (fun q' => hb (by simp [q'])) (fun q' => hb (by simp [q'])) (fun q' => hb (by simp [q'])) (fun q' => hb (by simp [q'])) (fun q' => hb (by simp [q'])) q)) hf (Nat.le_refl _) new
    refine ⟨.ref s.heap.objs.size, _, I1, rfl, ⟨_, _, x1, x2, x3, rfl, I.hok.fresh (Nat.le_refl _), rfl, rfl, fun l hl => by rw [Src.inj I hl hq1]; exact hx1, fun l hl => by rw [Src.inj I hl hq2]; exact hx2, fun l hl => by rw [Src.inj I hl hq3]; exact hx3⟩, ⟨z'', ?_, ⟨u1, u2, u3, ?_⟩, Src.at_keep (fun o q => (sb.2 _ (fun q' => S.zi1 q'.symm)).trans q) (hs1 _ _ st1), Src.at_keep (fun o q => (sb.2 _ (fun q' => S.zi2 q'.symm)).trans q) (hs2 _ _ st2), Src.at_keep (fun o q => (sb.2 _ (fun q' => S.zi3 q'.symm)).trans q) (hs3 _ _ st3)⟩, fun c hcm => ?_⟩
    · exact (sb.2 _ S.TIz).trans (hk _ _ S.TIz S.TITO S.TIi1 S.TIi2 S.TIi3 hTI)
    · exact (sb.2 _ S.TOz).trans TO'
    · have hlt : c < s.heap.objs.size := by
        have e' : c = z ∨ c = TI ∨ c = TO ∨ c = i1 ∨ c = i2 ∨ c = i3 := by simpa using hcm
        rcases e' with q | q | q | q | q | q
        · rw [q]; exact Heap.lt_size hz
        · rw [q]; exact Heap.lt_size hTI
        · rw [q]; exact Heap.lt_size hTO
        · rw [q]; obtain ⟨_, e1, _⟩ := Src.at_get h1; exact Heap.lt_size e1
        · rw [q]; obtain ⟨_, e1, _⟩ := Src.at_get h2; exact Heap.lt_size e1
        · rw [q]; obtain ⟨_, e1, _⟩ := Src.at_get h3; exact Heap.lt_size e1
      rw [upd_ne (Nat.ne_of_lt hlt)]
      exact (hf c hcm).1
  done := by
    intro X hP hw hK hc i pins s σ H E I hf st hg
    subst hP hw hK
    obtain ⟨hz, hTI, ⟨y1, y2, y3, hTO⟩, h1, h2, h3⟩ := st
    obtain ⟨l1, l2, l3, hq1, hq2, hq3, le1, le2, le3, hend⟩ := hg
    obtain ⟨P1, St1, D1, hP1, hS1, hs1⟩ := src_draws I (A := X.A.in1) (I.ok.hd hc) t1 hq1 n1
    obtain ⟨P2, St2, D2, hP2, hS2, hs2⟩ := src_draws I (A := X.A.in1) (I.ok.hd hc) t2 hq2 n2
    obtain ⟨P3, St3, D3, hP3, hS3, hs3⟩ := src_draws I (A := X.A.in1) (I.ok.hd hc) t3 hq3 n3
    exact wpAny_pyNext_zipD3_end S D1 D2 D3 hz hTI hTO (hS1 i h1) (hS2 i h2) (hS3 i h3) le1 le2 le3 hend fun h' tk hk => ⟨rfl, I.turnedL (t' := tk) (ch := [z, TI, TO, i1, i2, i3]) (fun c o hb q => hk c o (fun q' => hb (by simp [q'])) (fun q' => hb (by simp [q'])) (fun q' => hb (by simp [q'])) (fun q' => hb (by simp [q'])) (fun q' => hb (by simp [q'])) q) hf⟩
  self := fun A i s Q E st h => wpAny_pyIter_zip st.1 h
def iZipS3 (K : PySem.W.Frag) (ta : TA) : TI := fun σ H R => ta σ H fun vs H1 => ∃ q1 q2 q3 l1 l2 l3, vs = [Src.val q1, Src.val q2, Src.val q3] ∧ q1.has K H1 l1 ∧ q2.has K H1 l2 ∧ q3.has K H1 l3 ∧ R (ItzS3 K q1 q2 q3) H1
theorem pi_zipS3 {X : Cx} {e1 e2 e3 : Expr} {ta : TA} {p pos tpos : Pos} {elts : List Expr} {kk : Nat} (hg : Gl X "zip") (hm : X.mg "zip" = none) (ha : PA X [e1, e2, e3] ta)
    (hs : starEach [e1, e2, e3] X.env = (false, eval e1 X.env) :: starEach [e2, e3] X.env := by rfl) (hpl : (backTo pos (starEach [e2, e3] X.env)).any (·.1) = false := by rfl) :
    PI X (.Tuple elts kk tpos) (.Call (.Name "zip" p) [e1, e2, e3] [] pos) (iZipS3 X.K ta) := by
  refine ⟨fun pins s σ H R I h => ?_⟩
  refine Call_ (ld_blt I hg hm PyProof.Rows.boot_zip (PyProof.Rows.callWith_type1 (thn (ha.run pos pins s σ H _ I h) fun us s1 ⟨vs, H1, I1, r1, k1⟩ => ?_) hs hpl))
  obtain ⟨q1, q2, q3, l1, l2, l3, ex, hq1, hq2, hq3, k⟩ := k1
  subst ex
  cases r1 with
  | cons r2 r1 =>
    cases r1 with
    | cons r3 r1 =>
      cases r1 with
      | cons r4 r1 =>
        cases r1
        obtain ⟨t1, Hh1, B1, hB1⟩ := src_begins I1 hq1 r2
        obtain ⟨t2, Hh2, B2, hB2⟩ := src_begins I1 hq2 r3
        obtain ⟨t3, Hh3, B3, hB3⟩ := src_begins I1 hq3 r4
        refine zip_begins3 B1 B2 B3 hB1 hB2 hB3 fun h' hz hTI hTO g1 g2 g3 hsz hk => wpAny_pyIter_zip hz ?_
        have I2 : Inv X pins σ H1 { s1 with heap := h' } := I1.kept (t' := s1.toks) hk
        have S := zip_sep3 (src_lt I1 hq1) (src_lt I1 hq2) (src_lt I1 hq3)
        refine ⟨s1.heap.objs.size + 5, [s1.heap.objs.size + 5, s1.heap.objs.size + 3, s1.heap.objs.size + 4, s1.heap.objs.size, s1.heap.objs.size + 1, s1.heap.objs.size + 2], _, _, H1, rfl, I2, turn_zipS3 t1 t2 t3 S (fun z => absurd (src_lt I1 hq1 _ z) (by show ¬ ((s1.heap.objs.size : Nat) < s1.heap.objs.size); omega)) (fun z => absurd (src_lt I1 hq2 _ z) (by show ¬ ((s1.heap.objs.size + 1 : Nat) < s1.heap.objs.size); omega)) (fun z => absurd (src_lt I1 hq3 _ z) (by show ¬ ((s1.heap.objs.size + 2 : Nat) < s1.heap.objs.size); omega)), ⟨hz, hTI, ⟨_, _, _, hTO⟩, Src.at_obj g1, Src.at_obj g2, Src.at_obj g3⟩, fun c hcm => ?_, k⟩
        have e' : c = s1.heap.objs.size + 5 ∨ c = s1.heap.objs.size + 3 ∨ c = s1.heap.objs.size + 4 ∨ c = s1.heap.objs.size ∨ c = s1.heap.objs.size + 1 ∨ c = s1.heap.objs.size + 2 := by simpa using hcm
        have hle : s1.heap.objs.size ≤ c := by
          rcases e' with q | q | q | q | q | q
          · rw [q]; exact Nat.le_add_right _ _
          · rw [q]; exact Nat.le_add_right _ _
          · rw [q]; exact Nat.le_add_right _ _
          · rw [q]; exact Nat.le_refl _
          · rw [q]; exact Nat.le_add_right _ _
          · rw [q]; exact Nat.le_add_right _ _
        exact I1.fpOk hle (I1.hok.fresh hle)
/-! ### over data -/
/-- the source stands for ds while P stands -/
def SrcOk (K : PySem.W.Frag) (P : Hp → Prop) (O : Av) (H1 : Hp) (q : Src) (ds : List D) : Prop := ∀ H', P H' → ∃ xs, q.has K H' xs ∧ ∀ O' : Av, (∀ a, O' a → O a ∨ H1 a = none) → DqL K H' O' xs ds
section
variable {K : PySem.W.Frag} {P : Hp → Prop} {O : Av} {H1 : Hp}
theorem dql_text (H : Hp) (O : Av) : ∀ cs : List Nat, DqL K H O (cs.map fun c => V.str ⟨#[c]⟩) (cs.map fun c => PyData.str ⟨#[c]⟩)
  | [] => .nil
  | c :: cs => .cons (.str _) (dql_text H O cs)
theorem src_txt (z : Str) : SrcOk K P O H1 (.txt z) (textD z) := fun H' _ => ⟨chV z, rfl, fun O' _ => dql_text H' O' _⟩
/-- a kept value -/
theorem src_dq {v : V} {d : D} {ds : List D} (hO : ∀ p, O p → ∃ o, H1 p = some o ∧ MutO o) (r : Dq K H1 O v d) (e : itemsD d = some ds) : ∃ q, v = Src.val q ∧ SrcOk K (Keep O H1) O H1 q ds := by
  cases r with
  | @lst _ a xs ds' n1 n2 n3 =>
    cases e
    exact ⟨.lst a, rfl, fun H' k => ⟨xs, SqL.of (k a _ n2 n1), fun O' ho => DqL.keep hO k n3 (fun a z => .inl z) fun a z => (ho a z).imp .inl id⟩⟩
  | @tup _ a xs ds' n1 n2 =>
    cases e
    exact ⟨.tup a, rfl, fun H' k => ⟨xs, (tp_keep hO k n1).sq, fun O' ho => DqL.keep hO k n2 (fun a z => z) fun a z => ho a z⟩⟩
  | str z => cases e; exact ⟨.txt z, rfl, src_txt z⟩
  | _ => cases e
/-- a value to be read -/
theorem src_rv {v : V} {d : D} {ds : List D} (hO : ∀ p, O p → ∃ o, H1 p = some o ∧ MutO o) (r : Rv K H1 O v d) (e : itemsD d = some ds) : ∃ q, v = Src.val q ∧ SrcOk K (Same H1) O H1 q ds := by
  cases d with
  | list ds' =>
    cases e
    obtain ⟨a, xs, rfl, n2, n3⟩ := r.lst
    exact ⟨.lst a, rfl, fun H' k => ⟨xs, SqL.of (k a _ n2), fun O' ho => DqL.keep hO (Same.keep k) n3 (fun a z => z) fun a z => ho a z⟩⟩
  | tuple ds' =>
    cases e
    obtain ⟨a, xs, rfl, n2, n3⟩ := r.tuple
    exact ⟨.tup a, rfl, fun H' k => ⟨xs, sameT k n2, fun O' ho => DqL.keep hO (Same.keep k) n3 (fun a z => z) fun a z => ho a z⟩⟩
  | str z => cases e; have hx := r.str; subst hx; exact ⟨.txt z, rfl, src_txt z⟩
  | _ => cases e
def enumFrom (i : Nat) : List D → List D
  | [] => []
  | d :: ds => .tuple [.int (i : Int), d] :: enumFrom (i + 1) ds
theorem enumFrom_length : ∀ (ds : List D) (i : Nat), (enumFrom i ds).length = ds.length
  | [], _ => rfl
  | _ :: ds, i => by unfold enumFrom; rw [List.length_cons, List.length_cons, enumFrom_length ds]
theorem enumFrom_get : ∀ (ds : List D) (i j : Nat) (d : D), (enumFrom i ds)[j]? = some d → ∃ x, ds[j]? = some x ∧ d = .tuple [.int ((i + j : Nat) : Int), x]
  | [], _, _, _, e => by cases e
  | x :: ds, i, 0, d, e => by cases e; exact ⟨x, rfl, rfl⟩
  | x :: ds, i, j + 1, d, e => by
    obtain ⟨y, h1, h2⟩ := enumFrom_get ds (i + 1) j d e
    exact ⟨y, h1, by rw [h2, show i + 1 + j = i + (j + 1) by omega]⟩
theorem jok_enum {q : Src} {ds : List D} (h : SrcOk K P O H1 q ds) : JOk K (IteS K q) P O H1 (enumFrom 0 ds) := by
  intro H' p
  obtain ⟨xs, hx, r⟩ := h H' p
  have hl : xs.length = ds.length := (r (fun _ => False) (fun _ z => z.elim)).length
  refine ⟨fun i d e => ?_, xs, hx, by rw [enumFrom_length, hl]⟩
  obtain ⟨x, h1, rfl⟩ := enumFrom_get ds 0 i d e
  obtain ⟨v, h2⟩ := getD_some hl h1
  refine ⟨⟨xs, v, hx, h2⟩, ?_⟩
  rintro y H'' ⟨T, o, x', rfl, hT, ho, rfl, hx'⟩
  have h3 := hx' xs hx
  rw [h2] at h3; cases h3
  have e2 : Same H' (upd H' T (.frz o (.tup [.int (i : Nat), v]))) := dom_upd hT
  refine ⟨e2, fun O' hO' => .tup (.inl ⟨o, upd_same, ho⟩) (.cons (by rw [Nat.zero_add]; exact .int _) (.cons ?_ .nil))⟩
  obtain ⟨v', h4, h5⟩ := (r O' hO').get h1
  rw [h2] at h4; cases h4
  exact Dq.mono e2 h5 fun _ z => z
def zip2D : List D → List D → List D
  | a :: as, b :: bs => .tuple [a, b] :: zip2D as bs
  | _, _ => []
def zip3D : List D → List D → List D → List D
  | a :: as, b :: bs, c :: cs => .tuple [a, b, c] :: zip3D as bs cs
  | _, _, _ => []
theorem zip2D_get : ∀ (as bs : List D) (j : Nat) (d : D), (zip2D as bs)[j]? = some d → ∃ x y, as[j]? = some x ∧ bs[j]? = some y ∧ d = .tuple [x, y]
  | [], _, _, _, e => by cases e
  | _ :: _, [], _, _, e => by cases e
  | a :: as, b :: bs, 0, d, e => by cases e; exact ⟨a, b, rfl, rfl, rfl⟩
  | a :: as, b :: bs, j + 1, d, e => zip2D_get as bs j d e
theorem zip2D_len : ∀ (as bs : List D), (zip2D as bs).length ≤ as.length ∧ (zip2D as bs).length ≤ bs.length ∧ ((zip2D as bs).length = as.length ∨ (zip2D as bs).length = bs.length)
  | [], _ => ⟨Nat.zero_le _, Nat.zero_le _, .inl rfl⟩
  | _ :: _, [] => ⟨Nat.zero_le _, Nat.zero_le _, .inr rfl⟩
  | a :: as, b :: bs => by
    obtain ⟨h1, h2, h3⟩ := zip2D_len as bs
    refine ⟨Nat.succ_le_succ h1, Nat.succ_le_succ h2, h3.imp ?_ ?_⟩ <;> intro h <;> unfold zip2D <;> simp only [List.length_cons] <;> omega
theorem zip3D_get : ∀ (as bs cs : List D) (j : Nat) (d : D), (zip3D as bs cs)[j]? = some d → ∃ x y z, as[j]? = some x ∧ bs[j]? = some y ∧ cs[j]? = some z ∧ d = .tuple [x, y, z]
  | [], _, _, _, _, e => by cases e
  | _ :: _, [], _, _, _, e => by cases e
  | _ :: _, _ :: _, [], _, _, e => by cases e
  | a :: as, b :: bs, c :: cs, 0, d, e => by cases e; exact ⟨a, b, c, rfl, rfl, rfl, rfl⟩
  | a :: as, b :: bs, c :: cs, j + 1, d, e => zip3D_get as bs cs j d e
theorem zip3D_len : ∀ (as bs cs : List D), (zip3D as bs cs).length ≤ as.length ∧ (zip3D as bs cs).length ≤ bs.length ∧ (zip3D as bs cs).length ≤ cs.length ∧ ((zip3D as bs cs).length = as.length ∨ (zip3D as bs cs).length = bs.length ∨ (zip3D as bs cs).length = cs.length)
  | [], _, _ => ⟨Nat.zero_le _, Nat.zero_le _, Nat.zero_le _, .inl rfl⟩
  | _ :: _, [], _ => ⟨Nat.zero_le _, Nat.zero_le _, Nat.zero_le _, .inr (.inl rfl)⟩
  | _ :: _, _ :: _, [] => ⟨Nat.zero_le _, Nat.zero_le _, Nat.zero_le _, .inr (.inr rfl)⟩
  | a :: as, b :: bs, c :: cs => by
    obtain ⟨h1, h2, h3, h4⟩ := zip3D_len as bs cs
    refine ⟨Nat.succ_le_succ h1, Nat.succ_le_succ h2, Nat.succ_le_succ h3, h4.imp ?_ (Or.imp ?_ ?_)⟩ <;> intro h <;> unfold zip3D <;> simp only [List.length_cons] <;> omega
theorem jok_zip2 {q1 q2 : Src} {as bs : List D} (h1 : SrcOk K P O H1 q1 as) (h2 : SrcOk K P O H1 q2 bs) : JOk K (ItzS2 K q1 q2) P O H1 (zip2D as bs) := by
  intro H' p
  obtain ⟨xs, hx, r1⟩ := h1 H' p
  obtain ⟨ys, hy, r2⟩ := h2 H' p
  have l1 : xs.length = as.length := (r1 (fun _ => False) (fun _ z => z.elim)).length
  have l2 : ys.length = bs.length := (r2 (fun _ => False) (fun _ z => z.elim)).length
  obtain ⟨m1, m2, m3⟩ := zip2D_len as bs
  refine ⟨fun i d e => ?_, xs, ys, hx, hy, by omega, by omega, by omega⟩
  obtain ⟨x, y, e1, e2, rfl⟩ := zip2D_get as bs i d e
  obtain ⟨v1, g1⟩ := getD_some l1 e1
  obtain ⟨v2, g2⟩ := getD_some l2 e2
  refine ⟨⟨xs, ys, v1, v2, hx, hy, g1, g2⟩, ?_⟩
  rintro u H'' ⟨T, o, w1, w2, rfl, hT, ho, rfl, f1, f2⟩
  have g3 := f1 xs hx
  rw [g1] at g3; cases g3
  have g4 := f2 ys hy
  rw [g2] at g4; cases g4
  have e3 : Same H' (upd H' T (.frz o (.tup [v1, v2]))) := dom_upd hT
  refine ⟨e3, fun O' hO' => .tup (.inl ⟨o, upd_same, ho⟩) (.cons ?_ (.cons ?_ .nil))⟩
  · obtain ⟨v', a1, a2⟩ := (r1 O' hO').get e1
    rw [g1] at a1; cases a1
    exact Dq.mono e3 a2 fun _ z => z
  · obtain ⟨v', a1, a2⟩ := (r2 O' hO').get e2
    rw [g2] at a1; cases a1
    exact Dq.mono e3 a2 fun _ z => z
theorem jok_zip3 {q1 q2 q3 : Src} {as bs cs : List D} (h1 : SrcOk K P O H1 q1 as) (h2 : SrcOk K P O H1 q2 bs) (h3 : SrcOk K P O H1 q3 cs) : JOk K (ItzS3 K q1 q2 q3) P O H1 (zip3D as bs cs) := by
  intro H' p
  obtain ⟨xs, hx, r1⟩ := h1 H' p
  obtain ⟨ys, hy, r2⟩ := h2 H' p
  obtain ⟨zs, hz, r3⟩ := h3 H' p
  have l1 : xs.length = as.length := (r1 (fun _ => False) (fun _ z => z.elim)).length
  have l2 : ys.length = bs.length := (r2 (fun _ => False) (fun _ z => z.elim)).length
  have l3 : zs.length = cs.length := (r3 (fun _ => False) (fun _ z => z.elim)).length
  obtain ⟨m1, m2, m3, m4⟩ := zip3D_len as bs cs
  refine ⟨fun i d e => ?_, xs, ys, zs, hx, hy, hz, by omega, by omega, by omega, by omega⟩
  obtain ⟨x, y, z, e1, e2, e4, rfl⟩ := zip3D_get as bs cs i d e
  obtain ⟨v1, g1⟩ := getD_some l1 e1
  obtain ⟨v2, g2⟩ := getD_some l2 e2
  obtain ⟨v3, g5⟩ := getD_some l3 e4
  refine ⟨⟨xs, ys, zs, v1, v2, v3, hx, hy, hz, g1, g2, g5⟩, ?_⟩
  rintro u H'' ⟨T, o, w1, w2, w3, rfl, hT, ho, rfl, f1, f2, f3⟩
  have g3 := f1 xs hx
  rw [g1] at g3; cases g3
  have g4 := f2 ys hy
  rw [g2] at g4; cases g4
  have g6 := f3 zs hz
  rw [g5] at g6; cases g6
  have e3 : Same H' (upd H' T (.frz o (.tup [v1, v2, v3]))) := dom_upd hT
  refine ⟨e3, fun O' hO' => .tup (.inl ⟨o, upd_same, ho⟩) (.cons ?_ (.cons ?_ (.cons ?_ .nil)))⟩
  · obtain ⟨v', a1, a2⟩ := (r1 O' hO').get e1
    rw [g1] at a1; cases a1
    exact Dq.mono e3 a2 fun _ z => z
  · obtain ⟨v', a1, a2⟩ := (r2 O' hO').get e2
    rw [g2] at a1; cases a1
    exact Dq.mono e3 a2 fun _ z => z
  · obtain ⟨v', a1, a2⟩ := (r3 O' hO').get e4
    rw [g5] at a1; cases a1
    exact Dq.mono e3 a2 fun _ z => z
end
def enumD : List D → Option (List D)
  | [d] => (itemsD d).map (enumFrom 0)
  | _ => none
def zipD : List D → Option (List D)
  | [a, b] => (itemsD a).bind fun as => (itemsD b).map fun bs => zip2D as bs
  | [a, b, c] => (itemsD a).bind fun as => (itemsD b).bind fun bs => (itemsD c).map fun cs => zip3D as bs cs
  | _ => none
def iEnum (gs : Rho → Res (List D)) : Rho → Res (List D) := fun ρ => (gs ρ).bind fun ds => ofO (enumD ds)
def iZip (gs : Rho → Res (List D)) : Rho → Res (List D) := fun ρ => (gs ρ).bind fun ds => ofO (zipD ds)
section
variable {F : Fam} {τ : List Kd} {e1 e2 e3 : Expr} {gs : Rho → Res (List D)} {fl : Fl} {pos p tpos : Pos} {elts : List Expr} {kk : Nat}
theorem DqL.rvl {K : PySem.W.Frag} {H : Hp} : ∀ {O : Av} {vs : List V} {ds : List D}, DqL K H O vs ds → RvL K H O vs ds
  | _, _, _, .nil => .nil
  | _, _, _, .cons a b => .cons (.inl a) (DqL.rvl b)
theorem RvL.own {τ : List Kd} {K : PySem.W.Frag} {H0 H H' : Hp} {B : Av} {ρ : Rho} {σ : L2.St} {fl : Fl} (s : SR K τ H0 B ρ σ H) : ∀ {vs : List V} {ds : List D}, RvL K H' (av fl H0 H (OwnX τ B ρ σ)) vs ds → RvL K H' (OwnX τ B ρ σ) vs ds
  | _, _, .nil => .nil
  | _, _, .cons a b => .cons (a.mono (Same.refl _) (av_own s)) (RvL.own s b)
theorem di_enum (hm : ∀ i, (F.X i).mg "enumerate" = none) (ha : DnA F τ [e1] gs fl) (hg : ∀ i, Gl (F.X i) "enumerate" := by intro _; rfl) (hs : ∀ i, starEach [e1] (F.X i).env = [(false, eval e1 (F.X i).env)] := by intro _; rfl) :
    DnI F τ (.Tuple elts kk tpos) (.Call (.Name "enumerate" p) [e1] [] pos) (iEnum gs) true := by
  obtain ⟨t, h1, h2⟩ := ha
  refine ⟨iEnumS F.K t, fun i => by have q := pi_enumS (elts := elts) (kk := kk) (tpos := tpos) (p := p) (pos := pos) (hg i) (hm i) (h1 i) (hs i); rw [F.hK i] at q; exact q, fun H0 B ρ σ H R s p => ?_⟩
  refine h2 H0 B ρ σ H _ s (p.bind.to (Same.refl _) fun ds _ q vs H1 e r => ?_)
  have hO : ∀ p, OwnX τ B ρ σ p → ∃ o, H1 p = some o ∧ MutO o := fun p z => (s.more e).ownMut z
  match ds, q with
  | [d], q =>
    have q : Post F σ H _ (ofO ((itemsD d).map (enumFrom 0))) := q
    cases hd : itemsD d with
    | none => rw [hd] at q; exact q.elim
    | some xs =>
      rw [hd] at q
      cases r with
      | cons r1 r2 =>
        cases r2
        obtain ⟨sr, rfl, k⟩ := src_dq hO (Dq.mono (Same.refl _) r1 (av_own s)) hd
        obtain ⟨ys, hy, _⟩ := k H1 Keep.refl
        exact ⟨sr, ys, rfl, hy, q _ _ e (by rw [if_pos rfl]; exact jok_enum k)⟩
  | [], q => exact q.elim
  | _ :: _ :: _, q => exact q.elim
theorem di_enumR (hm : ∀ i, (F.X i).mg "enumerate" = none) (ha : DnAR F τ [e1] gs fl) (hg : ∀ i, Gl (F.X i) "enumerate" := by intro _; rfl) (hs : ∀ i, starEach [e1] (F.X i).env = [(false, eval e1 (F.X i).env)] := by intro _; rfl) :
    DnI F τ (.Tuple elts kk tpos) (.Call (.Name "enumerate" p) [e1] [] pos) (iEnum gs) false := by
  obtain ⟨t, h1, h2⟩ := ha
  refine ⟨iEnumS F.K t, fun i => by have q := pi_enumS (elts := elts) (kk := kk) (tpos := tpos) (p := p) (pos := pos) (hg i) (hm i) (h1 i) (hs i); rw [F.hK i] at q; exact q, fun H0 B ρ σ H R s p => ?_⟩
  refine h2 H0 B ρ σ H _ s (p.bind.to (Same.refl _) fun ds _ q vs H1 e r => ?_)
  have hO : ∀ p, OwnX τ B ρ σ p → ∃ o, H1 p = some o ∧ MutO o := fun p z => (s.more e).ownMut z
  match ds, q with
  | [d], q =>
    have q : Post F σ H _ (ofO ((itemsD d).map (enumFrom 0))) := q
    cases hd : itemsD d with
    | none => rw [hd] at q; exact q.elim
    | some xs =>
      rw [hd] at q
      cases r with
      | cons r1 r2 =>
        cases r2
        obtain ⟨sr, rfl, k⟩ := src_rv hO (r1.mono (Same.refl _) (av_own s)) hd
        obtain ⟨ys, hy, _⟩ := k H1 (Same.refl _)
        exact ⟨sr, ys, rfl, hy, q _ _ e (by rw [if_neg Bool.false_ne_true]; exact jok_enum k)⟩
  | [], q => exact q.elim
  | _ :: _ :: _, q => exact q.elim
theorem zipD2_of {a b : D} {xs : List D} (h : zipD [a, b] = some xs) : ∃ as bs, itemsD a = some as ∧ itemsD b = some bs ∧ xs = zip2D as bs := by
  unfold zipD at h
  obtain ⟨as, h1, h⟩ := Option.bind_eq_some_iff.mp h
  obtain ⟨bs, h2, h⟩ := Option.map_eq_some_iff.mp h
  exact ⟨as, bs, h1, h2, h.symm⟩
theorem zipD3_of {a b c : D} {xs : List D} (h : zipD [a, b, c] = some xs) : ∃ as bs cs, itemsD a = some as ∧ itemsD b = some bs ∧ itemsD c = some cs ∧ xs = zip3D as bs cs := by
  unfold zipD at h
  obtain ⟨as, h1, h⟩ := Option.bind_eq_some_iff.mp h
  obtain ⟨bs, h2, h⟩ := Option.bind_eq_some_iff.mp h
  obtain ⟨cs, h3, h⟩ := Option.map_eq_some_iff.mp h
  exact ⟨as, bs, cs, h1, h2, h3, h.symm⟩
theorem di_zip2 (hm : ∀ i, (F.X i).mg "zip" = none) (ha : DnA F τ [e1, e2] gs fl) (hl : ∀ ρ ds, gs ρ = .ok ds → ds.length = 2) (hg : ∀ i, Gl (F.X i) "zip" := by intro _; rfl)
    (hs : ∀ i, starEach [e1, e2] (F.X i).env = (false, eval e1 (F.X i).env) :: starEach [e2] (F.X i).env := by intro _; rfl) (hpl : ∀ i, (backTo pos (starEach [e2] (F.X i).env)).any (·.1) = false := by intro _; rfl) :
    DnI F τ (.Tuple elts kk tpos) (.Call (.Name "zip" p) [e1, e2] [] pos) (iZip gs) true := by
  obtain ⟨t, h1, h2⟩ := ha
  refine ⟨iZipS2 F.K t, fun i => by have q := pi_zipS2 (elts := elts) (kk := kk) (tpos := tpos) (p := p) (pos := pos) (hg i) (hm i) (h1 i) (hs i) (hpl i); rw [F.hK i] at q; exact q, fun H0 B ρ σ H R s p => ?_⟩
  refine h2 H0 B ρ σ H _ s (p.bind.to (Same.refl _) fun ds hds q vs H1 e r => ?_)
  have hO : ∀ p, OwnX τ B ρ σ p → ∃ o, H1 p = some o ∧ MutO o := fun p z => (s.more e).ownMut z
  cases hz : zipD ds with
  | none => rw [hz] at q; exact q.elim
  | some xs =>
    rw [hz] at q
    have hlen := hl _ _ hds
    match ds, hlen with
    | [a, b], _ =>
      obtain ⟨as, bs, ha, hb, rfl⟩ := zipD2_of hz
      cases r with
      | cons r1 r =>
        cases r with
        | cons r2 r =>
          cases r
          obtain ⟨s1, rfl, k1⟩ := src_dq hO (Dq.mono (Same.refl _) r1 (av_own s)) ha
          obtain ⟨s2, rfl, k2⟩ := src_dq hO (Dq.mono (Same.refl _) r2 (av_own s)) hb
          obtain ⟨y1, hy1, _⟩ := k1 H1 Keep.refl
          obtain ⟨y2, hy2, _⟩ := k2 H1 Keep.refl
          exact ⟨s1, s2, y1, y2, rfl, hy1, hy2, q _ _ e (by rw [if_pos rfl]; exact jok_zip2 k1 k2)⟩
theorem di_zip2R (hm : ∀ i, (F.X i).mg "zip" = none) (ha : DnAR F τ [e1, e2] gs fl) (hl : ∀ ρ ds, gs ρ = .ok ds → ds.length = 2) (hg : ∀ i, Gl (F.X i) "zip" := by intro _; rfl)
    (hs : ∀ i, starEach [e1, e2] (F.X i).env = (false, eval e1 (F.X i).env) :: starEach [e2] (F.X i).env := by intro _; rfl) (hpl : ∀ i, (backTo pos (starEach [e2] (F.X i).env)).any (·.1) = false := by intro _; rfl) :
    DnI F τ (.Tuple elts kk tpos) (.Call (.Name "zip" p) [e1, e2] [] pos) (iZip gs) false := by
  obtain ⟨t, h1, h2⟩ := ha
  refine ⟨iZipS2 F.K t, fun i => by have q := pi_zipS2 (elts := elts) (kk := kk) (tpos := tpos) (p := p) (pos := pos) (hg i) (hm i) (h1 i) (hs i) (hpl i); rw [F.hK i] at q; exact q, fun H0 B ρ σ H R s p => ?_⟩
  refine h2 H0 B ρ σ H _ s (p.bind.to (Same.refl _) fun ds hds q vs H1 e r => ?_)
  have hO : ∀ p, OwnX τ B ρ σ p → ∃ o, H1 p = some o ∧ MutO o := fun p z => (s.more e).ownMut z
  cases hz : zipD ds with
  | none => rw [hz] at q; exact q.elim
  | some xs =>
    rw [hz] at q
    have hlen := hl _ _ hds
    match ds, hlen with
    | [a, b], _ =>
      obtain ⟨as, bs, ha, hb, rfl⟩ := zipD2_of hz
      cases r with
      | cons r1 r =>
        cases r with
        | cons r2 r =>
          cases r
          obtain ⟨s1, rfl, k1⟩ := src_rv hO (r1.mono (Same.refl _) (av_own s)) ha
          obtain ⟨s2, rfl, k2⟩ := src_rv hO (r2.mono (Same.refl _) (av_own s)) hb
          obtain ⟨y1, hy1, _⟩ := k1 H1 (Same.refl _)
          obtain ⟨y2, hy2, _⟩ := k2 H1 (Same.refl _)
          exact ⟨s1, s2, y1, y2, rfl, hy1, hy2, q _ _ e (by rw [if_neg Bool.false_ne_true]; exact jok_zip2 k1 k2)⟩
theorem di_zip3 (hm : ∀ i, (F.X i).mg "zip" = none) (ha : DnA F τ [e1, e2, e3] gs fl) (hl : ∀ ρ ds, gs ρ = .ok ds → ds.length = 3) (hg : ∀ i, Gl (F.X i) "zip" := by intro _; rfl)
    (hs : ∀ i, starEach [e1, e2, e3] (F.X i).env = (false, eval e1 (F.X i).env) :: starEach [e2, e3] (F.X i).env := by intro _; rfl) (hpl : ∀ i, (backTo pos (starEach [e2, e3] (F.X i).env)).any (·.1) = false := by intro _; rfl) :
    DnI F τ (.Tuple elts kk tpos) (.Call (.Name "zip" p) [e1, e2, e3] [] pos) (iZip gs) true := by
  obtain ⟨t, h1, h2⟩ := ha
  refine ⟨iZipS3 F.K t, fun i => by have q := pi_zipS3 (elts := elts) (kk := kk) (tpos := tpos) (p := p) (pos := pos) (hg i) (hm i) (h1 i) (hs i) (hpl i); rw [F.hK i] at q; exact q, fun H0 B ρ σ H R s p => ?_⟩
  refine h2 H0 B ρ σ H _ s (p.bind.to (Same.refl _) fun ds hds q vs H1 e r => ?_)
  have hO : ∀ p, OwnX τ B ρ σ p → ∃ o, H1 p = some o ∧ MutO o := fun p z => (s.more e).ownMut z
  cases hz : zipD ds with
  | none => rw [hz] at q; exact q.elim
  | some xs =>
    rw [hz] at q
    have hlen := hl _ _ hds
    match ds, hlen with
    | [a, b, c], _ =>
      obtain ⟨as, bs, cs, ha, hb, hc, rfl⟩ := zipD3_of hz
      cases r with
      | cons r1 r =>
        cases r with
        | cons r2 r =>
          cases r with
          | cons r3 r =>
            cases r
            obtain ⟨s1, rfl, k1⟩ := src_dq hO (Dq.mono (Same.refl _) r1 (av_own s)) ha
            obtain ⟨s2, rfl, k2⟩ := src_dq hO (Dq.mono (Same.refl _) r2 (av_own s)) hb
            obtain ⟨s3, rfl, k3⟩ := src_dq hO (Dq.mono (Same.refl _) r3 (av_own s)) hc
            obtain ⟨y1, hy1, _⟩ := k1 H1 Keep.refl
            obtain ⟨y2, hy2, _⟩ := k2 H1 Keep.refl
            obtain ⟨y3, hy3, _⟩ := k3 H1 Keep.refl
            exact ⟨s1, s2, s3, y1, y2, y3, rfl, hy1, hy2, hy3, q _ _ e (by rw [if_pos rfl]; exact jok_zip3 k1 k2 k3)⟩
/-- how many arguments -/
theorem aNil_len : ∀ ρ ds, aNil ρ = .ok ds → ds.length = 0 := fun ρ ds h => by cases h; rfl
theorem aCons_len {f : Rho → Res D} {g : Rho → Res (List D)} {n : Nat} (h : ∀ ρ ds, g ρ = .ok ds → ds.length = n) : ∀ ρ ds, aCons f g ρ = .ok ds → ds.length = n + 1 := fun ρ ds e => by
  unfold aCons at e
  obtain ⟨a, _, e⟩ := Res.bind_ok e
  obtain ⟨b, hb, e⟩ := Res.bind_ok e
  cases e
  rw [List.length_cons, h ρ b hb]
end
end Dn
set_option Elab.async false
set_option linter.all false
set_option maxRecDepth 100000
namespace Dn
open PySem L2
/-! ### what the printed texts use -/
theorem kd_take {τ κ : List Kd} (h : τ.take κ.length = κ) : ∀ (i : Nat) (k : Kd), κ[i]? = some k → kd τ i = k := by
  intro i k e
  have hi : i < κ.length := (List.getElem?_eq_some_iff.mp e).1
  rw [← h, List.getElem?_take, if_pos hi] at e
  unfold kd
  rw [e]
  rfl
section
variable {F : Fam} {τ : List Kd} {e : Expr} {es : List Expr} {f : Rho → Res D} {gs : Rho → Res (List D)} {fl : Fl} {pos p : Pos} {x : Str} {k : Nat} {fa' : Addr} {fd : FuncData} {ps : List Str} {fn : List D → Res D}
theorem dn_callZ (n : Nat) (G : ∀ i, FnOk (F.X i).prog (F.X i).w (F.X i).K (F.X i).mg (F.X i).base (L2.CX (F.X i).prog (F.X i).w) k fa' fd ps (spD F.K F.Xc (allSh n) false fn)) (hm : ∀ i, (F.X i).mg x = some (.ref fa')) (hk : PySem.W.keepIn F.K (.ref fa') = true) (hb : Binds F.K fd ps [])
    (ha : DnA F τ (e :: es) gs fl) (hr : k ≤ F.k := by exact Nat.le_of_ble_eq_true rfl) (hg : ∀ i, Gl (F.X i) x := by intro _; rfl) (hdb : (x == ("__debug__" : Str)) = false := by decide)
    (he : ∀ i, starEach (e :: es) (F.X i).env = (false, eval e (F.X i).env) :: starEach es (F.X i).env := by intro _; rfl) (hpl : ∀ i, (backTo pos (starEach es (F.X i).env)).any (·.1) = false := by intro _; rfl) (hot0 : F.hot = false := by rfl) :
    DnE F τ (.Call (.Name x p) (e :: es) [] pos) (eCall n fn gs) .z := dn_call n G hm hk hb ha hr hg hdb he hpl hot0
theorem dn_callS (n : Nat) (G : ∀ i, FnOk (F.X i).prog (F.X i).w (F.X i).K (F.X i).mg (F.X i).base (L2.CX (F.X i).prog (F.X i).w) k fa' fd ps (spD F.K F.Xc (allSh n) true fn)) (hm : ∀ i, (F.X i).mg x = some (.ref fa')) (hk : PySem.W.keepIn F.K (.ref fa') = true) (hb : Binds F.K fd ps [])
    (ha : DnA F τ (e :: es) gs fl) (hr : k ≤ F.k := by exact Nat.le_of_ble_eq_true rfl) (hg : ∀ i, Gl (F.X i) x := by intro _; rfl) (hdb : (x == ("__debug__" : Str)) = false := by decide)
    (he : ∀ i, starEach (e :: es) (F.X i).env = (false, eval e (F.X i).env) :: starEach es (F.X i).env := by intro _; rfl) (hpl : ∀ i, (backTo pos (starEach es (F.X i).env)).any (·.1) = false := by intro _; rfl) (hot0 : F.hot = false := by rfl) :
    DnE F τ (.Call (.Name x p) (e :: es) [] pos) (eCall n fn gs) .s := dn_call n G hm hk hb ha hr hg hdb he hpl hot0
/-! a list of unchangeable parts, to be read: new parts come of it alone -/
def gA (d : D) : Bool := imm d || match d with
  | .list ds => immL ds
  | _ => false
def eGA (f : Rho → Res D) : Rho → Res D := fun ρ => (f ρ).bind fun d => if gA d = true then .ok d else .bad
theorem Rv.gA {K : PySem.W.Frag} {H : Hp} {A A' : Av} {v : V} {d : D} (h : Dn.gA d = true) (r : Rv K H A v d) : Rv K H A' v d := by
  unfold Dn.gA at h
  rcases Bool.or_eq_true_iff.mp h with h | h
  · rcases r with r | ⟨p, _, c⟩
    · exact .inl (r.imm_any h)
    · rcases c with ⟨vs, ds, e, _⟩ | ⟨vs, ds, e, _⟩ | ⟨vs, ds, e, _⟩ <;> (subst e; simp [imm] at h)
  · cases d with
    | list ds =>
      obtain ⟨a, xs, rfl, h1, h2⟩ := r.lst
      exact .inr ⟨a, rfl, .inl ⟨xs, ds, rfl, h1, h2.imm_any h⟩⟩
    | _ => cases h
theorem DnR.gA (h : DnR F τ e f fl) : DnR F τ e (eGA f) .s := by
  obtain ⟨t, h1, h2⟩ := h
  refine ⟨t, h1, fun H0 B ρ σ H Q s p => h2 H0 B ρ σ H Q s ?_⟩
  refine p.bind.to (Same.refl _) fun d _ q v H1 e r => ?_
  by_cases hd : Dn.gA d = true
  · rw [if_pos hd] at q
    exact q v H1 e (r.gA hd)
  · rw [if_neg hd] at q; exact q.elim
end
/-! ### the end -/
/-- the law's promise: True of each script -/
def spTrue (K : PySem.W.Frag) : Sp := fun vs H Q _ => ∃ (ns : List Int) (a : Addr), ns.length ≤ 63 ∧ (∀ z ∈ ns, Builtin.Int.intBits z ≤ 1048576) ∧ vs = [.ref a] ∧ ScrL K H (fun _ => False) a (ns.map V.int) ∧ ∀ H', Same H H' → Q (.bl true) H'
theorem dql_ints {K : PySem.W.Frag} {H : Hp} {O : Av} : ∀ ns : List Int, DqL K H O (ns.map V.int) (ns.map PyData.int)
  | [] => .nil
  | _ :: ns => .cons (.int _) (dql_ints ns)
theorem spTrue_of {K : PySem.W.Frag} {Xc : Nat → Addr} {f : List D → Res D} (law_true : ∀ ns : List Int, ns.length ≤ 63 → (∀ z ∈ ns, Builtin.Int.intBits z ≤ 1048576) → f [.list (ns.map .int)] = .ok (.bool true)) {vs : List V} {H : Hp} {Q : VK} {E : XK} (h : spTrue K vs H Q E) : spD K Xc [.scr] false f vs H Q E := by
  obtain ⟨ns, a, hl, hb, rfl, hs, q⟩ := h
  refine ⟨[.list (ns.map .int)], fun _ => False, fun _ z => z.elim, .cons ⟨a, _, _, rfl, rfl, hs, dql_ints ns⟩ .nil, ?_⟩
  rw [law_true ns hl hb]
  intro v H' e r
  cases r
  exact q H' e
theorem spTrue_at {K : PySem.W.Frag} {H : Hp} {a : Addr} {ns : List Int} (hl : ns.length ≤ 63) (hb : ∀ z ∈ ns, Builtin.Int.intBits z ≤ 1048576) (hO : Only H) (hS : SqL K H a (ns.map V.int)) : spTrue K [.ref a] H (fun v _ => v = .bl true) fun _ _ _ => False := by
  refine ⟨ns, a, hl, hb, rfl, ?_, fun _ _ => rfl⟩
  rcases hS with (h | h) | h
  · exact .inr (.inr ⟨id, h⟩)
  · exact .inl h
  · exact .inr (.inl h)
end Dn
set_option Elab.async false
set_option linter.all false
set_option maxRecDepth 100000
/-! len(set(t)), t a tuple of ints -/
namespace Dn
open PySem PySem.Spec PyProof.Rows L2
/-- each once -/
def dist : List Int → List Int
  | [] => []
  | a :: l => if l.contains a = true then dist l else a :: dist l
theorem mem_dist {k : Int} : ∀ {l : List Int}, k ∈ dist l ↔ k ∈ l
  | [] => Iff.rfl
  | a :: l => by
    unfold dist
    by_cases h : l.contains a = true
    · rw [if_pos h, mem_dist, List.mem_cons]
      exact ⟨.inr, fun z => z.elim (fun e => by subst e; exact List.contains_iff_mem.mp h) id⟩
    · rw [if_neg h, List.mem_cons, List.mem_cons, mem_dist]
theorem nodup_dist : ∀ l : List Int, (dist l).Nodup
  | [] => .nil
  | a :: l => by
    unfold dist
    by_cases h : l.contains a = true
    · rw [if_pos h]; exact nodup_dist l
    · rw [if_neg h]
      exact List.nodup_cons.mpr ⟨fun z => h (List.contains_iff_mem.mpr (mem_dist.mp z)), nodup_dist l⟩
theorem nodup_len : ∀ {l m : List Int}, l.Nodup → m.Nodup → (∀ k, k ∈ l ↔ k ∈ m) → l.length = m.length
  | [], m, _, _, h => by
    cases m with
    | nil => rfl
    | cons a m => exact absurd ((h a).mpr (List.mem_cons_self ..)) (by simp)
  | a :: l, m, hl, hm, h => by
    obtain ⟨h1, h2⟩ := List.nodup_cons.mp hl
    have ha : a ∈ m := (h a).mp (List.mem_cons_self ..)
    have e := nodup_len (m := m.erase a) h2 (hm.erase a) fun k => by
      rw [hm.mem_erase_iff, ← h k, List.mem_cons]
      exact ⟨fun z => ⟨fun e => h1 (e ▸ z), .inr z⟩, fun z => z.2.elim (fun e => absurd e z.1) id⟩
    rw [List.length_cons, e, List.length_erase_of_mem ha]
    have := List.length_pos_of_mem ha
    omega
def tLenSetT (K : PySem.W.Frag) (ta : TE) : TE := fun σ H Q => ta σ H fun x H1 => ∃ (l : Addr) (ns : List Int), x = .ref l ∧ SqT K H1 l (ns.map V.int) ∧ ns.length ≤ 4000 ∧ Q (.int ((dist ns).length : Nat)) H1
theorem pe_lenSetT {X : Cx} {a : Expr} {ta : TE} {p p2 q pos : Pos} (hg : Gl X "len") (hm : X.mg "len" = none) (hg2 : Gl X "set") (hm2 : X.mg "set" = none) (ha : PE X a ta) (hc : X.calm = true)
    (na : starEach [a] X.env = (false, eval a X.env) :: starEach [] X.env := by rfl) : PE X (.Call (.Name "len" p) [.Call (.Name "set" p2) [a] [] q] [] pos) (tLenSetT X.K ta) := by
  refine ⟨fun pins s σ H Q I h => ?_⟩
  refine Call_ (ld_blt I hg hm boot_len ?_)
  refine PyProof.Rows.callWith_builtin1 (PyProof.Rows.args_cons ?_ rfl) rfl rfl
  refine Call_ (ld_blt I hg2 hm2 boot_set ?_)
  refine PyProof.Rows.callWith_type1 (PyProof.Rows.args_cons (thn (ha.run pins s σ H _ I h) fun v s1 ⟨x, H1, I1, r1, q1⟩ => PyProof.Rows.args_nil ?_) na) na rfl
  obtain ⟨l, ns, rfl, hq, hl, q1⟩ := q1
  cases r1
  obtain ⟨its, r, pl, hz⟩ := I1.tuple hq
  have hi : IntsAre its.toArray.toList ns := ints_of_vals r
  refine call_set_tupI ns (I1.ok.hd hc) (show s1.heap.IsTuple l its.toArray from pl) hi (by unfold scanBound; omega) fun h' tk c hS hcn hk => ?_
  refine PyProof.Rows.args_nil ?_
  obtain ⟨o, es, ep, t, ho, hex, hd, g, nd, hm2, hb, hf, hn, _⟩ := hS
  have I2 : Inv X pins σ H1 { s1 with heap := h', toks := tk } := I1.kept fun b o e => hk b o e
  have hlen : es.size = (dist ns).length := by
    have := nodup_len nd (nodup_dist ns) fun k => by rw [← hm2 k, decide_eq_true_eq, mem_dist]
    rw [← this, List.length_map, Array.length_toList]
  exact call_len_set ho hex hd hf (by rw [hn] <;> omega) ⟨.int (dist ns).length, H1, I2.tok _, ⟨_, by rw [hlen]⟩, q1⟩
def intsT : List D → Option (List Int)
  | [] => some []
  | .int i :: ds => (intsT ds).map (i :: ·)
  | _ :: _ => none
theorem intsT_some : ∀ {ds : List D} {ns : List Int}, intsT ds = some ns → ds = ns.map .int
  | [], ns, h => by cases h; rfl
  | .int i :: ds, ns, h => by
    unfold intsT at h
    cases e : intsT ds with
    | none => rw [e] at h; cases h
    | some ms => rw [e] at h; cases h; rw [intsT_some e]; rfl
  | .none :: _, _, h => by cases h
  | .bool _ :: _, _, h => by cases h
  | .str _ :: _, _, h => by cases h
  | .list _ :: _, _, h => by cases h
  | .tuple _ :: _, _, h => by cases h
  | .dict _ :: _, _, h => by cases h
theorem dq_intsT {K : PySem.W.Frag} {H : Hp} : ∀ {ns : List Int} {O : Av} {xs : List V}, DqL K H O xs (ns.map .int) → xs = ns.map .int
  | [], _, _, h => by cases h; rfl
  | n :: ns, O, xs, h => by
    cases h with
    | cons h1 h2 => cases h1; rw [dq_intsT h2]; rfl
def lenSetD : D → Option D
  | .tuple ds => (intsT ds).bind fun ns => if ns.length ≤ 4000 then some (.int ((dist ns).length : Nat)) else none
  | _ => none
theorem dn_lenSet {F : Fam} {τ : List Kd} {a : Expr} {f : Rho → Res D} {fl : Fl} {p p2 q pos : Pos} (hm : ∀ i, (F.X i).mg "len" = none) (hm2 : ∀ i, (F.X i).mg "set" = none) (h : DnR F τ a f fl) (hg : ∀ i, Gl (F.X i) "len" := by intro _; rfl) (hg2 : ∀ i, Gl (F.X i) "set" := by intro _; rfl)
    (na : ∀ i, starEach [a] (F.X i).env = (false, eval a (F.X i).env) :: starEach [] (F.X i).env := by intro _; rfl) (hot0 : F.hot = false := by rfl) : DnE F τ (.Call (.Name "len" p) [.Call (.Name "set" p2) [a] [] q] [] pos) (eUn lenSetD f) .s := by
  obtain ⟨t, h1, h2⟩ := h
  refine ⟨tLenSetT F.K t, fun i => by have z := pe_lenSetT (p := p) (p2 := p2) (q := q) (pos := pos) (hg i) (hm i) (hg2 i) (hm2 i) (h1 i) (F.calm hot0 i) (na i); rw [F.hK i] at z; exact z, fun H0 B ρ σ H Q s p => ?_⟩
  refine h2 H0 B ρ σ H _ s (p.bind.to (Same.refl _) fun d _ p1 v H1 e1 r1 => ?_)
  cases d with
  | tuple ds =>
    obtain ⟨l, xs, rfl, g1, g2⟩ := r1.tuple
    cases hl : lenSetD (.tuple ds) with
    | none => rw [hl] at p1; exact p1.elim
    | some d2 =>
      rw [hl] at p1
      have hl2 : ((intsT ds).bind fun ns => if ns.length ≤ 4000 then some (PyData.int ((dist ns).length : Nat)) else none) = some d2 := hl
      cases hi : intsT ds with
      | none => rw [hi] at hl2; cases hl2
      | some ns =>
        rw [hi, Option.bind_some] at hl2
        have e := intsT_some hi
        subst e
        have e2 := dq_intsT g2
        subst e2
        by_cases hn : ns.length ≤ 4000
        · rw [if_pos hn] at hl2
          cases hl2
          exact ⟨l, ns, rfl, g1, hn, p1 _ H1 e1 (.int _)⟩
        · rw [if_neg hn] at hl2; cases hl2
  | _ => exact p1.elim
end Dn
set_option Elab.async false
set_option linter.all false
set_option maxRecDepth 100000
/-! range(a, b, c) -/
namespace Dn
open PySem L2
def rangeCD (lo c : Int) (n : Nat) : List D := (List.range n).map fun (i : Nat) => PyData.int (lo + (i : Nat) * c)
def range3D : List D → Option (List D)
  | [.int i, .int j, .int c] => if c ≠ 0 ∧ c.natAbs < 1073741824 ∧ Builtin.Range.small i j c = true ∧ 0 ≤ Builtin.Range.rangeSize i j c then some (rangeCD i c (Builtin.Range.rangeSize i j c).toNat) else none
  | _ => none
theorem range3D_of {ds xs : List D} (h : range3D ds = some xs) : ∃ i j c n, ds = [.int i, .int j, .int c] ∧ RgC i j c n ∧ xs = rangeCD i c n := by
  unfold range3D at h
  split at h
  · split at h
    · rename_i hj; cases h; exact ⟨_, _, _, _, rfl, ⟨hj.1, hj.2.1, hj.2.2.1, (Int.toNat_of_nonneg hj.2.2.2).symm⟩, rfl⟩
    · cases h
  · cases h
def iRange3 (gs : Rho → Res (List D)) : Rho → Res (List D) := fun ρ => (gs ρ).bind fun ds => ofO (range3D ds)
theorem jok_rangeC {K : PySem.W.Frag} {P : Hp → Prop} {O : Av} {H1 : Hp} (lo c : Int) (n : Nat) : JOk K (Itc lo c n) P O H1 (rangeCD lo c n) := by
  intro H' _
  have hlen : (rangeCD lo c n).length = n := by unfold rangeCD; rw [List.length_map, List.length_range]
  refine ⟨fun i d e => ?_, by rw [hlen]; exact Nat.le_refl _⟩
  have hi : i < n := by rw [← hlen]; exact (List.getElem?_eq_some_iff.mp e).1
  unfold rangeCD at e
  rw [List.getElem?_map, List.getElem?_range hi] at e
  cases e
  refine ⟨hi, ?_⟩
  rintro x H'' ⟨rfl, rfl⟩
  exact ⟨Same.refl _, fun O' _ => .int _⟩
section
variable {F : Fam} {τ : List Kd} {tg a b c : Expr} {fl : Fl} {pos p : Pos}
theorem di_range3 {gs : Rho → Res (List D)} (hm : ∀ i, (F.X i).mg "range" = none) (ha : DnA F τ [a, b, c] gs fl) (hg : ∀ i, Gl (F.X i) "range" := by intro _; rfl)
    (hs : ∀ i, starEach [a, b, c] (F.X i).env = (false, eval a (F.X i).env) :: starEach [b, c] (F.X i).env := by intro _; rfl) (hpl : ∀ i, (backTo pos (starEach [b, c] (F.X i).env)).any (·.1) = false := by intro _; rfl) :
    DnI F τ tg (.Call (.Name "range" p) [a, b, c] [] pos) (iRange3 gs) true := by
  obtain ⟨t, h1, h2⟩ := ha
  refine ⟨iRng3 t, fun i => pi_range3 (hg i) (hm i) (h1 i) (hs i) (hpl i), fun H0 B ρ σ H R s p => ?_⟩
  refine h2 H0 B ρ σ H _ s (p.bind.to (Same.refl _) fun ds _ q vs H1 e r => ?_)
  cases hr : range3D ds with
  | none => rw [hr] at q; exact q.elim
  | some xs =>
    rw [hr] at q
    obtain ⟨i, j, k, n, rfl, h3, rfl⟩ := range3D_of hr
    cases r with
    | cons r1 r2 =>
      cases r1
      cases r2 with
      | cons r3 r4 =>
        cases r3
        cases r4 with
        | cons r5 r6 => cases r5; cases r6; exact ⟨i, j, k, n, rfl, h3, q _ _ e (jok_rangeC i k n)⟩
end
end Dn
set_option Elab.async false
set_option linter.all false
set_option maxRecDepth 100000
/-! tuple(range(a, b, c)) -/
namespace Dn
open PySem L2
def rgCV (a c : Int) (n : Nat) : List V := (List.range n).map fun i => V.int (a + (i : Nat) * c)
theorem rgCV_length (a c : Int) (n : Nat) : (rgCV a c n).length = n := by unfold rgCV; rw [List.length_map, List.length_range]
theorem vals_rgC {a c : Int} {n : Nat} {acc : Array Value} (h : ItemsOf (fun i v => ∃ t, v = .int (a + i * c) t) acc n) : Vals (rgCV a c n) acc.toList := by
  have e : acc.toList.length = n := by rw [Array.length_toList]; exact h.1
  unfold rgCV
  rw [← e]
  refine vals_of_get acc.toList _ fun j u hj => ?_
  obtain ⟨t, rfl⟩ := h.2 j u (by rw [← hj, Array.getElem?_toList])
  exact ⟨t, rfl⟩
def tTupRg3 (ta : TA) : TE := fun σ H Q => ta σ H fun vs H1 => ∃ (i j c : Int) (n : Nat), vs = [.int i, .int j, .int c] ∧ RgC i j c n ∧ n ≤ 2 ^ 24 ∧ ∀ q (o : Obj), H1 q = none → o.dict = none → Q (.ref q) (upd H1 q (.frz o (.tup (rgCV i c n))))
section
variable {X : Cx} {a b c : Expr} {ta : TA} {p pos p' pos' : Pos}
open PySem.Spec PyProof.Rows in
theorem pe_tupRg3 (hc : X.calm = true) (hg : Gl X "tuple") (hm : X.mg "tuple" = none) (hgr : Gl X "range") (hmr : X.mg "range" = none) (ha : PA X [a, b, c] ta)
    (hs : starEach [a, b, c] X.env = (false, eval a X.env) :: starEach [b, c] X.env) (hpl : (backTo pos' (starEach [b, c] X.env)).any (·.1) = false)
    (na : starEach [.Call (.Name "range" p') [a, b, c] [] pos'] X.env = (false, eval (.Call (.Name "range" p') [a, b, c] [] pos') X.env) :: starEach [] X.env) : PE X (.Call (.Name "tuple" p) [.Call (.Name "range" p') [a, b, c] [] pos'] [] pos) (tTupRg3 ta) := by
  refine ⟨fun pins s σ H Q I h => ?_⟩
  refine Call_ (ld_blt I hg hm boot_tuple (PyProof.Rows.callWith_type1 (args_cons (thn (Q := fun x s' => ∃ (r : Addr) (i j k : Int) (t u v : Tok) (n : Nat) (H' : Hp), x = .ref r ∧ IsRange s'.heap r i j k t u v ∧ RgC i j k n ∧ n ≤ 2 ^ 24 ∧ Inv X pins σ H' s' ∧ ∀ q (o : Obj), H' q = none → o.dict = none → Q (.ref q) (upd H' q (.frz o (.tup (rgCV i k n))))) ?_ fun x s1 ⟨r, i, j, k, t, u, v, n, H1, ex, hr, hk, hn, I1, q⟩ => args_nil ?_) na) na))
  · refine Call_ (ld_blt I hgr hmr boot_range (PyProof.Rows.callWith_type1 (thn (ha.run pos' pins s σ H _ I h) fun us s1 ⟨vs, H1, I1, r1, q1⟩ => ?_) hs hpl))
    obtain ⟨i, j, k, n, e, ⟨c0, c1, c2, c3⟩, hn, q⟩ := q1
    subst e
    cases r1 with
    | cons r rr =>
      cases rr with
      | cons r' rr =>
        cases rr with
        | cons r'' rr =>
          cases rr
          obtain ⟨t, rfl⟩ := r
          obtain ⟨t', rfl⟩ := r'
          obtain ⟨t'', rfl⟩ := r''
          refine call_range_3 c0 ?_ (.inl (PyProof.noPylong_small c1))
          exact ⟨_, i, j, k, t, t', t'', n, H1, rfl, IsRange.new .., ⟨c0, c1, c2, c3⟩, hn, I1.kept (t' := s1.toks) fun b o e => Heap.get?_push_of_some _ e, q⟩
  · subst ex
    obtain ⟨c0, c1, c2, c3⟩ := hk
    refine call_tuple_range (n := n) (I1.ok.hd hc) hr c2 c3 hn fun h' tk acc hk hi => ?_
    have I2 : Inv X pins σ H1 { s1 with heap := h', toks := tk } := I1.kept hk
    have z := laid_tup I2 (xs := rgCV i k n) (us := acc.toList) (by rw [rgCV_length, sizeLine_eq]; omega) (vals_rgC hi)
    rw [Array.toArray_toList] at z
    exact ⟨.ref h'.objs.size, _, z, rfl, q _ _ (I2.hok.fresh (Nat.le_refl _)) rfl⟩
end
theorem rgC_dq {K : PySem.W.Frag} {H : Hp} {A : Av} (a c : Int) (n : Nat) : DqL K H A (rgCV a c n) (rangeCD a c n) := by
  unfold rgCV rangeCD
  generalize List.range n = l
  induction l with
  | nil => exact .nil
  | cons x r ih => exact .cons (.int _) ih
def eTupRg3 (gs : Rho → Res (List D)) : Rho → Res D := fun ρ => (gs ρ).bind fun ds => (ofO (range3D ds)).bind fun xs => if xs.length ≤ 2 ^ 24 then .ok (.tuple xs) else .bad
section
variable {F : Fam} {τ : List Kd} {a b c : Expr} {fl : Fl} {pos p pos' p' : Pos}
theorem dn_tupRg3 {gs : Rho → Res (List D)} (hmt : ∀ i, (F.X i).mg "tuple" = none) (hm : ∀ i, (F.X i).mg "range" = none) (ha : DnA F τ [a, b, c] gs fl) (hgt : ∀ i, Gl (F.X i) "tuple" := by intro _; rfl) (hg : ∀ i, Gl (F.X i) "range" := by intro _; rfl)
    (hs : ∀ i, starEach [a, b, c] (F.X i).env = (false, eval a (F.X i).env) :: starEach [b, c] (F.X i).env := by intro _; rfl) (hpl : ∀ i, (backTo pos' (starEach [b, c] (F.X i).env)).any (·.1) = false := by intro _; rfl)
    (na : ∀ i, starEach [.Call (.Name "range" p') [a, b, c] [] pos'] (F.X i).env = (false, eval (.Call (.Name "range" p') [a, b, c] [] pos') (F.X i).env) :: starEach [] (F.X i).env := by intro _; rfl) (hot0 : F.hot = false := by rfl) :
    DnE F τ (.Call (.Name "tuple" p) [.Call (.Name "range" p') [a, b, c] [] pos'] [] pos) (eTupRg3 gs) .s := by
  obtain ⟨t, h1, h2⟩ := ha
  refine ⟨tTupRg3 t, fun i => pe_tupRg3 (F.calm hot0 i) (hgt i) (hmt i) (hg i) (hm i) (h1 i) (hs i) (hpl i) (na i), fun H0 B ρ σ H R s p => ?_⟩
  refine h2 H0 B ρ σ H _ s (p.bind.to (Same.refl _) fun ds _ q vs H1 e r => ?_)
  cases hr : range3D ds with
  | none => rw [hr] at q; exact q.elim
  | some xs =>
    rw [hr] at q
    obtain ⟨i, j, k, n, rfl, h3, rfl⟩ := range3D_of hr
    have hl : (rangeCD i k n).length = n := by unfold rangeCD; rw [List.length_map, List.length_range]
    by_cases hn : n ≤ 2 ^ 24
    · replace q : Post F _ _ _ (if (rangeCD i k n).length ≤ 2 ^ 24 then Res.ok (PyData.tuple (rangeCD i k n)) else .bad) := q
      rw [if_pos (by rw [hl]; exact hn)] at q
      cases r with
      | cons r1 r2 =>
        cases r1
        cases r2 with
        | cons r3 r4 =>
          cases r3
          cases r4 with
          | cons r5 r6 =>
            cases r5; cases r6
            exact ⟨i, j, k, n, rfl, h3, hn, fun q' o hq ho => q _ _ (e.trans (dom_upd hq)) (new_tup hq ho (rgC_dq i k n))⟩
    · replace q : Post F _ _ _ (if (rangeCD i k n).length ≤ 2 ^ 24 then Res.ok (PyData.tuple (rangeCD i k n)) else .bad) := q
      rw [if_neg (by rw [hl]; exact hn)] at q
      exact q.elim
end
end Dn
set_option Elab.async false
set_option linter.all false
set_option maxRecDepth 100000
/-! count of lists and tuples -/
namespace Dn
open PySem L2
section
variable {X : Cx}
def rCountT (K : PySem.W.Frag) : V → List V → Hp → VK → Prop := fun x xs H Q => ∃ (a : Addr) (y : V) (d : PyData) (ds : List PyData), x = V.ref a ∧ xs = [y] ∧ Dp K H (V.ref a) (.tuple ds) ∧ Dp K H y d ∧
  SeqAt.shaped (.tuple ds) = true ∧ SeqAt.shaped d = true ∧ Q (.int ((ds.countP fun z => PyData.eqv z d : Nat) : Int)) H
open PySem.Spec PyProof.Rows in
theorem mt_countT (hu : X.A.units + 65 < cLine) : MtR X "tuple.count" (rCountT X.K) := by
  intro pins s σ H x xs v us Q I rx rxs h
  obtain ⟨a, y, d, ds, rfl, rfl, hl, hy, sl, sd, q⟩ := h
  cases rx
  cases rxs with
  | cons ry rt =>
    rename_i uy ut
    cases rt
    obtain ⟨bs, r1⟩ := Dp.reads I d y uy hy ry
    have hxs : PyData.canLayAll0 ds = true := SeqAt.canLay_of_shaped sl
    have hroom : X.A.units + 1 + min (PyData.depthAll ds) d.depth < cLine := room_in_shaped sd hu
    cases hl with
    | tup hs ha =>
      obtain ⟨its, rv, ⟨⟨cls, dd, data, sls⟩, ho, hc, n, hdt⟩, hlen⟩ := I.tuple hs
      simp only at hc hdt
      subst hc hdt
      obtain ⟨as, h4⟩ := Dp.readsAll I ds _ its ha rv
      have hmap : its.map (SeqAt.readOf s.heap) = ds := SeqAt.readsAll_map ds its as hxs h4
      refine call_meets PySem.F.slot_tuple_count ⟨_, ho, rfl⟩ PySem.F.entry_tuple_count (PySem.F.args_tuple_count_2 _ _)
        (SeqAt.tuple_countAt a its.toArray n dd sls uy (fun u => PyData.eqv (SeqAt.readOf s.heap u) d)) ⟨ho, SeqAt.items_eqAt (vs := its.toArray) (show ReadsAll s.heap its.toArray.toList ds as from h4) r1 hxs (SeqAt.canLay_of_shaped sd) hroom, ?_⟩
      have ec : its.toArray.toList.countP (fun u => PyData.eqv (SeqAt.readOf s.heap u) d) = ds.countP fun z => PyData.eqv z d := by
        rw [← hmap, List.countP_map]
        rfl
      rw [ec]
      exact ⟨.int _, H, I.tok _, ⟨_, rfl⟩, q⟩
end
def countSD : D → D → Option D
  | .list ds, y => if SeqAt.shaped (.list ds) = true ∧ SeqAt.shaped y = true then some (.int ((ds.countP fun z => PyData.eqv z y : Nat) : Int)) else none
  | .tuple ds, y => if SeqAt.shaped (.tuple ds) = true ∧ SeqAt.shaped y = true then some (.int ((ds.countP fun z => PyData.eqv z y : Nat) : Int)) else none
  | _, _ => none
section
variable {F : Fam} {τ : List Kd} {e a b : Expr} {es : List Expr} {f fa fb : Rho → Res D} {fl la lb : Fl} {pos p apos cpos : Pos} {x : Str}
theorem dn_countS (ha : DnR F τ a fa la) (hb : DnR F τ b fb lb) (hbase : ∀ j, attributeBase a "count" (F.X j).env (eval a (F.X j).env) = eval a (F.X j).env := by intro _; rfl)
    (hfew : ∀ j, ((backTo cpos (starEach [b] (F.X j).env)).all (fun x => !x.1) && (backToKw cpos (keywordEach [] (F.X j).env)).all (fun x => x.1.isSome) && decide ([b].length + ([] : List Keyword).length + (if ([] : List Keyword).isEmpty then 0 else 1) < 30)) = true := by intro _; rfl)
    (hline : (apos.endLine == cpos.line) = true := by rfl) (hs : ∀ j, starEach [b] (F.X j).env = (false, eval b (F.X j).env) :: starEach [] (F.X j).env := by intro _; rfl) :
    DnE F τ (.Call (.Attribute a "count" apos) [b] [] cpos) (eBinK isSeq countSD fa fb) .s := by
  obtain ⟨t, a1, a2⟩ := ha
  obtain ⟨u, b1, b2⟩ := hb
  refine ⟨fun σ H Q => tBM F.K "list" (rCountD F.K) t (tCons u tNil) σ H Q ∨ tTM F.K (rCountT F.K) t (tCons u tNil) σ H Q, fun i => by
    have z := pe_or (pe_bm (X := F.X i) PySem.F.plainAttrs_list PySem.F.slot_list_count PySem.F.type_list_count (mt_countD (by have := units_of i; omega)) (a1 i) (pa_cons (b1 i) pa_nil (hs i)) (hbase i) (hfew i) hline (hs i) rfl)
      (pe_tm (X := F.X i) PySem.F.slot_tuple_count PySem.F.type_tuple_count (mt_countT (by have := units_of i; omega)) (a1 i) (pa_cons (b1 i) pa_nil (hs i)) (hbase i) (hfew i) hline (hs i) rfl)
    rw [F.hK i] at z; exact z, fun H0 B ρ σ H Q s p => ?_⟩
  unfold eBinK at p
  cases hf : fa ρ with
  | bad => rw [hf] at p; exact p.elim
  | exc c => exact .inl (a2 H0 B ρ σ H _ s (by rw [hf] at p ⊢; exact p))
  | ok d =>
    rw [hf] at p
    have p : Post F σ H _ (if isSeq d = true then (fb ρ).bind fun y => ofO (countSD d y) else .bad) := p
    cases d with
    | list ds =>
      refine .inl (a2 H0 B ρ σ H _ s ?_)
      rw [hf]
      intro v H1 e1 r
      obtain ⟨q, xs, rfl, g1, g2⟩ := r.list
      refine ⟨.inl ⟨rfl, xs, g1⟩, ?_⟩
      refine b2 H0 B ρ σ H1 _ (s.more e1) (p.bind.to e1 fun y _ p1 w H2 e2 r2 => ?_)
      simp only [countSD] at p1
      by_cases hsh : SeqAt.shaped (.list ds) = true ∧ SeqAt.shaped y = true
      · rw [if_pos hsh] at p1
        exact ⟨q, w, y, ds, rfl, rfl, (r.mono e2 (A' := av la H0 H (OwnX τ B ρ σ)) fun _ z => z).dp (shaped_lay hsh.1), r2.dp (shaped_lay hsh.2), hsh.1, hsh.2, p1 _ _ (e1.trans e2) (.int _)⟩
      · rw [if_neg hsh] at p1; exact p1.elim
    | tuple ds =>
      refine .inr (a2 H0 B ρ σ H _ s ?_)
      rw [hf]
      intro v H1 e1 r
      obtain ⟨q, xs, rfl, g1, g2⟩ := r.tup
      refine ⟨⟨q, xs, rfl, g1⟩, ?_⟩
      refine b2 H0 B ρ σ H1 _ (s.more e1) (p.bind.to e1 fun y _ p1 w H2 e2 r2 => ?_)
      simp only [countSD] at p1
      by_cases hsh : SeqAt.shaped (.tuple ds) = true ∧ SeqAt.shaped y = true
      · rw [if_pos hsh] at p1
        exact ⟨q, w, y, ds, rfl, rfl, (r.mono e2 (A' := av la H0 H (OwnX τ B ρ σ)) fun _ z => z).dp (shaped_lay hsh.1), r2.dp (shaped_lay hsh.2), hsh.1, hsh.2, p1 _ _ (e1.trans e2) (.int _)⟩
      · rw [if_neg hsh] at p1; exact p1.elim
    | _ => exact p.elim
end
end Dn
set_option Elab.async false
set_option linter.all false
set_option maxRecDepth 100000
set_option maxHeartbeats 4000000
/-! a tuple times a number -/
namespace Dn
open PySem L2
open PySem.Spec PyProof.Rows in
theorem tuple_mul1 (l : Addr) (items : Array Value) (n : Nat) (dd : Option Addr) (sl : Array (Option Value)) (u : Tok) :
    Meets (Builtin.«tuple.__mul__» ⟨[.ref l, .int 1 u], []⟩) (fun _ R s => s.heap.get? l = some { cls := .type "tuple", dict := dd, data := .seq items n, slots := sl } ∧ R (.ok (.ret (Value.ref l))) s) :=
  .of_wp fun prog w A R s h => by
    obtain ⟨hp, g, d, tk, os⟩ := s
    obtain ⟨hl, h⟩ := h
    have f1 := AutoSeq1.idx_int
    have c1 : (items.isEmpty || (1 : Int) == 1) = true := by simp
    wp_walk using wpAny_loadPart' hl
    repeat (first
      | (refine wpAny_ite_true (decide_eq_true c1) ?_; wp_walk using wpAny_loadPart' hl)
      | (refine wpAny_ite_false (decide_eq_false (by decide)) ?_; wp_walk using wpAny_loadPart' hl))
    exact ⟨_, rfl, h⟩
open PySem.Spec PyProof.Rows in
theorem tuple_mul0 (l : Addr) (items : Array Value) (n : Nat) (dd : Option Addr) (sl : Array (Option Value)) (x : Int) (u : Tok) (c0 : (decide (x < -(2 ^ 63)) || decide (x ≥ 2 ^ 63)) = false) (c1 : (items.isEmpty || x == 1) = false) (c2 : (decide (x ≤ 0) || items.isEmpty) = true) :
    Meets (Builtin.«tuple.__mul__» ⟨[.ref l, .int x u], []⟩) (fun _ R s => s.heap.get? l = some { cls := .type "tuple", dict := dd, data := .seq items n, slots := sl } ∧
      R (.ok (.ret (Value.ref s.heap.objs.size))) { s with heap := s.heap.push { cls := Value.type "tuple", data := Data.seq #[] }, toks := s.toks }) :=
  .of_wp fun prog w A R s h => by
    obtain ⟨hp, g, d, tk, os⟩ := s
    obtain ⟨hl, h⟩ := h
    have f1 := AutoSeq1.idx_int
    wp_walk using wpAny_loadPart' hl
    repeat (first
      | (refine wpAny_ite_false (decide_eq_false (by rw [c0]; exact Bool.false_ne_true)) ?_; wp_walk using wpAny_loadPart' hl)
      | (refine wpAny_ite_false (decide_eq_false (by rw [c1]; exact Bool.false_ne_true)) ?_; wp_walk using wpAny_loadPart' hl)
      | (refine wpAny_ite_true (decide_eq_true c2) ?_; wp_walk using wpAny_loadPart' hl))
    exact ⟨_, rfl, h⟩
def rRepF (K : PySem.W.Frag) : R2 := fun x y H Q => ∃ l k xs, x = .ref l ∧ y = .int k ∧ SqT K H l xs ∧ xs ≠ [] ∧ -(2 ^ 62) ≤ k ∧ k ≤ 1000 ∧ xs.length ≤ 1000 ∧ (k = 1 → Q (.ref l) H) ∧ (k ≠ 1 → ∀ p (o : Obj), H p = none → o.dict = none → Q (.ref p) (upd H p (.frz o (.tup (List.replicate k.toNat xs).flatten))))
section
variable {X : Cx}
open PySem.Spec PyProof.Rows in
theorem op_repF : OpR X (binaryOp .Mult) (rRepF X.K) := by
  intro pins s σ H x y v u Q I rx ry h
  obtain ⟨l, k, xs, rfl, rfl, hT, hne, h1, h2, hz, q1, q2⟩ := h
  cases rx
  obtain ⟨t, rfl⟩ := ry
  obtain ⟨its, r, ⟨⟨cls, dd, data, sl⟩, ho, hc, n, hd⟩, hs⟩ := I.tuple hT
  simp only at hc hd
  subst hc hd
  have hle : its.length = xs.length := r.length.symm
  have hn : its ≠ [] := fun e => hne (by
    rw [e] at hle
    exact List.eq_nil_of_length_eq_zero hle.symm)
  have hi : its.toArray.isEmpty = false := by
    cases its with
    | nil => exact absurd rfl hn
    | cons a b => rfl
  have hsz0 : its.toArray.size = xs.length := by rw [List.size_toArray, hle]
  have c0 : (decide (k < -(2 ^ 63)) || decide (k ≥ 2 ^ 63)) = false := by
    rw [decide_eq_false (by omega), decide_eq_false (by omega)] <;> rfl
  by_cases k1 : k = 1
  · subst k1
    refine wpAny_binaryOp_repeat_ref (T := "tuple") (U := "int") (by decide) ⟨_, ho, rfl⟩ (fun s' => typeIs_int s' 1 t) noFill_tuple_mul F.fills_int_mul F.slot_int_rmul repeat_tuple F.slot_int_index.lookup
      (call_meets F.slot_int_rmul (typeIs_int s 1 t) F.entry_int_rmul (F.args_int_rmul_2 _ _) (int_rmul_tuple 1 t l its.toArray n dd sl)
        ⟨ho, rfl, ⟨_, ho, rfl⟩, call_meets F.slot_tuple_mul ⟨_, ho, rfl⟩ F.entry_tuple_mul (F.args_tuple_mul_2 _ _) (tuple_mul1 l its.toArray n dd sl t) ⟨ho, ?_⟩⟩)
    exact ⟨.ref l, H, I, rfl, q1 rfl⟩
  · have c1 : (its.toArray.isEmpty || k == 1) = false := by
      rw [hi, Bool.false_or]
      exact beq_eq_false_iff_ne.mpr k1
    by_cases k0 : k ≤ 0
    · refine wpAny_binaryOp_repeat_ref (T := "tuple") (U := "int") (by decide) ⟨_, ho, rfl⟩ (fun s' => typeIs_int s' k t) noFill_tuple_mul F.fills_int_mul F.slot_int_rmul repeat_tuple F.slot_int_index.lookup
        (call_meets F.slot_int_rmul (typeIs_int s k t) F.entry_int_rmul (F.args_int_rmul_2 _ _) (int_rmul_tuple k t l its.toArray n dd sl)
          ⟨ho, rfl, ⟨_, ho, rfl⟩, call_meets F.slot_tuple_mul ⟨_, ho, rfl⟩ F.entry_tuple_mul (F.args_tuple_mul_2 _ _) (tuple_mul0 l its.toArray n dd sl k t c0 c1 (by rw [decide_eq_true k0]; rfl)) ⟨ho, ?_⟩⟩)
      have e : (List.replicate k.toNat xs).flatten = [] := by rw [show k.toNat = 0 by omega]; rfl
      have z := laid_tup I (xs := (List.replicate k.toNat xs).flatten) (us := []) (by rw [e]; exact Nat.zero_le _) (by rw [e]; exact .nil)
      exact ⟨.ref s.heap.objs.size, _, z, rfl, q2 k1 _ _ (I.hok.fresh (Nat.le_refl _)) rfl⟩
    · have hm : ((its.toArray.size : Nat) : Int) * k ≤ 1000000 := by
        rw [hsz0]
        have a1 : ((xs.length : Nat) : Int) * k ≤ 1000 * k := Int.mul_le_mul_of_nonneg_right (by omega) (by omega)
        omega
      have flen : (List.replicate k.toNat its).flatten.length ≤ sizeLine := by
        rw [PyProof.Rows.lm_len_rep_flat, hle, sizeLine_eq]
        have a1 : k.toNat * xs.length ≤ 1000 * 1000 := Nat.mul_le_mul (by omega) hz
        omega
      have c2 : (decide (k ≤ 0) || its.toArray.isEmpty) = false := by
        rw [hi, Bool.or_false]
        exact decide_eq_false k0
      have c4 : Builtin.Tuple.tupleTooMany (((its.toArray.size : Nat) : Int) * k) = false := by
        unfold Builtin.Tuple.tupleTooMany
        rw [sizeLine_eq]
        exact decide_eq_false (by omega)
      refine wpAny_binaryOp_repeat_ref (T := "tuple") (U := "int") (by decide) ⟨_, ho, rfl⟩ (fun s' => typeIs_int s' k t) noFill_tuple_mul F.fills_int_mul F.slot_int_rmul repeat_tuple F.slot_int_index.lookup
        (call_meets F.slot_int_rmul (typeIs_int s k t) F.entry_int_rmul (F.args_int_rmul_2 _ _) (int_rmul_tuple k t l its.toArray n dd sl)
          ⟨ho, rfl, ⟨_, ho, rfl⟩, call_meets F.slot_tuple_mul ⟨_, ho, rfl⟩ F.entry_tuple_mul (F.args_tuple_mul_2 _ _) (tuple_mulW l its.toArray n dd sl k t c0 c1 c2 (by omega) c4 (by rw [size_rep, List.size_toArray]; exact flen)) ⟨ho, ?_⟩⟩)
      rw [size_rep]
      have z := laid_tup I (xs := (List.replicate k.toNat xs).flatten) (us := (List.replicate k.toNat its).flatten) (by rw [PyProof.Rows.lm_len_rep_flat, sizeLine_eq]; have a1 : k.toNat * xs.length ≤ 1000 * 1000 := Nat.mul_le_mul (by omega) hz; omega) (r.rep k.toNat)
      exact ⟨.ref s.heap.objs.size, _, z, rfl, q2 k1 _ _ (I.hok.fresh (Nat.le_refl _)) rfl⟩
end
def mulSD : D → D → Option D
  | .tuple ds, .int k => if ds.isEmpty = false ∧ -(2 ^ 62) ≤ k ∧ k ≤ 1000 ∧ ds.length ≤ 1000 then some (.tuple (List.replicate k.toNat ds).flatten) else none
  | _, _ => none
section
variable {F : Fam}
theorem op_mulSD : OpD F (binaryOp .Mult) mulSD := by
  refine OpD.mk (r := fun K => rRepF K) (fun _ => op_repF) ?_
  intro A H x y dx dy d hA rx ry hg Q k
  cases dx with
  | tuple ds =>
    cases dy with
    | int j =>
      simp only [mulSD] at hg
      split at hg
      · rename_i hc
        cases hg
        obtain ⟨a, xs, rfl, h1, h2⟩ := rx.tup
        have hl := h2.length
        refine ⟨a, j, xs, rfl, ry.int, h1.sq, ?_, hc.2.1, hc.2.2.1, by rw [hl]; exact hc.2.2.2, fun e => ?_, fun e p o hp ho => ?_⟩
        · intro e
          subst e
          cases h2
          exact absurd hc.1 (by decide)
        · subst e
          have e1 : (List.replicate (1 : Int).toNat ds).flatten = ds := by show ([ds] : List (List D)).flatten = ds; simp
          rw [e1] at k
          exact k _ H (Same.refl _) (.tup h1 h2)
        · exact k _ _ (dom_upd hp) (new_tup hp ho (h2.rep _))
      · cases hg
    | _ => cases hg
  | _ => cases hg
end
theorem b_rep {n : Nat} (x : D) (h : n ≤ 1000) : ((mulSD (.tuple [x]) (.int (n : Int)))) = some (.tuple (List.replicate n x)) := by
  show (if [x].isEmpty = false ∧ -(2 ^ 62) ≤ (n : Int) ∧ (n : Int) ≤ 1000 ∧ [x].length ≤ 1000 then some (PyData.tuple (List.replicate (n : Int).toNat [x]).flatten) else none) = _
  rw [if_pos ⟨rfl, by omega, by omega, by simp⟩, Int.toNat_natCast]
  congr 2
  induction n with
  | zero => rfl
  | succ n ih => rw [List.replicate_succ, List.flatten_cons, ih (by omega), List.replicate_succ]; rfl
end Dn
set_option Elab.async false
set_option linter.all false
set_option maxRecDepth 100000
/-! max and min of one list or tuple of ints -/
namespace Dn
open PySem L2
theorem dp_ints {K : PySem.W.Frag} {H : Hp} : ∀ ns : List Int, DpAll K H (ns.map V.int) (ns.map PyData.int)
  | [] => .nil
  | n :: ns => .cons (.int n) (dp_ints ns)
def rBst (op : Int → Int → Int) (K : PySem.W.Frag) : List V → Hp → VK → Prop := fun vs H Q => ∃ (a : Addr) (n : Int) (ns : List Int), vs = [V.ref a] ∧ (SqL K H a ((n :: ns).map V.int) ∨ SqT K H a ((n :: ns).map V.int)) ∧ Q (.int (ns.foldl op n)) H
section
variable {X : Cx}
theorem alike_ints (ns : List Int) : PySem.W.AlikeAll (ns.map PyData.int) := by
  refine ⟨fun d hd d' hd' => ?_, fun d hd => ?_⟩
  · obtain ⟨i, _, rfl⟩ := List.mem_map.mp hd
    obtain ⟨j, _, rfl⟩ := List.mem_map.mp hd'
    rfl
  · obtain ⟨i, _, rfl⟩ := List.mem_map.mp hd
    exact fun z => by cases z
theorem depths : ∀ ns : List Int, PyData.depthAll (ns.map .int) = 0
  | [] => by simp only [List.map_nil, PyData.depthAll]
  | n :: ns => by simp only [List.map_cons, PyData.depthAll, PyData.depth, depths ns, Nat.max_self]
theorem cr_max1 (hc : X.calm = true) (hu : X.A.units + 100 < cLine) : CallR X (.builtin "max") (rBst max X.K) := by
  intro pins s σ H vs us Q I r h
  obtain ⟨a, n, ns, rfl, hs, q⟩ := h
  rw [Vals.ref1 r]
  have hd := dp_ints (K := X.K) (H := H) (n :: ns)
  have hdep := depths (n :: ns)
  rcases hs with hs | hs
  · obtain ⟨its, rv, hL, hz⟩ := I.list hs
    obtain ⟨as, ra⟩ := Dp.readsAll I _ _ its hd rv
    refine PySem.W.max_list_data (vs := its.toArray) (x := .int n) (xs := ns.map .int) (I.ok.hd hc) hL.isList ra (alike_ints (n :: ns)) (by rw [← List.map_cons, hdep]; omega) fun i v h' tk bs hv hr hk => ?_
    rw [PySem.W.maxD_ints] at hr
    cases hr
    exact ⟨.int _, H, I.kept hk, ⟨_, rfl⟩, q⟩
  · obtain ⟨its, rv, hL, hz⟩ := I.tuple hs
    obtain ⟨as, ra⟩ := Dp.readsAll I _ _ its hd rv
    refine PySem.W.max_tuple_data (vs := its.toArray) (x := .int n) (xs := ns.map .int) (I.ok.hd hc) hL ra (alike_ints (n :: ns)) (by rw [← List.map_cons, hdep]; omega) fun i v h' tk bs hv hr hk => ?_
    rw [PySem.W.maxD_ints] at hr
    cases hr
    exact ⟨.int _, H, I.kept hk, ⟨_, rfl⟩, q⟩
theorem cr_min1 (hc : X.calm = true) (hu : X.A.units + 100 < cLine) : CallR X (.builtin "min") (rBst min X.K) := by
  intro pins s σ H vs us Q I r h
  obtain ⟨a, n, ns, rfl, hs, q⟩ := h
  rw [Vals.ref1 r]
  have hd := dp_ints (K := X.K) (H := H) (n :: ns)
  have hdep := depths (n :: ns)
  rcases hs with hs | hs
  · obtain ⟨its, rv, hL, hz⟩ := I.list hs
    obtain ⟨as, ra⟩ := Dp.readsAll I _ _ its hd rv
    refine PySem.W.min_list_data (vs := its.toArray) (x := .int n) (xs := ns.map .int) (I.ok.hd hc) hL.isList ra (alike_ints (n :: ns)) (by rw [← List.map_cons, hdep]; omega) fun i v h' tk bs hv hr hk => ?_
    rw [PySem.W.minD_ints] at hr
    cases hr
    exact ⟨.int _, H, I.kept hk, ⟨_, rfl⟩, q⟩
  · obtain ⟨its, rv, hL, hz⟩ := I.tuple hs
    obtain ⟨as, ra⟩ := Dp.readsAll I _ _ its hd rv
    refine PySem.W.min_tuple_data (vs := its.toArray) (x := .int n) (xs := ns.map .int) (I.ok.hd hc) hL ra (alike_ints (n :: ns)) (by rw [← List.map_cons, hdep]; omega) fun i v h' tk bs hv hr hk => ?_
    rw [PySem.W.minD_ints] at hr
    cases hr
    exact ⟨.int _, H, I.kept hk, ⟨_, rfl⟩, q⟩
end
def bst (op : Int → Int → Int) (ds : List D) : Option D := (intsT ds).bind fun ns => match ns with
  | n :: ns => some (.int (ns.foldl op n))
  | [] => none
def bst1 (op : Int → Int → Int) : List D → Option D
  | [.tuple ds] => bst op ds
  | [.list ds] => bst op ds
  | _ => none
theorem bst_some {op : Int → Int → Int} {ds : List D} {d : D} (h : bst op ds = some d) : ∃ n ns, intsT ds = some (n :: ns) ∧ d = .int (ns.foldl op n) := by
  unfold bst at h
  cases e : intsT ds with
  | none => rw [e] at h; cases h
  | some ms =>
    rw [e] at h
    cases ms with
    | nil => cases h
    | cons n ns => cases h; exact ⟨n, ns, rfl, rfl⟩
abbrev max1D : List D → Option D := bst1 max
abbrev min1D : List D → Option D := bst1 min
theorem bst1_imm {op : Int → Int → Int} : ∀ ds d, bst1 op ds = some d → imm d = true := by
  intro ds d h
  unfold bst1 at h
  split at h
  · obtain ⟨n, ns, _, rfl⟩ := bst_some h; rfl
  · obtain ⟨n, ns, _, rfl⟩ := bst_some h; rfl
  · cases h
section
variable {F : Fam}
theorem units1 (i : F.ι) : (F.X i).A.units + 100 < cLine := by have := F.un i; omega
theorem bst1_sem (op : Int → Int → Int) : CallSem F.K (rBst op F.K) (bst1 op) := by
  intro A H vs ds d hA r hg Q k
  unfold bst1 at hg
  split at hg
  · obtain ⟨n, ns, e, rfl⟩ := bst_some hg
    have e1 := intsT_some e
    subst e1
    cases r with
    | cons r1 r2 =>
      cases r2
      obtain ⟨a, xs, rfl, h1, h2⟩ := r1.tuple
      rw [dq_intsT h2] at h1
      exact ⟨a, n, ns, rfl, .inr h1, k _ H (Same.refl _) (.int _)⟩
  · obtain ⟨n, ns, e, rfl⟩ := bst_some hg
    have e1 := intsT_some e
    subst e1
    cases r with
    | cons r1 r2 =>
      cases r2
      obtain ⟨a, xs, rfl, h1, h2⟩ := r1.list
      rw [dq_intsT h2] at h1
      exact ⟨a, n, ns, rfl, .inl h1, k _ H (Same.refl _) (.int _)⟩
  · cases hg
theorem c_max1 (hot0 : F.hot = false := by rfl) : CallD F (.builtin "max") max1D :=
  CallD.mk (r := fun K => rBst max K) (fun i => cr_max1 (F.calm hot0 i) (units1 i)) (bst1_sem max)
theorem c_min1 (hot0 : F.hot = false := by rfl) : CallD F (.builtin "min") min1D :=
  CallD.mk (r := fun K => rBst min K) (fun i => cr_min1 (F.calm hot0 i) (units1 i)) (bst1_sem min)
end
end Dn
set_option Elab.async false
set_option linter.all false
set_option maxRecDepth 100000
/-! x or y as a value, by truth -/
namespace Dn
open PySem L2
section
variable {F : Fam} {τ : List Kd} {a b : Expr} {rest : List Expr} {fa fb : Rho → Res D} {la lb : Fl} {pos : Pos}
def eOrV (fa fb : Rho → Res D) : Rho → Res D := fun ρ => (fa ρ).bind fun x => (ofO (truD x)).bind fun c => if c = true then .ok x else fb ρ
theorem dn_orV (h : DnE F τ a fa la) (h' : DnE F τ (.BoolOp .Or (b :: rest) pos) fb lb) : DnE F τ (.BoolOp .Or (a :: b :: rest) pos) (eOrV fa fb) .z := by
  obtain ⟨t, h1, h2⟩ := h.z
  obtain ⟨u, g1, g2⟩ := h'.z
  refine ⟨tOrT F.K t u, fun i => by have q := pe_orT (h1 i) (g1 i); rw [F.hK i] at q; exact q, fun H0 B ρ σ H Q s p => ?_⟩
  refine h2 H0 B ρ σ H _ s (p.bind.to (Same.refl _) fun d _ p1 v H1 e1 r1 => ?_)
  cases ht : truD d with
  | none => rw [ht] at p1; exact p1.elim
  | some c =>
    rw [ht] at p1
    refine ⟨c, tru_of (.inl r1) ht, ?_⟩
    cases c with
    | false =>
      rw [if_neg Bool.false_ne_true]
      exact g2 H0 B ρ σ H1 Q (s.more e1) (p1.to e1 fun b _ p2 v H2 e2 r => p2 v H2 (e1.trans e2) r)
    | true =>
      rw [if_pos rfl]
      exact p1 v H1 e1 r1
end
end Dn
set_option Elab.async false
set_option linter.all false
set_option maxRecDepth 100000
/-! a text times a number -/
namespace Dn
open PySem L2
section
variable {X : Cx}
open PySem.Spec PyProof.Rows in
theorem op_mulS : OpR X (binaryOp .Mult) (fun x y H Q => ∃ z k, x = .str z ∧ y = .int k ∧ z.length ≤ 16 ∧ -(2 ^ 62) ≤ k ∧ k ≤ 1000 ∧ Q (.str (Txt.mul z k)) H) := by
  intro pins s σ H x y v u Q I rx ry h
  obtain ⟨z, k, rfl, rfl, hz, h1, h2, q⟩ := h
  obtain ⟨t, rfl⟩ := rx
  obtain ⟨t', rfl⟩ := ry
  exact PySem.W.KXi.mul rfl hz (by omega) (by omega) fun t' tk _ _ => ⟨.str (Txt.mul z k), H, I.tok _, ⟨_, rfl⟩, q⟩
end
open PyProof.Rows in
def mulTD : D → D → Option D
  | .str z, .int k => if z.length ≤ 16 ∧ -(2 ^ 62) ≤ k ∧ k ≤ 1000 then some (.str (Txt.mul z k)) else none
  | _, _ => none
section
variable {F : Fam}
theorem op_mulTD : OpD F (binaryOp .Mult) mulTD := by
  refine OpD.mk (r := fun _ x y H Q => ∃ z k, x = .str z ∧ y = .int k ∧ z.length ≤ 16 ∧ -(2 ^ 62) ≤ k ∧ k ≤ 1000 ∧ Q (.str (Txt.mul z k)) H) (fun _ => op_mulS) ?_
  intro A H x y dx dy d hA rx ry hg Q k
  cases dx with
  | str z =>
    cases dy with
    | int j =>
      simp only [mulTD] at hg
      split at hg
      · rename_i h
        cases hg
        exact ⟨z, j, rx.str, ry.int, h.1, h.2.1, h.2.2, k _ H (Same.refl _) (.str _)⟩
      · cases hg
    | _ => cases hg
  | _ => cases hg
end
end Dn
set_option Elab.async false
set_option linter.all false
set_option maxRecDepth 100000
set_option maxHeartbeats 4000000
/-! a list's slice with a step -/
namespace Dn
open PySem L2
/-- the places that a slice with a step takes -/
def stepIx (n : Nat) (lo hi : Option Int) (c : Int) : List Nat := sliceRange (sliceBounds lo hi (some c) n).1 (sliceBounds lo hi (some c) n).2.1 (sliceBounds lo hi (some c) n).2.2
def pickL {α : Type} (xs : List α) (lo hi : Option Int) (c : Int) : List α := (stepIx xs.length lo hi c).filterMap (xs[·]?)
theorem vals_pick {xs : List V} {us : List Value} (r : Vals xs us) : ∀ ks : List Nat, Vals (ks.filterMap (xs[·]?)) (ks.filterMap (us[·]?))
  | [] => .nil
  | k :: ks => by
    rw [List.filterMap_cons, List.filterMap_cons]
    cases h : xs[k]? with
    | none => rw [Vals.none_of r h]; exact vals_pick r ks
    | some x =>
      obtain ⟨u, h1, h2⟩ := Vals.get r h
      rw [h1]
      exact .cons h2 (vals_pick r ks)
theorem dq_pick {K : PySem.W.Frag} {H : Hp} {A : Av} {vs : List V} {ds : List D} (r : DqL K H A vs ds) : ∀ ks : List Nat, DqL K H A (ks.filterMap (vs[·]?)) (ks.filterMap (ds[·]?))
  | [] => .nil
  | k :: ks => by
    rw [List.filterMap_cons, List.filterMap_cons]
    cases h : vs[k]? with
    | none =>
      have : ds[k]? = none := by
        rw [List.getElem?_eq_none_iff] at h ⊢
        have := r.length
        omega
      rw [this]; exact dq_pick r ks
    | some x =>
      obtain ⟨u, h1, h2⟩ := r.getV h
      rw [h1]
      exact .cons h2 (dq_pick r ks)
theorem pickL_le {α : Type} (xs : List α) (lo hi : Option Int) (c : Int) : (pickL xs lo hi c).length ≤ xs.length := by
  unfold pickL stepIx
  refine Nat.le_trans (List.length_filterMap_le _ _) (sliceRange_length_le _ _ _ _ (fun hc => ?_) fun hc => ?_)
  · simp only [sliceBounds] at hc ⊢
    simp only [hc, if_true]
    constructor
    · cases lo with
      | none => simp
      | some i => dsimp only; omega
    · cases hi with
      | none => simp
      | some i => dsimp only; omega
  · simp only [sliceBounds] at hc ⊢
    simp only [hc, if_false]
    constructor
    · cases lo with
      | none => simp
      | some i => dsimp only; omega
    · cases hi with
      | none => simp
      | some i => dsimp only; omega
section
variable {X : Cx}
def tStepL (K : PySem.W.Frag) (c : Int) (te : TE) (tl th : TO) : TE := fun σ H Q => te σ H fun x H1 => tl σ H1 fun l H2 => th σ H2 fun u H3 => ∃ a xs, x = .ref a ∧ SqL K H3 a xs ∧ ∀ p, H3 p = none → Q (.ref p) (upd H3 p (.lst (pickL xs l u c)))
open PySem.Spec PyProof.Rows in
theorem pe_stepL {e : Expr} {te : TE} {lo hi : Option Expr} {tl th : TO} {c : Int} {k : Nat} {p1 p2 pos : Pos} (hc : c ≠ 0) (he : PE X e te) (hl : PO X lo tl) (hu : PO X hi th) : PE X (.Subscript e (.Slice lo hi (some (.Constant (.int c) k p1)) p2) pos) (tStepL X.K c te tl th) := by
  refine ⟨fun pins s σ H Q I h => ?_⟩
  refine Subscript_ (thn (he.run pins s σ H _ I h) fun v s1 ⟨x, H1, I1, r1, q1⟩ => ?_)
  refine wpAny_Slice (thn (hl.run pins s1 σ H1 _ I1 q1) fun vl s2 ⟨l, H2, I2, pl, q2⟩ => thn (hu.run pins s2 σ H2 _ I2 q2) fun vu s3 ⟨u, H3, I3, pu, q3⟩ => ?_)
  obtain ⟨a, xs, ex, hx, q⟩ := q3
  subst ex
  cases r1
  have hst : PO X (some (.Constant (.int c) k p1)) (tPart (tC (.int c))) := po_some pe_int
  refine thn (hst.run pins s3 σ H3 (fun o H4 => o = some c ∧ H4 = H3) I3 ⟨c, rfl, rfl, rfl⟩) fun vs s4 ⟨o, H4, I4, ps, eo, e4⟩ => ?_
  subst eo e4
  have I5 : Inv X pins σ H4 { s4 with heap := s4.heap.push { cls := .type "slice", data := .fields #[vl, vu, vs] } } := I4.kept (t' := s4.toks) fun b ob q => Heap.get?_push_of_some _ q
  obtain ⟨its, r, ht, hz⟩ := I5.list hx
  have hlen := r.length
  show wpAny (model X.prog X.w) X.A (subscriptTail e (.Slice lo hi (some (.Constant (.int c) k p1)) p2) (.ref a) (.ref s4.heap.objs.size)) (EP X pins σ Q) X.xe { s4 with heap := s4.heap.push { cls := .type "slice", data := .fields #[vl, vu, vs] } }
  refine tail_any (ops := [.ref a, .ref s4.heap.objs.size]) ht.isList.typeIs (PySem.slot_list_getitem.lookup) ?_ (by with_unfolding_all rfl)
  refine wpAny_getItem_list_slice ht.isList (Heap.IsSliceOf.new _ vl vu vs) pl pu ps (fun z => hc (Option.some.inj z)) ?_ (by rw [List.size_toArray]; omega)
  have e : slicePick its.toArray l u (some c) = (pickL its l u c).toArray := by
    unfold slicePick pickL stepIx
    rw [List.size_toArray]
    congr 2
    funext i
    exact List.getElem?_toArray ..
  rw [e]
  have rp : Vals (pickL xs l u c) (pickL its l u c) := by
    unfold pickL
    rw [hlen]
    exact vals_pick r _
  refine ⟨.ref _, _, I5.laid (t' := s4.toks) (o := .lst (pickL xs l u c)) (fun b ob q => Heap.get?_push_of_some _ q) (Nat.le_refl _) ?_, rfl, q _ (I5.hok.fresh (Nat.le_refl _))⟩
  exact ⟨Nat.le_trans (pickL_le ..) (by omega), _, 0, rp, Heap.get?_push_size _ rfl⟩
end
def stepD (c : Int) (lo hi : Option Int) : D → Option D
  | .list ds => some (.list (pickL ds lo hi c))
  | _ => none
def eStep (c : Int) (fa : Rho → Res D) (fl fh : Rho → Res (Option Int)) : Rho → Res D := fun ρ => (fa ρ).bind fun x => (fl ρ).bind fun lo => (fh ρ).bind fun hi => ofO (stepD c lo hi x)
section
variable {F : Fam} {τ : List Kd} {a : Expr} {fa : Rho → Res D} {la : Fl} {pos : Pos}
theorem dn_stepL {c : Int} (hc : c ≠ 0) {k : Nat} {lo hi : Option Expr} {p1 p2 : Pos} {ol oh : Rho → Res (Option Int)} (ha : DnR F τ a fa la) (hl : DnO F τ lo ol) (hh : DnO F τ hi oh) : DnE F τ (.Subscript a (.Slice lo hi (some (.Constant (.int c) k p1)) p2) pos) (eStep c fa ol oh) la := by
  obtain ⟨ta, a1, a2⟩ := ha
  obtain ⟨tl, l1, l2⟩ := hl
  obtain ⟨th, h1, h2⟩ := hh
  refine ⟨tStepL F.K c ta tl th, fun i => by
    have h := pe_stepL (pos := pos) (p1 := p1) (p2 := p2) (k := k) hc (a1 i) (l1 i) (h1 i)
    rw [F.hK i] at h; exact h, fun H0 B ρ σ H Q s p => ?_⟩
  refine a2 H0 B ρ σ H _ s (p.bind.to (Same.refl _) fun d _ p1 v H1 e1 r1 => ?_)
  refine l2 H0 B ρ σ H1 _ (s.more e1) (p1.bind.to e1 fun lo _ p2 H2 e2 => ?_)
  refine h2 H0 B ρ σ H2 _ (s.more (e1.trans e2)) (p2.bind.to (e1.trans e2) fun hi _ p3 H3 e3 => ?_)
  have e4 : Same H H3 := (e1.trans e2).trans e3
  have r4 := r1.mono (e2.trans e3) (A' := av la H0 H (OwnX τ B ρ σ)) fun _ z => z
  cases d with
  | list ds =>
    obtain ⟨q, xs, rfl, g1, g2⟩ := r4.list
    have g3 : DqL F.K H3 (av la H0 H (OwnX τ B ρ σ)) (pickL xs lo hi c) (pickL ds lo hi c) := by
      unfold pickL
      rw [g2.length]
      exact dq_pick g2 _
    exact ⟨q, xs, rfl, g1, fun pp hp => p3 _ _ (e4.trans (dom_upd hp)) (new_lst hp (fun a z => dom_mono e4 a (av_dom s a z)) g3)⟩
  | _ => exact p3.elim
end
end Dn
set_option Elab.async false
set_option linter.all false
set_option maxRecDepth 100000
set_option maxHeartbeats 4000000
/-! texts: find, split -/
namespace Dn
open PySem L2
def findD : D → D → Option D
  | .str a, .str b => some (.int (Txt.find a b))
  | _, _ => none
def splitD : D → D → Option D
  | .str a, .str b => if (b.length == 0) = false ∧ a.length + 2 ≤ sizeLine ∧ (Txt.split a b).length ≤ sizeLine then some (.list ((Txt.split a b).map .str)) else none
  | _, _ => none
theorem strs_dq {K : PySem.W.Frag} {H : Hp} {A : Av} : ∀ ys : List Str, DqL K H A (ys.map V.str) (ys.map .str)
  | [] => .nil
  | y :: ys => .cons (.str y) (strs_dq ys)
section
variable {F : Fam} {τ : List Kd} {a b : Expr} {fa fb : Rho → Res D} {la lb : Fl} {apos cpos : Pos}
theorem dn_find (ha : DnE F τ a fa la) (hb : DnE F τ b fb lb) (hs : ∀ j, starEach [b] (F.X j).env = [(false, eval b (F.X j).env)] := by intro _; rfl) (hbase : ∀ j, attributeBase a "find" (F.X j).env (eval a (F.X j).env) = eval a (F.X j).env := by intro _; rfl) (hline : (apos.endLine == cpos.line) = true := by rfl) :
    DnE F τ (.Call (.Attribute a "find" apos) [b] [] cpos) (eBinK isTxt findD fa fb) .s := by
  obtain ⟨t, a1, a2⟩ := ha
  obtain ⟨u, b1, b2⟩ := hb
  refine ⟨tM1 (fun x xs H Q => ∃ a b, x = .str a ∧ xs = [.str b] ∧ Q (.int (Txt.find a b)) H) t u, fun i => pe_m1 PySem.F.slot_str_find PySem.F.type_str_find mt_find (a1 i) (b1 i) (hs i) (hbase i) hline, fun H0 B ρ σ H Q s p => ?_⟩
  refine a2 H0 B ρ σ H _ s (p.bind.to (Same.refl _) fun d _ p0 v H1 e1 r => ?_)
  cases d with
  | str z =>
    cases r
    refine ⟨⟨z, rfl⟩, ?_⟩
    have p0 : Post F σ H _ ((fb ρ).bind fun y => ofO (findD (.str z) y)) := p0
    refine b2 H0 B ρ σ H1 _ (s.more e1) (p0.bind.to e1 fun y _ p1 w H2 e2 r2 => ?_)
    cases y with
    | str q =>
      cases r2
      exact ⟨z, q, rfl, rfl, p1 _ _ (e1.trans e2) (.int _)⟩
    | _ => exact p1.elim
  | _ => exact p0.elim
theorem dn_split (ha : DnE F τ a fa la) (hb : DnE F τ b fb lb) (hs : ∀ j, starEach [b] (F.X j).env = [(false, eval b (F.X j).env)] := by intro _; rfl) (hbase : ∀ j, attributeBase a "split" (F.X j).env (eval a (F.X j).env) = eval a (F.X j).env := by intro _; rfl) (hline : (apos.endLine == cpos.line) = true := by rfl) :
    DnE F τ (.Call (.Attribute a "split" apos) [b] [] cpos) (eBinK isTxt splitD fa fb) .s := by
  obtain ⟨t, a1, a2⟩ := ha
  obtain ⟨u, b1, b2⟩ := hb
  refine ⟨_, fun i => pe_split (a1 i) (b1 i) (hs i) (hbase i) hline, fun H0 B ρ σ H Q s p => ?_⟩
  refine a2 H0 B ρ σ H _ s (p.bind.to (Same.refl _) fun d _ p0 v H1 e1 r => ?_)
  cases d with
  | str z =>
    cases r
    refine ⟨⟨z, rfl⟩, ?_⟩
    have p0 : Post F σ H _ ((fb ρ).bind fun y => ofO (splitD (.str z) y)) := p0
    refine b2 H0 B ρ σ H1 _ (s.more e1) (p0.bind.to e1 fun y _ p1 w H2 e2 r2 => ?_)
    cases y with
    | str q =>
      cases r2
      simp only [splitD] at p1
      by_cases hc : (q.length == 0) = false ∧ z.length + 2 ≤ sizeLine ∧ (Txt.split z q).length ≤ sizeLine
      · rw [if_pos hc] at p1
        refine ⟨z, q, rfl, rfl, hc.1, hc.2.1, fun pp hp => ?_⟩
        refine p1 _ _ ((e1.trans e2).trans (dom_upd hp)) (new_lst hp (fun a z => ?_) (strs_dq _))
        exact dom_mono (e1.trans e2) a (av_dom s a z)
      · rw [if_neg hc] at p1; exact p1.elim
    | _ => exact p1.elim
  | _ => exact p0.elim
/-- as new as it turns out to be -/
theorem DnE.sOf {e : Expr} {f : Rho → Res D} {fl : Fl} (h : DnE F τ e f fl) (hf : fl = .s := by rfl) : DnE F τ e f .s := hf ▸ h
end
end Dn
set_option Elab.async false
set_option linter.all false
set_option maxRecDepth 100000
/-! sorted(set(l)), l a list of ints; <= of tuples of ints -/
namespace Dn
open PySem PySem.Spec PyProof.Rows L2
section
variable {P : Program} {w : World} {A : Around} {E : Value → Shared → Prop} {s : Shared}
set_option maxRecDepth 100000 in
set_option maxHeartbeats 3200000 in
theorem call_set_lstI {l : Addr} {items : Array Value} (ns : List Int) {Q : Value → Shared → Prop} (hh : A.handled = none) (hl : s.heap.IsList l items) (hit : IntsAre items.toList ns) (hb : ns.length + 1 < scanBound)
    (h : ∀ (h' : Heap) (tk c : Nat), SetR w h' s.heap.objs.size (fun j => decide (j ∈ ns)) c → c ≤ ns.length → (∀ b o, s.heap.get? b = some o → h'.get? b = some o) → Q (.ref s.heap.objs.size) { s with heap := h', toks := tk }) :
    wpAny (model P w) A (call (.type "set") [.ref l]) Q E s := by
  have hisz : items.size = ns.length := by
    have q := IntsAre.length hit
    rw [Array.length_toList] at q
    exact q
  obtain ⟨c, tl, hmro⟩ := F.called_set.mro
  have hmade := F.called_set.made
  have hsub := F.called_set.sub
  refine wpAny_call (codeAny_of_tree ?_)
  show wpAny _ _ (callAny (.type "set") _) _ _ _
  refine wpAny_pure ⟨Code.quiet_builtin _ (by decide +kernel), codeAny_builtin F.entry_type_call ?_⟩
  rw [Around.under_plain (weight_type_call_type "set" [.ref l] []) rfl]
  have h1 := F.called_set.notType
  have h2 := F.called_set.canCreate
  have hct := F.typeCall_set_1 (.ref l)
  repeat (any_goals (first | assumption | wp_step))

  refine codeAny_mono (code_set_led1 (.ref l) (E := E) (Q₁ := fun obj s₁ => obj = .ref s.heap.objs.size ∧ s₁ = { s with heap := s.heap.push { cls := .type "set", dict := none, data := .set #[] 0 (.fresh 0 0 (!w.params.followText "set-order")) } }) ⟨rfl, rfl⟩) fun r s₁ hr => ?_
  cases r with
  | error e => exact hr
  | ok fl =>
    cases fl with
    | ret obj =>
      obtain ⟨rfl, rfl⟩ := hr
      have hS : (s.heap.push { cls := .type "set", dict := none, data := .set #[] 0 (.fresh 0 0 (!w.params.followText "set-order")) }).get? s.heap.objs.size = some { cls := .type "set", dict := none, data := .set #[] 0 (.fresh 0 0 (!w.params.followText "set-order")) } := Heap.get?_push_size _ rfl
      have hT : Shared.TypeIs { s with heap := s.heap.push { cls := .type "set", dict := none, data := .set #[] 0 (.fresh 0 0 (!w.params.followText "set-order")) } } (.ref s.heap.objs.size) "set" := ⟨_, hS, rfl⟩
      have hli := F.called_set.init.lookup
      have hbi := F.called_set.init.bind (.ref s.heap.objs.size)
      repeat (any_goals (first | assumption | wp_step))

      refine codeAny_mono (codeAny_call_builtin (R := wants (fun r s₂ => r = .none ∧ ∃ h' tk c, s₂ = { s with heap := h', toks := tk } ∧ SetR w h' s.heap.objs.size (fun j => decide (j ∈ ns)) c ∧ c ≤ ns.length ∧
          (∀ b o, s.heap.get? b = some o → h'.get? b = some o)) E) F.called_set.init.plain F.entry_set_init (check_set_init_1 hT ?_)) fun r₂ s₂ hr₂ => ?_
      · obtain ⟨ol, hol, hcl, nl, hdl⟩ := hl
        obtain ⟨ocls, odict, odata, oslots⟩ := ol
        simp only at hcl hdl
        subst hcl; subst hdl
        have hol' : (s.heap.push { cls := .type "set", dict := none, data := .set #[] 0 (.fresh 0 0 (!w.params.followText "set-order")) }).get? l = some { cls := .type "list", dict := odict, data := .seq items nl, slots := oslots } := Heap.get?_push_of_some _ hol
        have hsls := F.sub_list_set
        have hslf := F.sub_list_frozenset
        have hne : (Value.type "list" == Value.type "dict") = false := by decide
        have hl1 : (s.heap.push { cls := .type "set", dict := none, data := .set #[] 0 (.fresh 0 0 (!w.params.followText "set-order")) }).IsList l items := ⟨_, hol', rfl, nl, rfl⟩
        unfold Builtin.«set.__init__» noKeywords Builtin.Frozenset.updateFrom
        generalize hPI : pyIter = PI
        wp_walk
        subst hPI

        refine wpAny_pyIter_list hl1 ?_
        refine wpAny_bind (wpAny_runValue ?_)
        have hlS : l < s.heap.objs.size := Heap.lt_size hol
        have hh3 : A.in1.in1.in1.handled = none := by simp [hh]
        have hz1 : (s.heap.push { cls := .type "set", dict := none, data := .set #[] 0 (.fresh 0 0 (!w.params.followText "set-order")) }).objs.size = s.heap.objs.size + 1 := Heap.size_push ..
        have hneI : l ≠ (s.heap.push { cls := .type "set", dict := none, data := .set #[] 0 (.fresh 0 0 (!w.params.followText "set-order")) }).objs.size := by
          rw [Heap.size_push]; exact Nat.ne_of_lt (Nat.lt_succ_of_lt hlS)
        have hSf : s.heap.objs.size ∉ [(s.heap.push { cls := .type "set", dict := none, data := .set #[] 0 (.fresh 0 0 (!w.params.followText "set-order")) }).objs.size, l] := by
          rw [Heap.size_push]; simp only [List.mem_cons, List.mem_singleton, List.not_mem_nil, or_false, not_or]
          exact ⟨Nat.ne_of_lt (Nat.lt_succ_self _), Nat.ne_of_gt hlS⟩
        have hval : ∀ (i : Nat) (v : Value), items[i]? = some v → ∃ k t, ns[i]? = some k ∧ v = .int k t := fun i v hv => by
          have hi : i < ns.length := by rw [← hisz]; exact (Array.getElem?_eq_some_iff.mp hv).1
          obtain ⟨t, e⟩ := PyProof.Rows.IntsAre.int_at hit i v (by rw [Array.getElem?_toList]; exact hv)
          refine ⟨ns[i], t, List.getElem?_eq_getElem hi, ?_⟩
          rw [e, List.getD_eq_getElem?_getD, List.getElem?_eq_getElem hi] <;> rfl
        refine set_update_ints ((Walks.list hh3 _ l hneI items).toS) s.heap.objs.size
          hSf ns hisz hb hval (items.size - 0) 0 _ (by omega) (Nat.zero_le _)
          ⟨⟨_, Heap.get?_push_size _ rfl, rfl, rfl⟩, (hl1.push _)⟩ ?hS0 ?hR
        case hS0 =>
          have hget : ((s.heap.push { cls := .type "set", dict := none, data := .set #[] 0 (.fresh 0 0 (!w.params.followText "set-order")) }).push { cls := .type "list_iterator", data := .fields #[.ref l, .int 0 0] }).get? s.heap.objs.size
              = some { cls := .type "set", dict := none, data := .set #[] 0 (.fresh 0 0 (!w.params.followText "set-order")) } := Heap.get?_push_of_some _ hS
          exact ⟨0, Nat.le_refl 0, setR_new_at hget⟩
        case hR =>
          intro s' c' hm hc' hS'
          obtain ⟨h', g2, d', tk', os'⟩ := s'
          have eg : g2 = s.gens := hm.gens
          have ed : d' = s.drawn := hm.drawn
          have eo : os' = s.os := hm.os
          subst eg; subst ed; subst eo
          show wpAny _ _ _ _ _ _
          refine wpAny_pure ?_
          show wpAny _ _ (ret Value.none) _ _ _
          rw [hisz] at hc'
          refine wpAny_pure ⟨rfl, h', tk', c', rfl, hS', hc', fun b o e => ?_⟩
          have hb0 : b < s.heap.objs.size := Heap.lt_size e
          have hb1 : b ≠ s.heap.objs.size := Nat.ne_of_lt hb0
          have hb2 : b ≠ (s.heap.push { cls := .type "set", dict := none, data := .set #[] 0 (.fresh 0 0 (!w.params.followText "set-order")) }).objs.size := by
            rw [Heap.size_push]; exact Nat.ne_of_lt (Nat.lt_succ_of_lt hb0)
          exact hm.heap b o (by simp only [List.mem_cons, List.mem_singleton, List.not_mem_nil, or_false, not_or]; exact ⟨hb1, hb2⟩) (Heap.get?_push_of_some _ (Heap.get?_push_of_some _ e))

      · cases r₂ with
        | error e => exact hr₂
        | ok fl₂ =>
          cases fl₂ with
          | ret r =>
            obtain ⟨rfl, h', tk, c', rfl, hS', hc', hk'⟩ := hr₂
            repeat (any_goals (first | assumption | wp_step))
            exact h _ _ _ hS' hc' hk'
          | _ => exact hr₂.elim
    | _ => exact hr.elim

end


/-- the ints of a list, each once, rising -/
def insU (a : Int) : List Int → List Int
  | [] => [a]
  | b :: l => if a < b then a :: b :: l else if a = b then b :: l else b :: insU a l
def sset : List Int → List Int
  | [] => []
  | a :: l => insU a (sset l)
theorem mem_insU {a k : Int} : ∀ {l : List Int}, k ∈ insU a l ↔ k = a ∨ k ∈ l
  | [] => by simp [insU]
  | b :: l => by
    unfold insU
    by_cases h : a < b
    · rw [if_pos h]; simp
    · rw [if_neg h]
      by_cases h2 : a = b
      · rw [if_pos h2, h2]; simp
      · rw [if_neg h2, List.mem_cons, mem_insU, List.mem_cons]
        constructor
        · rintro (h | h | h)
          · exact .inr (.inl h)
          · exact .inl h
          · exact .inr (.inr h)
        · rintro (h | h | h)
          · exact .inr (.inl h)
          · exact .inl h
          · exact .inr (.inr h)
theorem mem_sset {k : Int} : ∀ {l : List Int}, k ∈ sset l ↔ k ∈ l
  | [] => Iff.rfl
  | a :: l => by unfold sset; rw [mem_insU, mem_sset, List.mem_cons]
theorem pw_insU {a : Int} : ∀ {l : List Int}, l.Pairwise (· < ·) → (insU a l).Pairwise (· < ·)
  | [], _ => by unfold insU; simp
  | b :: l, h => by
    obtain ⟨h1, h2⟩ := List.pairwise_cons.mp h
    unfold insU
    by_cases hab : a < b
    · rw [if_pos hab]
      refine List.pairwise_cons.mpr ⟨fun x hx => ?_, h⟩
      rcases List.mem_cons.mp hx with e | e
      · omega
      · have := h1 x e; omega
    · rw [if_neg hab]
      by_cases h3 : a = b
      · rw [if_pos h3]; exact h
      · rw [if_neg h3]
        refine List.pairwise_cons.mpr ⟨fun x hx => ?_, pw_insU h2⟩
        rcases mem_insU.mp hx with e | e
        · omega
        · exact h1 x e
theorem pw_sset : ∀ l : List Int, (sset l).Pairwise (· < ·)
  | [] => .nil
  | a :: l => pw_insU (pw_sset l)
theorem rising_eq : ∀ {l m : List Int}, l.Pairwise (· < ·) → m.Pairwise (· < ·) → (∀ k, k ∈ l ↔ k ∈ m) → l = m
  | [], [], _, _, _ => rfl
  | [], b :: m, _, _, h => absurd ((h b).mpr (List.mem_cons_self ..)) (by simp)
  | a :: l, [], _, _, h => absurd ((h a).mp (List.mem_cons_self ..)) (by simp)
  | a :: l, b :: m, h1, h2, h => by
    obtain ⟨a1, a2⟩ := List.pairwise_cons.mp h1
    obtain ⟨b1, b2⟩ := List.pairwise_cons.mp h2
    have e : a = b := by
      have ha := (h a).mp (List.mem_cons_self ..)
      have hb := (h b).mpr (List.mem_cons_self ..)
      rcases List.mem_cons.mp ha with e | e
      · exact e
      · rcases List.mem_cons.mp hb with e2 | e2
        · exact e2.symm
        · have := b1 a e; have := a1 b e2; omega
    subst e
    rw [rising_eq a2 b2 fun k => ?_]
    constructor
    · intro hk
      rcases List.mem_cons.mp ((h k).mp (List.mem_cons_of_mem _ hk)) with e | e
      · have := a1 k hk; omega
      · exact e
    · intro hk
      rcases List.mem_cons.mp ((h k).mpr (List.mem_cons_of_mem _ hk)) with e | e
      · have := b1 k hk; omega
      · exact e
def tSortSet (K : PySem.W.Frag) (ta : TE) : TE := fun σ H Q => ta σ H fun x H1 => ∃ (l : Addr) (ns : List Int), x = .ref l ∧ SqL K H1 l (ns.map V.int) ∧ ns.length ≤ 60 ∧ ∀ p, H1 p = none → Q (.ref p) (upd H1 p (.lst ((sset ns).map V.int)))
theorem pe_sortSet {X : Cx} {a : Expr} {ta : TE} {p p2 q pos : Pos} (hg : Gl X "sorted") (hm : X.mg "sorted" = none) (hg2 : Gl X "set") (hm2 : X.mg "set" = none) (ha : PE X a ta) (hc : X.calm = true)
    (na : starEach [a] X.env = (false, eval a X.env) :: starEach [] X.env := by rfl) : PE X (.Call (.Name "sorted" p) [.Call (.Name "set" p2) [a] [] q] [] pos) (tSortSet X.K ta) := by
  refine ⟨fun pins s σ H Q I h => ?_⟩
  refine Call_ (ld_blt I hg hm boot_sorted ?_)
  refine PyProof.Rows.callWith_builtin1 (PyProof.Rows.args_cons ?_ rfl) rfl rfl
  refine Call_ (ld_blt I hg2 hm2 boot_set ?_)
  refine PyProof.Rows.callWith_type1 (PyProof.Rows.args_cons (thn (ha.run pins s σ H _ I h) fun v s1 ⟨x, H1, I1, r1, q1⟩ => PyProof.Rows.args_nil ?_) na) na rfl
  obtain ⟨l, ns, rfl, hq, hl, q1⟩ := q1
  cases r1
  obtain ⟨its, r, pl, hz⟩ := I1.list hq
  have hi : IntsAre its.toArray.toList ns := ints_of_vals r
  refine call_set_lstI ns (I1.ok.hd hc) pl.isList hi (by unfold scanBound; omega) fun h' tk c hS hcn hk => ?_
  refine PyProof.Rows.args_nil ?_
  have I2 : Inv X pins σ H1 { s1 with heap := h', toks := tk } := I1.kept fun b o e => hk b o e
  refine sorted_set (s := { s1 with heap := h', toks := tk }) hS (I1.ok.hd hc) (by omega) fun s' p out c2 ms k g o hp hg hi hs hm hl2 => ?_
  have he : ms = sset ns := rising_eq hs (pw_sset ns) fun j => by rw [hm, mem_sset, decide_eq_true_eq]
  subst he
  have hlen : ((sset ns).map V.int).length ≤ sizeLine := by rw [List.length_map, hl2, sizeLine_eq]; omega
  have hn : H1 p = none := I2.hok.fresh hp
  have J : Inv X pins σ (upd H1 p (.lst ((sset ns).map V.int))) { s1 with heap := s'.heap, gens := s'.gens, drawn := s'.drawn, toks := s'.toks } :=
    Inv.call (s := { s1 with heap := h', toks := tk }) I2 (ch := []) (Un.laid k hp hn) (I2.hok.laid k hp ⟨hlen, out.toList, c2, vals_of_ints hi, hg⟩) (by rw [g]; exact I2.bare) (fun _ z => nomatch z)
  have e : s' = { s1 with heap := s'.heap, gens := s'.gens, drawn := s'.drawn, toks := s'.toks } := by
    cases s'
    cases s1
    cases o
    rfl
  rw [e]
  exact ⟨.ref p, _, J, rfl, q1 p hn⟩
theorem dq_intsL {K : PySem.W.Frag} {H : Hp} {O : Av} : ∀ ns : List Int, DqL K H O (ns.map .int) (ns.map .int)
  | [] => .nil
  | _ :: ns => .cons (.int _) (dq_intsL ns)
def sortSetD : D → Option D
  | .list ds => (intsT ds).bind fun ns => if ns.length ≤ 60 then some (.list ((sset ns).map .int)) else none
  | _ => none
theorem dn_sortSet {F : Fam} {τ : List Kd} {a : Expr} {f : Rho → Res D} {fl : Fl} {p p2 q pos : Pos} (hm : ∀ i, (F.X i).mg "sorted" = none) (hm2 : ∀ i, (F.X i).mg "set" = none) (h : DnR F τ a f fl) (hg : ∀ i, Gl (F.X i) "sorted" := by intro _; rfl) (hg2 : ∀ i, Gl (F.X i) "set" := by intro _; rfl)
    (na : ∀ i, starEach [a] (F.X i).env = (false, eval a (F.X i).env) :: starEach [] (F.X i).env := by intro _; rfl) (hot0 : F.hot = false := by rfl) : DnE F τ (.Call (.Name "sorted" p) [.Call (.Name "set" p2) [a] [] q] [] pos) (eUn sortSetD f) .s := by
  obtain ⟨t, h1, h2⟩ := h
  refine ⟨tSortSet F.K t, fun i => by have z := pe_sortSet (p := p) (p2 := p2) (q := q) (pos := pos) (hg i) (hm i) (hg2 i) (hm2 i) (h1 i) (F.calm hot0 i) (na i); rw [F.hK i] at z; exact z, fun H0 B ρ σ H Q s p => ?_⟩
  refine h2 H0 B ρ σ H _ s (p.bind.to (Same.refl _) fun d _ p1 v H1 e1 r1 => ?_)
  cases d with
  | list ds =>
    obtain ⟨l, xs, rfl, g1, g2⟩ := r1.list
    cases hl : sortSetD (.list ds) with
    | none => rw [hl] at p1; exact p1.elim
    | some d2 =>
      rw [hl] at p1
      have hl2 : ((intsT ds).bind fun ns => if ns.length ≤ 60 then some (PyData.list ((sset ns).map .int)) else none) = some d2 := hl
      cases hi : intsT ds with
      | none => rw [hi] at hl2; cases hl2
      | some ns =>
        rw [hi, Option.bind_some] at hl2
        have e := intsT_some hi
        subst e
        have e2 := dq_intsT g2
        subst e2
        by_cases hn : ns.length ≤ 60
        · rw [if_pos hn] at hl2
          cases hl2
          exact ⟨l, ns, rfl, g1, hn, fun p hp => p1 _ _ (e1.trans (dom_upd hp)) (new_lst hp (fun a z => dom_mono e1 a z) (dq_intsL _))⟩
        · rw [if_neg hn] at hl2; cases hl2
  | _ => exact p1.elim
/-! ### <= -/
def lexLeAt (ns ms : List Int) : Bool := Ob.lexAt (fun j => decide (ns.getD j 0 = ms.getD j 0)) (fun j => decide (ns.getD j 0 ≤ ms.getD j 0)) (decide (ns.length ≤ ms.length)) 0 (min ns.length ms.length)
def leTD : D → D → Option D
  | .int i, .int j => some (.bool (decide (i ≤ j)))
  | .tuple i, .tuple j => (intsOf i).bind fun ns => (intsOf j).bind fun ms => some (.bool (lexLeAt ns ms))
  | _, _ => none
theorem op_leTD {F : Fam} : OpD F (compareOp .LtE) leTD := by
  refine OpD.mk (r := fun K x y H Q => rI0 (fun i j => .bl (decide (i ≤ j))) x y H Q ∨ rLeT K x y H Q) (fun i => op_le.or (op_leT (by have := units_of i; omega))) ?_
  intro A H x y dx dy d hA rx ry hg Q k
  cases dx with
  | int i =>
    cases dy with
    | int j => cases hg; exact .inl ⟨i, j, rx.int, ry.int, k _ H (Same.refl _) (.bl _)⟩
    | _ => cases hg
  | tuple i =>
    cases dy with
    | tuple j =>
      simp only [leTD] at hg
      cases h1 : intsOf i with
      | none => rw [h1] at hg; cases hg
      | some ns =>
        cases h2 : intsOf j with
        | none => rw [h1, h2] at hg; cases hg
        | some ms =>
          rw [h1, h2] at hg
          cases hg
          obtain ⟨a, xs, rfl, g1, g2⟩ := rx.tuple
          obtain ⟨b, ys, rfl, q1, q2⟩ := ry.tuple
          rw [intsOf_dq g2 h1] at g1
          rw [intsOf_dq q2 h2] at q1
          exact .inr ⟨a, b, ns, ms, rfl, rfl, g1, q1, k _ H (Same.refl _) (.bl _)⟩
    | _ => cases hg
  | _ => cases hg
end Dn
set_option Elab.async false
set_option linter.all false
set_option maxRecDepth 100000
/-! sorted(set(l)), l a list of texts -/
namespace Dn
open PySem PySem.Spec PyProof.Rows L2
/-! ### what a set of texts is -/
def keyOfS (e : Int × Value) : Str := match e.2 with | .str k _ => k | _ => Str.empty
def GoodS (P : Program) (w : World) (e : Int × Value) : Prop := ∃ k tk, e.2 = Value.str k tk ∧ e.1 = (strKind P w).hash k

/-- the set of texts at a: S its members, n their number; its table rises and can be walked -/
def SetRS (P : Program) (w : World) (h : Heap) (a : Addr) (S : Str → Bool) (n : Nat) : Prop :=
  ∃ o es ep t, h.get? a = some o ∧ o.ExactSet ∧ o.data = .set es ep t ∧ (∀ e ∈ es.toList, GoodS P w e) ∧ (es.toList.map keyOfS).Nodup ∧ (∀ k, S k = true ↔ k ∈ es.toList.map keyOfS) ∧
    es.size < scanBound ∧ t.fits es.size = true ∧ es.size = n ∧ Ris t.place.toList ∧ (w.params.followText "set-order" = true ∨ t.led = true)

section
variable {P : Program} {w : World} {h h' : Heap} {a : Addr} {S : Str → Bool} {n : Nat}

theorem SetRS.at (R : SetRS P w h a S n) (k : ∀ o, h.get? a = some o → h'.get? a = some o) : SetRS P w h' a S n := by
  obtain ⟨o, es, ep, t, ho, r⟩ := R
  exact ⟨o, es, ep, t, k o ho, r⟩
theorem SetRS.lt (R : SetRS P w h a S n) : a < h.objs.size := by
  obtain ⟨o, es, ep, t, ho, r⟩ := R
  exact Heap.lt_size ho
theorem SetRS.congr {S' : Str → Bool} (R : SetRS P w h a S n) (e : ∀ k, S' k = S k) : SetRS P w h a S' n := by
  have q : S' = S := funext e
  rw [q]; exact R
theorem good_elemsS {l : List (Int × Value)} (g : ∀ e ∈ l, GoodS P w e) : ElemsOf (strKind P w) l := fun e he => by
  obtain ⟨k, tk, h1, h2⟩ := g e he
  exact ⟨⟨k, by rw [h1]; exact strKind_is P w k tk, h2⟩, by rw [h1] <;> rfl⟩
theorem good_isS {e : Int × Value} (g : GoodS P w e) (k : Str) : (strKind P w).is k e.2 = true ↔ keyOfS e = k := by
  obtain ⟨k0, tk, h1, _⟩ := g
  unfold keyOfS
  rw [h1]
  show ((k0 == k) = true) ↔ k0 = k
  exact beq_iff_eq
theorem good_memS {l : List (Int × Value)} (g : ∀ e ∈ l, GoodS P w e) (k : Str) : k ∈ l.map keyOfS ↔ ∃ e ∈ l, (strKind P w).is k e.2 = true := by
  rw [List.mem_map]
  constructor
  · rintro ⟨e, he, q⟩
    exact ⟨e, he, (good_isS (g e he) k).2 q⟩
  · rintro ⟨e, he, q⟩
    exact ⟨e, he, (good_isS (g e he) k).1 q⟩
theorem SetRS.setOf (R : SetRS P w h a S n) : h.SetOf (strKind P w) a S n := by
  obtain ⟨o, es, ep, t, ho, hx, hd, g, nd, hm, hb, hf, hn, _⟩ := R
  exact ⟨o, es, ep, t, ho, hx, hd, good_elemsS g, fun k => (hm k).trans (good_memS g k), hb, hf, hn⟩
end

section
variable {P : Program} {w : World} {A : Around} {E : Value → Shared → Prop} {s : Shared} {a : Addr} {S : Str → Bool} {n : Nat}

/-! ### add -/
theorem setR_add_tailS {g : Bool → Sem Unit} (hg : ∀ (b : Bool) (s₁ : Shared) (Q' : Unit → Shared → Prop), Q' () s₁ → wpAny (model P w) A (g b) Q' E s₁)
    {o : Obj} {es : Array (Int × Value)} {ep : Nat} {t : SetTable} (ho : s.heap.get? a = some o) (hex : o.ExactSet) (hd : o.data = .set es ep t)
    {es1 : Array (Int × Value)} {t2 : SetTable} {S' : Str → Bool} (g1 : ∀ e ∈ es1.toList, GoodS P w e) (nd1 : (es1.toList.map keyOfS).Nodup) (m1 : ∀ k, S' k = true ↔ k ∈ es1.toList.map keyOfS)
    (hb1 : es1.size < scanBound) (hf2 : t2.fits es1.size = true) (hr : Ris t2.place.toList) (hl : w.params.followText "set-order" = true ∨ t2.led = true) {wasDummy : Bool} {R : Option Bool → Shared → Prop}
    (hR : ∀ h', Heap.SameBut a s.heap h' → SetRS P w h' a S' es1.size → R (some true) { s with heap := h' }) :
    wpAny (model P w) A (do
        storeSet a es1 t2
        if (!wasDummy && t2.tooFull) = true then do
            g (relayAll t2 es1 (SetTable.grown es1.size)).2.2
            storeSet a (relayAll t2 es1 (SetTable.grown es1.size)).1 (relayAll t2 es1 (SetTable.grown es1.size)).2.1
            pure (some true)
          else pure (some true)) R E s := by
  refine wpAny_bind (wpAny_storeSet_of ho hd ?_ (fits_of_scanBound hb1))
  have ho1 := store_at (es' := es1) (t' := t2) ho hd
  have sb1 := Heap.SameBut.update s.heap a (Obj.putSet es1 t2)
  split
  · have pm := relayAll_perm t2 es1 (SetTable.grown es1.size)
    have hf3 := relayAll_fits t2 es1 (SetTable.grown es1.size)
    have hr3 := relayAll_ris t2 es1 (SetTable.grown es1.size)
    have hl3 := relayAll_led t2 es1 (SetTable.grown es1.size)
    generalize relayAll t2 es1 (SetTable.grown es1.size) = Z at pm hf3 hr3 hl3 ⊢
    obtain ⟨es2, t3, gave⟩ := Z
    dsimp only at pm hf3 hr3 hl3 ⊢
    have hsz : es2.size = es1.size := by rw [← Array.length_toList, pm.length_eq, Array.length_toList]
    have hb2 : es2.size < scanBound := by rw [hsz]; exact hb1
    refine wpAny_bind (hg _ _ _ ?_)
    refine wpAny_bind (wpAny_storeSet_of ho1 rfl ?_ (fits_of_scanBound hb2))
    have ho2 := store_at (es' := es2) (t' := t3) ho1 rfl
    refine wpAny_pure (hR _ (sb1.trans (Heap.SameBut.update _ a _)) ?_)
    exact ⟨_, es2, _, t3, ho2, hex, rfl, fun e he => g1 e (pm.mem_iff.mp he), (pm.map keyOfS).nodup_iff.mpr nd1, fun k => (m1 k).trans (pm.map keyOfS).mem_iff.symm, hb2, hf3, hsz, hr3,
      hl.imp id fun z => by rw [hl3]; exact z⟩
  · exact wpAny_pure (hR _ sb1 ⟨_, es1, _, t2, ho1, hex, rfl, g1, nd1, m1, hb1, hf2, rfl, hr, hl⟩)

theorem setR_add_hashedS {k : Str} {tk : Tok} {Q : Bool → Shared → Prop} (R : SetRS P w s.heap a S n) (room : n + 1 < scanBound)
    (hQ : ∀ h', Heap.SameBut a s.heap h' → SetRS P w h' a (fun j => S j || decide (j = k)) (if S k = true then n else n + 1) → Q (!S k) { s with heap := h' }) :
    wpAny (model P w) A (setAddHashed a (.str k tk) ((strKind P w).hash k)) Q E s := by
  obtain ⟨o, es, ep, t, ho, hex, hd, g, nd, hm, hb, hf, hn, hr, hl⟩ := R
  have hkey : (strKind P w).is k (.str k tk) = true := strKind_is P w k tk
  have hsc : (Value.str k tk).scannable = true := rfl
  have hel : ElemsOf (strKind P w) es.toList := good_elemsS g
  unfold setAddHashed setAddHashedIn
  refine wpAny_holding (wpAny_bind (wpAny_setState_of ho hd hf ?_))
  dsimp only
  rw [byScan_of hsc hb hel]
  simp only [↓reduceIte]
  unfold setAddByScan
  refine wpAny_bind ?_
  refine wpAny_bind (wpAny_rule ?_)
  refine wpAny_bind (wpAny_setScan_of hkey ho hd hf hel ?_)
  cases hfi : List.findIdx? (fun e => (strKind P w).is k e.2) es.toList with
  | some j =>
    dsimp only
    obtain ⟨hj, pj, _⟩ := List.findIdx?_eq_some_iff_getElem.mp hfi
    have hSk : S k = true := (hm k).2 ((good_memS (P := P) (w := w) g k).2 ⟨es.toList[j], List.getElem_mem hj, pj⟩)
    refine wpAny_pure (wpAny_pure ?_)
    have q := hQ s.heap (Heap.SameBut.refl a s.heap) ⟨o, es, ep, t, ho, hex, hd, g, nd, fun i => by
      rw [Bool.or_eq_true, decide_eq_true_eq, ← hm i]
      exact ⟨fun z => z.elim id (fun e => e ▸ hSk), .inl⟩, hb, hf, by rw [if_pos hSk]; exact hn, hr, hl⟩
    rw [hSk] at q
    exact q
  | none =>
    dsimp only
    have hnk : k ∉ es.toList.map keyOfS := fun z => by
      obtain ⟨e, he, q⟩ := (good_memS (P := P) (w := w) g k).1 z
      have c := List.findIdx?_eq_none_iff.mp hfi e he
      rw [q] at c
      cases c
    have hSk : S k = false := by
      cases q : S k with
      | false => rfl
      | true => exact absurd ((hm k).1 q) hnk
    have hgw : ∀ (b : Bool) {s₁ : Shared} {Q' : Unit → Shared → Prop}, Q' () s₁ → wpAny (model P w) A (match b with | true => rule "set.scan.the-table-gave-way" | false => pure ()) Q' E s₁ :=
      fun b s₁ Q' q => by cases b <;> first | exact wpAny_pure q | exact wpAny_rule q
    have pm := layNew_perm t es ((strKind P w).hash k) (.str k tk)
    have hf1 := layNew_fits t es ((strKind P w).hash k) (.str k tk)
    have hr1 := layNew_ris t es ((strKind P w).hash k) (.str k tk) hr
    have hl1 := layNew_led t es ((strKind P w).hash k) (.str k tk)
    generalize layNew t es ((strKind P w).hash k) (.str k tk) = Z at pm hf1 hr1 hl1 ⊢
    obtain ⟨es1, t1, wasDummy, gave⟩ := Z
    dsimp only at pm hf1 hr1 hl1 ⊢
    rw [Array.toList_push] at pm
    have pc : es1.toList.Perm (((strKind P w).hash k, Value.str k tk) :: es.toList) := pm.trans (List.perm_append_singleton _ _)
    have pk : (es1.toList.map keyOfS).Perm (k :: es.toList.map keyOfS) := pc.map keyOfS
    have g1 : ∀ e ∈ es1.toList, GoodS P w e := fun e he => by
      rcases List.mem_cons.mp (pc.mem_iff.mp he) with z | z
      · rw [z]; exact ⟨k, tk, rfl, rfl⟩
      · exact g e z
    have nd1 : (es1.toList.map keyOfS).Nodup := pk.nodup_iff.mpr (List.nodup_cons.mpr ⟨hnk, nd⟩)
    have m1 : ∀ i, (S i || decide (i = k)) = true ↔ i ∈ es1.toList.map keyOfS := fun i => by
      rw [Bool.or_eq_true, decide_eq_true_eq, hm i, pk.mem_iff, List.mem_cons]
      exact Or.comm
    have hsz : es1.size = n + 1 := by rw [← Array.length_toList, pc.length_eq, List.length_cons, Array.length_toList, hn]
    have hb1 : es1.size < scanBound := by rw [hsz]; exact room
    have hled : w.params.followText "set-order" = true ∨ t1.led = true := hl.imp id fun z => by rw [hl1]; exact z
    have fin : ∀ h', Heap.SameBut a s.heap h' → SetRS P w h' a (fun j => S j || decide (j = k)) es1.size → Q true { s with heap := h' } := fun h' sb r => by
      have q := hQ h' sb
      rw [hSk] at q
      rw [hsz] at r
      exact q r
    refine wpAny_bind (hgw _ ?_)
    split
    · refine wpAny_bind ?_
      rw [hashByValue_scannable 8 hsc]
      refine wpAny_pure ?_
      refine setR_add_tailS ?_ ho hex hd g1 nd1 m1 hb1 ?_ ?_ ?_ ?_
      · intro b s₁ Q' q; cases b <;> first | exact wpAny_pure q | exact wpAny_rule q
      · first | (split <;> first | exact hf1 | exact SetTable.fits_plain_off hf1) | exact hf1
      · first | (split <;> exact hr1) | exact hr1
      · first | (split <;> exact hled) | exact hled
      · intro h' sb r; dsimp only; exact wpAny_pure (fin h' sb r)
    · refine wpAny_bind (wpAny_pure ?_)
      simp only [↓reduceIte]
      refine setR_add_tailS ?_ ho hex hd g1 nd1 m1 hb1 hf1 hr1 hled ?_
      · intro b s₁ Q' q; cases b <;> first | exact wpAny_pure q | exact wpAny_rule q
      · intro h' sb r; dsimp only; exact wpAny_pure (fin h' sb r)


end

theorem setR_new_atS {w : World} {h : Heap} {a : Addr} {ns : List Str} (ho : h.get? a = some { cls := .type "set", dict := none, data := .set #[] 0 (.fresh 0 0 (!w.params.followText "set-order")) }) : SetRS P w h a (fun j => decide (j ∈ ns.take 0)) 0 :=
  ⟨_, #[], 0, _, ho, ⟨rfl, rfl, rfl⟩, rfl, (fun e he => by simp at he), (by simp), (fun k => by simp), (by decide), (by rfl), rfl, List.Pairwise.nil, by
    show _ ∨ (!w.params.followText "set-order") = true
    cases w.params.followText "set-order"
    · exact .inr rfl
    · exact .inl rfl⟩
section
variable {P : Program} {w : World} {A : Around} {E : Value → Shared → Prop} {s : Shared}
theorem set_update_strs {I : Addr} {fp wr : List Addr} {G : Array GenState → Array GenState → Prop} {n : Nat} {Pv : Nat → Value → Prop} {St : Nat → Shared → Prop} {R : Result → Shared → Prop}
    (W : WalksS P w A.in1 I fp wr G n Pv St) (S : Addr) (hSf : S ∉ fp) (ns : List Str) (hn : n = ns.length) (hb : ns.length + 1 < scanBound) (hval : ∀ i v, Pv i v → ∃ k t, ns[i]? = some k ∧ v = .str k t) :
    ∀ (k i : Nat) (s : Shared), n - i = k → i ≤ n → St i s → (∃ c, c ≤ i ∧ SetRS P w s.heap S (fun j => decide (j ∈ ns.take i)) c) →
      (∀ s' c, Moved (S :: wr) G s s' → c ≤ n → SetRS P w s'.heap S (fun j => decide (j ∈ ns)) c → R (.ok (.ret .none)) s') →
      codeAny (model P w) A (.builtin "set.update.loop" ⟨[.ref S, .ref I], []⟩) R s := by
  have hSw : S ∉ wr := fun h => hSf (W.sub _ h)
  have hsub : ∀ b ∈ wr, b ∈ S :: wr := fun b hb => List.mem_cons_of_mem _ hb
  intro k
  induction k with
  | zero =>
    intro i s hk' hi hst ⟨c, hc, hS⟩ hR
    have hin : i = n := by omega
    subst hin
    refine codeAny_builtin F.entry_set_update_loop ?_
    rw [Around.under_plainId F.plain_set_update_loop _]
    show wpAny _ A.in1 (pyNext (.ref I) >>= _) _ _ s
    refine wpAny_bind (W.done s _ _ hst fun s' hm => ?_)
    show wpAny _ A.in1 (ret Value.none) _ _ s'
    have e : ns.take i = ns := List.take_of_length_le (by omega)
    rw [e] at hS
    exact wpAny_pure (hR s' c (hm.mono hsub) hc (hS.at fun o e => hm.heap S o hSw e))
  | succ k ih =>
    intro i s hk' hi hst ⟨c, hc, hS⟩ hR
    have hlt : i < n := by omega
    refine codeAny_builtin F.entry_set_update_loop ?_
    rw [Around.under_plainId F.plain_set_update_loop _]
    show wpAny _ A.in1 (pyNext (.ref I) >>= _) _ _ s
    refine wpAny_bind (W.item i s _ _ hlt hst fun v s' hP hst' hm => ?_)
    obtain ⟨z, t, hz, rfl⟩ := hval i v hP
    have hS' : SetRS P w s'.heap S (fun j => decide (j ∈ ns.take i)) c := hS.at fun o e => hm.heap S o hSw e
    show wpAny _ A.in1 (holding [Value.str z t] (setAdd S (.str z t)) >>= _) _ _ s'
    refine wpAny_bind (wpAny_holding ?_)
    unfold setAdd
    refine wpAny_holding ?_
    refine wpAny_bind ((strKind P w).pyHash (k := z) (strKind_is _ _ _ _) ?_)
    refine setR_add_hashedS (s := { s' with toks := s'.toks + 1 }) hS' (by omega) fun h' hsb hS2 => ?_
    have hS3 : SetRS P w h' S (fun j => decide (j ∈ ns.take (i + 1))) (if decide (z ∈ ns.take i) = true then c else c + 1) := hS2.congr fun j => by
      rw [List.take_add_one, hz]
      simp [List.mem_append]
    have hc3 : (if decide (z ∈ ns.take i) = true then c else c + 1) ≤ i + 1 := by
      split <;> omega
    refine wpAny_pure ⟨plainId_quiet F.plain_set_update_loop _, ih (i + 1) _ (by omega) hlt (W.frame _ s' _ _ hst' (Nat.le_succ _) fun b hb o e => ?_) ⟨_, hc3, hS3⟩ fun s'' c2 hm'' hc'' hS'' => ?_⟩
    · rw [hsb.2 b (fun h : b = S => hSf (by rw [← h]; exact hb))]; exact e
    · refine hR s'' c2 (Moved.trans W.gtrans ((hm.mono hsub).then_heap (Nat.le_succ _) fun b o hb e => ?_) hm'') hc'' hS''
      rw [hsb.2 b (fun h : b = S => hb (by rw [h]; exact List.mem_cons_self))]; exact e

set_option maxRecDepth 100000 in
set_option maxHeartbeats 3200000 in
theorem call_set_lstS {l : Addr} {items : Array Value} (ns : List Str) {Q : Value → Shared → Prop} (hh : A.handled = none) (hl : s.heap.IsList l items) (hisz : items.size = ns.length) (hit : ∀ (i : Nat) (v : Value), items[i]? = some v → ∃ k t, ns[i]? = some k ∧ v = Value.str k t) (hb : ns.length + 1 < scanBound)
    (h : ∀ (h' : Heap) (tk c : Nat), SetRS P w h' s.heap.objs.size (fun j => decide (j ∈ ns)) c → c ≤ ns.length → (∀ b o, s.heap.get? b = some o → h'.get? b = some o) → Q (.ref s.heap.objs.size) { s with heap := h', toks := tk }) :
    wpAny (model P w) A (call (.type "set") [.ref l]) Q E s := by
  obtain ⟨c, tl, hmro⟩ := F.called_set.mro
  have hmade := F.called_set.made
  have hsub := F.called_set.sub
  refine wpAny_call (codeAny_of_tree ?_)
  show wpAny _ _ (callAny (.type "set") _) _ _ _
  refine wpAny_pure ⟨Code.quiet_builtin _ (by decide +kernel), codeAny_builtin F.entry_type_call ?_⟩
  rw [Around.under_plain (weight_type_call_type "set" [.ref l] []) rfl]
  have h1 := F.called_set.notType
  have h2 := F.called_set.canCreate
  have hct := F.typeCall_set_1 (.ref l)
  repeat (any_goals (first | assumption | wp_step))

  refine codeAny_mono (code_set_led1 (.ref l) (E := E) (Q₁ := fun obj s₁ => obj = .ref s.heap.objs.size ∧ s₁ = { s with heap := s.heap.push { cls := .type "set", dict := none, data := .set #[] 0 (.fresh 0 0 (!w.params.followText "set-order")) } }) ⟨rfl, rfl⟩) fun r s₁ hr => ?_
  cases r with
  | error e => exact hr
  | ok fl =>
    cases fl with
    | ret obj =>
      obtain ⟨rfl, rfl⟩ := hr
      have hS : (s.heap.push { cls := .type "set", dict := none, data := .set #[] 0 (.fresh 0 0 (!w.params.followText "set-order")) }).get? s.heap.objs.size = some { cls := .type "set", dict := none, data := .set #[] 0 (.fresh 0 0 (!w.params.followText "set-order")) } := Heap.get?_push_size _ rfl
      have hT : Shared.TypeIs { s with heap := s.heap.push { cls := .type "set", dict := none, data := .set #[] 0 (.fresh 0 0 (!w.params.followText "set-order")) } } (.ref s.heap.objs.size) "set" := ⟨_, hS, rfl⟩
      have hli := F.called_set.init.lookup
      have hbi := F.called_set.init.bind (.ref s.heap.objs.size)
      repeat (any_goals (first | assumption | wp_step))

      refine codeAny_mono (codeAny_call_builtin (R := wants (fun r s₂ => r = .none ∧ ∃ h' tk c, s₂ = { s with heap := h', toks := tk } ∧ SetRS P w h' s.heap.objs.size (fun j => decide (j ∈ ns)) c ∧ c ≤ ns.length ∧
          (∀ b o, s.heap.get? b = some o → h'.get? b = some o)) E) F.called_set.init.plain F.entry_set_init (check_set_init_1 hT ?_)) fun r₂ s₂ hr₂ => ?_
      · obtain ⟨ol, hol, hcl, nl, hdl⟩ := hl
        obtain ⟨ocls, odict, odata, oslots⟩ := ol
        simp only at hcl hdl
        subst hcl; subst hdl
        have hol' : (s.heap.push { cls := .type "set", dict := none, data := .set #[] 0 (.fresh 0 0 (!w.params.followText "set-order")) }).get? l = some { cls := .type "list", dict := odict, data := .seq items nl, slots := oslots } := Heap.get?_push_of_some _ hol
        have hsls := F.sub_list_set
        have hslf := F.sub_list_frozenset
        have hne : (Value.type "list" == Value.type "dict") = false := by decide
        have hl1 : (s.heap.push { cls := .type "set", dict := none, data := .set #[] 0 (.fresh 0 0 (!w.params.followText "set-order")) }).IsList l items := ⟨_, hol', rfl, nl, rfl⟩
        unfold Builtin.«set.__init__» noKeywords Builtin.Frozenset.updateFrom
        generalize hPI : pyIter = PI
        wp_walk
        subst hPI

        refine wpAny_pyIter_list hl1 ?_
        refine wpAny_bind (wpAny_runValue ?_)
        have hlS : l < s.heap.objs.size := Heap.lt_size hol
        have hh3 : A.in1.in1.in1.handled = none := by simp [hh]
        have hz1 : (s.heap.push { cls := .type "set", dict := none, data := .set #[] 0 (.fresh 0 0 (!w.params.followText "set-order")) }).objs.size = s.heap.objs.size + 1 := Heap.size_push ..
        have hneI : l ≠ (s.heap.push { cls := .type "set", dict := none, data := .set #[] 0 (.fresh 0 0 (!w.params.followText "set-order")) }).objs.size := by
          rw [Heap.size_push]; exact Nat.ne_of_lt (Nat.lt_succ_of_lt hlS)
        have hSf : s.heap.objs.size ∉ [(s.heap.push { cls := .type "set", dict := none, data := .set #[] 0 (.fresh 0 0 (!w.params.followText "set-order")) }).objs.size, l] := by
          rw [Heap.size_push]; simp only [List.mem_cons, List.mem_singleton, List.not_mem_nil, or_false, not_or]
          exact ⟨Nat.ne_of_lt (Nat.lt_succ_self _), Nat.ne_of_gt hlS⟩
        have hval := hit
        refine set_update_strs ((Walks.list hh3 _ l hneI items).toS) s.heap.objs.size
          hSf ns hisz hb hval (items.size - 0) 0 _ (by omega) (Nat.zero_le _)
          ⟨⟨_, Heap.get?_push_size _ rfl, rfl, rfl⟩, (hl1.push _)⟩ ?hS0 ?hR
        case hS0 =>
          have hget : ((s.heap.push { cls := .type "set", dict := none, data := .set #[] 0 (.fresh 0 0 (!w.params.followText "set-order")) }).push { cls := .type "list_iterator", data := .fields #[.ref l, .int 0 0] }).get? s.heap.objs.size
              = some { cls := .type "set", dict := none, data := .set #[] 0 (.fresh 0 0 (!w.params.followText "set-order")) } := Heap.get?_push_of_some _ hS
          exact ⟨0, Nat.le_refl 0, setR_new_atS hget⟩
        case hR =>
          intro s' c' hm hc' hS'
          obtain ⟨h', g2, d', tk', os'⟩ := s'
          have eg : g2 = s.gens := hm.gens
          have ed : d' = s.drawn := hm.drawn
          have eo : os' = s.os := hm.os
          subst eg; subst ed; subst eo
          show wpAny _ _ _ _ _ _
          refine wpAny_pure ?_
          show wpAny _ _ (ret Value.none) _ _ _
          rw [hisz] at hc'
          refine wpAny_pure ⟨rfl, h', tk', c', rfl, hS', hc', fun b o e => ?_⟩
          have hb0 : b < s.heap.objs.size := Heap.lt_size e
          have hb1 : b ≠ s.heap.objs.size := Nat.ne_of_lt hb0
          have hb2 : b ≠ (s.heap.push { cls := .type "set", dict := none, data := .set #[] 0 (.fresh 0 0 (!w.params.followText "set-order")) }).objs.size := by
            rw [Heap.size_push]; exact Nat.ne_of_lt (Nat.lt_succ_of_lt hb0)
          exact hm.heap b o (by simp only [List.mem_cons, List.mem_singleton, List.not_mem_nil, or_false, not_or]; exact ⟨hb1, hb2⟩) (Heap.get?_push_of_some _ (Heap.get?_push_of_some _ e))

      · cases r₂ with
        | error e => exact hr₂
        | ok fl₂ =>
          cases fl₂ with
          | ret r =>
            obtain ⟨rfl, h', tk, c', rfl, hS', hc', hk'⟩ := hr₂
            repeat (any_goals (first | assumption | wp_step))
            exact h _ _ _ hS' hc' hk'
          | _ => exact hr₂.elim
    | _ => exact hr.elim

end


end Dn
set_option Elab.async false
set_option linter.all false
set_option maxRecDepth 100000
/-! sorted(a set of texts) -/
namespace Dn
open PySem PySem.Spec PySem.Calls PyProof.Rows PySem.W L2

section
variable {P : Program} {w : World} {A : Around} {E : Value → Shared → Prop} {s : Shared}
open PySem.W (AllAlike Sortable EachIs dataLe alike)
def vStr (v : Value) : Str := match v with | .str k _ => k | _ => Str.empty
def IsS (v : Value) (z : Str) : Prop := ∃ t, v = Value.str z t
theorem each_strs : ∀ {vs : List Value}, (∀ v ∈ vs, ∃ k t, v = Value.str k t) → EachIs IsS vs (vs.map vStr)
  | [], _ => .nil
  | v :: vs, h => by
    obtain ⟨k, t, rfl⟩ := h v (List.mem_cons_self ..)
    exact .cons ⟨t, rfl⟩ (each_strs fun v hv => h v (List.mem_cons_of_mem _ hv))
theorem sorted_setS {a : Addr} {S : Str → Bool} {n : Nat} {Q : Value → Shared → Prop} (R : SetRS P w s.heap a S n) (hh : A.handled = none) (h60 : n ≤ 60) (hu : A.units + 100 < cLine)
    (hal : ∀ zs : List Str, (∀ k ∈ zs, S k = true) → AllAlike (zs.map PyData.str) ∧ Sortable (zs.map PyData.str) ∧ ∀ d ∈ zs.map PyData.str, d.depth ≤ 10)
    (hQ : ∀ s' p (out : List Value) (c : Nat) (zs : List Str), (∀ b o, s.heap.get? b = some o → s'.heap.get? b = some o) → s'.gens = s.gens → s'.os = s.os → s.heap.objs.size ≤ p →
      s'.heap.get? p = some (seqObj "list" out.toArray c) → EachIs IsS out (zs.mergeSort (dataLe false PyData.str)) → zs.Nodup → (∀ k, k ∈ zs ↔ S k = true) → Q (.ref p) s') :
    wpAny (model P w) A (call (.builtin "sorted") [.ref a]) Q E s := by
  obtain ⟨o, es, ep, t, ho, hex, hd, g, nd, hm, hb, hf, hn, hr, hl⟩ := R
  refine Calls.call_function_entry kind_sorted plain_sorted entry_sorted (args_sorted1 _) ?_
  unfold Builtin.«sorted»
  refine wpAny_bind (m := checkCount "sorted" 1 1 _) (wpAny_pure ?_)
  refine wpAny_bind (collect_set (A := A.in1) hh ⟨o, ho, hex.1, hd⟩ hf hb hr hl fun s1 vs k1 hz g1 o1 pm => ?_)
  have hvl : vs.length = n := by rw [pm.length_eq, List.length_map, Array.length_toList]; exact hn
  have hI : EachIs IsS vs (vs.map vStr) := each_strs fun v hv => by
    obtain ⟨e, he, q⟩ := List.mem_map.mp (pm.mem_iff.mp hv)
    obtain ⟨k, tk, h1, _⟩ := g e he
    exact ⟨k, tk, by rw [← q]; exact h1⟩
  have pk : (vs.map vStr).Perm (es.toList.map keyOfS) := by
    have q := pm.map vStr
    rw [List.map_map] at q
    exact q
  have ndz : (vs.map vStr).Nodup := pk.nodup_iff.mpr nd
  have mz : ∀ k, k ∈ vs.map vStr ↔ S k = true := fun k => by rw [pk.mem_iff, ← hm k]
  obtain ⟨al, so, de⟩ := hal (vs.map vStr) fun k hk => (mz k).mp hk
  refine wpAny_bind (wpAny_newList ?_ (by rw [hvl, sizeLine_eq]; omega))
  have hoL : (s1.heap.push (seqObj "list" vs.toArray 0)).get? s1.heap.objs.size = some (seqObj "list" vs.toArray 0) := Heap.get?_push_size _ rfl
  have er : ∀ h : Heap, EachIs (fun v z => ∃ as, Reads h v (PyData.str z) as) vs (vs.map vStr) := fun h => hI.mono fun _ _ ⟨t, e⟩ => ⟨_, by rw [e]; exact .str _ _⟩
  refine wpAny_bind (wpAny_holding (wpAny_call_entry_kw slot_list_sort ⟨_, hoL, rfl⟩ entry_list_sort ?_ (args_list_sort _)))
  have Srt := PySem.W.SortsAt.data (prog := P) (w := w) (A := A.in1.in1) (s := { s1 with heap := sortingHeap (s1.heap.push (seqObj "list" vs.toArray 0)) s1.heap.objs.size vs }) (PySem.W.each_map (R := fun v d => ∃ as, Reads (sortingHeap (s1.heap.push (seqObj "list" vs.toArray 0)) s1.heap.objs.size vs) v d as) PyData.str (er _)) al so (fun d hd => by
    have := de d hd
    show A.units + 2 + d.depth < cLine
    omega)
  refine PySem.W.list_sort_vals (s := { s1 with heap := s1.heap.push (seqObj "list" vs.toArray 0) }) hoL Srt (by rw [hvl, sizeLine_eq]; omega) ?_
  obtain ⟨c, hc⟩ := sortedHeap_at (vs := vs) (out := (PySem.W.sortVals (PySem.W.dataKind (sortingHeap (s1.heap.push (seqObj "list" vs.toArray 0)) s1.heap.objs.size vs) ((vs.map vStr).map PyData.str)) false vs vs).toArray) hoL
  refine ⟨_, rfl, wpAny_pure ⟨_, rfl, hQ _ s1.heap.objs.size _ c (vs.map vStr) (fun b u e => ?_) g1 o1 hz hc (PySem.W.sortVals_data false hI (er _) al) ndz mz⟩⟩
  have q := k1 b u e
  have hlt := Heap.lt_size q
  show (sortedHeap (s1.heap.push (seqObj "list" vs.toArray 0)) s1.heap.objs.size vs _).get? b = some u
  rw [sortedHeap_old (Nat.ne_of_lt hlt) (by rw [size_push']; exact Nat.lt_succ_of_lt hlt)]
  exact Heap.get?_push_of_some _ q
end
end Dn
set_option Elab.async false
set_option linter.all false
set_option maxRecDepth 100000
/-! sorted(set(l)), l a list of texts, over data -/
namespace Dn
open PySem PySem.Spec PyProof.Rows L2
open PySem.W (AllAlike Sortable EachIs dataLe alike)
def leS (a b : Str) : Bool := decide (a.cps.toList ≤ b.cps.toList)
theorem leS_eq : (dataLe false PyData.str : Str → Str → Bool) = leS := PySem.W.dataLe_str (fun z : Str => z)
theorem leS_trans {a b c : Str} (h1 : leS a b = true) (h2 : leS b c = true) : leS a c = true := decide_eq_true (List.le_trans (of_decide_eq_true h1) (of_decide_eq_true h2))
theorem leS_total (a b : Str) : (leS a b || leS b a) = true := by
  rcases List.le_total a.cps.toList b.cps.toList with h | h
  · rw [show leS a b = true from decide_eq_true h]; rfl
  · rw [show leS b a = true from decide_eq_true h, Bool.or_true]
theorem leS_anti {a b : Str} (h1 : leS a b = true) (h2 : leS b a = true) : a = b := PySem.W.str_of_cps (List.le_antisymm (of_decide_eq_true h1) (of_decide_eq_true h2))
def insT (a : Str) : List Str → List Str
  | [] => [a]
  | b :: l => if a = b then b :: l else if leS a b = true then a :: b :: l else b :: insT a l
def ssetS : List Str → List Str
  | [] => []
  | a :: l => insT a (ssetS l)
theorem mem_insT {a k : Str} : ∀ {l : List Str}, k ∈ insT a l ↔ k = a ∨ k ∈ l
  | [] => by simp [insT]
  | b :: l => by
    unfold insT
    by_cases h : a = b
    · rw [if_pos h, h]; simp
    · rw [if_neg h]
      by_cases h2 : leS a b = true
      · rw [if_pos h2]; simp
      · rw [if_neg h2, List.mem_cons, mem_insT, List.mem_cons]
        constructor
        · rintro (h | h | h)
          · exact .inr (.inl h)
          · exact .inl h
          · exact .inr (.inr h)
        · rintro (h | h | h)
          · exact .inr (.inl h)
          · exact .inl h
          · exact .inr (.inr h)
theorem mem_ssetS {k : Str} : ∀ {l : List Str}, k ∈ ssetS l ↔ k ∈ l
  | [] => Iff.rfl
  | a :: l => by unfold ssetS; rw [mem_insT, mem_ssetS, List.mem_cons]
def ltS (a b : Str) : Prop := leS a b = true ∧ a ≠ b
theorem pw_insT {a : Str} : ∀ {l : List Str}, l.Pairwise ltS → (insT a l).Pairwise ltS
  | [], _ => by unfold insT; simp
  | b :: l, h => by
    obtain ⟨h1, h2⟩ := List.pairwise_cons.mp h
    unfold insT
    by_cases e : a = b
    · rw [if_pos e]; exact h
    · rw [if_neg e]
      by_cases hab : leS a b = true
      · rw [if_pos hab]
        refine List.pairwise_cons.mpr ⟨fun x hx => ?_, h⟩
        rcases List.mem_cons.mp hx with ex | ex
        · rw [ex]; exact ⟨hab, e⟩
        · have q := h1 x ex
          refine ⟨leS_trans hab q.1, fun z => ?_⟩
          subst z
          exact q.2 (leS_anti q.1 hab)
      · rw [if_neg hab]
        have hba : leS b a = true := by
          have := leS_total a b
          rw [Bool.or_eq_true] at this
          exact this.resolve_left hab
        refine List.pairwise_cons.mpr ⟨fun x hx => ?_, pw_insT h2⟩
        rcases mem_insT.mp hx with ex | ex
        · rw [ex]; exact ⟨hba, fun z => e z.symm⟩
        · exact h1 x ex
theorem pw_ssetS : ∀ l : List Str, (ssetS l).Pairwise ltS
  | [] => .nil
  | a :: l => pw_insT (pw_ssetS l)
theorem rising_eqS : ∀ {l m : List Str}, l.Pairwise ltS → m.Pairwise ltS → (∀ k, k ∈ l ↔ k ∈ m) → l = m
  | [], [], _, _, _ => rfl
  | [], b :: m, _, _, h => absurd ((h b).mpr (List.mem_cons_self ..)) (by simp)
  | a :: l, [], _, _, h => absurd ((h a).mp (List.mem_cons_self ..)) (by simp)
  | a :: l, b :: m, h1, h2, h => by
    obtain ⟨a1, a2⟩ := List.pairwise_cons.mp h1
    obtain ⟨b1, b2⟩ := List.pairwise_cons.mp h2
    have e : a = b := by
      rcases List.mem_cons.mp ((h a).mp (List.mem_cons_self ..)) with e | e
      · exact e
      · rcases List.mem_cons.mp ((h b).mpr (List.mem_cons_self ..)) with e2 | e2
        · exact e2.symm
        · exact leS_anti (a1 b e2).1 (b1 a e).1
    subst e
    rw [rising_eqS a2 b2 fun k => ?_]
    constructor
    · intro hk
      rcases List.mem_cons.mp ((h k).mp (List.mem_cons_of_mem _ hk)) with e | e
      · exact absurd e.symm (a1 k hk).2
      · exact e
    · intro hk
      rcases List.mem_cons.mp ((h k).mpr (List.mem_cons_of_mem _ hk)) with e | e
      · exact absurd e.symm (b1 k hk).2
      · exact e
theorem sort_strs {zs us : List Str} (nd : zs.Nodup) (h : ∀ k, k ∈ zs ↔ k ∈ us) : zs.mergeSort leS = ssetS us := by
  have hp := List.mergeSort_perm zs leS
  have ps : (zs.mergeSort leS).Pairwise (fun a b => leS a b = true) := List.pairwise_mergeSort (le := leS) (fun a b c h1 h2 => leS_trans h1 h2) (fun a b => leS_total a b) zs
  have nd2 : (zs.mergeSort leS).Nodup := hp.nodup_iff.mpr nd
  refine rising_eqS ?_ (pw_ssetS us) fun k => by rw [hp.mem_iff, mem_ssetS, h]
  exact (List.Pairwise.and ps nd2)
theorem vals_of_strs : ∀ {out : List Value} {zs : List Str}, EachIs IsS out zs → Vals (zs.map V.str) out
  | _, _, .nil => .nil
  | _, _, .cons h t => .cons h (vals_of_strs t)
theorem sort_all {us zs : List Str} (hs : ∀ z ∈ us, SeqAt.shaped (.str z) = true) (h : ∀ k ∈ zs, k ∈ us) : AllAlike (zs.map PyData.str) ∧ Sortable (zs.map PyData.str) ∧ ∀ d ∈ zs.map PyData.str, d.depth ≤ 10 := by
  have key : sortOk (zs.map PyData.str) = true := by
    unfold sortOk alikeAllB
    simp only [Bool.and_eq_true, List.all_eq_true, Bool.or_eq_true]
    refine ⟨⟨fun d hd e he => ?_, .inr fun d hd => ?_⟩, fun d hd => ?_⟩
    · obtain ⟨z, _, rfl⟩ := List.mem_map.mp hd
      obtain ⟨y, _, rfl⟩ := List.mem_map.mp he
      rfl
    · obtain ⟨z, _, rfl⟩ := List.mem_map.mp hd; rfl
    · obtain ⟨z, hz, rfl⟩ := List.mem_map.mp hd
      exact hs z (h z hz)
  obtain ⟨h1, h2, h3⟩ := sortOk_of key
  refine ⟨h1, h2, fun d hd => ?_⟩
  obtain ⟨z, _, rfl⟩ := List.mem_map.mp hd
  exact Nat.zero_le _
def tSortSetS (K : PySem.W.Frag) (ta : TE) : TE := fun σ H Q => ta σ H fun x H1 => ∃ (l : Addr) (zs : List Str), x = .ref l ∧ SqL K H1 l (zs.map V.str) ∧ zs.length ≤ 60 ∧ (∀ z ∈ zs, SeqAt.shaped (.str z) = true) ∧ ∀ p, H1 p = none → Q (.ref p) (upd H1 p (.lst ((ssetS zs).map V.str)))
theorem pe_sortSetS {X : Cx} {a : Expr} {ta : TE} {p p2 q pos : Pos} (hg : Gl X "sorted") (hm : X.mg "sorted" = none) (hg2 : Gl X "set") (hm2 : X.mg "set" = none) (ha : PE X a ta) (hc : X.calm = true) (hu : X.A.units + 190 < cLine)
    (na : starEach [a] X.env = (false, eval a X.env) :: starEach [] X.env := by rfl) : PE X (.Call (.Name "sorted" p) [.Call (.Name "set" p2) [a] [] q] [] pos) (tSortSetS X.K ta) := by
  refine ⟨fun pins s σ H Q I h => ?_⟩
  refine Call_ (ld_blt I hg hm boot_sorted ?_)
  refine PyProof.Rows.callWith_builtin1 (PyProof.Rows.args_cons ?_ rfl) rfl rfl
  refine Call_ (ld_blt I hg2 hm2 boot_set ?_)
  refine PyProof.Rows.callWith_type1 (PyProof.Rows.args_cons (thn (ha.run pins s σ H _ I h) fun v s1 ⟨x, H1, I1, r1, q1⟩ => PyProof.Rows.args_nil ?_) na) na rfl
  obtain ⟨l, zs, rfl, hq, hl, hsh, q1⟩ := q1
  cases r1
  obtain ⟨its, r, pl, hz⟩ := I1.list hq
  have hlen := r.length
  rw [List.length_map] at hlen
  refine call_set_lstS zs (I1.ok.hd hc) pl.isList (by rw [List.size_toArray]; omega) (fun i v hv => ?_) (by unfold scanBound; omega) fun h' tk c hS hcn hk => ?_
  · rw [List.getElem?_toArray] at hv
    have hi : i < zs.length := by have := (List.getElem?_eq_some_iff.mp hv).1; omega
    have hx : (zs.map V.str)[i]? = some (.str zs[i]) := by rw [List.getElem?_map, List.getElem?_eq_getElem hi]; rfl
    obtain ⟨u, h1, h2⟩ := Vals.get r hx
    rw [hv] at h1
    cases h1
    obtain ⟨t, e⟩ := h2
    exact ⟨zs[i], t, List.getElem?_eq_getElem hi, e⟩
  refine PyProof.Rows.args_nil ?_
  have I2 : Inv X pins σ H1 { s1 with heap := h', toks := tk } := I1.kept fun b o e => hk b o e
  refine sorted_setS (s := { s1 with heap := h', toks := tk }) hS (I1.ok.hd hc) (by omega) (by omega) (fun us hus => sort_all hsh fun k hk => of_decide_eq_true (hus k hk)) fun s' p out c2 us k g o hp hg he nd hm => ?_
  have hse : us.mergeSort (dataLe false PyData.str) = ssetS zs := by rw [leS_eq]; exact sort_strs nd fun k => by rw [hm, decide_eq_true_eq]
  rw [hse] at he
  have hv := vals_of_strs he
  have hle : (ssetS zs).length ≤ zs.length := by
    have : ∀ zs : List Str, (ssetS zs).length ≤ zs.length := by
      intro zs
      induction zs with
      | nil => exact Nat.le_refl _
      | cons a l ih =>
        have : ∀ m : List Str, (insT a m).length ≤ m.length + 1 := by
          intro m
          induction m with
          | nil => exact Nat.le_refl _
          | cons b m ihm =>
            unfold insT
            split
            · exact Nat.le_succ _
            · split
              · exact Nat.le_refl _
              · simp only [List.length_cons]; omega
        show (insT a (ssetS l)).length ≤ l.length + 1
        have := this (ssetS l)
        omega
    exact this zs
  have hll : ((ssetS zs).map V.str).length ≤ sizeLine := by rw [List.length_map, sizeLine_eq]; omega
  have hn : H1 p = none := I2.hok.fresh hp
  have J : Inv X pins σ (upd H1 p (.lst ((ssetS zs).map V.str))) { s1 with heap := s'.heap, gens := s'.gens, drawn := s'.drawn, toks := s'.toks } :=
    Inv.call (s := { s1 with heap := h', toks := tk }) I2 (ch := []) (Un.laid k hp hn) (I2.hok.laid k hp ⟨hll, out, c2, hv, hg⟩) (by rw [g]; exact I2.bare) (fun _ z => nomatch z)
  have e : s' = { s1 with heap := s'.heap, gens := s'.gens, drawn := s'.drawn, toks := s'.toks } := by
    cases s'
    cases s1
    cases o
    rfl
  rw [e]
  exact ⟨.ref p, _, J, rfl, q1 p hn⟩
def strsT : List D → Option (List Str)
  | [] => some []
  | .str z :: ds => (strsT ds).map (z :: ·)
  | _ :: _ => none
theorem strsT_some : ∀ {ds : List D} {zs : List Str}, strsT ds = some zs → ds = zs.map .str
  | [], zs, h => by cases h; rfl
  | .str z :: ds, zs, h => by
    unfold strsT at h
    cases e : strsT ds with
    | none => rw [e] at h; cases h
    | some ms => rw [e] at h; cases h; rw [strsT_some e]; rfl
  | .none :: _, _, h => by cases h
  | .bool _ :: _, _, h => by cases h
  | .int _ :: _, _, h => by cases h
  | .list _ :: _, _, h => by cases h
  | .tuple _ :: _, _, h => by cases h
  | .dict _ :: _, _, h => by cases h
theorem dq_strsT {K : PySem.W.Frag} {H : Hp} : ∀ {zs : List Str} {O : Av} {xs : List V}, DqL K H O xs (zs.map .str) → xs = zs.map .str
  | [], _, _, h => by cases h; rfl
  | n :: zs, O, xs, h => by
    cases h with
    | cons h1 h2 => cases h1; rw [dq_strsT h2]; rfl
theorem dq_strsL {K : PySem.W.Frag} {H : Hp} {O : Av} : ∀ zs : List Str, DqL K H O (zs.map .str) (zs.map .str)
  | [] => .nil
  | _ :: zs => .cons (.str _) (dq_strsL zs)
def sortTxtD : D → Option D
  | .list ds => (strsT ds).bind fun zs => if zs.length ≤ 60 ∧ zs.all (fun z => SeqAt.shaped (.str z)) = true then some (.list ((ssetS zs).map .str)) else none
  | _ => none
theorem dn_sortTxt {F : Fam} {τ : List Kd} {a : Expr} {f : Rho → Res D} {fl : Fl} {p p2 q pos : Pos} (hm : ∀ i, (F.X i).mg "sorted" = none) (hm2 : ∀ i, (F.X i).mg "set" = none) (h : DnR F τ a f fl) (hg : ∀ i, Gl (F.X i) "sorted" := by intro _; rfl) (hg2 : ∀ i, Gl (F.X i) "set" := by intro _; rfl)
    (na : ∀ i, starEach [a] (F.X i).env = (false, eval a (F.X i).env) :: starEach [] (F.X i).env := by intro _; rfl) (hot0 : F.hot = false := by rfl) : DnE F τ (.Call (.Name "sorted" p) [.Call (.Name "set" p2) [a] [] q] [] pos) (eUn sortTxtD f) .s := by
  obtain ⟨t, h1, h2⟩ := h
  refine ⟨tSortSetS F.K t, fun i => by have z := pe_sortSetS (p := p) (p2 := p2) (q := q) (pos := pos) (hg i) (hm i) (hg2 i) (hm2 i) (h1 i) (F.calm hot0 i) (by have := units_of i; omega) (na i); rw [F.hK i] at z; exact z, fun H0 B ρ σ H Q s p => ?_⟩
  refine h2 H0 B ρ σ H _ s (p.bind.to (Same.refl _) fun d _ p1 v H1 e1 r1 => ?_)
  cases d with
  | list ds =>
    obtain ⟨l, xs, rfl, g1, g2⟩ := r1.list
    cases hl : sortTxtD (.list ds) with
    | none => rw [hl] at p1; exact p1.elim
    | some d2 =>
      rw [hl] at p1
      have hl2 : ((strsT ds).bind fun zs => if zs.length ≤ 60 ∧ zs.all (fun z => SeqAt.shaped (.str z)) = true then some (PyData.list ((ssetS zs).map .str)) else none) = some d2 := hl
      cases hi : strsT ds with
      | none => rw [hi] at hl2; cases hl2
      | some zs =>
        rw [hi, Option.bind_some] at hl2
        have e := strsT_some hi
        subst e
        have e2 := dq_strsT g2
        subst e2
        by_cases hn : zs.length ≤ 60 ∧ zs.all (fun z => SeqAt.shaped (.str z)) = true
        · rw [if_pos hn] at hl2
          cases hl2
          exact ⟨l, zs, rfl, g1, hn.1, fun z hz => List.all_eq_true.mp hn.2 z hz, fun p hp => p1 _ _ (e1.trans (dom_upd hp)) (new_lst hp (fun a z => dom_mono e1 a z) (dq_strsL _))⟩
        · rw [if_neg hn] at hl2; cases hl2
  | _ => exact p1.elim
end Dn
set_option Elab.async false
set_option linter.all false
set_option maxRecDepth 100000
/-! >= of tuples of numbers -/
namespace Dn
open PySem L2 PySem.Spec PyProof.Rows
def rGeT (K : PySem.W.Frag) : R2 := fun x y H Q => ∃ (a b : Addr) (ns ms : List Int), x = .ref a ∧ y = .ref b ∧ SqT K H a (ns.map V.int) ∧ SqT K H b (ms.map V.int) ∧
  Q (.bl (Ob.lexAt (fun j => decide (ns.getD j 0 = ms.getD j 0)) (fun j => decide (ms.getD j 0 ≤ ns.getD j 0)) (decide (ns.length ≥ ms.length)) 0 (min ns.length ms.length))) H
theorem op_geT {X : Cx} (hu : X.A.units < cLine) : OpR X (compareOp .GtE) (rGeT X.K) := by
  intro pins s σ H x y v u Q I rx ry h
  obtain ⟨a, b, ns, ms, rfl, rfl, ha, hb, q⟩ := h
  cases rx
  cases ry
  obtain ⟨its, r1, p1, _⟩ := I.tuple ha
  obtain ⟨its2, r2, p2, _⟩ := I.tuple hb
  have i1 : IntsAre its ns := Vals.ints r1
  have i2 : IntsAre its2 ms := Vals.ints r2
  have e1 : its.toArray.size = ns.length := by rw [List.size_toArray]; exact i1.length
  have e2 : its2.toArray.size = ms.length := by rw [List.size_toArray]; exact i2.length
  have at1 : ∀ j (h1 : j < its.toArray.size), ∃ t, its.toArray[j] = .int (ns.getD j 0) t := fun j h1 => PyProof.Rows.IntsAre.int_at i1 _ _ (by simp at h1; simp [h1])
  have at2 : ∀ j (h1 : j < its2.toArray.size), ∃ t, its2.toArray[j] = .int (ms.getD j 0) t := fun j h1 => PyProof.Rows.IntsAre.int_at i2 _ _ (by simp at h1; simp [h1])
  have R := Ob.RcOp.tuples_ge (A := X.A) (s := s) (e := fun j => decide (ns.getD j 0 = ms.getD j 0)) (r := fun j => decide (ms.getD j 0 ≤ ns.getD j 0)) p1 p2 hu (fun j h1 h2 => by
    obtain ⟨t, et⟩ := at1 j h1
    obtain ⟨t', et'⟩ := at2 j h2
    rw [et, et']
    have z : (ns.getD j 0 == ms.getD j 0) = decide (ns.getD j 0 = ms.getD j 0) := by
      by_cases q : ns.getD j 0 = ms.getD j 0
      · rw [decide_eq_true q]; exact beq_iff_eq.mpr q
      · rw [decide_eq_false q]; exact beq_eq_false_iff_ne.mpr q
    rw [← z]
    exact SeqAt.EqAt.int_int _ _ _ _) (fun j h1 h2 _ => by
    obtain ⟨t, et⟩ := at1 j h1
    obtain ⟨t', et'⟩ := at2 j h2
    rw [et, et']
    exact Ob.RcOp.ge_int _ _ _ _)
  rw [e1, e2] at R
  have z : wpAny (model X.prog X.w) X.A (compareOp .GtE (.ref a) (.ref b)) (EP X pins σ Q) X.xe s := R X.prog X.w X.xe (EP X pins σ Q) ⟨.bl _, H, I, rfl, q⟩
  exact z
def lexGeAt (ns ms : List Int) : Bool := Ob.lexAt (fun j => decide (ns.getD j 0 = ms.getD j 0)) (fun j => decide (ms.getD j 0 ≤ ns.getD j 0)) (decide (ns.length ≥ ms.length)) 0 (min ns.length ms.length)
def geTD : D → D → Option D
  | .tuple i, .tuple j => (intsOf i).bind fun ns => (intsOf j).bind fun ms => some (.bool (lexGeAt ns ms))
  | _, _ => none
theorem op_geTD {F : Fam} : OpD F (compareOp .GtE) geTD := by
  refine OpD.mk (r := fun K x y H Q => rGeT K x y H Q) (fun i => op_geT (by have := units_of i; omega)) ?_
  intro A H x y dx dy d hA rx ry hg Q k
  cases dx with
  | tuple i =>
    cases dy with
    | tuple j =>
      simp only [geTD] at hg
      cases h1 : intsOf i with
      | none => rw [h1] at hg; cases hg
      | some ns =>
        cases h2 : intsOf j with
        | none => rw [h1, h2] at hg; cases hg
        | some ms =>
          rw [h1, h2] at hg
          cases hg
          obtain ⟨a, xs, rfl, g1, g2⟩ := rx.tuple
          obtain ⟨b, ys, rfl, q1, q2⟩ := ry.tuple
          rw [intsOf_dq g2 h1] at g1
          rw [intsOf_dq q2 h2] at q1
          exact ⟨a, b, ns, ms, rfl, rfl, g1, q1, k _ H (Same.refl _) (.bl _)⟩
    | _ => cases hg
  | _ => cases hg
end Dn
set_option Elab.async false
set_option linter.all false
set_option maxRecDepth 100000
/-! {'a': 'b', ..}[x], a display of texts, asked at once -/
namespace Dn
open PySem L2
inductive SD : List (Option Expr) → List Expr → List (Str × Str) → Prop
  | nil : SD [] [] []
  | cons {k v : Str} {j1 j2 : Nat} {p1 p2 : Pos} {ks : List (Option Expr)} {vs : List Expr} {ps : List (Str × Str)} : SD ks vs ps → SD (some (.Constant (.str k) j1 p1) :: ks) (.Constant (.str v) j2 p2 :: vs) ((k, v) :: ps)
def trsOf (ps : List (Str × Str)) : List (TE × TE) := ps.map fun kv => (tC (.str kv.1), tC (.str kv.2))
theorem SD.pps {X : Cx} {pos : Pos} {ks : List (Option Expr)} {vs : List Expr} {ps : List (Str × Str)} (h : SD ks vs ps) : PPs X pos ks vs (trsOf ps) := by
  induction h with
  | nil => exact pps_nil
  | cons _ ih => exact pps_cons pe_str pe_str ih
theorem SD.facts {ks : List (Option Expr)} {vs : List Expr} {ps : List (Str × Str)} (h : SD ks vs ps) : ks.all (·.isSome) = true ∧ ks.length = vs.length ∧ ks.length = ps.length := by
  induction h with
  | nil => exact ⟨rfl, rfl, rfl⟩
  | cons _ ih => exact ⟨by rw [List.all_cons, ih.1]; rfl, by rw [List.length_cons, List.length_cons, ih.2.1], by rw [List.length_cons, List.length_cons, ih.2.2]⟩
theorem tPairs_of {σ : L2.St} {H : Hp} {Q : List (V × V) → Hp → Prop} : ∀ {ps : List (Str × Str)}, Q (ps.map fun kv => (V.str kv.1, V.str kv.2)) H → tPairs (trsOf ps) σ H Q
  | [], h => h
  | (k, v) :: ps, h => tPairs_of (ps := ps) (Q := fun ps H3 => Q ((V.str k, V.str v) :: ps) H3) h
def kvsOf (ps : List (Str × Str)) : List (Key × V) := ps.map fun kv => (Sum.inr kv.1, V.str kv.2)
theorem merge_app : ∀ (more acc : List (Key × V)), ((acc ++ more).map (·.1)).Nodup → mergeK acc more = acc ++ more
  | [], acc, _ => by rw [List.append_nil]; rfl
  | kv :: more, acc, h => by
    have hn : (acc.any fun x => decide (x.1 = kv.1)) = false := by
      rw [List.any_eq_false]
      intro x hx e
      have e := of_decide_eq_true e
      rw [List.map_append, List.map_cons] at h
      have := (List.nodup_append.mp h).2.2 x.1 (List.mem_map.mpr ⟨x, hx, rfl⟩) kv.1 (List.mem_cons_self ..)
      exact this e
    show mergeK (putK acc kv.1 kv.2) more = _
    unfold putK
    rw [hn, if_neg Bool.false_ne_true, merge_app more (acc ++ [kv]) (by rw [List.append_assoc]; exact h), List.append_assoc]
    rfl
def askD (ps : List (Str × Str)) : D → Option D
  | .str z => (ps.find? fun kv => decide (kv.1 = z)).map fun kv => .str kv.2
  | _ => none
theorem val_of {z : Str} : ∀ {ps : List (Str × Str)}, valV (kvsOf ps) (Sum.inr z : Key) = ((ps.find? fun kv => decide (kv.1 = z)).map fun kv => V.str kv.2)
  | [] => rfl
  | (k, v) :: ps => by
    have ih := val_of (z := z) (ps := ps)
    unfold valV kvsOf at ih ⊢
    rw [List.map_cons, List.find?_cons, List.find?_cons]
    by_cases h : k = z
    · subst h
      rw [decide_eq_true rfl, decide_eq_true rfl]
      rfl
    · rw [decide_eq_false h, decide_eq_false (fun e => h (Sum.inr.inj e))]
      exact ih
section
variable {F : Fam} {τ : List Kd} {i : Expr} {f : Rho → Res D} {fl : Fl} {pos dpos : Pos} {ks : List (Option Expr)} {vs : List Expr} {ps : List (Str × Str)}
theorem dn_ask (h : SD ks vs ps) (hi : DnR F τ i f fl) (nd : (ps.map (·.1)).Nodup := by decide +kernel) (h0 : ps ≠ [] := by exact List.cons_ne_nil _ _) (h15 : ps.length ≤ 15 := by exact Nat.le_of_ble_eq_true rfl) (hs : NoSl i := by intro _ _; rfl) : DnE F τ (.Subscript (.Dict ks vs dpos) i pos) (eUn (askD ps) f) .s := by
  obtain ⟨t, h1, h2⟩ := hi
  obtain ⟨f1, f2, f3⟩ := h.facts
  refine ⟨tDGet (tDisp (trsOf ps)) t, fun j => pe_dget (by have := units_of j; omega) (pe_disp h.pps f1 f2 (fun e => h0 (List.length_eq_zero_iff.mp (by rw [← f3, e]; rfl))) (by omega)) (h1 j) hs, fun H0 B ρ σ H Q s p => ?_⟩
  intro a ha
  refine tPairs_of ⟨upd_same, kvsOf ps, by unfold kvsOf; rw [List.map_map]; rfl, by unfold kvsOf; rw [List.length_map]; exact h15, ?_⟩
  have hm : mergeK [] (kvsOf ps) = kvsOf ps := merge_app (kvsOf ps) [] (by
    rw [List.nil_append]
    unfold kvsOf
    rw [List.map_map]
    have e : (ps.map ((fun x : Key × V => x.1) ∘ fun kv : Str × Str => ((Sum.inr kv.1 : Key), V.str kv.2))) = (ps.map (·.1)).map (Sum.inr : Str → Key) := by rw [List.map_map]; rfl
    rw [e]
    exact List.Pairwise.map _ (fun a b hab e => hab (Sum.inr.inj e)) nd)
  rw [hm]
  have e0 : upd (upd H a (.dK [])) a (.dK (kvsOf ps)) = upd H a (.dK (kvsOf ps)) := funext fun b => by
    by_cases hb : b = a
    · subst hb; rw [upd_same, upd_same]
    · unfold upd; simp only [hb, if_false]
  rw [e0]
  have e1 : Same H (upd H a (.dK (kvsOf ps))) := dom_upd ha
  refine h2 H0 B ρ σ _ _ (s.more e1) (p.bind.to e1 fun d _ p1 v H1 e2 r1 => ?_)
  cases d with
  | str z =>
    have := r1.str
    subst this
    have p1 : Post F σ H _ (ofO ((ps.find? fun kv => decide (kv.1 = z)).map fun kv => PyData.str kv.2)) := p1
    have hv := val_of (z := z) (ps := ps)
    cases hf : ps.find? fun kv => decide (kv.1 = z) with
    | none => rw [hf] at p1; exact p1.elim
    | some kv =>
      rw [hf] at p1 hv
      exact ⟨a, V.str kv.2, rfl, .inl ⟨kvsOf ps, Sum.inr z, .inl (e2 _ _ upd_same), rfl, hv.symm⟩, p1 _ H1 (e1.trans e2) (.str _)⟩
  | _ => exact p1.elim
end
end Dn
set_option Elab.async false
set_option linter.all false
set_option maxRecDepth 100000
/-! NAME[x], NAME the module's own dict of texts -/
namespace Dn
open PySem L2
section
variable {F : Fam} {τ : List Kd} {i : Expr} {f : Rho → Res D} {fl : Fl} {p pos : Pos} {x : Str} {d : Addr} {ps : List (Str × Str)}
theorem dn_askG (hm : ∀ j, (F.X j).mg x = some (.ref d)) (hk : ∀ j, ∀ kv ∈ ps, KDct (F.X j).K (F.X j).w d kv.1 (.str kv.2)) (h : DnR F τ i f fl) (hg : ∀ j, Gl (F.X j) x := by intro _; rfl) (hd : (x == ("__debug__" : Str)) = false := by decide) (hs : PlainIx i := by exact fun _ _ => rfl) : DnE F τ (.Subscript (.Name x p) i pos) (eUn (askD ps) f) .s := by
  obtain ⟨t, h1, h2⟩ := h
  refine ⟨fun σ H Q => ∀ Q' : V → Hp → Prop, (∀ y H2, (∃ kv ∈ ps, y = .str kv.1 ∧ Q (.str kv.2) H2) → Q' y H2) → t σ H Q', fun j => ⟨fun pins s σ H Q I q => ?_⟩, fun H0 B ρ σ H Q s p Q' hq => ?_⟩
  · refine (pe_ix (pos := pos) ix_kdict (pe_glob (v := .ref d) (hg j) (hm j) rfl hd) (h1 j) hs).run pins s σ H Q I ?_
    exact q _ fun y H2 ⟨kv, hkv, e, q2⟩ => ⟨d, kv.1, .str kv.2, rfl, e, hk j kv hkv, q2⟩
  · refine h2 H0 B ρ σ H Q' s (p.bind.to (Same.refl _) fun dd _ p1 v H1 e1 r1 => ?_)
    cases dd with
    | str z =>
      have := r1.str
      subst this
      have p1 : Post F σ H _ (ofO ((ps.find? fun kv => decide (kv.1 = z)).map fun kv => PyData.str kv.2)) := p1
      cases hf : ps.find? fun kv => decide (kv.1 = z) with
      | none => rw [hf] at p1; exact p1.elim
      | some kv =>
        rw [hf] at p1
        have hz : decide (kv.1 = z) = true := List.find?_some (p := fun kv : Str × Str => decide (kv.1 = z)) hf
        have hz := of_decide_eq_true hz
        exact hq _ H1 ⟨kv, List.mem_of_find?_eq_some hf, by rw [hz], p1 _ H1 e1 (.str _)⟩
    | _ => exact p1.elim
end
end Dn
set_option Elab.async false
set_option linter.all false
set_option maxRecDepth 100000
/-! dict([(text, number), ..]), d[text], [d[x] for x in d] -/
namespace Dn
open PySem L2
def pairSI : D → Option (Str × Int)
  | .tuple [.str k, .int n] => some (k, n)
  | _ => none
def pairsSI : List D → Option (List (Str × Int))
  | [] => some []
  | d :: ds => match pairSI d, pairsSI ds with
    | some p, some ps => some (p :: ps)
    | _, _ => none
def dictSI (ps : List (Str × Int)) : D := .dict (ps.map fun p => (PyData.str p.1, PyData.int p.2))
def nodupK (ps : List (Str × Int)) : Bool := decide (ps.map (·.1)).Nodup
def dictD : List D → Option D
  | [.list ds] => match pairsSI ds with
    | some ps => if nodupK ps = true then some (dictSI ps) else none
    | none => none
  | _ => none
def kvSI (ps : List (Str × Int)) : List (Key × V) := ps.map fun p => (Sum.inr p.1, V.int p.2)
theorem pairSI_of {d : D} {p : Str × Int} (h : pairSI d = some p) : d = .tuple [.str p.1, .int p.2] := by
  unfold pairSI at h
  split at h <;> cases h
  rfl
theorem pairsSI_cons {d : D} {ds : List D} {qs : List (Str × Int)} (h : pairsSI (d :: ds) = some qs) : ∃ p ps, pairSI d = some p ∧ pairsSI ds = some ps ∧ qs = p :: ps := by
  unfold pairsSI at h
  cases h1 : pairSI d with
  | none => rw [h1] at h; cases h
  | some p =>
    cases h2 : pairsSI ds with
    | none => rw [h1, h2] at h; cases h
    | some ps => rw [h1, h2] at h; cases h; exact ⟨p, ps, rfl, rfl, rfl⟩
theorem paired_of {K : PySem.W.Frag} {H : Hp} {A : Av} : ∀ {xs : List V} {ds : List D} {ps : List (Str × Int)}, DqL K H A xs ds → pairsSI ds = some ps →
    ∃ as : List Addr, xs = as.map V.ref ∧ Paired (fun p kv => SqT K H p [kV kv.1, kv.2]) as (kvSI ps)
  | _, _, _, .nil, h => by
    cases h
    exact ⟨[], rfl, .nil⟩
  | _, _, _, .cons (v := v) r t, h => by
    obtain ⟨p, ps, h1, h2, rfl⟩ := pairsSI_cons h
    have hd := pairSI_of h1
    subst hd
    obtain ⟨as, e, q⟩ := paired_of t h2
    cases r with
    | tup q1 q2 =>
      cases q2 with
      | cons a1 a2 =>
        cases a2 with
        | cons b1 b2 =>
          cases b2
          cases a1
          cases b1
          exact ⟨_ :: as, by rw [e]; rfl, .cons q1.sq q⟩
theorem kvSI_merge {ps : List (Str × Int)} (h : nodupK ps = true) : mergeK [] (kvSI ps) = kvSI ps := merge_app (kvSI ps) [] (by
  rw [List.nil_append]
  have e : (kvSI ps).map (·.1) = (ps.map (·.1)).map (Sum.inr : Str → Key) := by unfold kvSI; rw [List.map_map, List.map_map]; rfl
  rw [e]
  exact List.Pairwise.map _ (fun a b hab e => hab (Sum.inr.inj e)) (of_decide_eq_true h))
theorem kvSI_vals {K : PySem.W.Frag} {H : Hp} {A : Av} : ∀ ps : List (Str × Int), DqL K H A ((kvSI ps).map (·.2)) (ps.map fun p => PyData.int p.2)
  | [] => .nil
  | p :: ps => .cons (.int _) (kvSI_vals ps)
theorem kvSI_zip : ∀ ps : List (Str × Int), ((kvSI ps).map fun kv => keyD kv.1).zip (ps.map fun p => PyData.int p.2) = ps.map fun p => (PyData.str p.1, PyData.int p.2)
  | [] => rfl
  | p :: ps => by
    show (_, _) :: ((kvSI ps).map fun kv => keyD kv.1).zip (ps.map fun p => PyData.int p.2) = _
    rw [kvSI_zip ps]
    rfl
section
variable {F : Fam} {τ : List Kd}
theorem c_dict (hot0 : F.hot = false := by rfl) : CallD F (.type "dict") dictD := by
  refine CallD.mk (r := fun K xs H Q => ∃ (a : Addr) (ps : List Addr) (kvs : List (Key × V)), xs = [.ref a] ∧ SqL K H a (ps.map V.ref) ∧ Paired (fun p kv => SqT K H p [kV kv.1, kv.2]) ps kvs ∧
    ∀ p, H p = none → Q (.ref p) (upd H p (.dK (mergeK [] kvs)))) (fun i => call_dictP (F.calm hot0 i)) ?_
  intro A H vs ds d hA r hg Q k
  unfold dictD at hg
  split at hg
  · rename_i es
    cases h1 : pairsSI es with
    | none => rw [h1] at hg; cases hg
    | some ps =>
      rw [h1] at hg
      simp only [] at hg
      by_cases hn : nodupK ps = true
      rotate_left
      · rw [if_neg hn] at hg; cases hg
      rw [if_pos hn] at hg
      cases hg
      cases r with
      | cons r1 r2 =>
        cases r2
        obtain ⟨a, xs, rfl, h2, h3⟩ := r1.list
        obtain ⟨as, rfl, h4⟩ := paired_of h3 h1
        refine ⟨a, as, kvSI ps, rfl, h2, h4, fun p hp => k _ _ (dom_upd hp) ?_⟩
        rw [kvSI_merge hn]
        unfold dictSI
        rw [← kvSI_zip]
        exact .dK (fun z => hA p z hp) upd_same (kvSI_vals ps)
  · cases hg
/-! ### d[text] -/
def dictPs : List (D × D) → Option (List (Str × Int))
  | [] => some []
  | (.str k, .int n) :: r => match dictPs r with
    | some ps => some ((k, n) :: ps)
    | none => none
  | _ => none
theorem dictPs_of : ∀ {kvs : List (D × D)} {ps : List (Str × Int)}, dictPs kvs = some ps → kvs = ps.map fun p => (PyData.str p.1, PyData.int p.2)
  | [], ps, h => by cases h; rfl
  | (k, n) :: r, ps, h => by
    unfold dictPs at h
    split at h
    · rename_i e; cases e
    · rename_i k' n' r' e
      cases e
      cases h1 : dictPs r with
      | none => rw [h1] at h; cases h
      | some qs =>
        rw [h1] at h
        cases h
        rw [dictPs_of h1]
        rfl
    · cases h
theorem dictPs_map : ∀ ps : List (Str × Int), dictPs (ps.map fun p => (PyData.str p.1, PyData.int p.2)) = some ps
  | [] => rfl
  | p :: ps => by
    rw [List.map_cons]
    unfold dictPs
    rw [dictPs_map ps]
theorem zip_dK : ∀ {kvs : List (Key × V)} {ds : List D} {ps : List (Str × Int)} {K : PySem.W.Frag} {H : Hp} {A : Av}, ((kvs.map fun kv => keyD kv.1).zip ds) = (ps.map fun p => (PyData.str p.1, PyData.int p.2)) → DqL K H A (kvs.map (·.2)) ds → kvs = kvSI ps
  | [], _, [], _, _, _, _, _ => rfl
  | [], _, _ :: _, _, _, _, h, _ => by rw [List.map_nil, List.zip_nil_left, List.map_cons] at h; cases h
  | kv :: kvs, ds, [], _, _, _, h, r => by
    cases r
    rw [List.map_cons, List.zip_cons_cons] at h
    cases h
  | (k, v) :: kvs, ds, p :: ps, _, _, _, h, r => by
    cases r with
    | cons r1 r2 =>
      rw [List.map_cons, List.zip_cons_cons, List.map_cons] at h
      obtain ⟨h1, h2⟩ := List.cons.inj h
      obtain ⟨h3, h4⟩ := Prod.mk.inj h1
      subst h4
      cases r1
      rw [zip_dK h2 r2]
      cases k with
      | inl i => cases h3
      | inr z => cases h3; rfl
theorem zip_dT {zs : List (D × D)} {p : Str × Int} {ps : List (Str × Int)} (h : (tdMark :: zs) = ((p :: ps).map fun p => (PyData.str p.1, PyData.int p.2))) : False := by
  rw [List.map_cons] at h
  have := (Prod.mk.inj (List.cons.inj h).1).1
  cases this
theorem zip_dF {zs : List (D × D)} {p : Str × Int} {ps : List (Str × Int)} (h : (tdLock :: zs) = ((p :: ps).map fun p => (PyData.str p.1, PyData.int p.2))) : False := by
  rw [List.map_cons] at h
  have := (Prod.mk.inj (List.cons.inj h).1).1
  cases this
def dgetD : D → D → Option D
  | .dict kvs, .str z => match dictPs kvs with
    | some ps => (ps.find? fun p => decide (p.1 = z)).map fun p => .int p.2
    | none => none
  | _, _ => none
theorem rv_dict {K : PySem.W.Frag} {H : Hp} {A : Av} {v : V} {p : Str × Int} {ps : List (Str × Int)} (r : Rv K H A v (.dict ((p :: ps).map fun p => (PyData.str p.1, PyData.int p.2)))) : ∃ a, v = .ref a ∧ H a = some (.dK (kvSI (p :: ps))) := by
  generalize hk : ((p :: ps).map fun p => (PyData.str p.1, PyData.int p.2)) = kk at r
  rcases r with h | ⟨q, h1, h2⟩
  · cases h with
    | dK a1 a2 a3 => exact ⟨_, rfl, by rw [← zip_dK hk.symm a3]; exact a2⟩
    | dT a1 a2 a3 => exact (zip_dT hk.symm).elim
    | dF a2 a3 => exact (zip_dF hk.symm).elim
  · rcases h2 with ⟨vs, es, e, q1, q2⟩ | ⟨vs, es, e, q1, q2⟩ | ⟨vs, es, e, q1, q2⟩
    · cases e
    · injection e with e
      exact ⟨q, h1, by rw [← zip_dK (hk.trans e).symm q2]; exact q1⟩
    · injection e with e
      exact (zip_dT (hk.trans e).symm).elim
theorem val_si {z : Str} : ∀ {ps : List (Str × Int)}, valV (kvSI ps) (Sum.inr z : Key) = ((ps.find? fun kv => decide (kv.1 = z)).map fun kv => V.int kv.2)
  | [] => rfl
  | (k, v) :: ps => by
    have ih := val_si (z := z) (ps := ps)
    unfold valV kvSI at ih ⊢
    rw [List.map_cons, List.find?_cons, List.find?_cons]
    by_cases h : k = z
    · subst h
      rw [decide_eq_true rfl, decide_eq_true rfl]
      rfl
    · rw [decide_eq_false h, decide_eq_false (fun e => h (Sum.inr.inj e))]
      exact ih
theorem dn_dget {a b : Expr} {pos : Pos} {fa fb : Rho → Res D} {la lb : Fl} (ha : DnR F τ a fa la) (hb : DnR F τ b fb lb) (hs : NoSl b := by intro _ _; rfl) : DnE F τ (.Subscript a b pos) (eBin dgetD fa fb) .s := by
  obtain ⟨ta, a1, a2⟩ := ha
  obtain ⟨tb, b1, b2⟩ := hb
  refine ⟨tDGet ta tb, fun i => pe_dget (by have := units_of i; omega) (a1 i) (b1 i) hs, fun H0 B ρ σ H Q s p => ?_⟩
  refine two a2 b2 s (P := fun x y => Post F σ H (fun d => ∀ v H', Same H H' → Dq F.K H' (av .s H0 H (OwnX τ B ρ σ)) v d → Q v H') (ofO (dgetD x y))) (p.bind.to (Same.refl _) fun x _ p1 => p1.bind) ?_
  intro x y H2 dx dy p2 e2 s2 r1 r2
  cases hg : dgetD dx dy with
  | none => rw [hg] at p2; exact p2.elim
  | some d =>
    rw [hg] at p2
    unfold dgetD at hg
    split at hg
    · rename_i kvs z
      have := r2.str
      subst this
      cases h1 : dictPs kvs with
      | none => rw [h1] at hg; cases hg
      | some ps =>
        rw [h1] at hg
        simp only [] at hg
        have hk := dictPs_of h1
        subst hk
        cases ps with
        | nil => cases hg
        | cons p ps =>
          obtain ⟨q, rfl, h2⟩ := rv_dict r1
          have hv := val_si (z := z) (ps := p :: ps)
          cases hf : (p :: ps).find? fun kv => decide (kv.1 = z) with
          | none => rw [hf] at hg; cases hg
          | some kv =>
            rw [hf] at hg hv
            cases hg
            exact ⟨q, V.int kv.2, rfl, .inl ⟨kvSI (p :: ps), Sum.inr z, .inl h2, rfl, hv.symm⟩, p2 _ H2 e2 (.int _)⟩
    · cases hg
/-! ### [d[x] for x in d] -/
def valsD : D → Option D
  | .dict kvs => match dictPs kvs with
    | some (p :: ps) => if nodupK (p :: ps) = true ∧ (p :: ps).length ≤ sizeLine then some (.list ((p :: ps).map fun p => PyData.int p.2)) else none
    | _ => none
  | _ => none
def eVals (i j : Nat) : Rho → Res D := fun ρ => if j < ρ.length then eUn valsD (eVar i) ρ else .bad
theorem upd_twice {H : Hp} {a : Addr} {u w : HO} : upd (upd H a u) a w = upd H a w := funext fun b => by
  by_cases hb : b = a
  · subst hb; rw [upd_same, upd_same]
  · unfold upd; simp only [hb, if_false]
theorem find_nodup : ∀ {ps : List (Str × Int)} {i : Nat} {p : Str × Int}, (ps.map (·.1)).Nodup → ps[i]? = some p → (ps.find? fun kv => decide (kv.1 = p.1)) = some p
  | [], _, _, _, h => by cases h
  | q :: ps, 0, p, _, h => by
    cases h
    rw [List.find?_cons, decide_eq_true rfl]
  | q :: ps, i + 1, p, hn, h => by
    rw [List.map_cons, List.nodup_cons] at hn
    rw [List.getElem?_cons_succ] at h
    have hm : p.1 ∈ ps.map (·.1) := List.mem_map.mpr ⟨p, List.mem_of_getElem? h, rfl⟩
    rw [List.find?_cons, decide_eq_false (fun e => hn.1 (by rw [e]; exact hm))]
    exact find_nodup hn.2 h
theorem dn_vals (i j : Nat) {x y : Str} {scope : Scope} {p1 p2 p3 p4 p5 pos : Pos} (hij : i ≠ j := by decide) (hk : kd τ i = .sh := by rfl) (hkj : (kd τ j).isOwn = false := by rfl)
    (hN : ∀ k, (F.X k).N[i]? = some x := by intro _; rfl) (hNj : ∀ k, (F.X k).N[j]? = some y := by intro _; rfl)
    (h1 : ∀ k, PE (F.X k) (.Name x p5) (tVar i) := by intro _; exact pe_var rfl (by first | exact Or.inl rfl | exact Or.inr (Or.inl rfl) | exact Or.inr (Or.inr rfl))) (h2 : ∀ k, PE ((F.blk scope).X k) (.Name x p1) (tVar i) := by intro _; exact pe_var rfl (by first | exact Or.inl rfl | exact Or.inr (Or.inl rfl) | exact Or.inr (Or.inr rfl)))
    (h3 : ∀ k, PE ((F.blk scope).X k) (.Name y p2) (tVar j) := by intro _; exact pe_var rfl (by first | exact Or.inl rfl | exact Or.inr (Or.inl rfl) | exact Or.inr (Or.inr rfl)))
    (hNB : ∀ k, ((F.blk scope).X k).N[j]? = some y := by intro _; rfl) (hxB : ∀ k, Loc ((F.blk scope).X k).env.scope y := by intro _; first | exact .inl rfl | exact .inr rfl)
    (hfB : ∀ k, ((F.blk scope).X k).fn y = true ∨ ((F.blk scope).X k).env.scope.names.lookup y = some .local := by intro _; first | exact .inl rfl | exact .inr rfl)
    (ok : ∀ k, BlkOk (F.X k).N (F.X k).env.scope scope [(y, j)] := by exact fun _ => blkOk_by (by kernel_rfl)) (hs : ∀ k x', foldedSetIterable (.Name x p5) (F.X k).env x' = pure x' := by intro _ _; rfl)
    (hot0 : F.hot = false := by rfl) : DnE F τ (.ListComp (.Subscript (.Name x p1) (.Name y p2) p3) [⟨.Name y p4, .Name x p5, [], 0⟩] scope pos) (eVals i j) .s := by
  have h4 : ∀ k, PG ((F.blk scope).X k) (.Name y p4) (gName j) := fun k => pg_name ((F.blk scope).nd k) (hNB k) (hxB k) (hfB k)
  refine ⟨tLockE (tLc (iKeys (tVar i)) (gName j) tYes (tDGet (tVar i) (tVar j)) [j]), fun k => pe_lock (pe_lc (F.calm hot0 k) (F.nd k) (pi_keys (h1 k)) (ok k) (fun s H C cl fp => h4 (k, s, H, C, cl, fp)) (fun s H C cl fp => pts_nil) (fun s H C cl fp => pe_dget (by have h : ((F.blk scope).X (k, s, H, C, cl, fp)).A.units + 199 < cLine := units_of (F := F.blk scope) (k, s, H, C, cl, fp); exact Nat.lt_of_le_of_lt (Nat.add_le_add_left (by decide) _) h) (h2 (k, s, H, C, cl, fp)) (h3 (k, s, H, C, cl, fp)) (fun _ _ => rfl)) (hs k)), fun H0 B ρ σ H Q s p => ?_⟩
  unfold eVals at p
  by_cases hjl : j < ρ.length
  rotate_left
  · rw [if_neg hjl] at p; exact p.elim
  rw [if_pos hjl] at p
  cases hf : eVar i ρ with
  | exc c => exact (eVar_exc hf).elim
  | bad => unfold eUn at p; rw [hf] at p; exact p.elim
  | ok d =>
    unfold eUn at p
    rw [hf] at p
    have pf : Post F σ H _ (ofO (valsD d)) := p
    clear p
    obtain ⟨v, hv1, hv2⟩ := s.ok i d (eVar_ok hf)
    rw [hk] at hv2
    have hv2 : Dq F.K H (OwnX τ B ρ σ) v d := hv2
    cases hg : valsD d with
    | none => rw [hg] at pf; exact pf.elim
    | some e =>
      rw [hg] at pf
      unfold valsD at hg
      split at hg
      rotate_left
      · cases hg
      rename_i kvs _
      cases hps : dictPs kvs with
      | none => rw [hps] at hg; cases hg
      | some ps =>
        cases ps with
        | nil => rw [hps] at hg; cases hg
        | cons q ps =>
          rw [hps] at hg
          simp only [] at hg
          generalize hqs : q :: ps = qs at hg
          by_cases hc : nodupK qs = true ∧ qs.length ≤ sizeLine
          rotate_left
          · rw [if_neg hc] at hg; cases hg
          rw [if_pos hc] at hg
          cases hg
          have hkv := dictPs_of hps
          subst hkv
          obtain ⟨a, rfl, hH⟩ := rv_dict (.inl hv2)
          rw [hqs] at hH
          have hnd : (qs.map (·.1)).Nodup := of_decide_eq_true hc.1
          have hlen : (kvSI qs).length = qs.length := List.length_map _
          refine ⟨a, _, hH, trivial, fun od => ?_⟩
          have hji : i ≠ j := hij
          refine ⟨.ref a, hv1, a, od, rfl, .inl ⟨kvSI qs, upd_same, ?_⟩⟩
          intro Dl hD
          have hDa : Dl ≠ a := fun z => by rw [z, upd_same] at hD; cases hD
          have hDH : H Dl = none := by rw [upd_ne hDa] at hD; exact hD
          refine ⟨fun n m H' => m = qs.length - n ∧ n ≤ qs.length ∧ H' = upd (upd H a (.frz od (.dK (kvSI qs)))) Dl (.lst (((kvSI qs).map (·.2)).take n)), ⟨qs.length, by simp, Nat.zero_le _, rfl⟩, ?_⟩
          rintro n m H' ⟨rfl, hn, rfl⟩
          have hfa : (upd (upd H a (.frz od (.dK (kvSI qs)))) Dl (.lst (((kvSI qs).map (·.2)).take n))) a = some (.frz od (.dK (kvSI qs))) := by
            rw [upd_ne (Ne.symm hDa), upd_same]
          by_cases hlt : n < qs.length
          · refine .inr ⟨⟨hfa, by rw [hlen]; exact hlt⟩, fun H' => H' = upd (upd H a (.frz od (.dK (kvSI qs)))) Dl (.lst (((kvSI qs).map (·.2)).take (n + 1))), fun H' e => ⟨qs.length - (n + 1), by omega, rfl, hlt, e⟩, ?_⟩
            rintro y' H' ⟨rfl, k, w, hkw, rfl⟩
            have hq : qs[n]? = some qs[n] := List.getElem?_eq_getElem hlt
            have hkw' : (kvSI qs)[n]? = some (Sum.inr qs[n].1, V.int qs[n].2) := by
              unfold kvSI
              rw [List.getElem?_map, hq]
              rfl
            rw [hkw'] at hkw
            cases hkw
            have hval : valV (kvSI qs) (Sum.inr qs[n].1 : Key) = some (V.int qs[n].2) := by
              rw [val_si, find_nodup hnd hq]
              rfl
            have hjs : j < (L2.wipe σ [j]).length := by rw [wipe_length, s.len]; exact hjl
            have hw : L2.wipe ((L2.wipe σ [j]).set j (some (kV (Sum.inr qs[n].1 : Key)))) [j] = L2.wipe σ [j] := by
              rw [wipe_eq (σ := L2.wipe σ [j]) (List.length_set ..) fun m hm => List.getElem?_set_ne (fun z => hm (by rw [z]; exact List.mem_singleton.mpr rfl)), wipe_wipe]
            have hvi : ((L2.wipe σ [j]).set j (some (kV (Sum.inr qs[n].1 : Key))))[i]? = some (some (.ref a)) := by
              rw [List.getElem?_set_ne (Ne.symm hji), wipe_get (fun z => hji (List.mem_singleton.mp z))]
              exact hv1
            have hvj : ((L2.wipe σ [j]).set j (some (kV (Sum.inr qs[n].1 : Key))))[j]? = some (some (kV (Sum.inr qs[n].1 : Key))) := List.getElem?_set_self hjs
            refine ⟨hw, ?_⟩
            refine ⟨.ref a, hvi, kV (Sum.inr qs[n].1), hvj, a, V.int qs[n].2, rfl, .inl ⟨kvSI qs, Sum.inr qs[n].1, .inr ⟨od, hfa⟩, rfl, hval.symm⟩, _, upd_same, ?_, ?_⟩
            · rw [List.length_take]
              have := hc.2
              omega
            · show upd (upd _ _ _) _ _ = _
              rw [upd_twice, List.take_add_one]
              congr 3
              rw [List.getElem?_map, hkw']
              rfl
          · have e : n = qs.length := by omega
            subst e
            refine .inl ⟨⟨hfa, by rw [hlen]; exact Nat.le_refl _⟩, hfa, ?_⟩
            have he : upd (upd (upd H a (.frz od (.dK (kvSI qs)))) Dl (.lst (((kvSI qs).map (·.2)).take qs.length))) a (.dK (kvSI qs)) = upd H Dl (.lst ((kvSI qs).map (·.2))) := by
              rw [List.take_of_length_le (by rw [List.length_map, hlen]; exact Nat.le_refl _)]
              funext b
              by_cases hb : b = a
              · subst hb
                rw [upd_same, upd_ne (Ne.symm hDa)]
                exact hH.symm
              · rw [upd_ne hb]
                by_cases hd : b = Dl
                · subst hd
                  rw [upd_same, upd_same]
                · rw [upd_ne hd, upd_ne hb, upd_ne hd]
            rw [he]
            exact pf _ _ (dom_upd hDH) (new_lst hDH (fun _ z => z) (kvSI_vals qs))
end
end Dn
set_option Elab.async false
set_option linter.all false
set_option maxRecDepth 100000
/-! dicts whose keys are pairs of numbers: {(k, l): v}, items, get with a default, set; locked when they are changed no more -/
namespace Dn
open PySem L2
section
variable {X : Cx}
/-- {k: v}, k a new tuple -/
def tDisp1 (tk tv : TE) : TE := fun σ H Q => ∀ p, H p = none → tk σ (upd H p (.dT [])) fun x H1 => tv σ H1 fun y H2 => H2 p = some (.dT []) ∧ ∃ b ks, x = .ref b ∧ H2 b = some (.tup (ks.map kV)) ∧ Q (.ref p) (upd H2 p (.dT [(ks, y)]))
theorem pe_disp1 {k v : Expr} {pos : Pos} {tk tv : TE} (hu : X.A.units + 1 < cLine) (hk : PE X k tk) (hv : PE X v tv) : PE X (.Dict [some k] [v] pos) (tDisp1 tk tv) := by
  refine ⟨fun pins s σ H Q I q => ?_⟩
  have hn := I.hok.fresh (Nat.le_refl s.heap.objs.size)
  have I1 := I.laid (a := s.heap.objs.size) (o := .dT []) (h' := s.heap.push { cls := .type "dict", data := .dict #[] }) (t' := s.toks) (fun _ _ q => Heap.get?_push_of_some _ q) (Nat.le_refl _) (dt_empty s.heap I.big)
  rw [arm_eval_Dict, zip_pairTrees [some k] [v] X.env pos rfl rfl, dictDisplay_pairs (pairTrees [some k] [v] X.env pos) (fun z => by cases z) (by show 1 < 17; decide)]
  refine wpAny_bind (wpAny_standAt (wpAny_bind (wpAny_subDictH (knd := tupleKind (mixKind X.prog X.w)) (show X.A.units < cLine by omega) (by show 1 ≤ 15; decide) ?_)))
  refine pairTrees_cons_walk (thn (hk.run pins _ σ _ _ I1 (q _ hn)) fun u s1 ⟨x, H1, I1, rx, q1⟩ => thn (hv.run pins s1 σ H1 _ I1 q1) fun w2 s2 ⟨y, H2, I2, ry, e, b, ks, ex, hb, q2⟩ => pairTrees_nil_walk ?_)
  subst ex
  obtain rfl : u = Value.ref b := rx
  obtain ⟨z, hd, xs, rel, dd⟩ := dt_of I2.hok e
  cases rel
  refine ⟨[(ks, b, w2)], ⟨rfl, rfl, key_of I2.hok hb, trivial⟩, dd, fun h' tk dd' hs => wpAny_pure ⟨.ref s.heap.objs.size, _, ?_, rfl, q2⟩⟩
  have dd2 : h'.DictOfH (tupleKind (mixKind X.prog X.w)) s.heap.objs.size [(ks, b, w2)] := dd'
  obtain ⟨o, es, ep, hq, h2, h3, h4, _, h5⟩ := dd2
  refine d_write I2 (by rw [e]; exact True.intro) hs ⟨o, hq⟩ ⟨by show 1 ≤ sizeLine; decide, hd, [(ks, b, w2)], .cons ⟨rfl, ?_, ry⟩ .nil, o, es, ep, hq, h2, h3, h4, h5⟩
  rw [upd_ne (ne_of hb e (fun z => nomatch z))]
  exact hb
/-- what stands at d is locked behind the expression that gives it -/
def tLockA (t : TE) : TE := fun σ H Q => t σ H fun v H1 => ∃ d u, v = .ref d ∧ H1 d = some u ∧ Mut (some u) ∧ ∀ od, Q v (upd H1 d (.frz od u))
theorem pe_lockA {e : Expr} {t : TE} (h : PE X e t) : PE X e (tLockA t) := by
  refine ⟨fun pins s σ H Q I hw => ?_⟩
  refine thn (h.run pins s σ H _ I hw) fun v s1 ⟨x, H1, I1, r, d, u, ex, hd, mu, q⟩ => ?_
  obtain ⟨od, I2⟩ := I1.lock hd mu
  exact ⟨x, _, I2, r, q od⟩
/-! ### (k, l), v in d.items() -/
theorem frzTV {pins : List (Addr × Obj)} {σ : St} {H : Hp} {s : Shared} {d : Addr} {o : Obj} {kvs : List (List L2.Key × V)} (I : Inv X pins σ H s) (h : H d = some (.frz o (.dT kvs))) :
    (d == sysModules) = false ∧ s.heap.get? d = some o ∧ o.ExactDict ∧ ∃ (es : Array DictEntry) (ep : Nat), o.data = .dict es ep ∧ es.size = kvs.length ∧
      ∀ (i : Nat) (k : List L2.Key) (v : V), kvs[i]? = some (k, v) → ∃ (en : DictEntry) (q : Addr), es[i]? = some en ∧ en.key = .ref q ∧ H q = some (.tup (k.map kV)) ∧ RelV v en.val := by
  obtain ⟨hd, z, hs, xs, pr, o', es, ep, ho, hx, hdt, he, _⟩ := I.hok d _ h
  rw [hd] at ho
  cases ho
  refine ⟨hs, hd, hx, es, ep, hdt, ?_, fun i k v e => ?_⟩
  · have l1 : es.size = xs.length := size_of_entries he
    have l2 : kvs.length = xs.length := Paired.length pr
    omega
  · obtain ⟨b, hb, e1, e2, e3⟩ := paired_get pr e
    have q := entry_at he i
    rw [hb] at q
    exact ⟨_, b.2.1, q, rfl, e2, e3⟩
def Itit (d : Addr) (o : Obj) (kvs : List (List L2.Key × V)) : It :=
  ⟨fun i H => H d = some (.frz o (.dT kvs)) ∧ i < kvs.length, fun i H x H' => ∃ T k v q, kvs[i]? = some (k, v) ∧ x = .ref T ∧ H T = none ∧ H q = some (.tup (k.map kV)) ∧ H' = upd H T (.tup [.ref q, v]), fun i H => H d = some (.frz o (.dT kvs)) ∧ kvs.length ≤ i⟩
theorem turn_itemsT {P : Program} {w : World} {K : PySem.W.Frag} {d : Addr} {o : Obj} {es : Array DictEntry} {ep : Nat} {kvs : List (List L2.Key × V)} {elts : List Expr} {kk : Nat} {tpos : Pos} (it : Addr) (hod : o.data = .dict es ep) :
    Turn P w K (.Tuple elts kk tpos) (Itit d o kvs) [it] it (fun i h => ∃ ok ov, IsItemIter h it d i kvs.length ep ok ov) where
  mem := by simp
  obj := fun i h st b hb => by
    have e : b = it := by simpa using hb
    subst e
    obtain ⟨ok, ov, e⟩ := st
    exact ⟨_, e, fun v z => nomatch z⟩
  keep := fun i h h' st k => let ⟨ok, ov, e⟩ := st; ⟨ok, ov, k it (by simp) _ e⟩
  item := by
    intro X hP hw hK hc i pins s σ H E I hf st hg
    subst hP hw hK
    obtain ⟨hd, hi⟩ := hg
    obtain ⟨hs, hgd, hx, es', ep', hdt, hsz, ent⟩ := frzTV I hd
    obtain ⟨rfl, rfl⟩ := dict_ep hod hdt
    obtain ⟨⟨k, v⟩, hkv⟩ : ∃ p, kvs[i]? = some p := ⟨kvs[i], List.getElem?_eq_getElem hi⟩
    obtain ⟨en, q, hen, hkey, hq, hv⟩ := ent i k v hkv
    obtain ⟨ok, ov, he⟩ := st
    rw [← hsz] at he
    have hie : i < es'.size := by rw [hsz]; exact hi
    have hen2 : es'[i] = en := by
      rw [Array.getElem?_eq_getElem hie] at hen
      exact Option.some.inj hen
    have hlt : it < s.heap.objs.size := Heap.lt_size he
    refine DT.nextI he ⟨o, hgd, hx, hdt⟩ hie fun h' ho hT hz hk => ?_
    rw [hen2] at ho hT
    refine ⟨_, rfl, wpAny_letOwnedTupleGo_items (s := { s with heap := h' }) ho fun h'' he' sb => ?_⟩
    have hT2 : h''.get? s.heap.objs.size = some { cls := .type "tuple", data := .seq #[en.key, en.val] } := (sb.2 _ (Nat.ne_of_gt hlt)).trans hT
    have new : ObjOk X.prog X.w (upd H s.heap.objs.size (.tup [.ref q, v])) h'' s.heap.objs.size (.tup [.ref q, v]) :=
      ⟨by show 2 ≤ sizeLine; decide, [en.key, en.val], .cons (show RelV (V.ref q) en.key from hkey) (.cons hv .nil), ⟨_, hT2, rfl, _, rfl⟩⟩
    have I1 : Inv X pins σ (upd H s.heap.objs.size (.tup [.ref q, v])) { s with heap := h'' } :=
      I.turnedNew (t' := s.toks) (ch := [it]) (fun b ob hb e => (sb.2 b (by simpa using hb)).trans (hk b ob (by simpa using hb) e)) hf (Nat.le_refl _) new
    refine ⟨.ref s.heap.objs.size, _, I1, rfl, ⟨_, k, v, q, hkv, rfl, I.hok.fresh (Nat.le_refl _), hq, rfl⟩, ⟨en.key, en.val, ?_⟩, fun b hb => ?_⟩
    · rw [← hsz]; exact he'
    · have e : b = it := by simpa using hb
      rw [e, upd_ne (Nat.ne_of_lt hlt)]
      exact (hf it (by simp)).1
  done := by
    intro X hP hw hK hc i pins s σ H E I hf st hg
    subst hP hw hK
    obtain ⟨hd, hi⟩ := hg
    obtain ⟨f0, f1, f2, f3, f4, f5⟩ := hf it (by simp)
    obtain ⟨hs, hgd, hx, es', ep', hdt, hsz, ent⟩ := frzTV I hd
    obtain ⟨rfl, rfl⟩ := dict_ep hod hdt
    obtain ⟨ok, ov, he⟩ := st
    rw [← hsz] at he
    exact DT.endI (I.ok.hd hc) he ⟨o, hgd, hx, hdt⟩ (by rw [hsz]; exact hi) fun h' eb => ⟨rfl, I.turned (t' := s.toks) (fun b ob hb e => eb b ob hb e) f0 f1 f3 f4 f5⟩
  self := fun A i s Q E st h => let ⟨_, _, e⟩ := st; PySem.W.kcp_self e h
def iItemsT (td : TE) : TI := fun σ H R => td σ H fun x H1 => ∃ d o kvs, x = .ref d ∧ H1 d = some (.frz o (.dT kvs)) ∧ R (Itit d o kvs) H1
theorem pi_itemsT {e : Expr} {td : TE} {apos cpos tpos : Pos} {elts : List Expr} {kk : Nat} (he : PE X e td) (hbase : attributeBase e "items" X.env (eval e X.env) = eval e X.env := by rfl) (hline : (apos.endLine == cpos.line) = true := by rfl) :
    PI X (.Tuple elts kk tpos) (.Call (.Attribute e "items" apos) [] [] cpos) (iItemsT td) := by
  refine ⟨fun pins s σ H R I h => ?_⟩
  refine wpAny_Call_method (T := "dict") (id := "dict.items") hbase rfl hline F.plainAttrs_dict F.slot_dict_items F.type_dict_items (thn (he.run pins s σ H _ I h) fun u s1 ⟨x, H1, I1, rx, d, o, kvs, ex, hd, q⟩ => ?_)
  subst ex
  obtain rfl : u = Value.ref d := rx
  obtain ⟨hs, hgd, hx, es, ep, hdt, hsz, ent⟩ := frzTV I1 hd
  have raw : DT.Raw s1.heap d es ep := ⟨o, hgd, hx, hdt⟩
  refine ⟨raw.typeIs, fun a z => by cases z; exact ⟨o, hgd, hx.2.1⟩, ?_⟩
  have I2 : Inv X pins σ H1 { s1 with heap := s1.heap.push { cls := .type "dict_items", data := .fields #[.ref d] } } := I1.kept (t' := s1.toks) fun b ob q => Heap.get?_push_of_some _ q
  have fin : wpAny (model X.prog X.w) X.A (pyIter (.ref s1.heap.objs.size)) (PIE X pins σ (.Tuple elts kk tpos) R) X.xe { s1 with heap := s1.heap.push { cls := .type "dict_items", data := .fields #[.ref d] } } := by
    refine DT.iterI ⟨_, Heap.get?_push_size _ rfl, rfl, rfl⟩ (raw.push _) (pi_one (tk := s1.toks) I2 _ (turn_itemsT _ hdt) ⟨.none, .none, ?_⟩ q)
    rw [← hsz]
    exact Heap.get?_push_size _ rfl
  show wpAny _ _ (callWith cpos (.builtin "dict.items") [.ref d] [] []) _ X.xe s1
  exact method_meetsIn F.slot_dict_items F.entry_dict_items rfl (PySem.evalArgs_none ⟨rfl, raw.typeIs, F.args_dict_items_1 _, _, DT.meetsItems (es := es) (ep := ep) hs, raw, fin⟩)
end
end Dn
set_option Elab.async false
set_option linter.all false
set_option maxRecDepth 100000
/-! dicts from pairs of numbers to numbers -/
namespace Dn
open PySem L2
abbrev E3 := (Int × Int) × Int
def kvT (es : List E3) : List (List L2.Key × V) := es.map fun e => ([.inl e.1.1, .inl e.1.2], V.int e.2)
def tdL (es : List E3) : List (D × D) := es.map fun e => (PyData.tuple [.int e.1.1, .int e.1.2], PyData.int e.2)
/-- one that may be changed, one that is locked -/
def tdD (es : List E3) : D := .dict (tdMark :: tdL es)
def tdF (es : List E3) : D := .dict (tdLock :: tdL es)
def tdEs : List (D × D) → Option (List E3)
  | [] => some []
  | (.tuple [.int a, .int b], .int c) :: r => match tdEs r with
    | some es => some (((a, b), c) :: es)
    | none => none
  | _ => none
theorem tdEs_of : ∀ {kvs : List (D × D)} {es : List E3}, tdEs kvs = some es → kvs = tdL es
  | [], es, h => by cases h; rfl
  | (k, n) :: r, es, h => by
    unfold tdEs at h
    split at h
    · rename_i e; cases e
    · rename_i a b c r' e
      cases e
      cases h1 : tdEs r with
      | none => rw [h1] at h; cases h
      | some qs =>
        rw [h1] at h
        cases h
        rw [tdEs_of h1]
        rfl
    · cases h
theorem tdEs_L : ∀ es : List E3, tdEs (tdL es) = some es
  | [] => rfl
  | ((a, b), c) :: es => by
    have ih := tdEs_L es
    unfold tdL at ih ⊢
    rw [List.map_cons]
    unfold tdEs
    rw [ih]
def openEs : D → Option (List E3)
  | .dict ((.none, .none) :: kvs) => tdEs kvs
  | _ => none
def lockEs : D → Option (List E3)
  | .dict ((.none, .bool true) :: kvs) => tdEs kvs
  | _ => none
theorem openEs_of {d : D} {es : List E3} (h : openEs d = some es) : d = tdD es := by
  unfold openEs at h
  split at h
  · rw [tdEs_of h]; rfl
  · cases h
theorem lockEs_of {d : D} {es : List E3} (h : lockEs d = some es) : d = tdF es := by
  unfold lockEs at h
  split at h
  · rw [tdEs_of h]; rfl
  · cases h
theorem openEs_D (es : List E3) : openEs (tdD es) = some es := tdEs_L es
theorem lockEs_F (es : List E3) : lockEs (tdF es) = some es := tdEs_L es
theorem keyD_int {k : L2.Key} {a : Int} (h : keyD k = .int a) : k = .inl a := by
  cases k with
  | inl i => cases h; rfl
  | inr z => cases h
theorem keysD_two {k : List L2.Key} {a b : Int} (h : keysD k = .tuple [.int a, .int b]) : k = [.inl a, .inl b] := by
  unfold keysD at h
  injection h with h
  cases k with
  | nil => cases h
  | cons x k =>
    rw [List.map_cons] at h
    injection h with h1 h
    cases k with
    | nil => cases h
    | cons y k =>
      rw [List.map_cons] at h
      injection h with h2 h
      cases k with
      | nil => rw [keyD_int h1, keyD_int h2]
      | cons z k => rw [List.map_cons] at h; cases h
theorem zip_kvT : ∀ {kvs : List (List L2.Key × V)} {ds : List D} {es : List E3} {K : PySem.W.Frag} {H : Hp} {A : Av}, ((kvs.map fun kv => keysD kv.1).zip ds) = tdL es → DqL K H A (kvs.map (·.2)) ds → kvs = kvT es
  | [], _, [], _, _, _, _, _ => rfl
  | [], _, _ :: _, _, _, _, h, _ => by rw [List.map_nil, List.zip_nil_left] at h; cases h
  | kv :: kvs, ds, [], _, _, _, h, r => by
    cases r
    rw [List.map_cons, List.zip_cons_cons] at h
    cases h
  | (k, v) :: kvs, ds, ((a, b), c) :: es, _, _, _, h, r => by
    cases r with
    | cons r1 r2 =>
      rw [List.map_cons, List.zip_cons_cons] at h
      obtain ⟨h1, h2⟩ := List.cons.inj h
      obtain ⟨h3, h4⟩ := Prod.mk.inj h1
      subst h4
      cases r1
      rw [zip_kvT h2 r2, keysD_two (show keysD k = .tuple [.int a, .int b] from h3)]
      rfl
theorem tdL_zip : ∀ es : List E3, ((kvT es).map fun kv => keysD kv.1).zip (es.map fun e => PyData.int e.2) = tdL es
  | [] => rfl
  | e :: es => by
    show (_, _) :: ((kvT es).map fun kv => keysD kv.1).zip (es.map fun e => PyData.int e.2) = _
    rw [tdL_zip es]
    rfl
theorem kvT_vals {K : PySem.W.Frag} {H : Hp} {A : Av} : ∀ es : List E3, DqL K H A ((kvT es).map (·.2)) (es.map fun e => PyData.int e.2)
  | [] => .nil
  | e :: es => .cons (.int _) (kvT_vals es)
theorem upd_twice' {H : Hp} {a : Addr} {u w : HO} : upd (upd H a u) a w = upd H a w := funext fun b => by
  by_cases hb : b = a
  · subst hb; rw [upd_same, upd_same]
  · unfold upd; simp only [hb, if_false]
section
variable {K : PySem.W.Frag} {H : Hp} {A : Av}
theorem dq_tdF {p : Addr} {o : Obj} {es : List E3} (h : H p = some (.frz o (.dT (kvT es)))) : Dq K H A (.ref p) (tdF es) := by
  unfold tdF
  rw [← tdL_zip]
  exact .dF h (kvT_vals es)
theorem of_tdF {v : V} {es : List E3} (r : Dq K H A v (tdF es)) : ∃ p o, v = .ref p ∧ H p = some (.frz o (.dT (kvT es))) := by
  unfold tdF at r
  generalize hk : (tdLock :: tdL es) = kk at r
  cases r with
  | @dK _ a kvs ds a1 a2 a3 =>
    exfalso
    cases kvs with
    | nil => cases hk
    | cons kv kvs => cases a3; cases kv with | mk k v => cases k <;> cases hk
  | dT a1 a2 a3 => cases (List.cons.inj hk).1
  | dF a2 a3 => exact ⟨_, _, rfl, by rw [← zip_kvT (List.cons.inj hk).2.symm a3]; exact a2⟩
theorem cell_tdD {p : Addr} {es : List E3} (c : Cell K H A p (tdD es)) : H p = some (.dT (kvT es)) := by
  unfold tdD at c
  rcases c with ⟨vs, ds, e, q1, q2⟩ | ⟨kvs, ds, e, q1, q2⟩ | ⟨kvs, ds, e, q1, q2⟩
  · cases e
  · exfalso
    injection e with e
    cases kvs with
    | nil => cases e
    | cons kv kvs => cases q2; cases kv with | mk k v => cases k <;> cases e
  · injection e with e
    rw [← zip_kvT (List.cons.inj e).2.symm q2]
    exact q1
theorem tdD_cell {p : Addr} {es : List E3} (h : H p = some (.dT (kvT es))) : Cell K H A p (tdD es) := by
  unfold tdD
  rw [← tdL_zip]
  exact .inr (.inr ⟨_, _, rfl, h, kvT_vals es⟩)
end
def getE (es : List E3) (p : Int × Int) : Option Int := (es.find? fun e => decide (e.1 = p)).map (·.2)
def putE (es : List E3) (p : Int × Int) (c : Int) : List E3 := if es.any (fun e => decide (e.1 = p)) = true then es.map (fun e => if e.1 = p then (e.1, c) else e) else es ++ [(p, c)]
theorem key_eq {a b c d : Int} : (([.inl a, .inl b] : List L2.Key) = [.inl c, .inl d]) ↔ ((a, b) = (c, d)) := by
  constructor
  · intro h; cases h; rfl
  · intro h; cases h; rfl
theorem val_kvT {a b : Int} : ∀ {es : List E3}, valV (kvT es) [.inl a, .inl b] = (getE es (a, b)).map V.int
  | [] => rfl
  | ((c, d), v) :: es => by
    have ih := val_kvT (a := a) (b := b) (es := es)
    unfold valV kvT getE at ih ⊢
    rw [List.map_cons, List.find?_cons, List.find?_cons]
    by_cases h : (c, d) = (a, b)
    · rw [decide_eq_true h, decide_eq_true (key_eq.mpr h)]
      rfl
    · rw [decide_eq_false h, decide_eq_false (fun e => h (key_eq.mp e))]
      exact ih
theorem any_kvT {a b : Int} : ∀ {es : List E3}, ((kvT es).any fun kv => decide (kv.1 = [.inl a, .inl b])) = es.any fun e => decide (e.1 = (a, b))
  | [] => rfl
  | ((c, d), v) :: es => by
    have ih := any_kvT (a := a) (b := b) (es := es)
    unfold kvT at ih ⊢
    rw [List.map_cons, List.any_cons, List.any_cons, ih]
    congr 1
    exact decide_eq_decide.mpr key_eq
theorem put_kvT {a b c : Int} {es : List E3} : putK (kvT es) [.inl a, .inl b] (V.int c) = kvT (putE es (a, b) c) := by
  unfold putK putE
  rw [any_kvT]
  by_cases h : (es.any fun e => decide (e.1 = (a, b))) = true
  · rw [if_pos h, if_pos h]
    unfold kvT
    rw [List.map_map, List.map_map]
    refine List.map_congr_left fun e _ => ?_
    show (if ([.inl e.1.1, .inl e.1.2] : List L2.Key) = [.inl a, .inl b] then _ else _) = _
    by_cases k : e.1 = (a, b)
    · rw [if_pos (key_eq.mpr k)]
      show _ = (fun e : E3 => (([.inl e.1.1, .inl e.1.2] : List L2.Key), V.int e.2)) (if e.1 = (a, b) then (e.1, c) else e)
      rw [if_pos k]
    · rw [if_neg (fun z => k (key_eq.mp z))]
      show _ = (fun e : E3 => (([.inl e.1.1, .inl e.1.2] : List L2.Key), V.int e.2)) (if e.1 = (a, b) then (e.1, c) else e)
      rw [if_neg k]
  · rw [if_neg h, if_neg h]
    unfold kvT
    rw [List.map_append]
    rfl
def twoI : List D → Option (Int × Int)
  | [.int a, .int b] => some (a, b)
  | _ => none
theorem twoI_of {ds : List D} {q : Int × Int} (h : twoI ds = some q) : ds = [.int q.1, .int q.2] := by
  unfold twoI at h
  split at h <;> cases h
  rfl
def oneI : D → Option Int
  | .int c => some c
  | _ => none
theorem oneI_of {d : D} {c : Int} (h : oneI d = some c) : d = .int c := by
  unfold oneI at h
  split at h <;> cases h
  rfl
theorem DqL.two {K : PySem.W.Frag} {H : Hp} {A : Av} {vs : List V} {a b : Int} (r : DqL K H A vs [.int a, .int b]) : vs = [.int a, .int b] := by
  cases r with
  | cons r1 r2 =>
    cases r2 with
    | cons r3 r4 => cases r4; cases r1; cases r3; rfl
theorem Dq.one {K : PySem.W.Frag} {H : Hp} {A : Av} {v : V} {c : Int} (r : Dq K H A v (.int c)) : v = .int c := by cases r; rfl
/-! ### {(k, l): v}, locked at once -/
def eDisp1 (gs : Rho → Res (List D)) (fv : Rho → Res D) : Rho → Res D := fun ρ => (gs ρ).bind fun ds => (ofO (twoI ds)).bind fun q => (fv ρ).bind fun d => (ofO (oneI d)).bind fun c => .ok (tdF [(q, c)])
section
variable {F : Fam} {τ : List Kd} {rf : Bool}
theorem dn_disp1 {es : List Expr} {v : Expr} {kk : Nat} {p1 pos : Pos} {gs : Rho → Res (List D)} {fv : Rho → Res D} {la lb : Fl} (ha : DnA F τ es gs la) (hv : DnE F τ v fv lb) :
    DnE F τ (.Dict [some (.Tuple es kk p1)] [v] pos) (eDisp1 gs fv) .s := by
  obtain ⟨ta, a1, a2⟩ := ha
  obtain ⟨tv, b1, b2⟩ := hv
  refine ⟨tLockA (tDisp1 (tTup ta) tv), fun i => pe_lockA (pe_disp1 (by have := units_of (F := F) i; omega) (pe_tup (a1 i)) (b1 i)), fun H0 B ρ σ H Q s p => ?_⟩
  intro q hq
  have e0 : Same H (upd H q (.dT [])) := dom_upd hq
  refine a2 H0 B ρ σ _ _ (s.more e0) (p.bind.to e0 fun ds _ p1 vs H1 e1 r1 => ?_)
  cases ht : twoI ds with
  | none => rw [ht] at p1; exact p1.elim
  | some ab =>
  rw [ht] at p1
  have hds := twoI_of ht
  subst hds
  have hvs := r1.two
  subst hvs
  refine ⟨by show 2 ≤ sizeLine; decide, fun q2 hq2 => ?_⟩
  have e2 : Same H1 (upd H1 q2 (.tup [.int ab.1, .int ab.2])) := dom_upd hq2
  have e02 := (e0.trans e1).trans e2
  have p1 : Post F σ H _ ((fv ρ).bind fun d => (ofO (oneI d)).bind fun c => Res.ok (tdF [(ab, c)])) := p1
  refine b2 H0 B ρ σ _ _ (s.more e02) (p1.bind.to e02 fun d _ p2 y H3 e3 r3 => ?_)
  cases hc : oneI d with
  | none => rw [hc] at p2; exact p2.elim
  | some c =>
  rw [hc] at p2
  have hd := oneI_of hc
  subst hd
  have hy := r3.one
  subst hy
  have h3 : H3 q = some (.dT []) := e3 _ _ (e2 _ _ (e1 _ _ upd_same))
  refine ⟨h3, q2, [.inl ab.1, .inl ab.2], rfl, e3 _ _ upd_same, q, _, rfl, upd_same, trivial, fun od => ?_⟩
  rw [upd_twice']
  have e03 : Same H (upd H3 q (.frz od (.dT [([.inl ab.1, .inl ab.2], V.int c)]))) := Same.updM (e02.trans e3) hq h3 trivial
  exact p2 _ _ e03 (dq_tdF (es := [(ab, c)]) upd_same)
/-! ### x = y, y an owning slot with such a dict: locked -/
def sMoveF (i j : Nat) : Rho → Out := fun ρ => outOf (eVar j ρ) fun d => outOf (ofO (openEs d)) fun es => .next ((ρ.set j none).set i (some (tdF es)))
theorem ds_moveF (i j : Nat) {x y : Str} {pos pos' py : Pos} (hk : kd τ i = .sh := by rfl) (hj : (kd τ j).isOwn = true := by rfl) (hN : ∀ k, (F.X k).N[j]? = some y := by intro _; rfl) (hv : ∀ k, Vis (F.X k).env.scope y := by intro _; first | exact Or.inl rfl | exact Or.inr (Or.inl rfl) | exact Or.inr (Or.inr rfl))
    (hd : (y == ("__debug__" : Str)) = false := by decide) (hcd : (y == ("__classdict__" : Str)) = false := by decide) (hi : ∀ j, (F.X j).N[i]? = some x := by intro _; rfl) (hx : ∀ j, Loc (F.X j).env.scope x := by intro _; first | exact .inl rfl | exact .inr rfl)
    (hs : ∀ j, swapsWith (.Name y py) (some (.Name x pos')) pos.line (F.X j).env = pure false := by intro _; rfl) (hf : ∀ j, (F.X j).fn x = true ∨ (F.X j).env.scope.names.lookup x = some .local := by intro _; first | exact .inl rfl | exact .inr rfl) :
    DnS F τ τ rf (.Assign [.Name x pos'] (.Name y py) pos) (sMoveF i j) := by
  refine ⟨_, fun k => ps_set (F.nd k) (hi k) (hx k) (pe_lockA (pe_var (hN k) (hv k) hd hcd)) (hs k) (hf k), fun H0 B ρ σ H E s p => ?_⟩
  unfold sMoveF at p
  cases hq : eVar j ρ with
  | exc c => exact (eVar_exc hq).elim
  | bad => rw [hq] at p; exact p.elim
  | ok d =>
    rw [hq] at p
    have pf : PostS F τ H0 B H (OwnX τ B ρ σ) rf E (outOf (ofO (openEs d)) fun es => .next ((ρ.set j none).set i (some (tdF es)))) := p
    clear p
    cases ho : openEs d with
    | none => rw [ho] at pf; exact pf.elim
    | some es =>
    rw [ho] at pf
    have hd := openEs_of ho
    subst hd
    obtain ⟨l, h1, h2, h3, h4, _⟩ := s.ownCell hj (eVar_ok hq)
    have hl := cell_tdD h4
    have hO : OwnX τ B ρ σ l := .inl ⟨j, h2⟩
    refine ⟨.ref l, h1, l, _, rfl, hl, trivial, fun od => ?_⟩
    have hn : (kd τ i).isOwn = false := by rw [hk]; rfl
    obtain ⟨s2, hX2⟩ := s.forget j
    have hX : ∀ q, OwnX τ B ((ρ.set j none).set i (some (tdF es))) (σ.set i (some (.ref l))) q → OwnX τ B ρ σ q := fun q z => hX2 q ((ownX_put hn q).mp z)
    have hA : ∀ m q, OwnAt τ ((ρ.set j none).set i (some (tdF es))) (σ.set i (some (.ref l))) m q → OwnAt τ ρ σ m q := fun m q z => by
      obtain ⟨g1, ⟨e, g2⟩, g3⟩ := (own_put hn m q).mp z
      rcases getset g2 with ⟨_, e, _⟩ | ⟨_, g2'⟩
      · cases e
      · exact ⟨g1, ⟨_, g2'⟩, g3⟩
    refine pf _ _ ⟨by rw [List.length_set, List.length_set, List.length_set]; exact s.len, s.ext.updM h3 hl trivial, fun m d h => ?_, fun a b q g1 g2 => s.dis a b q (hA a q g1) (hA b q g2), fun q hb => ?_, fun q hb ⟨m, z⟩ => s.bno q hb ⟨m, hA m q z⟩, fun P q t => tabs_upd (s.tbs P q t) hl trivial⟩ ⟨⟨fun a o ha hn' t => ?_, fun a ha => ?_⟩, fun a z => .inl (hX a z)⟩
    · rcases getset h with ⟨rfl, e1, hlt⟩ | ⟨ne, h'⟩
      · cases e1
        refine ⟨.ref l, by rw [List.getElem?_set_self (by rw [List.length_set] at hlt; rw [s.len]; exact hlt)], ?_⟩
        rw [hk]
        exact dq_tdF upd_same
      · rcases getset h' with ⟨_, e, _⟩ | ⟨ne2, h''⟩
        · cases e
        · obtain ⟨w, g1, g2⟩ := s.ok m d h''
          refine ⟨w, by rw [List.getElem?_set_ne ne]; exact g1, (SlotOk.upd hl trivial hO (fun ow z => ?_) g2).ext (Same.refl _) hX⟩
          subst z
          exact ne2 (s.dis j m l h2 ⟨ow, ⟨d, h''⟩, g1⟩)
    · obtain ⟨o, g1, g2⟩ := s.bdm q hb
      refine ⟨o, ?_, g2⟩
      rw [upd_ne (fun z => by subst z; exact s.bno q hb ⟨j, h2⟩)]
      exact g1
    · rw [upd_ne (fun z => hn' (by rw [z]; exact hO))]
      exact ha
    · by_cases hal : a = l
      · rw [hal]; exact fun z => absurd (upd_same.symm.trans z) (fun w => by cases w)
      · rw [upd_ne hal]; exact ha
/-! ### (k, l), v in d.items(), d locked -/
def gIt (a b c : Nat) : D → Rho → Option Rho := fun d ρ => match d with
  | .tuple [.tuple [.int x, .int y], .int z] => some (((ρ.set a (some (.int x))).set b (some (.int y))).set c (some (.int z)))
  | _ => none
def itD (e : E3) : D := .tuple [.tuple [.int e.1.1, .int e.1.2], .int e.2]
def sForItems (i a b c : Nat) (gb : Rho → Out) : Rho → Out := fun ρ => outOf (eVar i ρ) fun d => outOf (ofO (lockEs d)) fun es => loopD (gIt a b c) gb (es.map itD) ρ
abbrev tgPr (K : PySem.W.Frag) (a b c : Nat) : TG := gTup K 2 (gCons (gTup K 2 (gCons (gName a) (gCons (gName b) gNil))) (gCons (gName c) gNil))
theorem ds_forItems (i a b c : Nat) {x1 x2 x3 y : Str} {q1 q2 q3 q4 q5 p1 p2 p3 pos : Pos} {k1 k2 : Nat} {sb : List Stmt} {gb : Rho → Out} (hb : DnB F τ τ rf sb gb)
    (hk : kd τ i = .sh := by rfl) (ka : kd τ a = .sh := by rfl) (kb : kd τ b = .sh := by rfl) (kc : kd τ c = .sh := by rfl)
    (hN : ∀ k, (F.X k).N[i]? = some y := by intro _; rfl) (hv : ∀ k, Vis (F.X k).env.scope y := by intro _; first | exact Or.inl rfl | exact Or.inr (Or.inl rfl) | exact Or.inr (Or.inr rfl))
    (hd : (y == ("__debug__" : Str)) = false := by decide) (hcd : (y == ("__classdict__" : Str)) = false := by decide)
    (i1 : ∀ j, (F.X j).N[a]? = some x1 := by intro _; rfl) (l1 : ∀ j, Loc (F.X j).env.scope x1 := by intro _; first | exact .inl rfl | exact .inr rfl) (f1 : ∀ j, (F.X j).fn x1 = true ∨ (F.X j).env.scope.names.lookup x1 = some .local := by intro _; first | exact .inl rfl | exact .inr rfl)
    (i2 : ∀ j, (F.X j).N[b]? = some x2 := by intro _; rfl) (l2 : ∀ j, Loc (F.X j).env.scope x2 := by intro _; first | exact .inl rfl | exact .inr rfl) (f2 : ∀ j, (F.X j).fn x2 = true ∨ (F.X j).env.scope.names.lookup x2 = some .local := by intro _; first | exact .inl rfl | exact .inr rfl)
    (i3 : ∀ j, (F.X j).N[c]? = some x3 := by intro _; rfl) (l3 : ∀ j, Loc (F.X j).env.scope x3 := by intro _; first | exact .inl rfl | exact .inr rfl) (f3 : ∀ j, (F.X j).fn x3 = true ∨ (F.X j).env.scope.names.lookup x3 = some .local := by intro _; first | exact .inl rfl | exact .inr rfl)
    (hbase : ∀ j, attributeBase (.Name y p1) "items" (F.X j).env (eval (.Name y p1) (F.X j).env) = eval (.Name y p1) (F.X j).env := by intro _; rfl) (hline : (p2.endLine == p3.line) = true := by rfl)
    (hs : ∀ j x, foldedSetIterable (.Call (.Attribute (.Name y p1) "items" p2) [] [] p3) (F.X j).env x = pure x := by intro _ _; rfl) (hot0 : F.hot = false := by rfl) :
    DnS F τ τ rf (.For (.Tuple [.Tuple [.Name x1 q1, .Name x2 q2] k1 q3, .Name x3 q4] k2 q5) (.Call (.Attribute (.Name y p1) "items" p2) [] [] p3) sb [] pos) (sForItems i a b c gb) := by
  obtain ⟨tb, b1, b2⟩ := hb
  have hg : ∀ j, PG (F.X j) (.Tuple [.Tuple [.Name x1 q1, .Name x2 q2] k1 q3, .Name x3 q4] k2 q5) (tgPr F.K a b c) := fun j => by
    have q := pg_tup (pos := q5) (k := k2) (F.calm hot0 j) (pgs_cons (pg_tup (pos := q3) (k := k1) (F.calm hot0 j) (pgs_cons (pg_name (pos := q1) (F.nd j) (i1 j) (l1 j) (f1 j)) (pgs_cons (pg_name (pos := q2) (F.nd j) (i2 j) (l2 j) (f2 j)) pgs_nil rfl) rfl) rfl rfl) (pgs_cons (pg_name (pos := q4) (F.nd j) (i3 j) (l3 j) (f3 j)) pgs_nil rfl) rfl) rfl rfl
    rw [F.hK j] at q
    exact q
  refine ⟨tFor (iItemsT (tVar i)) (tgPr F.K a b c) tb, fun j => ps_for (F.po j) (F.calm hot0 j) (pi_itemsT (pe_var (hN j) (hv j) hd hcd) (hbase j) hline) (hg j) (b1 j) (hs j), fun H0 B ρ σ H E s p => ?_⟩
  unfold sForItems at p
  cases hq : eVar i ρ with
  | exc c => exact (eVar_exc hq).elim
  | bad => rw [hq] at p; exact p.elim
  | ok d =>
  rw [hq] at p
  have pf : PostS F τ H0 B H (OwnX τ B ρ σ) rf E (outOf (ofO (lockEs d)) fun es => loopD (gIt a b c) gb (es.map itD) ρ) := p
  clear p
  cases ho : lockEs d with
  | none => rw [ho] at pf; exact pf.elim
  | some es =>
  rw [ho] at pf
  have hdd := lockEs_of ho
  subst hdd
  obtain ⟨v, hv1, hv2⟩ := s.ok i _ (eVar_ok hq)
  rw [hk] at hv2
  obtain ⟨l, o, rfl, hl⟩ := of_tdF (show Dq F.K H (OwnX τ B ρ σ) v (tdF es) from hv2)
  have hlO : ¬ OwnX τ B ρ σ l := by
    rintro (z | z)
    · obtain ⟨m, z1, ⟨d, z2⟩, z3⟩ := z
      obtain ⟨l', g1, g2, _, g4, _⟩ := s.ownCell z1 z2
      rw [g1] at z3
      cases z3
      rcases g4 with ⟨_, _, _, q, _⟩ | ⟨_, _, _, q, _⟩ | ⟨_, _, _, q, _⟩ <;> (rw [hl] at q; cases q)
    · obtain ⟨o', g, m⟩ := s.bdm l z
      rw [hl] at g
      cases g
      exact m
  refine ⟨.ref l, hv1, l, o, kvT es, rfl, hl, ?_⟩
  have hlen : (kvT es).length = es.length := List.length_map _
  refine ⟨fun n m σ' H' => m = es.length - n ∧ n ≤ es.length ∧ ∃ ρ', SR F.K τ H0 B ρ' σ' H' ∧ Kp (OwnX τ B ρ σ) H (OwnX τ B ρ' σ') H' ∧ PostS F τ H0 B H' (OwnX τ B ρ' σ') rf E (loopD (gIt a b c) gb ((es.drop n).map itD) ρ'),
    ⟨es.length, by simp, Nat.zero_le _, ρ, s, Kp.refl, pf⟩, ?_⟩
  rintro n m σ2 H2 ⟨rfl, hi, ρ2, s2, kp2, p2⟩
  have hl2 : H2 l = some (.frz o (.dT (kvT es))) := kp2.1 _ _ hl hlO
  by_cases hlt : n < es.length
  · refine .inr ⟨⟨hl2, by rw [hlen]; exact hlt⟩, fun σ' H' => ∃ ρ', SR F.K τ H0 B ρ' σ' H' ∧ Kp (OwnX τ B ρ σ) H (OwnX τ B ρ' σ') H' ∧ PostS F τ H0 B H' (OwnX τ B ρ' σ') rf E (loopD (gIt a b c) gb ((es.drop (n + 1)).map itD) ρ'),
      fun σ' H' ⟨ρ', u, v, w⟩ => ⟨es.length - (n + 1), by omega, rfl, hlt, ρ', u, v, w⟩, ?_⟩
    rintro x H3 ⟨T, k, v, q, hkv, rfl, hT, hqk, rfl⟩
    have he : (kvT es)[n]? = some ([.inl es[n].1.1, .inl es[n].1.2], V.int es[n].2) := by
      unfold kvT
      rw [List.getElem?_map, List.getElem?_eq_getElem hlt]
      rfl
    rw [he] at hkv
    cases hkv
    have e3 : Same H2 (upd H2 T (.tup [.ref q, .int es[n].2])) := dom_upd hT
    rw [List.drop_eq_getElem_cons hlt, List.map_cons] at p2
    have p2 : PostS F τ H0 B H2 (OwnX τ B ρ2 σ2) rf E (match gb (((ρ2.set a (some (.int es[n].1.1))).set b (some (.int es[n].1.2))).set c (some (.int es[n].2))) with
      | .next ρ4 => loopD (gIt a b c) gb ((es.drop (n + 1)).map itD) ρ4
      | .cont ρ4 => loopD (gIt a b c) gb ((es.drop (n + 1)).map itD) ρ4
      | .brk ρ4 => .next ρ4
      | o => o) := p2
    have na : (kd τ a).isOwn = false := by rw [ka]; rfl
    have nb : (kd τ b).isOwn = false := by rw [kb]; rfl
    have nc : (kd τ c).isOwn = false := by rw [kc]; rfl
    have s3 := ((s2.put (d := .int es[n].1.1) (v := .int es[n].1.1) na e3 (by rw [ka]; exact .int _)).put (d := .int es[n].1.2) (v := .int es[n].1.2) nb (Same.refl _) (by rw [kb]; exact .int _)).put (d := .int es[n].2) (v := .int es[n].2) nc (Same.refl _) (by rw [kc]; exact .int _)
    have o3 := fun u => ((ownX_put (B := B) (ρ := (ρ2.set a (some (.int es[n].1.1))).set b (some (.int es[n].1.2))) (σ := (σ2.set a (some (.int es[n].1.1))).set b (some (.int es[n].1.2))) (x := some (.int es[n].2)) (y := some (.int es[n].2)) nc u).trans (ownX_put (B := B) (ρ := ρ2.set a (some (.int es[n].1.1))) (σ := σ2.set a (some (.int es[n].1.1))) (x := some (.int es[n].1.2)) (y := some (.int es[n].1.2)) nb u)).trans (ownX_put (B := B) (ρ := ρ2) (σ := σ2) (x := some (.int es[n].1.1)) (y := some (.int es[n].1.1)) na u)
    refine ⟨T, _, rfl, .inl (.inl upd_same), rfl, .ref q, _, rfl, ?_⟩
    refine ⟨q, _, rfl, .inl (.inl (e3 _ _ hqk)), rfl, .int es[n].1.1, _, rfl, ?_⟩
    refine ⟨.int es[n].1.2, _, rfl, rfl, .int es[n].2, _, rfl, rfl, ?_⟩
    have k3 : Kp (OwnX τ B ρ2 σ2) H2 (OwnX τ B (((ρ2.set a (some (.int es[n].1.1))).set b (some (.int es[n].1.2))).set c (some (.int es[n].2))) (((σ2.set a (some (.int es[n].1.1))).set b (some (.int es[n].1.2))).set c (some (.int es[n].2)))) (upd H2 T (.tup [.ref q, .int es[n].2])) := (Kp.same e3).trans (Kp.sub fun u z => (o3 u).mp z)
    refine b2 H0 B _ _ _ _ s3 ?_
    cases hgb : gb (((ρ2.set a (some (.int es[n].1.1))).set b (some (.int es[n].1.2))).set c (some (.int es[n].2))) with
    | next ρ4 => rw [hgb] at p2; exact fun σ4 H4 s4 k4 => ⟨ρ4, s4, (kp2.trans k3).trans k4, (p2.later k3).later k4⟩
    | cont ρ4 => rw [hgb] at p2; exact fun σ4 H4 s4 k4 => ⟨ρ4, s4, (kp2.trans k3).trans k4, (p2.later k3).later k4⟩
    | brk ρ4 => rw [hgb] at p2; exact fun σ4 H4 s4 k4 => p2 σ4 H4 s4 (k3.trans k4)
    | ret d => rw [hgb] at p2; exact p2
    | exc c => rw [hgb] at p2; exact p2
    | bad => rw [hgb] at p2; exact p2
  · have e : n = es.length := by omega
    subst e
    rw [List.drop_length] at p2
    exact .inl ⟨⟨hl2, by rw [hlen]; exact Nat.le_refl _⟩, p2 σ2 H2 s2 Kp.refl⟩
/-! ### key = (k, l); d[key] = d.get(key, 0) + v -/
theorem SR.setTd {K : PySem.W.Frag} {H H0 : Hp} {τ : List Kd} {B : Av} {ρ : Rho} {σ : St} {i : Nat} {es : List E3} (s : SR K τ H0 B ρ σ H) (hk : (kd τ i).isOwn = true) (h : ρ[i]? = some (some (tdD es))) :
    ∃ p, σ[i]? = some (some (.ref p)) ∧ OwnX τ B ρ σ p ∧ H p = some (.dT (kvT es)) ∧
      ∀ H' es', Same H H' → SR K τ H0 B (ρ.set i (some (tdD es'))) σ (upd H' p (.dT (kvT es'))) ∧ (∀ q, OwnX τ B (ρ.set i (some (tdD es'))) σ q ↔ OwnX τ B ρ σ q) ∧ Kp (OwnX τ B ρ σ) H (OwnX τ B (ρ.set i (some (tdD es'))) σ) (upd H' p (.dT (kvT es'))) := by
  obtain ⟨p, h1, h2, h3, h4, h5⟩ := s.ownCell hk h
  have g1 := cell_tdD h4
  have hO : OwnX τ B ρ σ p := .inl ⟨i, h2⟩
  refine ⟨p, h1, hO, g1, fun H' es' e => ?_⟩
  have s' := s.more e
  have hp : H' p = some (.dT (kvT es)) := e _ _ g1
  have new : SlotOk K H0 (upd H' p (.dT (kvT es'))) (OwnX τ B ρ σ) (.ref p) (tdD es') (kd τ i) := by
    cases q : kd τ i with
    | own => exact ⟨p, rfl, h3, tdD_cell upd_same⟩
    | owne => exact ⟨p, rfl, h3, tdD_cell upd_same⟩
    | _ => rw [q] at hk; cases hk
  obtain ⟨s2, hX⟩ := s'.mut h2 hp trivial new
  refine ⟨s2, hX, ⟨fun a o ha hn t => ?_, fun a ha => ?_⟩, fun a z => .inl ((hX a).mp z)⟩
  · rw [upd_ne (fun z => hn (by rw [z]; exact hO))]
    exact e.get a o ha t
  · by_cases hap : a = p
    · rw [hap]; exact fun z => absurd (upd_same.symm.trans z) (fun w => by cases w)
    · rw [upd_ne hap]; exact e.dm a ha
/-- a slot that is of no more use -/
theorem SR.drop {K : PySem.W.Frag} {H H0 : Hp} {τ : List Kd} {B : Av} {ρ : Rho} {σ : St} {i : Nat} (s : SR K τ H0 B ρ σ H) (hk : (kd τ i).isOwn = false) (v : Option V) : SR K τ H0 B (ρ.set i none) (σ.set i v) H := by
  refine ⟨by rw [List.length_set, List.length_set]; exact s.len, s.ext, fun j d' h => ?_, fun a b p h1 h2 => s.dis a b p ((own_put hk a p).mp h1) ((own_put hk b p).mp h2), s.bdm, fun p h ⟨j, z⟩ => s.bno p h ⟨j, (own_put hk j p).mp z⟩, s.tbs⟩
  rcases getset h with ⟨rfl, e1, hl⟩ | ⟨ne, h'⟩
  · cases e1
  · obtain ⟨w, h1, h2⟩ := s.ok j d' h'
    exact ⟨w, by rw [List.getElem?_set_ne ne]; exact h1, h2.ext (Same.refl _) fun p z => (ownX_put hk p).mp z⟩
def sPutAdd (j kk m : Nat) (gs : Rho → Res (List D)) : Rho → Out := fun ρ => outOf (gs ρ) fun ds => outOf (ofO (twoI ds)) fun q => outOf (eVar j ρ) fun d => outOf (ofO (openEs d)) fun es => outOf (eVar m ρ) fun e => outOf (ofO (oneI e)) fun c =>
  if es.length < 100000 ∧ kk < ρ.length then .next ((ρ.set j (some (tdD (putE es q ((getE es q).getD 0 + c))))).set kk none) else .bad
theorem db_putAdd (j kk m : Nat) {es : List Expr} {gs : Rho → Res (List D)} {fl : Fl} {key later many : Str} {k1 k2 : Nat} {p1 p2 p3 p4 p5 p6 p7 p8 p9 p10 p11 p12 p13 p14 : Pos} (ha : DnA F τ es gs fl)
    (hjk : j ≠ kk := by decide) (hmk : m ≠ kk := by decide) (hj : (kd τ j).isOwn = true := by rfl) (hkk : kd τ kk = .sh := by rfl) (hm : kd τ m = .sh := by rfl)
    (n1 : ∀ i, (F.X i).N[kk]? = some key := by intro _; rfl) (n2 : ∀ i, (F.X i).N[j]? = some later := by intro _; rfl) (n3 : ∀ i, (F.X i).N[m]? = some many := by intro _; rfl)
    (v1 : ∀ k, Vis (F.X k).env.scope key := by intro _; first | exact Or.inl rfl | exact Or.inr (Or.inl rfl) | exact Or.inr (Or.inr rfl)) (v2 : ∀ k, Vis (F.X k).env.scope later := by intro _; first | exact Or.inl rfl | exact Or.inr (Or.inl rfl) | exact Or.inr (Or.inr rfl)) (v3 : ∀ k, Vis (F.X k).env.scope many := by intro _; first | exact Or.inl rfl | exact Or.inr (Or.inl rfl) | exact Or.inr (Or.inr rfl))
    (d1 : (key == ("__debug__" : Str)) = false := by decide) (c1 : (key == ("__classdict__" : Str)) = false := by decide) (d2 : (later == ("__debug__" : Str)) = false := by decide) (c2 : (later == ("__classdict__" : Str)) = false := by decide) (d3 : (many == ("__debug__" : Str)) = false := by decide) (c3 : (many == ("__classdict__" : Str)) = false := by decide)
    (hx : ∀ i, Loc (F.X i).env.scope key := by intro _; first | exact .inl rfl | exact .inr rfl) (hf : ∀ i, (F.X i).fn key = true ∨ (F.X i).env.scope.names.lookup key = some .local := by intro _; first | exact .inl rfl | exact .inr rfl)
    (s1 : ∀ i, swapsWith (.Tuple es k1 p2) (some (.Name key p1)) p3.line (F.X i).env = pure false := by intro _; rfl)
    (s2 : ∀ i, swapsWith (.BinOp (.Call (.Attribute (.Name later p7) "get" p8) [.Name key p9, .Constant (.int 0) k2 p10] [] p11) .Add (.Name many p12) p13) (some (.Subscript (.Name later p4) (.Name key p5) p6)) p14.line (F.X i).env = pure false := by intro _; rfl)
    (hm2 : ∀ i, M2 (F.X i) (.Name later p7) "get" p8 (.Name key p9) (.Constant (.int 0) k2 p10) p11 := by intro _; exact ⟨rfl, rfl, rfl, rfl⟩) :
    DnB F τ τ rf [.Assign [.Name key p1] (.Tuple es k1 p2) p3, .Assign [.Subscript (.Name later p4) (.Name key p5) p6] (.BinOp (.Call (.Attribute (.Name later p7) "get" p8) [.Name key p9, .Constant (.int 0) k2 p10] [] p11) .Add (.Name many p12) p13) p14] (sPutAdd j kk m gs) := by
  obtain ⟨t, a1, a2⟩ := ha
  have hu : ∀ i, (F.X i).A.units + 1 < cLine := fun i => by have := units_of (F := F) i; omega
  refine ⟨_, fun i => pss_cons (ps_set (F.nd i) (n1 i) (hx i) (pe_tup (a1 i)) (s1 i) (hf i)) (pss_one (ps_dput (hu i) (pe_var (n2 i) (v2 i) d2 c2) (pe_var (n1 i) (v1 i) d1 c1)
    (pe_op op_add (pe_dget2 (hu i) (pe_var (n2 i) (v2 i) d2 c2) (pe_var (n1 i) (v1 i) d1 c1) pe_int (hm2 i)) (pe_var (n3 i) (v3 i) d3 c3)) (s2 i))), fun H0 B ρ σ H E s p => ?_⟩
  unfold sPutAdd at p
  refine a2 H0 B ρ σ H _ s ((PostS.out s.ext p).to (Same.refl _) fun ds _ p1 vs H1 e1 r1 => ?_)
  cases ht : twoI ds with
  | none => rw [ht] at p1; exact p1.elim
  | some ab =>
  rw [ht] at p1
  have hds := twoI_of ht
  subst hds
  have hvs := r1.two
  subst hvs
  refine ⟨by show 2 ≤ sizeLine; decide, fun q2 hq2 => ?_⟩
  have e2 : Same H1 (upd H1 q2 (.tup [.int ab.1, .int ab.2])) := dom_upd hq2
  have e02 := e1.trans e2
  have p1 : PostS F τ H0 B H (OwnX τ B ρ σ) rf E (outOf (eVar j ρ) fun d => outOf (ofO (openEs d)) fun es => outOf (eVar m ρ) fun e => outOf (ofO (oneI e)) fun c =>
    if es.length < 100000 ∧ kk < ρ.length then .next ((ρ.set j (some (tdD (putE es ab ((getE es ab).getD 0 + c))))).set kk none) else .bad) := p1
  clear p
  cases hv : eVar j ρ with
  | exc c => exact (eVar_exc hv).elim
  | bad => rw [hv] at p1; exact p1.elim
  | ok d =>
  rw [hv] at p1
  have p3 : PostS F τ H0 B H (OwnX τ B ρ σ) rf E (outOf (ofO (openEs d)) fun es => outOf (eVar m ρ) fun e => outOf (ofO (oneI e)) fun c =>
    if es.length < 100000 ∧ kk < ρ.length then .next ((ρ.set j (some (tdD (putE es ab ((getE es ab).getD 0 + c))))).set kk none) else .bad) := p1
  clear p1
  cases ho : openEs d with
  | none => rw [ho] at p3; exact p3.elim
  | some L =>
  rw [ho] at p3
  have hdd := openEs_of ho
  subst hdd
  have p4 : PostS F τ H0 B H (OwnX τ B ρ σ) rf E (outOf (eVar m ρ) fun e => outOf (ofO (oneI e)) fun c =>
    if L.length < 100000 ∧ kk < ρ.length then .next ((ρ.set j (some (tdD (putE L ab ((getE L ab).getD 0 + c))))).set kk none) else .bad) := p3
  clear p3
  cases hv2 : eVar m ρ with
  | exc c => exact (eVar_exc hv2).elim
  | bad => rw [hv2] at p4; exact p4.elim
  | ok d2 =>
  rw [hv2] at p4
  have p5 : PostS F τ H0 B H (OwnX τ B ρ σ) rf E (outOf (ofO (oneI d2)) fun c =>
    if L.length < 100000 ∧ kk < ρ.length then .next ((ρ.set j (some (tdD (putE L ab ((getE L ab).getD 0 + c))))).set kk none) else .bad) := p4
  clear p4
  cases h1 : oneI d2 with
  | none => rw [h1] at p5; exact p5.elim
  | some c =>
  rw [h1] at p5
  have hd2 := oneI_of h1
  subst hd2
  have pf : PostS F τ H0 B H (OwnX τ B ρ σ) rf E (if L.length < 100000 ∧ kk < ρ.length then .next ((ρ.set j (some (tdD (putE L ab ((getE L ab).getD 0 + c))))).set kk none) else .bad) := p5
  clear p5
  by_cases hl : L.length < 100000 ∧ kk < ρ.length
  rotate_left
  · rw [if_neg hl] at pf; exact pf.elim
  rw [if_pos hl] at pf
  obtain ⟨l, g1, g2, g3, g4⟩ := s.setTd hj (eVar_ok hv)
  obtain ⟨w, w1, w2⟩ := s.ok m _ (eVar_ok hv2)
  rw [hm] at w2
  have hw := (show Dq F.K H (OwnX τ B ρ σ) w (.int c) from w2).one
  subst hw
  have nk : (kd τ kk).isOwn = false := by rw [hkk]; rfl
  have hkl : kk < σ.length := by rw [s.len]; exact hl.2
  have x1 : (σ.set kk (some (.ref q2)))[j]? = some (some (.ref l)) := by rw [List.getElem?_set_ne (Ne.symm hjk)]; exact g1
  have x2 : (σ.set kk (some (.ref q2)))[kk]? = some (some (.ref q2)) := List.getElem?_set_self hkl
  have x3 : (σ.set kk (some (.ref q2)))[m]? = some (some (.int c)) := by rw [List.getElem?_set_ne (Ne.symm hmk)]; exact w1
  have hlH : (upd H1 q2 (.tup [.int ab.1, .int ab.2])) l = some (.dT (kvT L)) := e02 _ _ g3
  have hqH : (upd H1 q2 (.tup [.int ab.1, .int ab.2])) q2 = some (.tup (([.inl ab.1, .inl ab.2] : List L2.Key).map kV)) := upd_same
  have hdg : DGet (upd H1 q2 (.tup [.int ab.1, .int ab.2])) l (.ref q2) ((getE L ab).map V.int) := by
    have := DGet.t (k := [.inl ab.1, .inl ab.2]) hlH hqH
    rwa [val_kvT] at this
  have hgd : ((getE L ab).map V.int).getD (.int 0) = .int ((getE L ab).getD 0) := by cases getE L ab <;> rfl
  refine ⟨.ref l, x1, l, rfl, .inr ⟨_, .inl hlH⟩, .ref q2, x2, (getE L ab).map V.int, hdg, ?_⟩
  rw [hgd]
  refine ⟨.int c, x3, _, _, rfl, rfl, ?_⟩
  refine ⟨.ref l, x1, .ref q2, x2, l, _, rfl, DPut.t (k := [.inl ab.1, .inl ab.2]) hlH hqH (by unfold kvT; rw [List.length_map]; exact Nat.lt_of_lt_of_le hl.1 (by decide)), ?_⟩
  rw [put_kvT]
  obtain ⟨s3, o3, k3⟩ := g4 _ (putE L ab ((getE L ab).getD 0 + c)) e02
  refine pf _ _ (s3.drop nk (some (.ref q2))) (k3.trans (Kp.sub fun a z => (ownX_put nk a).mp z))
/-! ### d.get((k, l), n), d locked -/
def eGetT (fo : Rho → Res D) (gs : Rho → Res (List D)) (n : Int) : Rho → Res D := fun ρ => (fo ρ).bind fun d => (ofO (lockEs d)).bind fun es => (gs ρ).bind fun ds => (ofO (twoI ds)).bind fun q => .ok (.int ((getE es q).getD n))
theorem dn_getT {o : Expr} {es : List Expr} {fo : Rho → Res D} {gs : Rho → Res (List D)} {n : Int} {la lb : Fl} {kk k2 : Nat} {p1 p2 apos cpos : Pos} (ho : DnE F τ o fo la) (ha : DnA F τ es gs lb)
    (hm2 : ∀ i, M2 (F.X i) o "get" apos (.Tuple es kk p1) (.Constant (.int n) k2 p2) cpos := by intro _; exact ⟨rfl, rfl, rfl, rfl⟩) :
    DnE F τ (.Call (.Attribute o "get" apos) [.Tuple es kk p1, .Constant (.int n) k2 p2] [] cpos) (eGetT fo gs n) .s := by
  obtain ⟨to, o1, o2⟩ := ho
  obtain ⟨ta, a1, a2⟩ := ha
  refine ⟨_, fun i => pe_dget2 (by have := units_of (F := F) i; omega) (o1 i) (pe_tup (a1 i)) pe_int (hm2 i), fun H0 B ρ σ H Q s p => ?_⟩
  unfold eGetT at p
  refine o2 H0 B ρ σ H _ s (p.bind.to (Same.refl _) fun d _ p1 v H1 e1 r1 => ?_)
  cases hl : lockEs d with
  | none => rw [hl] at p1; exact p1.elim
  | some L =>
  rw [hl] at p1
  have hdd := lockEs_of hl
  subst hdd
  obtain ⟨l, ob, rfl, hlH⟩ := of_tdF r1
  refine ⟨l, rfl, .inr ⟨_, .inr ⟨ob, hlH⟩⟩, ?_⟩
  have p1 : Post F σ H _ ((gs ρ).bind fun ds => (ofO (twoI ds)).bind fun q => Res.ok (PyData.int ((getE L q).getD n))) := p1
  refine a2 H0 B ρ σ H1 _ (s.more e1) (p1.bind.to e1 fun ds _ p2 vs H2 e2 r2 => ?_)
  cases ht : twoI ds with
  | none => rw [ht] at p2; exact p2.elim
  | some ab =>
  rw [ht] at p2
  have hds := twoI_of ht
  subst hds
  have hvs := r2.two
  subst hvs
  refine ⟨by show 2 ≤ sizeLine; decide, fun q2 hq2 => ?_⟩
  have e3 : Same H2 (upd H2 q2 (.tup [.int ab.1, .int ab.2])) := dom_upd hq2
  have h3 : (upd H2 q2 (.tup [.int ab.1, .int ab.2])) l = some (.frz ob (.dT (kvT L))) := e3 _ _ (e2 _ _ hlH)
  refine ⟨(getE L ab).map V.int, .inr ⟨kvT L, [.inl ab.1, .inl ab.2], q2, .inr ⟨ob, h3⟩, rfl, upd_same, val_kvT.symm⟩, ?_⟩
  have hgd : ((getE L ab).map V.int).getD (.int n) = .int ((getE L ab).getD n) := by cases getE L ab <;> rfl
  rw [hgd]
  exact p2 _ _ ((e1.trans e2).trans e3) (.int _)
end
end Dn
set_option Elab.async false
set_option linter.all false
set_option maxRecDepth 100000
/-! found = {}; for x in ..: found.setdefault((k, l), []).append(x); return found -/
namespace Dn
open PySem L2
section
variable {X : Cx} {pins : List (Addr × Obj)} {σ : St} {H : Hp} {s : Shared} {a b : Addr} {r : Value} {d : V} {k : List L2.Key} {A : Around} {E : Value → Shared → Prop}
theorem d_setdT {kvs : List (List L2.Key × V)} {Q : Value → Shared → Prop} (hu : A.units + 1 < cLine) (I : Inv X pins σ H s) (e : H a = some (.dT kvs)) (eb : H b = some (.tup (k.map kV))) (rd : RelV d r) (hl : kvs.length < sizeLine)
    (h1 : ∀ v, valV kvs k = some v → ∀ (w' : Value) (s' : Shared), Inv X pins σ H s' → RelV v w' → Q w' s') (h2 : valV kvs k = none → ∀ (w' : Value) (s' : Shared), Inv X pins σ (upd H a (.dT (putK kvs k d))) s' → RelV d w' → Q w' s') :
    wpAny (model X.prog X.w) A (call (.builtin "dict.setdefault") [.ref a, .ref b, r]) Q E s := by
  obtain ⟨z, hd, xs, rel, dd⟩ := dt_of I.hok e
  have hz : xs.length ≤ sizeLine := by rw [← Paired.length rel]; exact z
  refine call_setdefault_heap (tupleKind_room_in1 hu) (key_of I.hok eb) hd dd (fun p hp => ?_) (fun hn h' dd' hs => ?_) hz
  · have q := rel.val k
    rw [hp] at q
    cases q0 : valV kvs k with
    | none =>
      rw [q0] at q
      exact (show False from q).elim
    | some v0 =>
      rw [q0] at q
      exact h1 v0 q0 _ _ (I.tok _) q
  · have q := rel.val k
    rw [hn] at q
    cases q0 : valV kvs k with
    | some v0 =>
      rw [q0] at q
      exact (show False from q).elim
    | none =>
      have hl2 : (putK kvs k d).length ≤ sizeLine := by
        have := length_putK kvs k d
        omega
      obtain ⟨q, es, ep, hq, g2, g3, g4, _, g5⟩ := dd'
      refine h2 q0 _ _ (d_write I (by rw [e]; exact True.intro) hs ⟨q, hq⟩ ⟨hl2, hd, _, (rel.put k eb rd).keeps fun c ys ec => ?_, q, es, ep, hq, g2, g3, g4, g5⟩) rd
      rw [upd_ne (ne_of ec e (fun z => nomatch z))]
      exact ec
end
/-- d.setdefault(y, z), y a tuple -/
def tDSetT (td ty tx : TE) : TE := fun σ H Q => td σ H fun x H1 => ∃ a, x = .ref a ∧ IsD H1 a ∧ ty σ H1 fun y H2 => tx σ H2 fun z H3 => ∃ (kvs : List (List L2.Key × V)) (k : List L2.Key) (b : Addr), H3 a = some (.dT kvs) ∧ y = .ref b ∧ H3 b = some (.tup (k.map kV)) ∧ kvs.length < sizeLine ∧
  (∀ v, valV kvs k = some v → Q v H3) ∧ (valV kvs k = none → Q z (upd H3 a (.dT (putK kvs k z))))
section
variable {X : Cx} {o e f : Expr} {td ty tx : TE} {apos cpos : Pos}
theorem pe_dsetdT (hu : X.A.units + 1 < cLine) (ho : PE X o td) (he : PE X e ty) (hf : PE X f tx) (m : M2 X o "setdefault" apos e f cpos) : PE X (.Call (.Attribute o "setdefault" apos) [e, f] [] cpos) (tDSetT td ty tx) := by
  refine ⟨fun pins s σ H Q I h => ?_⟩
  refine wpAny_Call_method m.base m.few m.line PySem.F.plainAttrs_dict PySem.F.slot_dict_setdefault PySem.F.type_dict_setdefault (thn (ho.run pins s σ H _ I h) fun u s1 ⟨x, H1, I1, rx, a, ex, d, q1⟩ => ?_)
  subst ex
  obtain rfl : u = Value.ref a := rx
  obtain ⟨t1, t2, _⟩ := isD_at I1 d
  refine ⟨t1, t2, ?_⟩
  rw [m.trees]
  refine Calls.callWith_builtin rfl (Calls.evalArgs_plain (Calls.spliced_cons (thn (he.run pins s1 σ H1 _ I1 q1) fun iv s2 ⟨y, H2, I2, ry, q2⟩ =>
    Calls.spliced_cons (thn (hf.run pins s2 σ H2 _ I2 q2) fun fv s3 ⟨z, H3, I3, rz, kvs, k, b, ea, ey, eb, hl, q3, q4⟩ => Calls.spliced_nil ?_))))
  subst ey
  cases (show iv = Value.ref b from ry)
  exact d_setdT hu I3 ea eb rz hl (fun v hv w' s4 I4 rw' => ⟨v, _, I4, rw', q3 v hv⟩) fun hn w' s4 I4 rw' => ⟨z, _, I4, rw', q4 hn⟩
end
/-! ### what is set apart may change -/
section
variable {K : PySem.W.Frag} {H H' H0 H1 : Hp} {τ : List Kd} {B : Av} {ρ : Rho} {σ : St}
theorem SR.apartM (s : SR K τ H0 B ρ σ H1) {p : Addr} {o : HO} (hp : H1 p = none) (e : Same H1 H') (hl : H' p = some o) (hm : MutO o) : SR K τ H0 (fun a => B a ∨ a = p) ρ σ H' := by
  have h0 : H0 p = none := s.ext.free hp
  refine ⟨s.len, s.ext.trans e, fun j d h => ?_, s.dis, fun q h => ?_, fun q h z => ?_, fun P q t => e.tab P q (s.tbs P q t)⟩
  · obtain ⟨v, h3, h4⟩ := s.ok j d h
    refine ⟨v, h3, (h4.fresh hp).ext e fun a z => ?_⟩
    rcases z with z | z | z
    · exact .inl (.inl z)
    · exact .inl (.inr z)
    · exact .inr z
  · rcases h with h | h
    · obtain ⟨o, q1, q2⟩ := s.bdm q h
      exact ⟨o, e.get _ _ q1 (MutO.n q2), q2⟩
    · subst h; exact ⟨_, hl, hm⟩
  · rcases h with h | h
    · exact s.bno q h z
    · subst h; exact absurd hp (s.own_dom q (.inl z))
theorem SR.updB (s : SR K τ H0 B ρ σ H) {p : Addr} {o o' : HO} (hB : B p) (h0 : H0 p = none) (hp : H p = some o) (hm : MutO o) (hm' : MutO o') : SR K τ H0 B ρ σ (upd H p o') := by
  refine ⟨s.len, s.ext.updM h0 hp hm, fun j d h => ?_, s.dis, fun q h => ?_, s.bno, fun P q t => tabs_upd (s.tbs P q t) hp hm⟩
  · obtain ⟨v, h3, h4⟩ := s.ok j d h
    exact ⟨v, h3, SlotOk.upd hp hm (.inr hB) (fun ow z => s.bno p hB ⟨j, ow, ⟨d, h⟩, by rw [h3, z]⟩) h4⟩
  · by_cases hq : q = p
    · rw [hq]; exact ⟨o', upd_same, hm'⟩
    · obtain ⟨o, q1, q2⟩ := s.bdm q h
      exact ⟨o, by rw [upd_ne hq]; exact q1, q2⟩
theorem Kp.updB {O : Av} {p : Addr} {o' : HO} (hO : O p) : Kp O H O (upd H p o') := by
  refine ⟨⟨fun a o ha hn t => ?_, fun a ha => ?_⟩, fun a z => .inl z⟩
  · rw [upd_ne (fun z => hn (by rw [z]; exact hO))]
    exact ha
  · by_cases hap : a = p
    · rw [hap]; exact fun z => absurd (upd_same.symm.trans z) (fun w => by cases w)
    · rw [upd_ne hap]; exact ha
end
/-! ### the lists by their keys -/
abbrev GD := List ((Int × Int) × List D)
def addG (G : GD) (p : Int × Int) (d : D) : GD := if G.any (fun g => decide (g.1 = p)) = true then G.map (fun g => if g.1 = p then (g.1, g.2 ++ [d]) else g) else G ++ [(p, [d])]
def glL (G : GD) : List (D × D) := G.map fun g => (PyData.tuple [.int g.1.1, .int g.1.2], PyData.list g.2)
def glF (G : GD) : D := .dict (tdLock :: glL G)
structure Row where
  k : Int × Int
  l : Addr
  vs : List V
  ds : List D
def kvR (R : List Row) : List (List L2.Key × V) := R.map fun r => ([.inl r.k.1, .inl r.k.2], V.ref r.l)
def gdR (R : List Row) : GD := R.map fun r => (r.k, r.ds)
structure RowsOk (K : PySem.W.Frag) (H0 : Hp) (B : Av) (fo : Addr) (H : Hp) (R : List Row) (n : Nat) : Prop where
  at_ : H fo = some (.dT (kvR R))
  nk : (R.map (·.k)).Nodup
  nl : (R.map (·.l)).Nodup
  row : ∀ r ∈ R, r.l ≠ fo ∧ H0 r.l = none ∧ ¬ B r.l ∧ H r.l = some (.lst r.vs) ∧ immL r.ds = true ∧ DqL K H (fun _ => False) r.vs r.ds ∧ r.vs.length ≤ n
  len : R.length ≤ n
def Bx (B : Av) (fo : Addr) (R : List Row) : Av := fun a => (B a ∨ a = fo) ∨ ∃ r ∈ R, a = r.l
theorem RowsOk.more {K : PySem.W.Frag} {H0 H H' : Hp} {B : Av} {fo : Addr} {R : List Row} {n : Nat} (h : RowsOk K H0 B fo H R n) (e : Same H H') : RowsOk K H0 B fo H' R n :=
  ⟨e _ _ h.at_, h.nk, h.nl, fun r hr => let ⟨a, b, c, d, i, f, g⟩ := h.row r hr; ⟨a, b, c, e _ _ d, i, DqL.mono e f fun _ z => z, g⟩, h.len⟩
theorem val_kvR {a b : Int} : ∀ {R : List Row}, valV (kvR R) [.inl a, .inl b] = (R.find? fun r => decide (r.k = (a, b))).map fun r => V.ref r.l
  | [] => rfl
  | ⟨(c, d), l, vs, ds⟩ :: R => by
    have ih := val_kvR (a := a) (b := b) (R := R)
    unfold valV kvR at ih ⊢
    rw [List.map_cons, List.find?_cons, List.find?_cons]
    by_cases h : (c, d) = (a, b)
    · rw [decide_eq_true h, decide_eq_true (key_eq.mpr h)]
      rfl
    · rw [decide_eq_false h, decide_eq_false (fun e => h (key_eq.mp e))]
      exact ih
theorem any_gdR (p : Int × Int) (R : List Row) : ((gdR R).any fun g => decide (g.1 = p)) = (R.find? fun r => decide (r.k = p)).isSome := by
  unfold gdR
  rw [List.any_map]
  induction R with
  | nil => rfl
  | cons r R ih =>
    rw [List.any_cons, List.find?_cons]
    show (decide (r.k = p) || _) = _
    cases h : decide (r.k = p) with
    | true => rfl
    | false => rw [Bool.false_or]; exact ih
def growR (R : List Row) (p : Int × Int) (v : V) (d : D) : List Row := R.map fun r => if r.k = p then ⟨r.k, r.l, r.vs ++ [v], r.ds ++ [d]⟩ else r
theorem grow_k (R : List Row) (p : Int × Int) (v : V) (d : D) : (growR R p v d).map (·.k) = R.map (·.k) := by
  unfold growR
  rw [List.map_map]
  refine List.map_congr_left fun r _ => ?_
  show (if r.k = p then (⟨r.k, r.l, r.vs ++ [v], r.ds ++ [d]⟩ : Row) else r).k = r.k
  split <;> rfl
theorem grow_l (R : List Row) (p : Int × Int) (v : V) (d : D) : (growR R p v d).map (·.l) = R.map (·.l) := by
  unfold growR
  rw [List.map_map]
  refine List.map_congr_left fun r _ => ?_
  show (if r.k = p then (⟨r.k, r.l, r.vs ++ [v], r.ds ++ [d]⟩ : Row) else r).l = r.l
  split <;> rfl
theorem grow_kv (R : List Row) (p : Int × Int) (v : V) (d : D) : kvR (growR R p v d) = kvR R := by
  unfold growR kvR
  rw [List.map_map]
  refine List.map_congr_left fun r _ => ?_
  show (([.inl (if r.k = p then (⟨r.k, r.l, r.vs ++ [v], r.ds ++ [d]⟩ : Row) else r).k.1, .inl (if r.k = p then (⟨r.k, r.l, r.vs ++ [v], r.ds ++ [d]⟩ : Row) else r).k.2] : List L2.Key), V.ref (if r.k = p then (⟨r.k, r.l, r.vs ++ [v], r.ds ++ [d]⟩ : Row) else r).l) = _
  split <;> rfl
theorem grow_gd {R : List Row} {p : Int × Int} {v : V} {d : D} (h : (R.find? fun r => decide (r.k = p)).isSome = true) : gdR (growR R p v d) = addG (gdR R) p d := by
  unfold addG
  rw [any_gdR, if_pos h]
  unfold growR gdR
  rw [List.map_map, List.map_map]
  refine List.map_congr_left fun r _ => ?_
  show ((if r.k = p then (⟨r.k, r.l, r.vs ++ [v], r.ds ++ [d]⟩ : Row) else r).k, (if r.k = p then (⟨r.k, r.l, r.vs ++ [v], r.ds ++ [d]⟩ : Row) else r).ds) = if r.k = p then (r.k, r.ds ++ [d]) else (r.k, r.ds)
  split <;> rfl
theorem immL_snoc : ∀ {ds : List D} {d : D}, immL ds = true → imm d = true → immL (ds ++ [d]) = true
  | [], d, _, h => by show (imm d && true) = true; rw [h]; rfl
  | x :: ds, d, h, hd => by
    have h' : (imm x && immL ds) = true := h
    rw [Bool.and_eq_true] at h'
    show (imm x && immL (ds ++ [d])) = true
    rw [h'.1, immL_snoc h'.2 hd]; rfl
section
variable {F : Fam} {τ : List Kd} {rf : Bool}
/-- one turn of the loop -/
theorem by_turn {ta : TA} {i u : Nat} {H0 : Hp} {B : Av} {fo : Addr} {ρ3 : Rho} {σ3 : St} {H3 : Hp} {R : List Row} {n : Nat} {v : V} {d : D} {p : Int × Int} {E : Ends} {gs : Rho → Res (List D)} {fl : Fl}
    (a2 : ∀ H0 B ρ σ H (Q : List V → Hp → Prop), SR F.K τ H0 B ρ σ H → Post F σ H (fun ds => ∀ vs H', Same H H' → DqL F.K H' (av fl H0 H (OwnX τ B ρ σ)) vs ds → Q vs H') (gs ρ) → ta σ H Q)
    (s : SR F.K τ H0 (Bx B fo R) ρ3 σ3 H3) (hf0 : H0 fo = none) (g : RowsOk F.K H0 B fo H3 R n) (hn : n < 100000) (hi : σ3[i]? = some (some (.ref fo))) (hu : σ3[u]? = some (some v)) (hv : Dq F.K H3 (OwnX τ (Bx B fo R) ρ3 σ3) v d) (hd : imm d = true) (hg : gs ρ3 = .ok [.int p.1, .int p.2])
    (hB : ∀ a, B a → dom H3 a)
    (k : ∀ R' H7, RowsOk F.K H0 B fo H7 R' (n + 1) → gdR R' = addG (gdR R) p d → SR F.K τ H0 (Bx B fo R') ρ3 σ3 H7 → Kp (OwnX τ (Bx B fo R) ρ3 σ3) H3 (OwnX τ (Bx B fo R') ρ3 σ3) H7 → E.nx σ3 H7) :
    tDrop (tBM F.K "list" rAppend (tDSetT (tVar i) (tTup ta) (tLst tNil)) (tCons (tVar u) tNil)) E σ3 H3 := by
  refine ⟨.ref fo, hi, fo, rfl, .inr ⟨_, .inl g.at_⟩, ?_⟩
  refine a2 H0 _ ρ3 σ3 H3 _ s ?_
  rw [hg]
  intro vs H4 e4 r4
  have hvs := r4.two
  subst hvs
  refine ⟨by show 2 ≤ sizeLine; decide, fun q2 hq2 => ?_⟩
  have e5 : Same H4 (upd H4 q2 (.tup [.int p.1, .int p.2])) := dom_upd hq2
  refine ⟨Nat.zero_le _, fun l0 hl0 => ?_⟩
  have e6 : Same (upd H4 q2 (.tup [.int p.1, .int p.2])) (upd (upd H4 q2 (.tup [.int p.1, .int p.2])) l0 (.lst [])) := dom_upd hl0
  have e35 : Same H3 (upd H4 q2 (.tup [.int p.1, .int p.2])) := e4.trans e5
  have e36 := e35.trans e6
  have hq6 : (upd (upd H4 q2 (.tup [.int p.1, .int p.2])) l0 (.lst [])) q2 = some (.tup (([.inl p.1, .inl p.2] : List L2.Key).map kV)) := e6 _ _ upd_same
  have h0l : H3 l0 = none := e35.free hl0
  generalize hH5 : upd H4 q2 (.tup [.int p.1, .int p.2]) = H5 at *
  have hl06 : (upd H5 l0 (.lst [])) l0 = some (.lst []) := upd_same
  generalize hH6 : upd H5 l0 (.lst []) = H6 at *
  have g6 := g.more e36
  have s6 := s.more e36
  have hv6 : Dq F.K H6 (fun _ => False) v d := (Dq.mono e36 hv fun _ z => z).imm_any hd
  refine ⟨kvR R, [.inl p.1, .inl p.2], q2, g6.at_, rfl, hq6, by unfold kvR; rw [List.length_map]; exact Nat.lt_of_le_of_lt g.len (Nat.lt_of_lt_of_le hn (by decide)), fun w hw => ?_, fun hw => ?_⟩
  · rw [val_kvR] at hw
    cases hfd : R.find? fun r => decide (r.k = (p.1, p.2)) with
    | none => rw [hfd] at hw; cases hw
    | some r =>
    rw [hfd] at hw
    cases hw
    have hr := List.mem_of_find?_eq_some hfd
    have hrk : r.k = p := of_decide_eq_true (List.find?_some (p := fun r : Row => decide (r.k = (p.1, p.2))) hfd)
    obtain ⟨x1, x2, x3, x4, x5, x6, x7⟩ := g6.row r hr
    refine ⟨.inl ⟨rfl, r.vs, SqL.of x4⟩, v, hu, r.l, r.vs, v, rfl, rfl, x4, Nat.lt_of_le_of_lt x7 (Nat.lt_of_lt_of_le hn (by decide)), ?_⟩
    have hBl : Bx B fo R r.l := .inr ⟨r, hr, rfl⟩
    have hother : ∀ x ∈ R, x.k ≠ p → x.l ≠ r.l := fun x hx hk z => by
      have h1 : x = r := by
        obtain ⟨m, hm, rfl⟩ := List.getElem_of_mem hx
        obtain ⟨m', hm', rfl⟩ := List.getElem_of_mem hr
        have : m = m' := by
          refine (List.getElem_inj (xs := R.map (·.l)) (h₀ := by rw [List.length_map]; exact hm) (h₁ := by rw [List.length_map]; exact hm') g.nl).mp ?_
          rw [List.getElem_map, List.getElem_map]
          exact z
        subst this
        rfl
      exact hk (by rw [h1]; exact hrk)
    have hsame : ∀ x ∈ R, x.k = p → x = r := fun x hx hk => by
      obtain ⟨m, hm, rfl⟩ := List.getElem_of_mem hx
      obtain ⟨m', hm', rfl⟩ := List.getElem_of_mem hr
      have : m = m' := by
        refine (List.getElem_inj (xs := R.map (·.k)) (h₀ := by rw [List.length_map]; exact hm) (h₁ := by rw [List.length_map]; exact hm') g.nk).mp ?_
        rw [List.getElem_map, List.getElem_map, hk, hrk]
      subst this
      rfl
    have up : ∀ {vs : List V} {ds : List D}, immL ds = true → DqL F.K H6 (fun _ => False) vs ds → DqL F.K (upd H6 r.l (.lst (r.vs ++ [v]))) (fun _ => False) vs ds := fun hi q =>
      (DqL.upd x4 trivial (O := fun a => a = r.l) rfl (q.imm_any hi)).imm_any hi
    have hBe : Bx B fo (growR R p v d) = Bx B fo R := by
      funext a
      refine propext ⟨fun z => z.imp id fun ⟨x, hx, e⟩ => ?_, fun z => z.imp id fun ⟨x, hx, e⟩ => ?_⟩
      · have : x.l ∈ (growR R p v d).map (·.l) := List.mem_map.mpr ⟨x, hx, rfl⟩
        rw [grow_l] at this
        obtain ⟨y, hy, e2⟩ := List.mem_map.mp this
        exact ⟨y, hy, by rw [e, e2]⟩
      · have : x.l ∈ R.map (·.l) := List.mem_map.mpr ⟨x, hx, rfl⟩
        rw [← grow_l R p v d] at this
        obtain ⟨y, hy, e2⟩ := List.mem_map.mp this
        exact ⟨y, hy, by rw [e, e2]⟩
    refine k (growR R p v d) _ ⟨?_, by rw [grow_k]; exact g.nk, by rw [grow_l]; exact g.nl, fun x hx => ?_, by unfold growR; rw [List.length_map]; exact Nat.le_succ_of_le g.len⟩ (grow_gd (by rw [show (fun r : Row => decide (r.k = p)) = fun r : Row => decide (r.k = (p.1, p.2)) from rfl, hfd]; rfl)) ?_ ?_
    · rw [upd_ne (Ne.symm x1), grow_kv]
      exact g6.at_
    · unfold growR at hx
      obtain ⟨y, hy, rfl⟩ := List.mem_map.mp hx
      by_cases hyk : y.k = p
      · rw [if_pos hyk]
        have := hsame y hy hyk
        subst this
        exact ⟨x1, x2, x3, upd_same, immL_snoc x5 hd, (up x5 x6).append (.cons ((DqL.upd x4 trivial (O := fun a => a = y.l) rfl (DqL.cons (hv6.imm_any hd) .nil)).imm_any (by show (imm d && true) = true; rw [hd]; rfl) |> fun q => by cases q with | cons a _ => exact a) .nil), by rw [List.length_append]; exact Nat.succ_le_succ x7⟩
      · rw [if_neg hyk]
        obtain ⟨y1, y2, y3, y4, y5, y6, y7⟩ := g6.row y hy
        exact ⟨y1, y2, y3, by rw [upd_ne (hother y hy hyk)]; exact y4, y5, up y5 y6, Nat.le_succ_of_le y7⟩
    · rw [hBe]
      exact s6.updB hBl x2 x4 trivial trivial
    · rw [hBe]
      exact (Kp.same e36).trans (Kp.updB (.inr hBl))
  · rw [val_kvR] at hw
    have hfd : (R.find? fun r => decide (r.k = (p.1, p.2))) = none := by
      cases hfd : R.find? fun r => decide (r.k = (p.1, p.2)) with
      | none => rfl
      | some r => rw [hfd] at hw; cases hw
    have hkv : valV (kvR R) [.inl p.1, .inl p.2] = none := by rw [val_kvR, hfd]; rfl
    have hlf : l0 ≠ fo := fun z => by rw [z, g.at_] at h0l; cases h0l
    rw [putK_new _ hkv]
    have hkv2 : kvR R ++ [([.inl p.1, .inl p.2], V.ref l0)] = kvR (R ++ [⟨p, l0, [v], [d]⟩]) := by
      unfold kvR
      rw [List.map_append]
      rfl
    rw [hkv2]
    have hl7 : (upd H6 fo (.dT (kvR (R ++ [⟨p, l0, [v], [d]⟩])))) l0 = some (.lst []) := by rw [upd_ne hlf]; exact hl06
    refine ⟨.inl ⟨rfl, [], SqL.of hl7⟩, v, hu, l0, [], v, rfl, rfl, hl7, by show 0 < sizeLine; decide, ?_⟩
    have hl0R : ∀ r ∈ R, r.l ≠ l0 := fun r hr z => by
      have := (g.row r hr).2.2.2.1
      rw [z, h0l] at this
      cases this
    have up : ∀ {vs : List V} {ds : List D}, immL ds = true → DqL F.K H6 (fun _ => False) vs ds → DqL F.K (upd (upd H6 fo (.dT (kvR (R ++ [⟨p, l0, [v], [d]⟩])))) l0 (.lst ([] ++ [v]))) (fun _ => False) vs ds := fun hi q =>
      (DqL.upd hl7 trivial (O := fun a => a = l0) rfl ((DqL.upd g6.at_ trivial (O := fun a => a = fo) rfl (q.imm_any hi)).imm_any hi)).imm_any hi
    have hnk : ∀ r ∈ R, r.k ≠ p := fun r hr z => by
      have := List.find?_eq_none.mp hfd r hr
      exact this (decide_eq_true z)
    have hBe : Bx B fo (R ++ [⟨p, l0, [v], [d]⟩]) = fun a => Bx B fo R a ∨ a = l0 := by
      funext a
      refine propext ⟨fun z => ?_, fun z => ?_⟩
      · rcases z with z | ⟨x, hx, e⟩
        · exact .inl (.inl z)
        · rcases List.mem_append.mp hx with hx | hx
          · exact .inl (.inr ⟨x, hx, e⟩)
          · rw [List.mem_singleton] at hx
            rw [hx] at e
            exact .inr e
      · rcases z with (z | ⟨x, hx, e⟩) | z
        · exact .inl z
        · exact .inr ⟨x, List.mem_append.mpr (.inl hx), e⟩
        · exact .inr ⟨_, List.mem_append.mpr (.inr (List.mem_singleton.mpr rfl)), z⟩
    have h00 : H0 l0 = none := s.ext.free h0l
    have s5 := s.more e35
    have h5l : H5 l0 = none := hl0
    have s7 := ((s5.apartM h5l (by rw [← hH6]; exact dom_upd h5l) hl06 trivial).updB (p := fo) (o' := .dT (kvR (R ++ [⟨p, l0, [v], [d]⟩]))) (.inl (.inl (.inr rfl))) hf0 g6.at_ trivial trivial).updB (p := l0) (o := .lst []) (o' := .lst ([] ++ [v])) (.inr rfl) h00 hl7 trivial trivial
    refine k (R ++ [⟨p, l0, [v], [d]⟩]) _ ⟨?_, ?_, ?_, fun x hx => ?_, by rw [List.length_append]; exact Nat.succ_le_succ g.len⟩ ?_ ?_ ?_
    · rw [upd_ne (Ne.symm hlf), upd_same]
    · rw [List.map_append]
      refine List.nodup_append.mpr ⟨g.nk, by simp, fun a ha b hb e => ?_⟩
      obtain ⟨r, hr, rfl⟩ := List.mem_map.mp ha
      have hb : b = p := by simpa using hb
      exact hnk r hr (by rw [e, hb])
    · rw [List.map_append]
      refine List.nodup_append.mpr ⟨g.nl, by simp, fun a ha b hb e => ?_⟩
      obtain ⟨r, hr, rfl⟩ := List.mem_map.mp ha
      have hb : b = l0 := by simpa using hb
      exact hl0R r hr (by rw [e, hb])
    · rcases List.mem_append.mp hx with hx | hx
      · obtain ⟨y1, y2, y3, y4, y5, y6, y7⟩ := g6.row x hx
        exact ⟨y1, y2, y3, by rw [upd_ne (hl0R x hx), upd_ne y1]; exact y4, y5, up y5 y6, Nat.le_succ_of_le y7⟩
      · rw [List.mem_singleton] at hx
        subst hx
        exact ⟨hlf, h00, fun z => hB l0 z h0l, upd_same, by show (imm d && true) = true; rw [hd]; rfl, up (by show (imm d && true) = true; rw [hd]; rfl) (.cons hv6 .nil), by show 1 ≤ n + 1; omega⟩
    · unfold addG
      rw [any_gdR, show (fun r : Row => decide (r.k = p)) = fun r : Row => decide (r.k = (p.1, p.2)) from rfl, hfd]
      show gdR (R ++ [⟨p, l0, [v], [d]⟩]) = gdR R ++ [(p, [d])]
      unfold gdR
      rw [List.map_append]
      rfl
    · rw [hBe]
      exact s7
    · rw [hBe]
      refine ⟨⟨fun a o ha hn' t => ?_, fun a ha => ?_⟩, fun a z => ?_⟩
      · rw [upd_ne (fun z => by rw [z, h0l] at ha; cases ha), upd_ne (fun z => hn' (by rw [z]; exact .inr (.inl (.inr rfl))))]
        exact e36.get a o ha t
      · by_cases h1 : a = l0
        · rw [h1]; exact fun z => absurd (upd_same.symm.trans z) (fun w => by cases w)
        · rw [upd_ne h1]
          by_cases h2 : a = fo
          · rw [h2]; exact fun z => absurd (upd_same.symm.trans z) (fun w => by cases w)
          · rw [upd_ne h2]; exact e36.dm a ha
      · rcases z with z | z | z
        · exact .inl (.inl z)
        · exact .inl (.inr z)
        · exact .inr (by rw [z]; exact h0l)
theorem glL_zip : ∀ R : List Row, ((kvR R).map fun kv => keysD kv.1).zip (R.map fun r => PyData.list r.ds) = glL (gdR R)
  | [] => rfl
  | r :: R => by
    show (_, _) :: ((kvR R).map fun kv => keysD kv.1).zip (R.map fun r => PyData.list r.ds) = _
    rw [glL_zip R]
    rfl
theorem rows_dq {K : PySem.W.Frag} {H : Hp} {A : Av} : ∀ R : List Row, (∀ r ∈ R, ¬ A r.l ∧ H r.l = some (.lst r.vs) ∧ immL r.ds = true ∧ DqL K H (fun _ => False) r.vs r.ds) → DqL K H A ((kvR R).map (·.2)) (R.map fun r => PyData.list r.ds)
  | [], _ => .nil
  | r :: R, h => by
    obtain ⟨h1, h2, h3, h4⟩ := h r (List.mem_cons_self ..)
    exact .cons (.lst h1 h2 (h4.imm_any h3)) (rows_dq R fun x hx => h x (List.mem_cons_of_mem _ hx))
def byStep (u : Nat) (gs : Rho → Res (List D)) (ρ : Rho) (G : GD) (d : D) : Option GD := match gs (ρ.set u (some d)) with
  | .ok ds => match twoI ds with
    | some p => if imm d = true then some (addG G p d) else none
    | none => none
  | _ => none
theorem byStep_of {u : Nat} {gs : Rho → Res (List D)} {ρ : Rho} {G G' : GD} {d : D} (h : byStep u gs ρ G d = some G') : ∃ p : Int × Int, gs (ρ.set u (some d)) = .ok [.int p.1, .int p.2] ∧ imm d = true ∧ G' = addG G p d := by
  unfold byStep at h
  cases hg : gs (ρ.set u (some d)) with
  | bad => rw [hg] at h; cases h
  | exc c => rw [hg] at h; cases h
  | ok ds =>
    rw [hg] at h
    have h : (match twoI ds with
      | some p => if imm d = true then some (addG G p d) else none
      | none => none) = some G' := h
    cases ht : twoI ds with
    | none => rw [ht] at h; cases h
    | some p =>
      rw [ht] at h
      have h : (if imm d = true then some (addG G p d) else none) = some G' := h
      by_cases hi : imm d = true
      · rw [if_pos hi] at h
        cases h
        have hds := twoI_of ht
        subst hds
        exact ⟨p, rfl, hi, rfl⟩
      · rw [if_neg hi] at h; cases h
def byAll (u : Nat) (gs : Rho → Res (List D)) (ρ : Rho) : List D → GD → Option GD
  | [], G => some G
  | d :: ds, G => match byStep u gs ρ G d with
    | some G' => byAll u gs ρ ds G'
    | none => none
theorem byAll_cons {u : Nat} {gs : Rho → Res (List D)} {ρ : Rho} {G G' : GD} {d : D} {ds : List D} (h : byAll u gs ρ (d :: ds) G = some G') : ∃ G1, byStep u gs ρ G d = some G1 ∧ byAll u gs ρ ds G1 = some G' := by
  unfold byAll at h
  cases hs : byStep u gs ρ G d with
  | none => rw [hs] at h; cases h
  | some G1 => rw [hs] at h; exact ⟨G1, rfl, h⟩
def sByEnds (i u : Nat) (fi : Rho → Res (List D)) (gs : Rho → Res (List D)) : Rho → Out := fun ρ => outOf (fi (ρ.set i none)) fun ds => outOf (ofO (byAll u gs (ρ.set i none) ds [])) fun G =>
  if ds.length < 100000 ∧ u < ρ.length ∧ i < ρ.length then .ret (glF G) else .bad
theorem db_byEnds (i u : Nat) {τo : List Kd} {x y : Str} {es : List Expr} {iter : Expr} {fi : Rho → Res (List D)} {gs : Rho → Res (List D)} {fl : Fl} {k1 : Nat} {p1 p2 p3 p4 p5 p6 p7 p8 p9 p10 p11 p12 p13 p14 p15 p16 : Pos}
    (hi : DnI F τ (.Name y p4) iter fi true) (ha : DnA F τ es gs fl)
    (hiu : i ≠ u := by decide) (ki : kd τ i = .sh := by rfl) (ku : kd τ u = .sh := by rfl)
    (n1 : ∀ j, (F.X j).N[i]? = some x := by intro _; rfl) (n2 : ∀ j, (F.X j).N[u]? = some y := by intro _; rfl)
    (v1 : ∀ k, Vis (F.X k).env.scope x := by intro _; first | exact Or.inl rfl | exact Or.inr (Or.inl rfl) | exact Or.inr (Or.inr rfl)) (v2 : ∀ k, Vis (F.X k).env.scope y := by intro _; first | exact Or.inl rfl | exact Or.inr (Or.inl rfl) | exact Or.inr (Or.inr rfl))
    (d1 : (x == ("__debug__" : Str)) = false := by decide) (c1 : (x == ("__classdict__" : Str)) = false := by decide) (d2 : (y == ("__debug__" : Str)) = false := by decide) (c2 : (y == ("__classdict__" : Str)) = false := by decide)
    (l1 : ∀ j, Loc (F.X j).env.scope x := by intro _; first | exact .inl rfl | exact .inr rfl) (f1 : ∀ j, (F.X j).fn x = true ∨ (F.X j).env.scope.names.lookup x = some .local := by intro _; first | exact .inl rfl | exact .inr rfl)
    (l2 : ∀ j, Loc (F.X j).env.scope y := by intro _; first | exact .inl rfl | exact .inr rfl) (f2 : ∀ j, (F.X j).fn y = true ∨ (F.X j).env.scope.names.lookup y = some .local := by intro _; first | exact .inl rfl | exact .inr rfl)
    (s1 : ∀ j, swapsWith (.Dict [] [] p2) (some (.Name x p1)) p3.line (F.X j).env = pure false := by intro _; rfl)
    (m2 : ∀ j, M2 (F.X j) (.Name x p5) "setdefault" p6 (.Tuple es k1 p7) (.List [] p8) p9 := by intro _; exact ⟨rfl, rfl, rfl, rfl⟩)
    (hbase : ∀ j, attributeBase (.Call (.Attribute (.Name x p5) "setdefault" p6) [.Tuple es k1 p7, .List [] p8] [] p9) "append" (F.X j).env (eval (.Call (.Attribute (.Name x p5) "setdefault" p6) [.Tuple es k1 p7, .List [] p8] [] p9) (F.X j).env) = eval (.Call (.Attribute (.Name x p5) "setdefault" p6) [.Tuple es k1 p7, .List [] p8] [] p9) (F.X j).env := by intro _; rfl)
    (hfew : ∀ j, ((backTo p12 (starEach [.Name y p11] (F.X j).env)).all (fun x => !x.1) && (backToKw p12 (keywordEach [] (F.X j).env)).all (fun x => x.1.isSome) && decide ([Expr.Name y p11].length + ([] : List Keyword).length + (if ([] : List Keyword).isEmpty then 0 else 1) < 30)) = true := by intro _; rfl)
    (hline : (p10.endLine == p12.line) = true := by rfl) (hst : ∀ j, starEach [.Name y p11] (F.X j).env = (false, eval (.Name y p11) (F.X j).env) :: starEach [] (F.X j).env := by intro _; rfl)
    (hsw : ∀ j, swapsWith (.Call (.Attribute (.Call (.Attribute (.Name x p5) "setdefault" p6) [.Tuple es k1 p7, .List [] p8] [] p9) "append" p10) [.Name y p11] [] p12) none p13.line (F.X j).env = pure false := by intro _; rfl)
    (hs : ∀ j x, foldedSetIterable iter (F.X j).env x = pure x := by intro _ _; rfl) (hot0 : F.hot = false := by rfl) :
    DnB F τ τo rf [.Assign [.Name x p1] (.Dict [] [] p2) p3, .For (.Name y p4) iter [.Expr (.Call (.Attribute (.Call (.Attribute (.Name x p5) "setdefault" p6) [.Tuple es k1 p7, .List [] p8] [] p9) "append" p10) [.Name y p11] [] p12) p13] [] p14, .Return (some (.Name x p15)) p16] (sByEnds i u fi gs) := by
  obtain ⟨wi, i1, i2⟩ := hi
  obtain ⟨ta, a1, a2⟩ := ha
  have hbm : ∀ j, PE (F.X j) (.Call (.Attribute (.Call (.Attribute (.Name x p5) "setdefault" p6) [.Tuple es k1 p7, .List [] p8] [] p9) "append" p10) [.Name y p11] [] p12) (tBM F.K "list" rAppend (tDSetT (tVar i) (tTup ta) (tLst tNil)) (tCons (tVar u) tNil)) := fun j => by
    have z := pe_bm (X := F.X j) PySem.F.plainAttrs_list PySem.F.slot_list_append PySem.F.type_list_append mt_append (pe_dsetdT (apos := p6) (cpos := p9) (by have := units_of (F := F) j; omega) (pe_var (n1 j) (v1 j) d1 c1) (pe_tup (a1 j)) (pe_lst pa_nil) (m2 j)) (pa_cons (pe_var (n2 j) (v2 j) d2 c2) pa_nil (hst j)) (hbase j) (hfew j) hline (hst j) rfl
    rw [F.hK j] at z
    exact z
  refine ⟨_, fun j => pss_cons (ps_set (F.nd j) (n1 j) (l1 j) pe_dnewT (s1 j) (f1 j)) (pss_cons (ps_for (F.po j) (F.calm hot0 j) (i1 j) (pg_name (F.nd j) (n2 j) (l2 j) (f2 j)) (pss_one (ps_expr (hbm j) (hsw j))) (hs j)) (pss_one (ps_ret (pe_lockA (pe_var (n1 j) (v1 j) d1 c1))))), fun H0 B ρ σ H E s p => ?_⟩
  intro fo hfo
  have e01 : Same H (upd H fo (.dT [])) := dom_upd hfo
  have hf0 : H0 fo = none := s.ext.free hfo
  have nki : (kd τ i).isOwn = false := by rw [ki]; rfl
  have nku : (kd τ u).isOwn = false := by rw [ku]; rfl
  have s1' := (s.apartM hfo e01 upd_same trivial).drop nki (some (.ref fo))
  unfold sByEnds at p
  refine i2 H0 _ (ρ.set i none) (σ.set i (some (.ref fo))) _ _ s1' (((PostS.out (σ := σ.set i (some (.ref fo))) s.ext p).to e01 fun ds _ pp J Hs es' js => ?_))
  rw [if_pos rfl] at js
  cases hG : byAll u gs (ρ.set i none) ds [] with
  | none => rw [hG] at pp; exact pp.elim
  | some G =>
  rw [hG] at pp
  have pf : PostS F τo H0 B H (OwnX τ B ρ σ) rf E (if ds.length < 100000 ∧ u < ρ.length ∧ i < ρ.length then .ret (glF G) else .bad) := pp
  clear pp p
  by_cases hc : ds.length < 100000 ∧ u < ρ.length ∧ i < ρ.length
  rotate_left
  · rw [if_neg hc] at pf; exact pf.elim
  rw [if_pos hc] at pf
  obtain ⟨hc1, hc2, hc3⟩ := hc
  have hB0 : Bx B fo [] = fun a => B a ∨ a = fo := by
    funext a
    refine propext ⟨fun z => ?_, fun z => .inl z⟩
    rcases z with z | ⟨r, hr, _⟩
    · exact z
    · cases hr
  have hBs : ∀ a, B a → dom Hs a := fun a ha => by
    obtain ⟨o, q, _⟩ := s.bdm a ha
    exact es'.dm a (e01.dm a (by rw [q]; exact fun z => by cases z))
  refine ⟨fun n m σ' H' => m = ds.length - n ∧ n ≤ ds.length ∧ ∃ R, RowsOk F.K H0 B fo H' R n ∧ byAll u gs (ρ.set i none) (ds.drop n) (gdR R) = some G ∧ ∃ ρ' : Rho, (∀ x, ρ'.set u x = (ρ.set i none).set u x) ∧ ρ'.length = ρ.length ∧ SR F.K τ H0 (Bx B fo R) ρ' σ' H' ∧
      Kp (OwnX τ (Bx B fo []) (ρ.set i none) (σ.set i (some (.ref fo)))) Hs (OwnX τ (Bx B fo R) ρ' σ') H' ∧ σ'[i]? = some (some (.ref fo)),
    ⟨ds.length, by simp, Nat.zero_le _, [], ⟨es' _ _ upd_same, by simp, by simp, fun r hr => (by cases hr), Nat.zero_le _⟩, hG, ρ.set i none, fun _ => rfl, List.length_set .., by rw [hB0]; exact s1'.more es', Kp.refl, List.getElem?_set_self (by rw [s.len]; exact hc3)⟩, ?_⟩
  rintro n m σ2 H2 ⟨rfl, hn, R, rk, hall, ρ2, hρ, hρl, s2, k2, hi2⟩
  rw [hB0] at k2
  obtain ⟨go, stop⟩ := js H2 k2.1
  by_cases hlt : n < ds.length
  · have hd : ds[n]? = some ds[n] := List.getElem?_eq_getElem hlt
    obtain ⟨g0, gy⟩ := go n _ hd
    rw [List.drop_eq_getElem_cons hlt] at hall
    obtain ⟨G1, hst1, hall2⟩ := byAll_cons hall
    obtain ⟨q, hgs, himm, rfl⟩ := byStep_of hst1
    refine .inr ⟨g0, fun σ' H' => ∃ R, RowsOk F.K H0 B fo H' R (n + 1) ∧ byAll u gs (ρ.set i none) (ds.drop (n + 1)) (gdR R) = some G ∧ ∃ ρ' : Rho, (∀ x, ρ'.set u x = (ρ.set i none).set u x) ∧ ρ'.length = ρ.length ∧ SR F.K τ H0 (Bx B fo R) ρ' σ' H' ∧
      Kp (OwnX τ (Bx B fo []) (ρ.set i none) (σ.set i (some (.ref fo)))) Hs (OwnX τ (Bx B fo R) ρ' σ') H' ∧ σ'[i]? = some (some (.ref fo)), fun σ' H' z => ⟨ds.length - (n + 1), by omega, rfl, hlt, z⟩, fun x H3 y => ?_⟩
    obtain ⟨e3, q3⟩ := gy x H3 y
    have hv3 := q3 (OwnX τ (Bx B fo R) ρ2 σ2) fun a z => k2.2 a z
    have s3 := s2.put (v := x) (d := ds[n]) nku e3 (by rw [ku]; exact hv3)
    have hgs3 : gs (ρ2.set u (some ds[n])) = .ok [.int q.1, .int q.2] := by rw [hρ]; exact hgs
    have hsl : u < σ2.length := by rw [s2.len, hρl]; exact hc2
    have oeq := fun a => ownX_put (B := Bx B fo R) (ρ := ρ2) (σ := σ2) (x := some ds[n]) (y := some x) nku a
    refine by_turn (E := { E with nx := _, ct := _, bk := _ }) a2 s3 hf0 (rk.more e3) (Nat.lt_trans (Nat.lt_of_le_of_lt (Nat.le_refl _) hlt) hc1) (by rw [List.getElem?_set_ne (Ne.symm hiu)]; exact hi2) (List.getElem?_set_self hsl) (Dq.mono (Same.refl _) hv3 fun a z => (oeq a).mp z) himm hgs3 (fun a ha => e3.dm a (k2.1.dm a (hBs a ha))) fun R' H7 rk' hgd s7 k7 => ?_
    refine ⟨R', rk', by rw [hgd]; exact hall2, ρ2.set u (some ds[n]), fun z => by rw [List.set_set]; exact hρ z, by rw [List.length_set]; exact hρl, s7, ?_, by rw [List.getElem?_set_ne (Ne.symm hiu)]; exact hi2⟩
    rw [hB0]
    exact (k2.trans ((Kp.same e3).trans (Kp.sub fun a z => (oeq a).mp z))).trans k7
  · have e : n = ds.length := by omega
    subst e
    rw [List.drop_length] at hall
    cases hall
    refine .inl ⟨stop, .ref fo, hi2, fo, _, rfl, rk.at_, trivial, fun od => ?_⟩
    refine pf _ _ (s2.ext.updM hf0 rk.at_ trivial) ?_
    unfold glF
    rw [← glL_zip]
    refine .dF upd_same (rows_dq R fun r hr => ?_)
    obtain ⟨y1, y2, y3, y4, y5, y6, y7⟩ := rk.row r hr
    refine ⟨fun z => ?_, by rw [upd_ne y1]; exact y4, y5, (DqL.upd rk.at_ trivial (O := fun a => a = fo) rfl (y6.imm_any y5)).imm_any y5⟩
    cases rf with
    | true => exact (show dom H0 r.l from z) y2
    | false => exact y3 z
end
end Dn
set_option Elab.async false
set_option linter.all false
set_option maxRecDepth 100000
/-! a locked dict from pairs of numbers to lists: d[(k, l)], [len(d[x]) for x in d], for k, l in list(d) -/
namespace Dn
open PySem L2
def glEs : List (D × D) → Option GD
  | [] => some []
  | (.tuple [.int a, .int b], .list ds) :: r => match glEs r with
    | some G => some (((a, b), ds) :: G)
    | none => none
  | _ => none
theorem glEs_of : ∀ {kvs : List (D × D)} {G : GD}, glEs kvs = some G → kvs = glL G
  | [], G, h => by cases h; rfl
  | (k, n) :: r, G, h => by
    unfold glEs at h
    split at h
    · rename_i e; cases e
    · rename_i a b ds r' e
      cases e
      cases h1 : glEs r with
      | none => rw [h1] at h; cases h
      | some qs =>
        rw [h1] at h
        cases h
        rw [glEs_of h1]
        rfl
    · cases h
theorem glEs_L : ∀ G : GD, glEs (glL G) = some G
  | [] => rfl
  | ((a, b), ds) :: G => by
    have ih := glEs_L G
    unfold glL at ih ⊢
    rw [List.map_cons]
    unfold glEs
    rw [ih]
def lockG : D → Option GD
  | .dict ((.none, .bool true) :: kvs) => glEs kvs
  | _ => none
theorem lockG_of {d : D} {G : GD} (h : lockG d = some G) : d = glF G := by
  unfold lockG at h
  split at h
  · rw [glEs_of h]; rfl
  · cases h
theorem lockG_F (G : GD) : lockG (glF G) = some G := glEs_L G
theorem of_glF {K : PySem.W.Frag} {H : Hp} {A : Av} {v : V} {G : GD} (r : Dq K H A v (glF G)) : ∃ p o kvs ds, v = .ref p ∧ H p = some (.frz o (.dT kvs)) ∧ ((kvs.map fun kv => keysD kv.1).zip ds) = glL G ∧ DqL K H A (kvs.map (·.2)) ds := by
  unfold glF at r
  generalize hk : (tdLock :: glL G) = kk at r
  cases r with
  | @dK _ a kvs ds a1 a2 a3 =>
    exfalso
    cases kvs with
    | nil => cases hk
    | cons kv kvs => cases a3; cases kv with | mk k v => cases k <;> cases hk
  | dT a1 a2 a3 => cases (List.cons.inj hk).1
  | dF a2 a3 => exact ⟨_, _, _, _, rfl, a2, (List.cons.inj hk).2.symm, a3⟩
theorem zip_keys : ∀ {kvs : List (List L2.Key × V)} {ds : List D} {G : GD} {K : PySem.W.Frag} {H : Hp} {A : Av}, ((kvs.map fun kv => keysD kv.1).zip ds) = glL G → DqL K H A (kvs.map (·.2)) ds → kvs.map (·.1) = (G.map fun g => ([.inl g.1.1, .inl g.1.2] : List L2.Key)) ∧ ds = G.map fun g => PyData.list g.2
  | [], _, [], _, _, _, _, r => by cases r; exact ⟨rfl, rfl⟩
  | [], _, _ :: _, _, _, _, h, _ => by rw [List.map_nil, List.zip_nil_left] at h; cases h
  | kv :: kvs, ds, [], _, _, _, h, r => by
    cases r
    rw [List.map_cons, List.zip_cons_cons] at h
    cases h
  | (k, v) :: kvs, ds, ((a, b), c) :: G, _, _, _, h, r => by
    cases r with
    | cons r1 r2 =>
      rw [List.map_cons, List.zip_cons_cons] at h
      obtain ⟨h1, h2⟩ := List.cons.inj h
      obtain ⟨h3, h4⟩ := Prod.mk.inj h1
      subst h4
      obtain ⟨i1, i2⟩ := zip_keys h2 r2
      rw [List.map_cons, List.map_cons, i1, keysD_two (show keysD k = .tuple [.int a, .int b] from h3), i2]
      exact ⟨rfl, rfl⟩
theorem val_nodup {κ : Type} [DecidableEq κ] : ∀ {kvs : List (κ × V)} {n : Nat} {k : κ} {v : V}, (kvs.map (·.1)).Nodup → kvs[n]? = some (k, v) → valV kvs k = some v
  | [], _, _, _, _, h => by cases h
  | q :: kvs, 0, k, v, _, h => by
    cases h
    exact valV_pos rfl
  | q :: kvs, n + 1, k, v, hn, h => by
    rw [List.map_cons, List.nodup_cons] at hn
    rw [List.getElem?_cons_succ] at h
    have hm : k ∈ kvs.map (·.1) := List.mem_map.mpr ⟨(k, v), List.mem_of_getElem? h, rfl⟩
    rw [valV_neg (fun e => hn.1 (by rw [e]; exact hm))]
    exact val_nodup hn.2 h
def getG (G : GD) (p : Int × Int) : Option (List D) := (G.find? fun g => decide (g.1 = p)).map (·.2)
def nodG (G : GD) : Bool := decide ((G.map (·.1)).Nodup)
theorem keys_nodup {G : GD} (h : nodG G = true) : (G.map fun g => ([.inl g.1.1, .inl g.1.2] : List L2.Key)).Nodup := by
  have h := of_decide_eq_true h
  have e : (G.map fun g => ([.inl g.1.1, .inl g.1.2] : List L2.Key)) = (G.map (·.1)).map fun p : Int × Int => ([.inl p.1, .inl p.2] : List L2.Key) := by rw [List.map_map]; rfl
  rw [e]
  exact List.Pairwise.map _ (fun a b hab z => hab (key_eq.mp z)) h
section
variable {F : Fam} {τ : List Kd} {rf : Bool}
/-! ### d[(k, l)] -/
def eGetL (i : Nat) (gs : Rho → Res (List D)) : Rho → Res D := fun ρ => (eVar i ρ).bind fun d => (ofO (lockG d)).bind fun G => (gs ρ).bind fun ds => (ofO (twoI ds)).bind fun q => (ofO (getG G q)).bind fun es => if nodG G = true then .ok (.list es) else .bad
theorem dn_getL (i : Nat) {x : Str} {es : List Expr} {gs : Rho → Res (List D)} {lb : Fl} {kk : Nat} {p1 p2 pos : Pos} (ha : DnA F τ es gs lb) (hk : kd τ i = .sh := by rfl)
    (hN : ∀ k, (F.X k).N[i]? = some x := by intro _; rfl) (hv : ∀ k, Vis (F.X k).env.scope x := by intro _; first | exact Or.inl rfl | exact Or.inr (Or.inl rfl) | exact Or.inr (Or.inr rfl))
    (hd : (x == ("__debug__" : Str)) = false := by decide) (hcd : (x == ("__classdict__" : Str)) = false := by decide) (hs : NoSl (.Tuple es kk p2) := by intro _ _; rfl) :
    DnE F τ (.Subscript (.Name x p1) (.Tuple es kk p2) pos) (eGetL i gs) .z := by
  obtain ⟨ta, a1, a2⟩ := ha
  refine ⟨_, fun j => pe_dget (by have := units_of (F := F) j; omega) (pe_var (hN j) (hv j) hd hcd) (pe_tup (a1 j)) hs, fun H0 B ρ σ H Q s p => ?_⟩
  unfold eGetL at p
  cases hq : eVar i ρ with
  | exc c => exact (eVar_exc hq).elim
  | bad => rw [hq] at p; exact p.elim
  | ok d =>
  rw [hq] at p
  have p1 : Post F σ H _ ((ofO (lockG d)).bind fun G => (gs ρ).bind fun ds => (ofO (twoI ds)).bind fun q => (ofO (getG G q)).bind fun es => if nodG G = true then Res.ok (PyData.list es) else .bad) := p
  clear p
  cases hl : lockG d with
  | none => rw [hl] at p1; exact p1.elim
  | some G =>
  rw [hl] at p1
  have hdd := lockG_of hl
  subst hdd
  obtain ⟨v, hv1, hv2⟩ := s.ok i _ (eVar_ok hq)
  rw [hk] at hv2
  obtain ⟨l, o, kvs, vds, rfl, hlH, hz, hdq⟩ := of_glF (show Dq F.K H (OwnX τ B ρ σ) v (glF G) from hv2)
  refine ⟨.ref l, hv1, ?_⟩
  have p2 : Post F σ H _ ((gs ρ).bind fun ds => (ofO (twoI ds)).bind fun q => (ofO (getG G q)).bind fun es => if nodG G = true then Res.ok (PyData.list es) else .bad) := p1
  clear p1
  refine a2 H0 B ρ σ H _ s (p2.bind.to (Same.refl _) fun ds _ p3 vs H2 e2 r2 => ?_)
  cases ht : twoI ds with
  | none => rw [ht] at p3; exact p3.elim
  | some ab =>
  rw [ht] at p3
  have hds := twoI_of ht
  subst hds
  have hvs := r2.two
  subst hvs
  have p4 : Post F σ H _ ((ofO (getG G ab)).bind fun es => if nodG G = true then Res.ok (PyData.list es) else .bad) := p3
  clear p3
  cases hg : getG G ab with
  | none => rw [hg] at p4; exact p4.elim
  | some L =>
  rw [hg] at p4
  have p5 : Post F σ H _ (if nodG G = true then Res.ok (PyData.list L) else .bad) := p4
  clear p4
  by_cases hn : nodG G = true
  rotate_left
  · rw [if_neg hn] at p5; exact p5.elim
  rw [if_pos hn] at p5
  refine ⟨by show 2 ≤ sizeLine; decide, fun q2 hq2 => ?_⟩
  have e3 : Same H2 (upd H2 q2 (.tup [.int ab.1, .int ab.2])) := dom_upd hq2
  have h3 : (upd H2 q2 (.tup [.int ab.1, .int ab.2])) l = some (.frz o (.dT kvs)) := e3 _ _ (e2 _ _ hlH)
  obtain ⟨z1, z2⟩ := zip_keys hz hdq
  unfold getG at hg
  obtain ⟨g, hf, rfl⟩ := Option.map_eq_some_iff.mp hg
  have hgm := List.mem_of_find?_eq_some hf
  have hgk : g.1 = ab := of_decide_eq_true (List.find?_some (p := fun g : (Int × Int) × List D => decide (g.1 = ab)) hf)
  obtain ⟨n, hn', hgn⟩ := List.getElem_of_mem hgm
  have hkl : kvs.length = G.length := by
    have := congrArg List.length z1
    rwa [List.length_map, List.length_map] at this
  have hkn : n < kvs.length := by rw [hkl]; exact hn'
  have hk1 : kvs[n].1 = [.inl ab.1, .inl ab.2] := by
    have h1 : (kvs.map (·.1))[n]? = some kvs[n].1 := by rw [List.getElem?_map, List.getElem?_eq_getElem hkn]; rfl
    rw [z1, List.getElem?_map, List.getElem?_eq_getElem hn', hgn] at h1
    have h1 := Option.some.inj h1
    rw [← h1, ← hgk]
  have hvd : vds[n]? = some (.list g.2) := by rw [z2, List.getElem?_map, List.getElem?_eq_getElem hn', hgn]; rfl
  obtain ⟨w, hw1, hw2⟩ := hdq.get hvd
  rw [List.getElem?_map, List.getElem?_eq_getElem hkn] at hw1
  have hw1 : kvs[n].2 = w := Option.some.inj hw1
  have hval : valV kvs [.inl ab.1, .inl ab.2] = some w := by
    refine val_nodup (n := n) (by rw [z1]; exact keys_nodup hn) ?_
    rw [List.getElem?_eq_getElem hkn, ← hk1, ← hw1]
  refine ⟨l, w, rfl, .inr ⟨kvs, [.inl ab.1, .inl ab.2], q2, .inr ⟨o, h3⟩, rfl, upd_same, hval.symm⟩, ?_⟩
  exact p5 _ _ (e2.trans e3) (Dq.mono (e2.trans e3) hw2 fun a z => z)
/-! ### [len(d[x]) for x in d] -/
def eLens (i j : Nat) : Rho → Res D := fun ρ => (eVar i ρ).bind fun d => (ofO (lockG d)).bind fun G => if nodG G = true ∧ j < ρ.length ∧ G.length ≤ 100000 then .ok (.list (G.map fun g => PyData.int (g.2.length : Nat))) else .bad
theorem dn_lens (i j : Nat) {x y : Str} {scope : Scope} {p0 p1 p2 p3 p4 p5 p6 pos : Pos} (hm : ∀ k, (F.X k).mg "len" = none) (hij : i ≠ j := by decide) (hk : kd τ i = .sh := by rfl)
    (h1 : ∀ k, PE (F.X k) (.Name x p5) (tVar i) := by intro _; exact pe_var rfl (by first | exact Or.inl rfl | exact Or.inr (Or.inl rfl) | exact Or.inr (Or.inr rfl))) (h2 : ∀ k, PE ((F.blk scope).X k) (.Name x p1) (tVar i) := by intro _; exact pe_var rfl (by first | exact Or.inl rfl | exact Or.inr (Or.inl rfl) | exact Or.inr (Or.inr rfl)))
    (h3 : ∀ k, PE ((F.blk scope).X k) (.Name y p2) (tVar j) := by intro _; exact pe_var rfl (by first | exact Or.inl rfl | exact Or.inr (Or.inl rfl) | exact Or.inr (Or.inr rfl)))
    (hNB : ∀ k, ((F.blk scope).X k).N[j]? = some y := by intro _; rfl) (hxB : ∀ k, Loc ((F.blk scope).X k).env.scope y := by intro _; first | exact .inl rfl | exact .inr rfl)
    (hfB : ∀ k, ((F.blk scope).X k).fn y = true ∨ ((F.blk scope).X k).env.scope.names.lookup y = some .local := by intro _; first | exact .inl rfl | exact .inr rfl)
    (hgB : ∀ k, Gl ((F.blk scope).X k) "len" := by intro _; rfl) (hmB : ∀ k, ((F.blk scope).X k).mg "len" = (F.X k.1).mg "len" := by intro _; rfl)
    (hbl : bootBuiltins "len" = some (.builtin "len") := by decide +kernel)
    (hst : ∀ k, starEach [.Subscript (.Name x p1) (.Name y p2) p3] ((F.blk scope).X k).env = (false, eval (.Subscript (.Name x p1) (.Name y p2) p3) ((F.blk scope).X k).env) :: starEach [] ((F.blk scope).X k).env := by intro _; rfl)
    (hpl : ∀ k, (backTo p6 (starEach [] ((F.blk scope).X k).env)).any (·.1) = false := by intro _; rfl)
    (ok : ∀ k, BlkOk (F.X k).N (F.X k).env.scope scope [(y, j)] := by exact fun _ => blkOk_by (by kernel_rfl)) (hs : ∀ k x', foldedSetIterable (.Name x p5) (F.X k).env x' = pure x' := by intro _ _; rfl)
    (hot0 : F.hot = false := by rfl) : DnE F τ (.ListComp (.Call (.Name "len" p0) [.Subscript (.Name x p1) (.Name y p2) p3] [] p6) [⟨.Name y p4, .Name x p5, [], 0⟩] scope pos) (eLens i j) .s := by
  have h4 : ∀ k, PG ((F.blk scope).X k) (.Name y p4) (gName j) := fun k => pg_name ((F.blk scope).nd k) (hNB k) (hxB k) (hfB k)
  have hun : ∀ k, ((F.blk scope).X k).A.units + 1 < cLine := fun k => by
    have h : ((F.blk scope).X k).A.units + 199 < cLine := units_of (F := F.blk scope) k
    exact Nat.lt_of_le_of_lt (Nat.add_le_add_left (by decide) _) h
  have he : ∀ k, PE ((F.blk scope).X k) (.Call (.Name "len" p0) [.Subscript (.Name x p1) (.Name y p2) p3] [] p6) (tCB (fun xs H Q => ∃ x n, xs = [x] ∧ LenV F.K x H n ∧ Q (.int n) H) (tCons (tDGet (tVar i) (tVar j)) tNil)) := fun k => by
    have z := pe_callB (p := p0) (pos := p6) (call_len (X := (F.blk scope).X k)) (hgB k) ((hmB k).trans (hm k.1)) hbl (pa_cons (pe_dget (pos := p3) (hun k) (h2 k) (h3 k) (fun _ _ => rfl)) pa_nil (hst k)) (by decide) (by decide) (hst k) (hpl k)
    rw [(F.blk scope).hK k] at z
    exact z
  refine ⟨tLc (iKeys (tVar i)) (gName j) tYes (tCB (fun xs H Q => ∃ x n, xs = [x] ∧ LenV F.K x H n ∧ Q (.int n) H) (tCons (tDGet (tVar i) (tVar j)) tNil)) [j], fun k => pe_lc (F.calm hot0 k) (F.nd k) (pi_keys (h1 k)) (ok k) (fun s H C cl fp => h4 (k, s, H, C, cl, fp)) (fun s H C cl fp => pts_nil) (fun s H C cl fp => he (k, s, H, C, cl, fp)) (hs k), fun H0 B ρ σ H Q s p => ?_⟩
  unfold eLens at p
  cases hq : eVar i ρ with
  | exc c => exact (eVar_exc hq).elim
  | bad => rw [hq] at p; exact p.elim
  | ok d =>
  rw [hq] at p
  have p1 : Post F σ H _ ((ofO (lockG d)).bind fun G => if nodG G = true ∧ j < ρ.length ∧ G.length ≤ 100000 then Res.ok (PyData.list (G.map fun g => PyData.int (g.2.length : Nat))) else .bad) := p
  clear p
  cases hl : lockG d with
  | none => rw [hl] at p1; exact p1.elim
  | some G =>
  rw [hl] at p1
  have hdd := lockG_of hl
  subst hdd
  have pf : Post F σ H _ (if nodG G = true ∧ j < ρ.length ∧ G.length ≤ 100000 then Res.ok (PyData.list (G.map fun g => PyData.int (g.2.length : Nat))) else .bad) := p1
  clear p1
  by_cases hc : nodG G = true ∧ j < ρ.length ∧ G.length ≤ 100000
  rotate_left
  · rw [if_neg hc] at pf; exact pf.elim
  rw [if_pos hc] at pf
  obtain ⟨hn, hjl, hGl⟩ := hc
  obtain ⟨v, hv1, hv2⟩ := s.ok i _ (eVar_ok hq)
  rw [hk] at hv2
  obtain ⟨l, o, kvs, vds, rfl, hlH, hz, hdq⟩ := of_glF (show Dq F.K H (OwnX τ B ρ σ) v (glF G) from hv2)
  obtain ⟨z1, z2⟩ := zip_keys hz hdq
  have hkl : kvs.length = G.length := by
    have := congrArg List.length z1
    rwa [List.length_map, List.length_map] at this
  have hknd : (kvs.map (·.1)).Nodup := by rw [z1]; exact keys_nodup hn
  refine ⟨.ref l, hv1, l, o, rfl, .inr ⟨kvs, hlH, ?_⟩⟩
  intro Dl hD
  have hDl : Dl ≠ l := fun z => by rw [z, hlH] at hD; cases hD
  let lens : List V := G.map fun g => V.int (g.2.length : Nat)
  have hle : lens.length = G.length := List.length_map _
  refine ⟨fun n m H' => m = G.length - n ∧ n ≤ G.length ∧ H' = upd H Dl (.lst (lens.take n)), ⟨G.length, by simp, Nat.zero_le _, rfl⟩, ?_⟩
  rintro n m H' ⟨rfl, hn', rfl⟩
  have eD : Same H (upd H Dl (.lst (lens.take n))) := dom_upd hD
  have hfl : (upd H Dl (.lst (lens.take n))) l = some (.frz o (.dT kvs)) := eD _ _ hlH
  by_cases hlt : n < G.length
  · refine .inr ⟨⟨hfl, by rw [hkl]; exact hlt⟩, fun H' => H' = upd H Dl (.lst (lens.take (n + 1))), fun H' e => ⟨G.length - (n + 1), by omega, rfl, hlt, e⟩, ?_⟩
    rintro x' H' ⟨rfl, k, w, q, hkw, rfl, hqk⟩
    have hjs : j < (L2.wipe σ [j]).length := by rw [wipe_length, s.len]; exact hjl
    have hw : L2.wipe ((L2.wipe σ [j]).set j (some (.ref q))) [j] = L2.wipe σ [j] := by
      rw [wipe_eq (σ := L2.wipe σ [j]) (List.length_set ..) fun m hm => List.getElem?_set_ne (fun z => hm (by rw [z]; exact List.mem_singleton.mpr rfl)), wipe_wipe]
    have hvi : ((L2.wipe σ [j]).set j (some (.ref q)))[i]? = some (some (.ref l)) := by
      rw [List.getElem?_set_ne (Ne.symm hij), wipe_get (fun z => hij (List.mem_singleton.mp z))]
      exact hv1
    have hvj : ((L2.wipe σ [j]).set j (some (.ref q)))[j]? = some (some (.ref q)) := List.getElem?_set_self hjs
    have hvd : vds[n]? = some (.list G[n].2) := by rw [z2, List.getElem?_map, List.getElem?_eq_getElem hlt]; rfl
    obtain ⟨w', hw1, hw2⟩ := hdq.get hvd
    rw [List.getElem?_map, hkw] at hw1
    have hw1 : w = w' := Option.some.inj hw1
    subst hw1
    obtain ⟨la, lxs, rfl, hla, hlq⟩ := Rv.lst (.inl hw2)
    have hla2 : (upd H Dl (.lst (lens.take n))) la = some (.lst lxs) := eD _ _ hla
    refine ⟨hw, ?_⟩
    refine ⟨.ref l, hvi, .ref q, hvj, l, .ref la, rfl, .inr ⟨kvs, k, q, .inr ⟨o, hfl⟩, rfl, hqk, (val_nodup hknd hkw).symm⟩, ?_⟩
    refine ⟨.ref la, lxs.length, rfl, .inl ⟨lxs, SqL.of hla2, rfl⟩, _, upd_same, ?_, ?_⟩
    · rw [List.length_take]
      exact Nat.lt_of_le_of_lt (Nat.min_le_left _ _) (Nat.lt_of_lt_of_le hlt (Nat.le_trans hGl (by decide)))
    · show upd (upd _ _ _) _ _ = _
      rw [upd_twice', List.take_add_one]
      congr 3
      show _ = ((G.map fun g => V.int (g.2.length : Nat))[n]?).toList
      rw [List.getElem?_map, List.getElem?_eq_getElem hlt, hlq.length]
      rfl
  · have e : n = G.length := by omega
    subst e
    refine .inl ⟨⟨hfl, by rw [hkl]; exact Nat.le_refl _⟩, ?_⟩
    have hli : ∀ G : GD, DqL F.K H (dom H) (G.map fun g => V.int (g.2.length : Nat)) (G.map fun g => PyData.int (g.2.length : Nat)) := fun G => by
      induction G with
      | nil => exact .nil
      | cons g G ih => exact .cons (.int _) ih
    rw [List.take_of_length_le (by rw [hle]; exact Nat.le_refl _)]
    exact pf _ _ (dom_upd hD) (new_lst hD (fun _ z => z) (hli G))
/-! ### for k, l in list(d) -/
def gKy (a b : Nat) : D → Rho → Option Rho := fun d ρ => match d with
  | .tuple [.int x, .int y] => some ((ρ.set a (some (.int x))).set b (some (.int y)))
  | _ => none
def kyD (g : (Int × Int) × List D) : D := .tuple [.int g.1.1, .int g.1.2]
def sForKeys (i a b : Nat) (gb : Rho → Out) : Rho → Out := fun ρ => outOf (eVar i ρ) fun d => outOf (ofO (lockG d)) fun G => loopD (gKy a b) gb (G.map kyD) ρ
theorem ds_forKeys (i a b : Nat) {x1 x2 y : Str} {q1 q2 q3 p0 p1 p3 pos : Pos} {k1 : Nat} {sb : List Stmt} {gb : Rho → Out} (hm : ∀ k, (F.X k).mg "list" = none) (hb : DnB F τ τ rf sb gb)
    (hk : kd τ i = .sh := by rfl) (ka : kd τ a = .sh := by rfl) (kb : kd τ b = .sh := by rfl)
    (hN : ∀ k, (F.X k).N[i]? = some y := by intro _; rfl) (hv : ∀ k, Vis (F.X k).env.scope y := by intro _; first | exact Or.inl rfl | exact Or.inr (Or.inl rfl) | exact Or.inr (Or.inr rfl))
    (hd : (y == ("__debug__" : Str)) = false := by decide) (hcd : (y == ("__classdict__" : Str)) = false := by decide)
    (i1 : ∀ j, (F.X j).N[a]? = some x1 := by intro _; rfl) (l1 : ∀ j, Loc (F.X j).env.scope x1 := by intro _; first | exact .inl rfl | exact .inr rfl) (f1 : ∀ j, (F.X j).fn x1 = true ∨ (F.X j).env.scope.names.lookup x1 = some .local := by intro _; first | exact .inl rfl | exact .inr rfl)
    (i2 : ∀ j, (F.X j).N[b]? = some x2 := by intro _; rfl) (l2 : ∀ j, Loc (F.X j).env.scope x2 := by intro _; first | exact .inl rfl | exact .inr rfl) (f2 : ∀ j, (F.X j).fn x2 = true ∨ (F.X j).env.scope.names.lookup x2 = some .local := by intro _; first | exact .inl rfl | exact .inr rfl)
    (hg : ∀ j, Gl (F.X j) "list" := by intro _; rfl) (hbl : bootBuiltins "list" = some (.type "list") := by decide +kernel)
    (hst : ∀ j, starEach [.Name y p1] (F.X j).env = (false, eval (.Name y p1) (F.X j).env) :: starEach [] (F.X j).env := by intro _; rfl)
    (hs : ∀ j x, foldedSetIterable (.Call (.Name "list" p0) [.Name y p1] [] p3) (F.X j).env x = pure x := by intro _ _; rfl) (hot0 : F.hot = false := by rfl) :
    DnS F τ τ rf (.For (.Tuple [.Name x1 q1, .Name x2 q2] k1 q3) (.Call (.Name "list" p0) [.Name y p1] [] p3) sb [] pos) (sForKeys i a b gb) := by
  obtain ⟨tb, b1, b2⟩ := hb
  have hg2 : ∀ j, PG (F.X j) (.Tuple [.Name x1 q1, .Name x2 q2] k1 q3) (gTup F.K 2 (gCons (gName a) (gCons (gName b) gNil))) := fun j => by
    have q := pg_tup (pos := q3) (k := k1) (F.calm hot0 j) (pgs_cons (pg_name (pos := q1) (F.nd j) (i1 j) (l1 j) (f1 j)) (pgs_cons (pg_name (pos := q2) (F.nd j) (i2 j) (l2 j) (f2 j)) pgs_nil rfl) rfl) rfl rfl
    rw [F.hK j] at q
    exact q
  refine ⟨tFor (iListT (tVar i)) (gTup F.K 2 (gCons (gName a) (gCons (gName b) gNil))) tb, fun j => ps_for (F.po j) (F.calm hot0 j) (pi_listT (F.calm hot0 j) (pe_var (hN j) (hv j) hd hcd) (hg j) (hm j) hbl (by decide) (by decide) (hst j)) (hg2 j) (b1 j) (hs j), fun H0 B ρ σ H E s p => ?_⟩
  unfold sForKeys at p
  cases hq : eVar i ρ with
  | exc c => exact (eVar_exc hq).elim
  | bad => rw [hq] at p; exact p.elim
  | ok d =>
  rw [hq] at p
  have pf : PostS F τ H0 B H (OwnX τ B ρ σ) rf E (outOf (ofO (lockG d)) fun G => loopD (gKy a b) gb (G.map kyD) ρ) := p
  clear p
  cases ho : lockG d with
  | none => rw [ho] at pf; exact pf.elim
  | some G =>
  rw [ho] at pf
  have hdd := lockG_of ho
  subst hdd
  obtain ⟨v, hv1, hv2⟩ := s.ok i _ (eVar_ok hq)
  rw [hk] at hv2
  obtain ⟨l, o, kvs, vds, rfl, hl, hz, hdq⟩ := of_glF (show Dq F.K H (OwnX τ B ρ σ) v (glF G) from hv2)
  obtain ⟨z1, z2⟩ := zip_keys hz hdq
  have hkl : kvs.length = G.length := by
    have := congrArg List.length z1
    rwa [List.length_map, List.length_map] at this
  have hlO : ¬ OwnX τ B ρ σ l := by
    rintro (z | z)
    · obtain ⟨m, z1, ⟨d, z2⟩, z3⟩ := z
      obtain ⟨l', g1, g2, _, g4, _⟩ := s.ownCell z1 z2
      rw [g1] at z3
      cases z3
      rcases g4 with ⟨_, _, _, q, _⟩ | ⟨_, _, _, q, _⟩ | ⟨_, _, _, q, _⟩ <;> (rw [hl] at q; cases q)
    · obtain ⟨o', g, m⟩ := s.bdm l z
      rw [hl] at g
      cases g
      exact m
  refine ⟨.ref l, hv1, l, o, kvs, rfl, hl, ?_⟩
  refine ⟨fun n m σ' H' => m = G.length - n ∧ n ≤ G.length ∧ ∃ ρ', SR F.K τ H0 B ρ' σ' H' ∧ Kp (OwnX τ B ρ σ) H (OwnX τ B ρ' σ') H' ∧ PostS F τ H0 B H' (OwnX τ B ρ' σ') rf E (loopD (gKy a b) gb ((G.drop n).map kyD) ρ'),
    ⟨G.length, by simp, Nat.zero_le _, ρ, s, Kp.refl, pf⟩, ?_⟩
  rintro n m σ2 H2 ⟨rfl, hi, ρ2, s2, kp2, p2⟩
  have hl2 : H2 l = some (.frz o (.dT kvs)) := kp2.1 _ _ hl hlO
  by_cases hlt : n < G.length
  · refine .inr ⟨⟨hl2, by rw [hkl]; exact hlt⟩, fun σ' H' => ∃ ρ', SR F.K τ H0 B ρ' σ' H' ∧ Kp (OwnX τ B ρ σ) H (OwnX τ B ρ' σ') H' ∧ PostS F τ H0 B H' (OwnX τ B ρ' σ') rf E (loopD (gKy a b) gb ((G.drop (n + 1)).map kyD) ρ'),
      fun σ' H' ⟨ρ', u, v, w⟩ => ⟨G.length - (n + 1), by omega, rfl, hlt, ρ', u, v, w⟩, ?_⟩
    rintro x H3 ⟨rfl, k, v, q, hkv, rfl, hqk⟩
    have hk1 : k = [.inl G[n].1.1, .inl G[n].1.2] := by
      have h1 : (kvs.map (·.1))[n]? = some k := by rw [List.getElem?_map, hkv]; rfl
      rw [z1, List.getElem?_map, List.getElem?_eq_getElem hlt] at h1
      exact (Option.some.inj h1).symm
    subst hk1
    rw [List.drop_eq_getElem_cons hlt, List.map_cons] at p2
    have p2 : PostS F τ H0 B H3 (OwnX τ B ρ2 σ2) rf E (match gb ((ρ2.set a (some (.int G[n].1.1))).set b (some (.int G[n].1.2))) with
      | .next ρ4 => loopD (gKy a b) gb ((G.drop (n + 1)).map kyD) ρ4
      | .cont ρ4 => loopD (gKy a b) gb ((G.drop (n + 1)).map kyD) ρ4
      | .brk ρ4 => .next ρ4
      | o => o) := p2
    have na : (kd τ a).isOwn = false := by rw [ka]; rfl
    have nb : (kd τ b).isOwn = false := by rw [kb]; rfl
    have s3 := (s2.put (d := .int G[n].1.1) (v := .int G[n].1.1) na (Same.refl _) (by rw [ka]; exact .int _)).put (d := .int G[n].1.2) (v := .int G[n].1.2) nb (Same.refl _) (by rw [kb]; exact .int _)
    have o3 := fun u => (ownX_put (B := B) (ρ := ρ2.set a (some (.int G[n].1.1))) (σ := σ2.set a (some (.int G[n].1.1))) (x := some (.int G[n].1.2)) (y := some (.int G[n].1.2)) nb u).trans (ownX_put (B := B) (ρ := ρ2) (σ := σ2) (x := some (.int G[n].1.1)) (y := some (.int G[n].1.1)) na u)
    refine ⟨q, _, rfl, .inl (.inl hqk), rfl, .int G[n].1.1, _, rfl, ?_⟩
    refine ⟨.int G[n].1.2, _, rfl, rfl, ?_⟩
    have k3 : Kp (OwnX τ B ρ2 σ2) H3 (OwnX τ B ((ρ2.set a (some (.int G[n].1.1))).set b (some (.int G[n].1.2))) ((σ2.set a (some (.int G[n].1.1))).set b (some (.int G[n].1.2)))) H3 := Kp.sub fun u z => (o3 u).mp z
    refine b2 H0 B _ _ _ _ s3 ?_
    cases hgb : gb ((ρ2.set a (some (.int G[n].1.1))).set b (some (.int G[n].1.2))) with
    | next ρ4 => rw [hgb] at p2; exact fun σ4 H4 s4 k4 => ⟨ρ4, s4, (kp2.trans k3).trans k4, (p2.later k3).later k4⟩
    | cont ρ4 => rw [hgb] at p2; exact fun σ4 H4 s4 k4 => ⟨ρ4, s4, (kp2.trans k3).trans k4, (p2.later k3).later k4⟩
    | brk ρ4 => rw [hgb] at p2; exact fun σ4 H4 s4 k4 => p2 σ4 H4 s4 (k3.trans k4)
    | ret d => rw [hgb] at p2; exact p2
    | exc c => rw [hgb] at p2; exact p2
    | bad => rw [hgb] at p2; exact p2
  · have e : n = G.length := by omega
    subst e
    rw [List.drop_length] at p2
    exact .inl ⟨⟨hl2, by rw [hkl]; exact Nat.le_refl _⟩, p2 σ2 H2 s2 Kp.refl⟩
end
end Dn
set_option Elab.async false
set_option linter.all false
set_option maxRecDepth 100000
/-! a tuple without its first, from its end: t[:0:-1] -/
namespace Dn
open PySem L2
section
open PySem.Spec PyProof.Rows
variable {prog : Program} {w : World} {A : Around} {E : Value → Shared → Prop} {s : Shared}
theorem pick_back (l : List Value) : ∀ n, n ≤ l.length → (List.range n).filterMap (fun (m : Nat) => l[(((l.length : Int) - 1) + (m : Int) * (-1)).toNat]?) = (l.drop (l.length - n)).reverse := by
  intro n
  induction n with
  | zero => intro _; simp
  | succ n ih =>
    intro hn
    rw [List.range_succ, List.filterMap_append, ih (by omega)]
    have hi : (((l.length : Int) - 1) + (n : Int) * (-1)).toNat = l.length - (n + 1) := by omega
    have hlt : l.length - (n + 1) < l.length := by omega
    have e2 : l[(((l.length : Int) - 1) + (n : Int) * (-1)).toNat]? = some l[l.length - (n + 1)] := by rw [hi]; exact List.getElem?_eq_getElem hlt
    rw [List.filterMap_cons, e2]
    have e3 : l.drop (l.length - (n + 1)) = l[l.length - (n + 1)] :: l.drop (l.length - n) := by
      rw [List.drop_eq_getElem_cons hlt]
      congr 1
      congr 1
      omega
    rw [e3, List.reverse_cons]
    rfl
theorem pick_tail (xs : Array Value) (h : 1 ≤ xs.size) : ((List.range (xs.size - 1)).filterMap fun (m : Nat) => xs[(((xs.size : Int) - 1) + (m : Int) * (-1)).toNat]?) = (xs.toList.drop 1).reverse := by
  have e : (fun (m : Nat) => xs[(((xs.size : Int) - 1) + (m : Int) * (-1)).toNat]?) = fun (m : Nat) => xs.toList[(((xs.size : Int) - 1) + (m : Int) * (-1)).toNat]? := by
    funext m
    rw [Array.getElem?_toList]
  rw [e]
  have hs : xs.size = xs.toList.length := by rw [Array.length_toList]
  rw [hs] at h ⊢
  rw [pick_back _ _ (by omega)]
  congr 2
  omega
theorem getItem_tuple_tail {t sl : Addr} {items : Array Value} {u u2 : Tok} {Q : Value → Shared → Prop} (ht : IsTup s.heap t items) (hne : 1 ≤ items.size) (hs : s.heap.IsSliceOf sl .none (.int 0 u2) (.int (-1) u))
    (h : Q (.ref s.heap.objs.size) { s with heap := s.heap.push { cls := .type "tuple", data := .seq (items.toList.drop 1).reverse.toArray } })
    (hsz : items.size ≤ sizeLine) : wpAny (model prog w) A (getItem (.ref t) (.ref sl)) Q E s := by
  have htake : sizeOk (.seq (items.toList.drop 1).reverse.toArray) := by
    show (items.toList.drop 1).reverse.toArray.size ≤ sizeLine
    rw [List.size_toArray, List.length_reverse, List.length_drop, Array.length_toList]
    omega
  obtain ⟨os, hos, hcs, hds⟩ := id hs
  have hTs : s.TypeIs (.ref sl) "slice" := ⟨os, hos, hcs⟩
  unfold getItem
  try with_reducible refine wpAny_holding ?_
  first | refine wpAny_bind (wpAny_pure ?_) | skip
  refine wpAny_bind (wpAny_sequenceKey ht.typeIs (by decide) ?_)
  refine wpAny_bind (wpAny_callSpecial?_slot (name := Str.ofString "__getitem__") ht.typeIs PyProof.Rows.slot_tuple_getitem
    (wpAny_call_entry PyProof.Rows.slot_tuple_getitem ht.typeIs entry_tuple_getitem ?_ (args_tuple_getitem _ _)))
  show wpAny _ _ (Builtin.Tuple.tupleItemsOf (.ref t) >>= _) _ _ s
  refine wpAny_bind (tupleItemsOf_ ht ?_)
  refine wpAny_bind (wpAny_typeOf hTs ?_)
  rw [if_pos (by decide)]
  have ap : wpAny (model prog w) A.in1 (Builtin.Slice.sliceApplied (.ref sl) (pure (items.size : Int))) (fun r s' => r = ((items.size : Int) - 1, -1, items.size - 1) ∧ s' = s) E s := by
    unfold Builtin.Slice.sliceApplied Builtin.Slice.sliceFields
    refine wpAny_bind (wpAny_bind (wpAny_field hos hds (x := .none) rfl (wpAny_bind (wpAny_field hos hds (x := .int 0 u2) rfl (wpAny_bind (wpAny_field hos hds (x := .int (-1) u) rfl (wpAny_pure ?_)))))))
    refine wpAny_bind (slicePart_int ?_)
    show wpAny _ _ (if ((-1 : Int) == 0) = true then _ else _) _ _ s
    rw [if_neg (by decide)]
    refine wpAny_bind (slicePart_none (wpAny_bind (slicePart_int (wpAny_bind (wpAny_pure ?_)))))
    refine wpAny_pure ⟨?_, rfl⟩
    have e0 : (min (0 : Int) ((items.size : Int) - 1)) = 0 := by omega
    have e : Builtin.Slice.slicePlaces ((items.size : Int) - 1) 0 (-1) = items.size - 1 := by
      unfold Builtin.Slice.slicePlaces
      have h1 : ¬ ((-1 : Int) > 0) := by omega
      simp only [h1, if_false]
      split
      · have : (- -1 : Int) = 1 := by decide
        rw [this, Int.ediv_one]; omega
      · omega
    show ((items.size : Int) - 1, (-1 : Int), Builtin.Slice.slicePlaces ((items.size : Int) - 1) (min (0 : Int) ((items.size : Int) - 1)) (-1)) = _
    rw [e0, e]
  refine wpAny_bind (wpAny_mono ap (fun r s' hr => ?_) fun _ _ e => e)
  obtain ⟨rfl, rfl⟩ := hr
  have hno : ¬ ((((items.size : Int) - 1) == 0 && (-1 : Int) == 1 && (items.size - 1) == items.size) = true) := by
    rw [show ((-1 : Int) == 1) = false from rfl, Bool.and_false, Bool.false_and]
    exact Bool.false_ne_true
  show wpAny _ _ (if (((items.size : Int) - 1) == 0 && (-1 : Int) == 1 && (items.size - 1) == items.size) = true then _ else _) _ _ _
  rw [if_neg hno, pick_tail _ hne]
  first
    | exact wpAny_bind (m := Builtin.Tuple.tupleExact _) (wpAny_newObj_type (wpAny_pure ⟨_, rfl, wpAny_pure h⟩) htake)
    | exact wpAny_bind (m := Builtin.Tuple.tupleExact _) (wpAny_newObj_type (wpAny_bind (wpAny_pure (wpAny_pure ⟨_, rfl, wpAny_pure h⟩))) htake)
    | exact wpAny_bind (wpAny_bind (m := Builtin.Tuple.tupleExact _) (wpAny_newObj_type (wpAny_pure (wpAny_pure ⟨_, rfl, wpAny_pure h⟩)) htake))
    | exact wpAny_bind (wpAny_bind (m := Builtin.Tuple.tupleExact _) (wpAny_newObj_type (wpAny_pure ⟨_, rfl, wpAny_pure h⟩) htake))
end
theorem Vals_drop {xs : List V} {us : List Value} (r : Vals xs us) : ∀ n : Nat, Vals (xs.drop n) (us.drop n) := by
  induction r with
  | nil => intro n; rw [List.drop_nil, List.drop_nil]; exact .nil
  | cons h t ih =>
    intro n
    cases n with
    | zero => exact .cons h t
    | succ n => exact ih n
section
variable {X : Cx}
def tTailR (K : PySem.W.Frag) (te : TE) : TE := fun σ H Q => te σ H fun x H1 => ∃ a xs, x = .ref a ∧ SqT K H1 a xs ∧ 1 ≤ xs.length ∧ ∀ p (o : Obj), H1 p = none → o.dict = none → Q (.ref p) (upd H1 p (.frz o (.tup (xs.drop 1).reverse)))
open PySem.Spec PyProof.Rows in
theorem pe_tailR {e : Expr} {te : TE} {k k0 : Nat} {p0 p1 p2 p3 pos : Pos} (he : PE X e te) : PE X (.Subscript e (.Slice none (some (.Constant (.int 0) k0 p0)) (some (.UnaryOp .USub (.Constant (.int 1) k p1) p2)) p3) pos) (tTailR X.K te) := by
  refine ⟨fun pins s σ H Q I h => ?_⟩
  refine Subscript_ (thn (he.run pins s σ H _ I h) fun v s1 ⟨x, H1, I1, r1, q1⟩ => ?_)
  have hst : PO X (some (.UnaryOp .USub (.Constant (.int 1) k p1) p2)) (tPart (tUn (rU fun i => .int (-i)) (tC (.int 1)))) := po_some (pe_un un_neg pe_int)
  have hup : PO X (some (.Constant (.int 0) k0 p0)) (tPart (tC (.int 0))) := po_some pe_int
  refine wpAny_Slice (thn (po_none.run pins s1 σ H1 (fun o H2 => o = none ∧ H2 = H1) I1 ⟨rfl, rfl⟩) fun vl s2 ⟨l, H2, I2, pl, el, e2⟩ => ?_)
  subst el e2
  refine thn (hup.run pins s2 σ H2 (fun o H3 => o = some 0 ∧ H3 = H2) I2 ⟨0, rfl, rfl, rfl⟩) fun vu s3 ⟨u, H3, I3, pu, eu, e3⟩ => ?_
  subst eu e3
  refine thn (hst.run pins s3 σ H3 (fun o H4 => o = some (-1) ∧ H4 = H3) I3 ⟨1, rfl, -1, rfl, rfl, rfl⟩) fun vs s4 ⟨o, H4, I4, ps, eo, e4⟩ => ?_
  subst eo e4
  cases pl
  cases pu with
  | int _ tk2 =>
  cases ps with
  | int _ tk =>
  have I5 : Inv X pins σ H4 { s4 with heap := s4.heap.push { cls := .type "slice", data := .fields #[.none, .int 0 tk2, .int (-1) tk] } } := I4.kept (t' := s4.toks) fun b ob q => Heap.get?_push_of_some _ q
  obtain ⟨a, xs, ex, hx, hne, q⟩ := q1
  subst ex
  cases r1
  obtain ⟨its, r, ht, hz⟩ := I5.tuple hx
  have hlen := r.length
  show wpAny (model X.prog X.w) X.A (subscriptTail e (.Slice none (some (.Constant (.int 0) k0 p0)) (some (.UnaryOp .USub (.Constant (.int 1) k p1) p2)) p3) (.ref a) (.ref s4.heap.objs.size)) (EP X pins σ Q) X.xe { s4 with heap := s4.heap.push { cls := .type "slice", data := .fields #[.none, .int 0 tk2, .int (-1) tk] } }
  refine tail_any (ops := [.ref a, .ref s4.heap.objs.size]) ht.typeIs PyProof.Rows.slot_tuple_getitem.lookup ?_ (by with_unfolding_all rfl)
  refine getItem_tuple_tail ht (by rw [List.size_toArray]; omega) (Heap.IsSliceOf.new _ .none (.int 0 tk2) (.int (-1) tk)) ?_ (by rw [List.size_toArray]; omega)
  exact ⟨.ref _, _, laid_tup I5 (by rw [List.length_reverse, List.length_drop]; omega) (Vals_drop r 1).reverse, rfl, q _ _ (I5.hok.fresh (Nat.le_refl _)) rfl⟩
end
def tailRD : D → Option D
  | .tuple (d :: ds) => some (.tuple ds.reverse)
  | _ => none
section
variable {F : Fam} {τ : List Kd} {e : Expr} {f : Rho → Res D} {fl : Fl} {pos : Pos}
theorem dn_tailR {k k0 : Nat} {p0 p1 p2 p3 : Pos} (h : DnR F τ e f fl) : DnE F τ (.Subscript e (.Slice none (some (.Constant (.int 0) k0 p0)) (some (.UnaryOp .USub (.Constant (.int 1) k p1) p2)) p3) pos) (eUn tailRD f) fl := by
  obtain ⟨t, h1, h2⟩ := h
  refine ⟨tTailR F.K t, fun i => by have z := pe_tailR (pos := pos) (k := k) (k0 := k0) (p0 := p0) (p1 := p1) (p2 := p2) (p3 := p3) (h1 i); rw [F.hK i] at z; exact z, fun H0 B ρ σ H Q s p => ?_⟩
  refine h2 H0 B ρ σ H _ s (p.bind.to (Same.refl _) fun d _ p1 v H1 e1 r => ?_)
  cases d with
  | tuple ds =>
    cases ds with
    | nil => exact p1.elim
    | cons d ds =>
      obtain ⟨a, xs, rfl, g1, g2⟩ := r.tuple
      cases g2 with
      | cons g3 g4 =>
        exact ⟨a, _, rfl, g1, Nat.le_add_left 1 _, fun q o hq ho => p1 _ _ (e1.trans (dom_upd hq)) (new_tup hq ho g4.reverse)⟩
  | _ => exact p1.elim
end
end Dn
set_option Elab.async false
set_option linter.all false
set_option maxRecDepth 100000
/-! defs called within an except suite that raise nothing there: the caught error is pinned -/
namespace Dn
open PySem PySem.Spec PyProof.Rows L2 L2H
structure FnW (P : Program) (w : World) (K : PySem.W.Frag) (mg : Str → Option Value) (base : Heap) (CX : CXT) (k : Nat) (f : Addr) (fd : FuncData) (ps : List Str) (sp : Addr × Obj → Sp) : Prop where
  len : ∀ p vs H Q E, sp p vs H Q E → vs.length = ps.length
  run : ∀ (A : Around) (outer : List Env) (s : Shared) (H : Hp) (args : PySem.Args) (us : List Value) (vs : List V) (Q : VK) (E : XK) (p : Addr × Obj), RoomH k A → PinOk outer H s p → Env0 P w K mg base A outer s H → BindsTo s fd args (ps.zip us) → Vals vs us → sp p vs H Q E →
    codeAny (model P w) A (.call (.ref f) args) (CR CX outer P w H s Q E) s
theorem fn_ofW {CX : CXT} {P : Program} {w : World} {K : PySem.W.Frag} {mg : Str → Option Value} {base : Heap} {k : Nat} {f : Addr} {name qual : Str} {params : Arguments} {body : List Stmt} {scope : Scope} {dV kV doc pm cdv ct oc : Value} {an od : Option Addr}
    {osl : Array (Option Value)} {N ps : List Str} {sp : Addr × Obj → Sp} (lk : K.lookup f = some ⟨oc, od, .func (PySem.W.fnOf name qual params body scope dV kV doc pm an cdv ct), osl⟩) (hcd : PySem.W.codeIn K cdv qual = true) (S : FnScope N ps scope)
    (len : ∀ p vs H Q E, sp p vs H Q E → vs.length = ps.length)
    (hbody : ∀ (A : Around) (outer : List Env) (s : Shared) (H : Hp) (vs : List V) (Q : VK) (E : XK) (p : Addr × Obj), RoomH k (A.deeper (envOfC qual scope s.heap.objs.size f cdv)) → sp p vs H Q E →
      ∃ t, PSs (cxH CX P w K mg base N qual scope f cdv A outer s H E p) body t ∧ t { nx := fun _ H' => Q .non H', rt := Q } (L2.start N vs) H) :
    FnW P w K mg base CX (k + 1) f (PySem.W.fnOf name qual params body scope dV kV doc pm an cdv ct) ps sp := by
  refine ⟨len, fun A outer s H args us vs Q E p hr hpin e0 hb r hsp => ?_⟩
  have hl := len _ _ _ _ _ hsp
  have KX : K.In s.heap := e0.mod.kin.keeps fun b o e => (e0.bs b o e).1
  have lim : s.heap.NoLimit := e0.mod.nolimit.keeps fun b o e => (e0.bs b o e).1
  have hkind : ∀ y ∈ ps.zip us, scope.names.lookup y.1 = some .local ∨ (scope.names.lookup y.1 = some .cell ∧ ((cellsFrom (s.heap.objs.size + 1) scope.names []).lookup y.1).isSome = true) := fun ⟨n, v⟩ hy => by
    rcases S.par n (List.of_mem_zip hy).1 with q | q
    · exact .inl q
    · exact .inr ⟨q, PySem.W.cellsFrom_some _ _ _ (.inl q)⟩
  refine codeAny_call_function hr.depth (KX _ _ lk) rfl S.co S.gen rfl (PySem.W.codeRec_of KX hcd) (hb _ _ _ _ ?_)
  refine wpAny_newFunctionEnv_cells S.kind hkind fun env he s1 x => ?_
  subst he
  refine ⟨lim.keeps x.toInCall.keep, codeAny_func ?_⟩
  obtain ⟨t, ht, hq⟩ := hbody A outer s H vs Q E p (hr.deeper _) hsp
  have I : Inv (cxH CX P w K mg base N qual scope f cdv A outer s H E p) [] (L2.start N vs) H s1 := inv_startH S hpin e0 hl r x
  refine wpAny_mono (ht.run [] s1 (L2.start N vs) H _ I hq) (fun fl s' hs => ?_) fun e s' hs => hs
  have fin : ∀ {σ' : L2.St} {H' : Hp} {v : V} {u : Value}, Inv (cxH CX P w K mg base N qual scope f cdv A outer s H E p) [] σ' H' s' → RelV v u → Q v H' → CE outer P w H s Q u s' :=
    fun {σ' H' v u} J rv q => ⟨v, H', J.os, J.bare, J.base, J.hok, rv, q⟩
  cases fl with
  | ret u =>
    obtain ⟨v, σ', H', J, rv, q⟩ := hs
    exact fin J rv q
  | next =>
    obtain ⟨σ', H', J, q⟩ := hs
    exact fin (v := V.non) (u := Value.none) J rfl q
  | brk =>
    obtain ⟨_, _, _, q⟩ := hs
    exact False.elim q
  | cont =>
    obtain ⟨_, _, _, q⟩ := hs
    exact False.elim q

section
variable {X : Cx} {CX : CXT} {k : Nat} {f C : Addr} {fd : FuncData} {ps : List Str} {sp : Addr × Obj → Sp} {E : L2.St → XK} {x m : Str} {q pos apos : Pos} {e o : Expr} {es : List Expr} {ta : TE} {t : TA} {p : Addr × Obj}
theorem run_fnW {pins : List (Addr × Obj)} {σ : L2.St} {H : Hp} {s : Shared} {Q : VK} {us : List Value} {vs : List V} (F : FnW X.prog X.w X.K X.mg X.base CX k f fd ps sp) (hr : RoomH k X.A) (hp : p ∈ X.pn) (hb : Binds X.K fd ps []) (hx : PassesAt CX X σ (E σ))
    (I : Inv X pins σ H s) (r : Vals vs us) (h : sp p vs H Q (E σ)) : wpAny (model X.prog X.w) X.A (call (.ref f) us) (EP X pins σ Q) X.xe s := by
  have hl : us.length = ps.length := by rw [← r.length]; exact F.len _ _ _ _ _ h
  have b := hb s us I.kIn (by rw [List.append_nil]; exact hl)
  rw [List.append_nil] at b
  have P1 := I.pin p (List.mem_append_left _ hp)
  have hpin : PinOk X.stack H s p := ⟨P1.1, P1.2.1, fun hm => (List.mem_cons.mp (I.stkSub p.1 hm)).elim P1.2.2.1 P1.2.2.2.1, P1.2.2.2.2⟩
  refine wpAny_call (codeAny_mono (F.run X.A X.stack s H ⟨us, []⟩ us vs Q (E σ) p hr hpin I.env0 b r h) fun r s' hq => ?_)
  cases r with
  | error e => exact hx pins H s e s' I hq
  | ok fl =>
    cases fl with
    | ret u => exact I.after hq
    | next => exact False.elim hq
    | brk => exact False.elim hq
    | cont => exact False.elim hq
theorem pe_callW (F : FnW X.prog X.w X.K X.mg X.base CX k f fd ps sp) (hr : RoomH k X.A) (hp : p ∈ X.pn) (hg : Gl X x) (hm : X.mg x = some (.ref f)) (hk : PySem.W.keepIn X.K (.ref f) = true) (hb : Binds X.K fd ps []) (hx : ∀ σ, PassesAt CX X σ (E σ))
    (ha : PA X (e :: es) t) (hdb : (x == ("__debug__" : Str)) = false := by decide) (he : starEach (e :: es) X.env = (false, eval e X.env) :: starEach es X.env := by rfl) (hpl : (backTo pos (starEach es X.env)).any (·.1) = false := by rfl) :
    PE X (.Call (.Name x q) (e :: es) [] pos) (tCallS (sp p) E t) := by
  refine ⟨fun pins s σ H Q I h => ?_⟩
  refine wpAny_Call_Name_kw (ld_glob I hg hm ?_ hdb)
  refine PySem.W.callWith_K (h₀ := X.base) I.ok.mod.kin hk (thn (ha.run pos pins s σ H _ I h) fun us s1 ⟨vs, H1, I1, r, q⟩ => ⟨I1.kIn, ?_⟩) he hpl
  exact run_fnW F hr hp hb (hx σ) I1 r q
end
/-- the family of a def's body that is entered in an except suite: p is the caught error -/
def famH (P : Program) (w : World) (K : PySem.W.Frag) (mg : Str → Option Value) (base : Heap) (N : List Str) (qual : Str) (scope : Scope) (f : Addr) (cdv : Value) (A : Around) (outer : List Env) (s : Shared) (H : Hp) (E : XK) (p : Addr × Obj) (Xc : Nat → Addr) (k : Nat)
    (hr : RoomH k (A.deeper (PyProof.Rows.envOfC qual scope s.heap.objs.size f cdv))) (nd : N.Nodup) : Fam where
  ι := Unit
  X := fun _ => cxH (L2.CX P w) P w K mg base N qual scope f cdv A outer s H E p
  K := K
  W := fun cls d _ H => E cls d H
  Xc := Xc
  k := k
  hK := fun _ => rfl
  tk := fun _ => takes_of rfl rfl rfl rfl
  hot := true
  un := fun _ => hr.un
  room := fun h => Bool.noConfusion h
  calm := fun h => Bool.noConfusion h
  nd := fun _ => nd
  po := fun _ => passes_of rfl
/-- isinstance(e, C): e the caught error, of the class D -/
theorem call_isW {X : Cx} {a D : Addr} {oe : Obj} (C : ExcC X.K D) (hz : Zc (.ref D) none oe) (hf : ∃ vs, oe.data = .fields vs) (hp : (a, oe) ∈ X.pn) : CallR X (.builtin "isinstance") (rIsE X.K D a) := by
  intro pins s σ H xs us Q I r h
  obtain ⟨c, cv, b, rfl, hcv, e, q⟩ := h
  cases r with
  | cons rx rr =>
    cases rr with
    | cons rt rr =>
      cases rr
      cases rx
      have ec := hcv _ rt
      subst ec
      obtain ⟨hget, _⟩ := I.pin (a, oe) (List.mem_append.mpr (.inl hp))
      obtain ⟨vs, hv⟩ := hf
      have J : PySem.W.InstAt s.heap a oe D none := by
        obtain ⟨oc, od, oda, osl⟩ := oe
        obtain ⟨h1, h2⟩ := hz
        dsimp only at h1 h2 hv
        subst h1 h2 hv
        exact ⟨hget, rfl, rfl, trivial⟩
      exact PySem.W.kia_one (PySem.W.handS_kitx_exc C.hg C.hk C.hs C.hd C.ha C.hn C.ht C.hm) I.kIn J e (fun z => nomatch z) fun tk => ⟨.bl b, H, I.kept (t' := tk) fun _ _ z => z, rfl, q⟩
section
variable {F : Fam} {τ : List Kd} {x y : Str} {p q pos p1 : Pos}
def eIsx (i : Nat) (b : Bool) : Rho → Res D := fun ρ => (eVar i ρ).bind fun _ => .ok (.bool b)
/-- e is in the i-th slot; C an own class, or a built-in one -/
theorem dn_isx (i : Nat) {a D C : Addr} {c : Nat} {oe : Obj} {b : Bool} (X : ExcC F.K D) (hz : Zc (.ref D) none oe) (hf : ∃ vs, oe.data = .fields vs) (hp : ∀ j, (a, oe) ∈ (F.X j).pn) (hm : ∀ j, (F.X j).mg "isinstance" = none) (hC : ∀ j, (F.X j).mg y = some (.ref C)) (hk : PySem.W.kitOne F.K (.ref D) (.ref C) = some b)
    (hkd : kd τ i = .rf a c := by rfl) (hN : ∀ j, (F.X j).N[i]? = some x := by intro _; rfl) (hv : ∀ j, Vis (F.X j).env.scope x := by intro _; first | exact Or.inl rfl | exact Or.inr (Or.inl rfl) | exact Or.inr (Or.inr rfl)) (hg : ∀ i, Gl (F.X i) "isinstance" := by intro _; rfl) (hgy : ∀ i, Gl (F.X i) y := by intro _; rfl)
    (hd : (x == ("__debug__" : Str)) = false := by decide) (hcd : (x == ("__classdict__" : Str)) = false := by decide) (hdy : (y == ("__debug__" : Str)) = false := by decide)
    (he : ∀ i, starEach [.Name x p1, .Name y q] (F.X i).env = (false, eval (.Name x p1) (F.X i).env) :: starEach [.Name y q] (F.X i).env := by intro _; rfl)
    (he2 : ∀ i, starEach [.Name y q] (F.X i).env = (false, eval (.Name y q) (F.X i).env) :: starEach [] (F.X i).env := by intro _; rfl) (hpl : ∀ i, (backTo pos (starEach [.Name y q] (F.X i).env)).any (·.1) = false := by intro _; rfl) :
    DnE F τ (.Call (.Name "isinstance" p) [.Name x p1, .Name y q] [] pos) (eIsx i b) .s := by
  refine ⟨tCB (rIsE F.K D a) (tCons (tVar i) (tCons (tC (.ref C)) tNil)), fun j => by
    have z := pe_callB (p := p) (pos := pos) (call_isW (X := F.X j) (a := a) (by rw [F.hK j]; exact X) hz hf (hp j)) (hg j) (hm j) (by decide +kernel) (pa_cons (pe_var (hN j) (hv j) hd hcd) (pa_cons (pe_glob (v := .ref C) (hgy j) (hC j) rfl hdy) pa_nil (he2 j)) (he j)) (by decide) (by decide) (he j) (hpl j)
    rw [F.hK j] at z; exact z, fun H0 B ρ σ H Q s p => ?_⟩
  unfold eIsx at p
  cases hv : eVar i ρ with
  | ok d =>
    obtain ⟨v, h1, h2⟩ := s.ok i d (eVar_ok hv)
    rw [hkd] at h2
    obtain ⟨rfl, _⟩ := h2
    rw [hv] at p
    exact ⟨_, h1, .ref C, .ref C, b, rfl, fun u r => r, hk, p _ H (Same.refl _) (.bl b)⟩
  | exc c => exact (eVar_exc hv).elim
  | bad => rw [hv] at p; exact p.elim
theorem dn_isxT (i : Nat) {T : String} {a D : Addr} {c : Nat} {oe : Obj} {b : Bool} (X : ExcC F.K D) (hz : Zc (.ref D) none oe) (hf : ∃ vs, oe.data = .fields vs) (hp : ∀ j, (a, oe) ∈ (F.X j).pn) (hm : ∀ j, (F.X j).mg "isinstance" = none) (hC : ∀ j, (F.X j).mg y = none) (hbt : bootBuiltins y = some (.type T)) (hk : PySem.W.kitOne F.K (.ref D) (.type T) = some b)
    (hkd : kd τ i = .rf a c := by rfl) (hN : ∀ j, (F.X j).N[i]? = some x := by intro _; rfl) (hv : ∀ j, Vis (F.X j).env.scope x := by intro _; first | exact Or.inl rfl | exact Or.inr (Or.inl rfl) | exact Or.inr (Or.inr rfl)) (hg : ∀ i, Gl (F.X i) "isinstance" := by intro _; rfl) (hgy : ∀ i, Gl (F.X i) y := by intro _; rfl)
    (hd : (x == ("__debug__" : Str)) = false := by decide) (hcd : (x == ("__classdict__" : Str)) = false := by decide) (hdy : (y == ("__debug__" : Str)) = false := by decide) (hny : y ≠ "__name__" := by decide)
    (he : ∀ i, starEach [.Name x p1, .Name y q] (F.X i).env = (false, eval (.Name x p1) (F.X i).env) :: starEach [.Name y q] (F.X i).env := by intro _; rfl)
    (he2 : ∀ i, starEach [.Name y q] (F.X i).env = (false, eval (.Name y q) (F.X i).env) :: starEach [] (F.X i).env := by intro _; rfl) (hpl : ∀ i, (backTo pos (starEach [.Name y q] (F.X i).env)).any (·.1) = false := by intro _; rfl) :
    DnE F τ (.Call (.Name "isinstance" p) [.Name x p1, .Name y q] [] pos) (eIsx i b) .s := by
  refine ⟨tCB (rIsE F.K D a) (tCons (tVar i) (tCons (tC (.ty T)) tNil)), fun j => by
    have z := pe_callB (p := p) (pos := pos) (call_isW (X := F.X j) (a := a) (by rw [F.hK j]; exact X) hz hf (hp j)) (hg j) (hm j) (by decide +kernel) (pa_cons (pe_var (hN j) (hv j) hd hcd) (pa_cons (pe_bltn (v := .ty T) (hgy j) (hC j) hbt rfl hny hdy) pa_nil (he2 j)) (he j)) (by decide) (by decide) (he j) (hpl j)
    rw [F.hK j] at z; exact z, fun H0 B ρ σ H Q s p => ?_⟩
  unfold eIsx at p
  cases hv : eVar i ρ with
  | ok d =>
    obtain ⟨v, h1, h2⟩ := s.ok i d (eVar_ok hv)
    rw [hkd] at h2
    obtain ⟨rfl, _⟩ := h2
    rw [hv] at p
    exact ⟨_, h1, .ty T, .type T, b, rfl, fun u r => r, hk, p _ H (Same.refl _) (.bl b)⟩
  | exc c => exact (eVar_exc hv).elim
  | bad => rw [hv] at p; exact p.elim
end
/-! ### the def that tells a caught error's word -/
/-- words: class number to word -/
def spW (Xc : Nat → Addr) (words : Nat → Option Str) : Addr × Obj → Sp := fun p vs H Q _ => ∃ c w, Zc (.ref (Xc c)) none p.2 ∧ (∃ us, p.2.data = .fields us) ∧ vs = [.ref p.1] ∧ words c = some w ∧ ∀ H', Same H H' → Q (.str w) H'
theorem fn_word {P : Program} {w : World} {K : PySem.W.Frag} {mg : Str → Option Value} {base : Heap} {k : Nat} {f : Addr} {x qual : Str} {st : Stmt} {fd : FuncData} {N : List Str} {e : Str} {Xc : Nat → Addr} {words : Nat → Option Str}
    (F : Fun K x qual st f fd) (S : FnScope N [e] (defScope st)) (hn : 1 ≤ N.length)
    (body : ∀ c wd, words c = some wd → ∀ (cdv : Value) (A : Around) (outer : List Env) (s : Shared) (H : Hp) (E : XK) (p : Addr × Obj) (hr : RoomH k (A.deeper (envOfC qual (defScope st) s.heap.objs.size f cdv))), Zc (.ref (Xc c)) none p.2 → (∃ us, p.2.data = .fields us) →
      ∃ (τ τo : List Kd) (g : Rho → Out), τ[0]? = some (.rf p.1 c) ∧ noTb τ = true ∧ DnB (famH P w K mg base N qual (defScope st) f cdv A outer s H E p Xc k hr S.nd) τ τo false (defBody st) g ∧ g (some (.int c) :: List.replicate (N.length - 1) none) = .ret (.str wd)) :
    FnW P w K mg base (L2.CX P w) (k + 1) f fd [e] (spW Xc words) := by
  obtain ⟨oc, od, kV, doc, pm, an, cdv, ct, osl, rfl, lk, hcd⟩ := F.ex
  refine fn_ofW lk hcd S (fun p vs H Q E h => ?_) fun A outer s H vs Q E p hr h => ?_
  · obtain ⟨c, w, _, _, rfl, _⟩ := h; rfl
  · obtain ⟨c, wd, hz, hf, rfl, hw, q⟩ := h
    obtain ⟨τ, τo, g, h0, hnt, ⟨t, h1, h2⟩, hg⟩ := body c wd hw cdv A outer s H E p hr hz hf
    refine ⟨t, h1 (), ?_⟩
    have ha : Args K H (fun _ => False) [.rf p.1 c] [.ref p.1] [.int c] := .cons ⟨rfl, rfl⟩ .nil
    obtain ⟨sr, hX⟩ := entry_sr (K := K) (H := H) (N := N) (τ := τ) (fun p z => z.elim) ha (fun i k e => by
      cases i with
      | zero => cases e; unfold kd; rw [h0]; rfl
      | succ i => simp at e) (fun k hk => by
      rw [List.mem_singleton] at hk
      rw [hk]; rfl) hn fun P q z => absurd z (noTb_mem hnt P q)
    refine h2 H (fun _ => False) _ _ H _ sr ?_
    have e1 : ([PyData.int c] : List D).map some ++ List.replicate (N.length - ([PyData.int c] : List D).length) none = some (.int c) :: List.replicate (N.length - 1) none := rfl
    rw [e1, hg]
    intro v H' e r
    cases r
    exact q H' e
end Dn
set_option Elab.async false
set_option linter.all false
set_option maxRecDepth 100000
/-! a lambda handed to the def that calls it and tells how it ended -/
namespace Dn
open PySem PySem.Spec PyProof.Rows L2 L2H LamX
section
variable {X : Cx} {pins : List (Addr × Obj)} {σ : L2.St} {H : Hp} {s : Shared}
/-- the table at P has grown by a new code object -/
theorem Same.grown {H : Hp} {P c : Addr} {q : Str} {ps : Array Value} {pos : Pos} (hP : H P = some (.tbl ps)) (ht : TriplesOk ps.toList) (ha : ∀ (pos : Pos) (cv : Value), codeAmong pos ps.toList = some cv → ∃ c, cv = .ref c ∧ H c = some (CodeO c q)) (hc : H c = none) (hq : q = lamQ) :
    let H1 := L2.upd (L2.upd H P (.tbl (ps ++ #[rawInt pos.line, rawInt pos.col, .ref c]))) c (CodeO c q)
    Same H H1 ∧ TabS H1 P q := by
  intro H1
  have nPc : P ≠ c := ne_of_none hP hc
  have eP : H1 P = some (.tbl (ps ++ #[rawInt pos.line, rawInt pos.col, .ref c])) := by
    show L2.upd _ c _ P = _
    rw [upd_ne nPc, upd_same]
  have ec : H1 c = some (CodeO c q) := upd_same
  have eo : ∀ a, a ≠ P → a ≠ c → H1 a = H a := fun a h1 h2 => by
    show L2.upd _ c _ a = _
    rw [upd_ne h2, upd_ne h1]
  have get : ∀ a o, H a = some o → nTbl o → H1 a = some o := fun a o e n => by
    rw [eo a (fun z => by subst z; rw [hP] at e; cases e; exact n) (ne_of_none e hc)]
    exact e
  have codes : ∀ d q', H d = some (CodeO d q') → H1 d = some (CodeO d q') := fun d q' e => get d _ e (by unfold CodeO; trivial)
  have eL : (ps ++ #[rawInt pos.line, rawInt pos.col, .ref c]).toList = ps.toList ++ [rawInt pos.line, rawInt pos.col, .ref c] := by simp
  have tP : TabS H1 P q := ⟨_, eP, by rw [eL]; exact TriplesOk_snoc _ _ _ _ ht, fun p' cv hcv => by
    rw [eL] at hcv
    rcases among_app _ ht hcv with z | z
    · obtain ⟨d, e1, e2⟩ := ha p' cv z
      exact ⟨d, e1, codes d q e2⟩
    · exact ⟨c, z, ec⟩⟩
  refine ⟨⟨fun a o e n => get a o e n, fun a h => ?_, fun P' q' ⟨t0, ps', t1, t2, t3⟩ => ?_⟩, tP⟩
  · by_cases h1 : a = P
    · subst h1; rw [eP]; exact fun z => by cases z
    · by_cases h2 : a = c
      · subst h2; exact absurd hc h
      · rw [eo a h1 h2]; exact h
  · by_cases h1 : P' = P
    · subst h1; rw [t0, ← hq]; exact ⟨hq, tP⟩
    · exact ⟨t0, ps', by rw [eo P' h1 (ne_of_none t1 hc)]; exact t1, t2, fun p' cv hcv => let ⟨d, e1, e2⟩ := t3 p' cv hcv; ⟨d, e1, codes d q' e2⟩⟩
/-- a lambda is made -/
theorem lam_new {c P : Addr} {params : Arguments} {body : Expr} {scope : Scope} {pos : Pos} {E : Value → Shared → Prop} {Q : Value → Shared → Prop} {q : Str} (I : Inv X pins σ H s) (TB : TabB X.base X.mg c P) (hcode : X.env.code = .ref c) (hq : X.env.qual ++ "<lambda>" = q)
    (hT : TabQ H P q) (hdef : defaultsOf params X.env = ([], [])) (hfree : ∀ y ∈ scope.names, y.2 = .free → ∃ c, X.env.cells.lookup y.1 = some c)
    (h : ∀ (f c' : Addr) (pm ctv : Value) (H1 : Hp) (s' : Shared), Inv X pins σ H1 s' → Same H H1 → s'.heap.get? f = some (PySem.W.kla_obj "<lambda>" q params body scope (cloFrom X.env.cells scope.names []) pm c' ctv) → H1 f = none → f ∉ frs X.stack → H1 c' = some (CodeO c' q) → Q (.ref f) s') :
    wpAny (model X.prog X.w) X.A (eval (.Lambda params body scope pos) X.env) Q E s := by
  subst hq
  obtain ⟨hq, ps, hP, ht, ha⟩ := hT
  have bP := TB.bm.keeps I.bk
  have hP' : s.heap.get? P = some { cls := .none, data := .fields ps } := I.hok P _ hP
  have nofr : ∀ f, s.heap.objs.size ≤ f → f ∉ frs X.stack := fun f hf z => (List.mem_cons.mp (I.stkSub _ z)).elim (fun e => Nat.lt_irrefl _ (Nat.lt_of_lt_of_le (e ▸ I.lt) hf)) (I.nofs hf)
  refine PySem.W.kla_eval hdef ?_
  cases hc : codeAmong pos ps.toList with
  | some cv =>
    obtain ⟨c', rfl, hco⟩ := ha pos cv hc
    refine PySem.W.kla_makeFunctionHit (mg := X.mg) (c := c) (P := P) (ps := ps) (closure_ok hfree) I.ok.glob (I.mod.glob.keeps I.bk) hcode (TB.code.keeps I.bk) hP' ht hc bP fun ctv h' tk hx hsz => ?_
    exact h h'.objs.size c' _ ctv H _ (I.kept fun b o e => Heap.get?_push_of_some _ (hx b o e)) (Same.refl H) (Heap.get?_push_size _ rfl) (I.hok.fresh hsz) (nofr _ hsz) hco
  | none =>
    refine PySem.W.kla_makeFunction (mg := X.mg) (c := c) (P := P) (ps := ps) (closure_ok hfree) I.ok.glob (I.mod.glob.keeps I.bk) hcode (TB.code.keeps I.bk) hP' ht hc TB.gP bP fun c' ctv h' tk hx hge hlt hrec htb => ?_
    obtain ⟨_, oc, vs, t, e2, hoc, hd, hv⟩ := hrec
    cases e2
    have hsz : s.heap.objs.size ≤ h'.objs.size := Nat.le_trans hge (Nat.le_of_lt hlt)
    have nC : H c' = none := I.hok.fresh hge
    obtain ⟨sm, _⟩ := Same.grown (pos := pos) hP ht ha nC hq
    refine h h'.objs.size c' _ ctv _ _ (inv_table (t' := tk) (more := #[rawInt pos.line, rawInt pos.col, .ref c']) I hP (fun b o hb e => Heap.get?_push_of_some _ (hx b o hb e)) (Heap.get?_push_of_some _ htb) hge ⟨oc, vs, t, Heap.get?_push_of_some _ hoc, hd, hv⟩) sm (Heap.get?_push_size _ rfl) ?_ (nofr _ hsz) upd_same
    rw [upd_ne (Nat.ne_of_gt hlt), upd_ne (Nat.ne_of_gt (Nat.lt_of_lt_of_le (Heap.lt_size hP') hsz))]
    exact I.hok.fresh hsz
/-- what a def makes of the lambda that it was handed: tl is the lambda's reading -/
def tLamS (P : Addr) (q : Str) (TT : (XK → Hp → VK → Prop) → Hp → VK → Prop) (t : XK → TE) : TE := fun σ H Q => TabQ H P q ∧ ∀ H1, Same H H1 → TT (fun E H' Q' => t E σ H' Q') H1 Q
theorem pe_lamS {TT : (XK → Hp → VK → Prop) → Hp → VK → Prop} {x a q : Str} {g c P : Addr} {k : Nat} {pg : Arguments} {bg : List Stmt} {sg : Scope} {dV kV doc pm cdv ct oc : Value} {an od : Option Addr} {osl : Array (Option Value)} {Ng : List Str}
    {params : Arguments} {body : Expr} {scope : Scope} {t : XK → TE} {p lpos pos : Pos} (hg : Gl X x) (hm : X.mg x = some (.ref g)) (hk : PySem.W.keepIn X.K (.ref g) = true)
    (lk : X.K.lookup g = some ⟨oc, od, .func (PySem.W.fnOf x x pg bg sg dV kV doc pm an cdv ct), osl⟩) (hcg : PySem.W.codeIn X.K cdv x = true) (hb : L2.Binds X.K (PySem.W.fnOf x x pg bg sg dV kV doc pm an cdv ct) [a] []) (Sg : FnScope Ng [a] sg) (hNg : Ng[0]? = some a) (hva : Vis sg a)
    (hG : GivesTo X Ng x sg g cdv bg a q TT) (TB : TabB X.base X.mg c P) (hcode : X.env.code = .ref c) (hq : X.env.qual ++ "<lambda>" = q) (hr : Room (k + 2) X.A) (L : LamS X.env.scope scope) (hdef : defaultsOf params X.env = ([], []))
    (hbind : ∀ (q : Str) (cl : List (Str × Addr)) (pm cv ctv : Value), bindArgs (PySem.W.kla_fn "<lambda>" q params body scope cl pm cv ctv) ⟨[], []⟩ = pure [])
    (hbody : ∀ (A : Around) (outer : List Env) (s : Shared) (H : Hp) (E : XK) (f c' : Addr), Room k (A.deeper (lamEnv X scope s.heap.objs.size f c')) → PE (lamCx X A outer s H E scope f c') body (t E))
    (hdb : (x == ("__debug__" : Str)) = false := by decide) (hd : (a == ("__debug__" : Str)) = false := by decide) (hcd : (a == ("__classdict__" : Str)) = false := by decide) :
    PE X (.Call (.Name x p) [.Lambda params body scope lpos] [] pos) (tLamS P q TT t) := by
  refine ⟨fun pins s σ H Q I ⟨hT, h⟩ => wpAny_Call_Name_kw (ld_glob I hg hm (PySem.W.callWith_K (h₀ := X.base) I.ok.mod.kin hk ?_ (by rfl) (by rfl)) hdb)⟩
  refine Calls.spliced_cons (lam_new I TB hcode hq hT hdef (L.has I.ok) fun f c' pm' ctv H1 s' I1 e1 hf hfn hfr hco => Calls.spliced_nil ⟨I1.kIn, ?_⟩)
  subst hq
  have rc : codeAny (model X.prog X.w) X.A (.call (.ref g) ⟨[.ref f], []⟩) (CR C8.CX0 X.stack X.prog X.w H1 s' Q C8.E0) s' :=
    run_ofS (N := Ng) (ps := [a]) (us := [.ref f]) (vs := [.ref f]) lk hcg Sg hr I1.env0 (hb s' [.ref f] I1.kIn rfl) (.cons rfl .nil) rfl fun hr' =>
      let ⟨t', ht', hq'⟩ := hG f c' s' H1 Q (fun E H' Q' => t E σ H' Q') (fun W pn xe E p1 p2 tk hW => pe_act (i := 0) I1 L hf hfn hfr (hbind _ _ _ _ _) tk hW hr' (fun A outer s H hr2 => hbody A outer s H E f c' hr2) hNg hva hd hcd) hco (h H1 e1)
      ⟨t', ht'.nox, hq'⟩
  refine wpAny_call (codeAny_mono rc fun r s2 hq => ?_)
  cases r with
  | error e => exact (show False from hq).elim
  | ok fl =>
    cases fl with
    | ret u => exact I1.after hq
    | _ => exact False.elim hq
end

/-! ### the def that calls it: try: call() / except C as e: w = word(e) -/
def TRef (Xc : Nat → Addr) (words : Nat → Option Str) (told : Str) : (XK → Hp → VK → Prop) → Hp → VK → Prop := fun tl H Q =>
  tl (fun cls d H' => ∃ c w, cls = .ref (Xc c) ∧ d = none ∧ words c = some w ∧ ∀ H'', Same H' H'' → Q (.str w) H'') H fun _ H' => ∃ v, (some (some (V.str told)) : Option (Option V)) = some (some v) ∧ Q v H'
/-- the text of such a def -/
abbrev refBody (a wn en cn tn told : Str) (j : Nat) (p1 p2 p3 p4 p5 p6 p7 p8 p9 q1 q2 q3 q4 q5 q6 q7 : Pos) : List Stmt :=
  [.Assign [.Name wn p1] (.Constant (.str told) j p2) p3, .Try [.Expr (.Call (.Name a p4) [] [] p5) p6] [.ExceptHandler (some (.Name tn p7)) (some en) [.Assign [.Name wn p8] (.Call (.Name cn p9) [.Name en q1] [] q2) q3] q4] [] [] q5, .Return (some (.Name wn q6)) q7]
section
variable {X : Cx}
theorem ref_gives {x a wn en cn tn q told : Str} {j : Nat} {p1 p2 p3 p4 p5 p6 p7 p8 p9 q1 q2 q3 q4 q5 q6 q7 : Pos} {sg : Scope} {g cf tE : Addr} {cdg : Value} {cfd : FuncData} {k : Nat} {Xc : Nat → Addr} {words : Nat → Option Str}
    (hr : Room (k + 1) X.A) (G : FnW X.prog X.w X.K X.mg X.base (L2.CX X.prog X.w) k cf cfd [en] (spW Xc words)) (hcm : X.mg cn = some (.ref cf)) (hck : PySem.W.keepIn X.K (.ref cf) = true) (hcb : L2.Binds X.K cfd [en] [])
    (htm : X.mg tn = some (.ref tE)) (hex : ∀ c w, words c = some w → PySem.W.exmOne X.K (.ref (Xc c)) (.ref tE) = some true)
    (lw : sg.names.lookup wn = some .local) (le : sg.names.lookup en = some .local) (gc : sg.names.lookup cn = some .globalImplicit) (gt : sg.names.lookup tn = some .globalImplicit) (nd : [a, wn, en].Nodup)
    (dt : (tn == ("__debug__" : Str)) = false := by decide) (dw : (wn == ("__debug__" : Str)) = false := by decide) (cw : (wn == ("__classdict__" : Str)) = false := by decide) (de : (en == ("__debug__" : Str)) = false := by decide) (ce : (en == ("__classdict__" : Str)) = false := by decide) (dc : (cn == ("__debug__" : Str)) = false := by decide) :
    GivesTo X [a, wn, en] x sg g cdg (refBody a wn en cn tn told j p1 p2 p3 p4 p5 p6 p7 p8 p9 q1 q2 q3 q4 q5 q6 q7) a q (TRef Xc words told) := by
  intro f c' s H Q tl act hc h
  let Z : Cx := (cxOf C8.CX0 X.prog X.w X.K X.mg X.base [a, wn, en] x sg g cdg X.A X.stack s H C8.E0).nox
  have hgc : Gl Z cn := gc
  have hgt : Gl Z tn := gt
  let Wd : XK := fun cls d H' => ∃ c w, cls = .ref (Xc c) ∧ d = none ∧ words c = some w ∧ ∀ H'', Same H' H'' → Q (.str w) H''
  refine ⟨_, pss_cons (ps_asg pe_str (pg_name (i := 1) nd rfl (.inl lw))) (pss_cons (ps_try_as (X := Z) (i := 2) (c := .ref tE)
      (tb := fun W D σ H' => ∃ Ech : XK, (∀ cls d σ' H', Ech cls d H' → W cls d σ' H') ∧ σ[0]? = some (some (.ref f)) ∧ H' c' = some (CodeO c' q) ∧ tl Ech H' fun _ H1 => D.nx σ H1)
      (ts := fun a cls d D σ H' => σ.length = 3 → ∃ c w, cls = .ref (Xc c) ∧ d = none ∧ words c = some w ∧ σ[2]? = some (some (.ref a)) ∧ ∀ H'', Same H' H'' → D.nx (σ.set 1 (some (.str w))) H'')
      rfl rfl nd rfl le ⟨hgt, dt, .inl htm⟩ LamX.takes0 (fun W pn xe tk _ => ?_) (fun ea oe cls d pn hz hf => ?_)) (pss_one (ps_ret (pe_var (i := 1) rfl (.inl lw) dw cw)))), ?_⟩
  · refine ⟨fun pins s' σ H' D I ⟨Ech, hW, h1, h2, h3⟩ => ?_⟩
    exact (pss_one (ps_expr (pos := p6) (act W pn xe Ech p4 p5 tk hW))).run pins s' σ H' D I ⟨h1, h2, h3⟩
  · refine ⟨fun pins s' σ H' D I hh => ?_⟩
    obtain ⟨c, w, e1, e2, hw, hs, hq⟩ := hh I.len
    subst e1 e2
    have room : RoomH k ((Z.suite ea ((ea, oe) :: pn)).A) := by
      have := hr.deeper (envOfC x sg s.heap.objs.size g cdg)
      exact ⟨this.dp, this.un⟩
    refine (pss_one (ps_asg (pe_callW (X := Z.suite ea ((ea, oe) :: pn)) (E := fun _ _ _ _ => False) (p := (ea, oe)) (q := p9) (pos := q2) G room List.mem_cons_self gc hcm hck hcb
      (fun σ pins H s e s' I z => by
        obtain ⟨_, _, _, _, _, _, _, _, _, _, _, _, z⟩ := z
        exact z.elim) (pa_cons (pe_var (i := 2) (x := en) rfl (.inl le) de ce) pa_nil) dc) (pg_name (i := 1) nd rfl (.inl lw)))).run pins s' σ H' D I ?_
    exact ⟨_, hs, c, w, hz, hf, rfl, hw, fun H'' e => hq H'' e⟩
  · refine ⟨Wd, fun cls d σ' H' ⟨c, w, e1, e2, hw, hq⟩ => ⟨true, by rw [e1]; exact hex c w hw, fun _ ea na hl => ⟨c, w, e1, e2, hw, ?_, fun H'' e => ⟨_, ?_, hq H'' e⟩⟩, fun z => nomatch z⟩, rfl, hc, ?_⟩
    · rw [List.length_set] at hl
      rw [List.getElem?_set_self (by omega)]
    · rw [List.length_set] at hl
      rw [List.getElem?_set_ne (by decide), List.getElem?_set_self (by rw [List.length_set]; omega)]
    · exact h
end

/-! ### over data -/
structure LamI (F : Fam) (k : Nat) (scope : Scope) where
  i : F.ι
  A : Around
  outer : List Env
  s : Shared
  H : Hp
  f : Addr
  c' : Addr
  hr : Room k (A.deeper (lamEnv (F.X i) scope s.heap.objs.size f c'))
/-- the lambda's body: the maker's names -/
def famLam (F : Fam) (E : XK) (k : Nat) (scope : Scope) : Fam where
  ι := LamI F k scope
  X := fun j => lamCx (F.X j.i) j.A j.outer j.s j.H E scope j.f j.c'
  K := F.K
  W := fun cls d _ H => E cls d H
  Xc := F.Xc
  k := k
  hK := fun j => F.hK j.i
  tk := fun j => takes_of rfl rfl rfl rfl
  hot := false
  un := fun j => j.hr.un
  room := fun _ j => j.hr
  calm := fun _ _ => rfl
  nd := fun j => F.nd j.i
  po := fun j => passes_of rfl
/-- the word of how it ends -/
def eRef (words : Nat → Option Str) (told : Str) (f : Rho → Res D) : Rho → Res D := fun ρ => match f ρ with
  | .ok _ => .ok (.str told)
  | .exc c => (match words c with | some w => .ok (.str w) | none => .bad)
  | .bad => .bad
/-- _law_refused(lambda: body) -/
theorem dn_ref {F : Fam} {τ : List Kd} {x a wn en cn tn told : Str} {j : Nat} {p1 p2 p3 p4 p5 p6 p7 p8 p9 q1 q2 q3 q4 q5 q6 q7 p lpos pos : Pos} {st : Stmt} {g cf tE c P : Addr} {fd cfd : FuncData} {k : Nat} {words : Nat → Option Str} {params : Arguments} {body : Expr} {scope : Scope} {fb : Rho → Res D} {fl : Fl} 
    (hm : ∀ i, (F.X i).mg x = some (.ref g)) (Fg : Fun F.K x x st g fd) (hb : L2.Binds F.K fd [a] []) (Sg : FnScope [a, wn, en] [a] (defScope st)) (hbg : defBody st = refBody a wn en cn tn told j p1 p2 p3 p4 p5 p6 p7 p8 p9 q1 q2 q3 q4 q5 q6 q7)
    (G : ∀ i, FnW (F.X i).prog (F.X i).w (F.X i).K (F.X i).mg (F.X i).base (L2.CX (F.X i).prog (F.X i).w) k cf cfd [en] (spW F.Xc words)) (hcm : ∀ i, (F.X i).mg cn = some (.ref cf)) (hck : PySem.W.keepIn F.K (.ref cf) = true) (hcb : L2.Binds F.K cfd [en] [])
    (htm : ∀ i, (F.X i).mg tn = some (.ref tE)) (hex : ∀ c w, words c = some w → PySem.W.exmOne F.K (.ref (F.Xc c)) (.ref tE) = some true)
    (TB : ∀ i, TabB (F.X i).base (F.X i).mg c P) (hcode : ∀ i, (F.X i).env.code = .ref c) (nT : Nat) (k2 : Nat)
    (body' : ∀ E, DnE (famLam F E k2 scope) τ body fb fl) (hk2 : k2 + 2 ≤ F.k := by exact Nat.le_of_ble_eq_true rfl) (hmem : τ[nT]? = some (Kd.tb P lamQ) := by rfl) (hk1 : k + 1 ≤ F.k := by exact Nat.le_of_ble_eq_true rfl) (L : ∀ i, LamS (F.X i).env.scope scope := by intro _; exact LamX.lamS_by (by kernel_rfl)) (hq : ∀ i, (F.X i).env.qual ++ "<lambda>" = lamQ := by intro _; rfl) (hg : ∀ i, Gl (F.X i) x := by intro _; rfl) (hdef : ∀ i, defaultsOf params (F.X i).env = ([], []) := by intro _; rfl)
    (hbind : ∀ (q : Str) (cl : List (Str × Addr)) (pm cv ctv : Value), bindArgs (PySem.W.kla_fn "<lambda>" q params body scope cl pm cv ctv) ⟨[], []⟩ = pure [] := by intros; rfl) (va : Vis (defScope st) a := by first | exact Or.inl rfl | exact Or.inr (Or.inl rfl)) 
    (lw : (defScope st).names.lookup wn = some .local := by rfl) (le : (defScope st).names.lookup en = some .local := by rfl) (gc : (defScope st).names.lookup cn = some .globalImplicit := by rfl) (gt : (defScope st).names.lookup tn = some .globalImplicit := by rfl) (nd : [a, wn, en].Nodup := by decide)
    (dt : (tn == ("__debug__" : Str)) = false := by decide) (dw : (wn == ("__debug__" : Str)) = false := by decide) (cw : (wn == ("__classdict__" : Str)) = false := by decide) (de : (en == ("__debug__" : Str)) = false := by decide) (ce : (en == ("__classdict__" : Str)) = false := by decide) (dc : (cn == ("__debug__" : Str)) = false := by decide)
    (hdb : (x == ("__debug__" : Str)) = false := by decide) (hd : (a == ("__debug__" : Str)) = false := by decide) (hcd : (a == ("__classdict__" : Str)) = false := by decide) (hot0 : F.hot = false := by rfl) :
    DnE F τ (.Call (.Name x p) [.Lambda params body scope lpos] [] pos) (eRef words told fb) .s := by
  obtain ⟨oc, od, kV, doc, pm, an, cdv, ct, osl, rfl, lk, hcd'⟩ := Fg.ex
  refine ⟨tLamS P lamQ (TRef F.Xc words told) fun E => Classical.choose (body' E), fun i => ?_, fun H0 B ρ σ H Q s p => ⟨s.tbs P lamQ (List.mem_of_getElem? hmem), fun H1 e1 => ?_⟩⟩
  · refine pe_lamS (k := k2) (hg i) (hm i) (by rw [F.hK i]; exact Fg.kp) (by rw [F.hK i]; exact lk) (by rw [F.hK i]; exact hcd') (by rw [F.hK i]; exact hb) Sg rfl va ?_ (TB i) (hcode i) (hq i) ((F.room hot0 i).mono hk2) (L i) (hdef i) hbind (fun A outer s H E f c' hr => (Classical.choose_spec (body' E)).1 ⟨i, A, outer, s, H, f, c', hr⟩) hdb hd hcd
    rw [hbg]
    exact ref_gives ((F.room hot0 i).mono hk1) (G i) (hcm i) (by rw [F.hK i]; exact hck) (by rw [F.hK i]; exact hcb) (htm i) (fun c w h => by rw [F.hK i]; exact hex c w h) lw le gc gt nd dt dw cw de ce dc
  · refine (Classical.choose_spec (body' _)).2 H0 B ρ σ H1 _ (s.more e1) ?_
    unfold eRef at p
    cases hf : fb ρ with
    | ok d =>
      rw [hf] at p
      exact fun v H' e r => ⟨_, rfl, p _ H' (e1.trans e) (.str told)⟩
    | exc cn =>
      rw [hf] at p
      intro H' e
      dsimp only at p
      cases hw : words cn with
      | none => rw [hw] at p; exact p.elim
      | some w =>
        rw [hw] at p
        exact ⟨cn, w, rfl, rfl, hw, fun H'' e' => p _ H'' ((e1.trans e).trans e') (.str w)⟩
    | bad => rw [hf] at p; exact p.elim
end Dn
set_option Elab.async false
set_option linter.all false
set_option maxRecDepth 100000
/-! for x in [f, g, ..]: x a def, called in the body -/
namespace Dn
open PySem PySem.Spec PyProof.Rows L2
section
variable {K : PySem.W.Frag} {H H' H0 : Hp} {τ : List Kd} {B : Av} {ρ : Rho} {σ : L2.St} {i : Nat} {a : Addr} {m : Nat}
theorem kd_set_ne {j : Nat} {k : Kd} (h : i ≠ j) : kd (τ.set i k) j = kd τ j := by unfold kd; rw [List.getElem?_set_ne h]
theorem kd_set {k : Kd} (h : i < τ.length) : kd (τ.set i k) i = k := by unfold kd; rw [List.getElem?_set_self h]; rfl
theorem own_rf (hk : (kd τ i).isOwn = false) (hi : i < τ.length) {x : Option D} {y : Option V} (j : Nat) (p : Addr) : OwnAt (τ.set i (.rf a m)) (ρ.set i x) (σ.set i y) j p ↔ OwnAt τ ρ σ j p := by
  by_cases e : i = j
  · subst e
    unfold OwnAt
    rw [kd_set hi, hk]
    exact ⟨fun h => Bool.noConfusion h.1, fun h => Bool.noConfusion h.1⟩
  · unfold OwnAt
    rw [kd_set_ne e, List.getElem?_set_ne e, List.getElem?_set_ne e]
theorem ownX_rf (hk : (kd τ i).isOwn = false) (hi : i < τ.length) {x : Option D} {y : Option V} (p : Addr) : OwnX (τ.set i (.rf a m)) B (ρ.set i x) (σ.set i y) p ↔ OwnX τ B ρ σ p :=
  or_congr_left ⟨fun ⟨j, h⟩ => ⟨j, (own_rf hk hi j p).mp h⟩, fun ⟨j, h⟩ => ⟨j, (own_rf hk hi j p).mpr h⟩⟩
theorem SR.toRf (s : SR K τ H0 B ρ σ H) (hk : (kd τ i).isOwn = false) (hi : i < τ.length) : SR K (τ.set i (.rf a m)) H0 B (ρ.set i (some (.int m))) (σ.set i (some (.ref a))) H := by
  refine ⟨by rw [List.length_set, List.length_set]; exact s.len, s.ext, fun j d h => ?_, fun x y p h1 h2 => s.dis x y p ((own_rf hk hi x p).mp h1) ((own_rf hk hi y p).mp h2), s.bdm, fun p h ⟨j, z⟩ => s.bno p h ⟨j, (own_rf hk hi j p).mp z⟩, fun P q t => s.tbs P q ((List.mem_or_eq_of_mem_set t).elim id (fun z => by cases z))⟩
  rcases getset h with ⟨rfl, e1, hl⟩ | ⟨ne, h'⟩
  · cases e1
    refine ⟨.ref a, by rw [List.getElem?_set_self (by rw [s.len]; exact hl)], ?_⟩
    rw [kd_set hi]
    exact ⟨rfl, rfl⟩
  · obtain ⟨w, h1, h2⟩ := s.ok j d h'
    rw [kd_set_ne ne]
    exact ⟨w, by rw [List.getElem?_set_ne ne]; exact h1, h2.ext (Same.refl _) fun p z => (ownX_rf hk hi p).mp z⟩
theorem own_unrf (hk : (kd τ i).isOwn = false) (hi : i < τ.length) (j : Nat) (p : Addr) : OwnAt τ (ρ.set i none) σ j p ↔ OwnAt (τ.set i (.rf a m)) ρ σ j p := by
  by_cases e : i = j
  · subst e
    unfold OwnAt
    rw [kd_set hi, hk]
    exact ⟨fun h => Bool.noConfusion h.1, fun h => Bool.noConfusion h.1⟩
  · unfold OwnAt
    rw [kd_set_ne e, List.getElem?_set_ne e]
theorem ownX_unrf (hk : (kd τ i).isOwn = false) (hi : i < τ.length) (p : Addr) : OwnX τ B (ρ.set i none) σ p ↔ OwnX (τ.set i (.rf a m)) B ρ σ p :=
  or_congr_left ⟨fun ⟨j, h⟩ => ⟨j, (own_unrf hk hi j p).mp h⟩, fun ⟨j, h⟩ => ⟨j, (own_unrf hk hi j p).mpr h⟩⟩
theorem SR.unRf (s : SR K (τ.set i (.rf a m)) H0 B ρ σ H) (hk : (kd τ i).isOwn = false) (hi : i < τ.length) (ht : ∀ P q, τ[i]? ≠ some (.tb P q)) : SR K τ H0 B (ρ.set i none) σ H := by
  refine ⟨by rw [List.length_set]; exact s.len, s.ext, fun j d h => ?_, fun x y p h1 h2 => s.dis x y p ((own_unrf hk hi x p).mp h1) ((own_unrf hk hi y p).mp h2), s.bdm, fun p h ⟨j, z⟩ => s.bno p h ⟨j, (own_unrf hk hi j p).mp z⟩, fun P q t => s.tbs P q ?_⟩
  · rcases getset h with ⟨_, e1, _⟩ | ⟨ne, h'⟩
    · cases e1
    · obtain ⟨w, h1, h2⟩ := s.ok j d h'
      rw [kd_set_ne ne] at h2
      exact ⟨w, h1, h2.ext (Same.refl _) fun p z => (ownX_unrf hk hi p).mp z⟩
  · obtain ⟨n, hn⟩ := List.getElem?_of_mem t
    refine List.mem_of_getElem? (i := n) ?_
    rw [List.getElem?_set_ne (fun z => ht P q (by rw [z]; exact hn))]
    exact hn
end
/-- the defs' names in a row -/
def DnFs (F : Fam) (es : List Expr) (fs : List Addr) : Prop := ∃ t : TA, (∀ i, PA (F.X i) es t) ∧ ∀ σ H (Q : List V → Hp → Prop), Q (fs.map .ref) H → t σ H Q
section
variable {F : Fam} {τ : List Kd} {rf : Bool} {i : Nat} {sb : List Stmt} {es : List Expr} {fs : List Addr} {f : Addr} {x y : Str} {p pos p2 : Pos}
theorem df_nil : DnFs F [] [] := ⟨tNil, fun _ => pa_nil, fun σ H Q q => q⟩
theorem df_cons (hm : ∀ j, (F.X j).mg y = some (.ref f)) (h : DnFs F es fs) (hg : ∀ j, Gl (F.X j) y := by intro _; rfl) (hd : (y == ("__debug__" : Str)) = false := by decide) (hs : ∀ j, starEach (.Name y p :: es) (F.X j).env = (false, eval (.Name y p) (F.X j).env) :: starEach es (F.X j).env := by intro _; rfl) : DnFs F (.Name y p :: es) (f :: fs) := by
  obtain ⟨t, h1, h2⟩ := h
  exact ⟨tCons (tC (.ref f)) t, fun j => pa_cons (pe_glob (v := .ref f) (hg j) (hm j) rfl hd) (h1 j) (hs j), fun σ H Q q => h2 σ H _ q⟩
/-- the body, for each of them -/
inductive Bodies (F : Fam) (τ : List Kd) (i : Nat) (rf : Bool) (sb : List Stmt) : Nat → List Addr → List (Rho → Out) → Prop
  | nil {m : Nat} : Bodies F τ i rf sb m [] []
  | cons {m : Nat} {f : Addr} {fs : List Addr} {g : Rho → Out} {gs : List (Rho → Out)} : DnB F (τ.set i (.rf f m)) (τ.set i (.rf f m)) rf sb g → Bodies F τ i rf sb (m + 1) fs gs → Bodies F τ i rf sb m (f :: fs) (g :: gs)
theorem Bodies.get {m : Nat} {fs : List Addr} {gs : List (Rho → Out)} (h : Bodies F τ i rf sb m fs gs) : ∀ {n : Nat} {f : Addr}, fs[n]? = some f → ∃ g, gs[n]? = some g ∧ DnB F (τ.set i (.rf f (m + n))) (τ.set i (.rf f (m + n))) rf sb g := by
  induction h with
  | nil => intro n f e; simp at e
  | cons b _ ih =>
    intro n f e
    cases n with
    | zero => simp at e; subst e; exact ⟨_, rfl, b⟩
    | succ n =>
      obtain ⟨g, h1, h2⟩ := ih (n := n) (f := f) (by simpa using e)
      refine ⟨g, by simpa using h1, ?_⟩
      rw [show ∀ m : Nat, m + (n + 1) = m + 1 + n from fun m => by omega]
      exact h2
theorem Bodies.len {m : Nat} {fs : List Addr} {gs : List (Rho → Out)} (h : Bodies F τ i rf sb m fs gs) : fs.length = gs.length := by
  induction h with
  | nil => rfl
  | cons _ _ ih => simp only [List.length_cons, ih]
def fnsD (i : Nat) : List (Rho → Out) → Nat → Rho → Out
  | [], _, ρ => .next ρ
  | g :: gs, m, ρ => match g (ρ.set i (some (.int m))) with
    | .next ρ' => fnsD i gs (m + 1) (ρ'.set i none)
    | .cont ρ' => fnsD i gs (m + 1) (ρ'.set i none)
    | .brk ρ' => .next (ρ'.set i none)
    | o => o
def sFns (i : Nat) (gs : List (Rho → Out)) : Rho → Out := fnsD i gs 0
theorem ds_fns (i : Nat) {gs : List (Rho → Out)} (hf : DnFs F es fs) (hb : Bodies F τ i rf sb 0 fs gs) (hk : (kd τ i) = .sh := by rfl) (hi : i < τ.length := by exact Nat.lt_of_sub_eq_succ rfl) (hN : ∀ j, (F.X j).N[i]? = some x := by intro _; rfl) (hx : ∀ j, Loc (F.X j).env.scope x := by intro _; first | exact .inl rfl | exact .inr rfl) (hfn : ∀ j, (F.X j).fn x = true ∨ (F.X j).env.scope.names.lookup x = some .local := by intro _; first | exact .inl rfl | exact .inr rfl)
    (hl : fs.length ≤ 1000 := by exact Nat.le_of_ble_eq_true rfl) (hs : ∀ j z, foldedSetIterable (.List es p2) (F.X j).env z = pure z := by intro _ _; rfl) (hot0 : F.hot = false := by rfl) : DnS F τ τ rf (.For (.Name x p) (.List es p2) sb [] pos) (sFns i gs) := by
  obtain ⟨t, f1, f2⟩ := hf
  have hko : (kd τ i).isOwn = false := by rw [hk]; rfl
  have ht : ∀ P q, τ[i]? ≠ some (.tb P q) := fun P q z => by unfold kd at hk; rw [z] at hk; cases hk
  let tb : TS := fun D σ H => ∃ t' : TS, (∀ j, PSs (F.X j) sb t') ∧ t' D σ H
  have hT : ∀ j, PSs (F.X j) sb tb := fun j => ⟨fun pins s σ H D I ⟨t', h1, h2⟩ => (h1 j).run pins s σ H D I h2⟩
  refine ⟨tFor (iList F.K (tLst t)) (gName i) tb, fun j => ?_, fun H0 B ρ σ H E s p => ?_⟩
  · have q := pi_list (tg := .Name x p) (pe_lst (pos := p2) (f1 j)); rw [F.hK j] at q
    exact ps_for (F.po j) (F.calm hot0 j) q (pg_name (F.nd j) (hN j) (hx j) (hfn j)) (hT j) (hs j)
  · refine f2 σ H _ ⟨by rw [List.length_map]; exact Nat.le_trans hl (by decide), fun a ha => ⟨a, rfl, ⟨_, SqL.of upd_same⟩, ?_⟩⟩
    have e1 : Same H (upd H a (.lst (fs.map V.ref))) := dom_upd ha
    have na : ¬ OwnX τ B ρ σ a := fun z => s.own_dom a z ha
    refine ⟨fun n m σ' H' => m = fs.length - n ∧ n ≤ fs.length ∧ ∃ ρ', SR F.K τ H0 B ρ' σ' H' ∧ Kp (OwnX τ B ρ σ) (upd H a (.lst (fs.map V.ref))) (OwnX τ B ρ' σ') H' ∧ PostS F τ H0 B H' (OwnX τ B ρ' σ') rf E (fnsD i (gs.drop n) n ρ'),
      ⟨fs.length, by simp, Nat.zero_le _, ρ, s.more e1, Kp.refl, PostS.later p (Kp.same e1)⟩, ?_⟩
    rintro n m σ2 H2 ⟨rfl, hn, ρ2, s2, k2, p2⟩
    have hl2 : SqL F.K H2 a (fs.map V.ref) := SqL.of (k2.1 a _ upd_same na)
    by_cases hlt : n < fs.length
    · have hd : fs[n]? = some fs[n] := List.getElem?_eq_getElem hlt
      obtain ⟨g, hg, ⟨t', b1, b2⟩⟩ := hb.get hd
      rw [Nat.zero_add] at b2
      have hv : (fs.map V.ref)[n]? = some (.ref fs[n]) := by rw [List.getElem?_map, hd]; rfl
      refine .inr ⟨⟨_, _, hl2, hv⟩, fun σ' H' => ∃ ρ', SR F.K τ H0 B ρ' σ' H' ∧ Kp (OwnX τ B ρ σ) (upd H a (.lst (fs.map V.ref))) (OwnX τ B ρ' σ') H' ∧ PostS F τ H0 B H' (OwnX τ B ρ' σ') rf E (fnsD i (gs.drop (n + 1)) (n + 1) ρ'),
        fun σ' H' ⟨ρ', a, b, c⟩ => ⟨fs.length - (n + 1), by omega, rfl, hlt, ρ', a, b, c⟩, fun z H3 y => ?_⟩
      obtain ⟨rfl, hz⟩ := y
      have := hz _ hl2
      rw [hv] at this
      cases this
      refine ⟨t', b1, ?_⟩
      have s3 := s2.toRf (a := fs[n]) (m := n) hko hi
      refine b2 H0 B _ _ H3 _ s3 ?_
      have hgl : n < gs.length := by rw [← hb.len]; exact hlt
      have e0 : gs.drop n = g :: gs.drop (n + 1) := by
        rw [List.drop_eq_getElem_cons hgl]
        rw [List.getElem?_eq_getElem hgl] at hg
        cases hg
        rfl
      rw [e0] at p2
      unfold fnsD at p2
      have k3 : Kp (OwnX τ B ρ2 σ2) H3 (OwnX (τ.set i (.rf fs[n] n)) B (ρ2.set i (some (.int n))) (σ2.set i (some (.ref fs[n])))) H3 := Kp.sub fun b z => (ownX_rf hko hi b).mp z
      have back : ∀ {ρ4 : Rho} {σ4 : L2.St} {H4 : Hp}, SR F.K (τ.set i (.rf fs[n] n)) H0 B ρ4 σ4 H4 → Kp (OwnX (τ.set i (.rf fs[n] n)) B (ρ2.set i (some (.int n))) (σ2.set i (some (.ref fs[n])))) H3 (OwnX (τ.set i (.rf fs[n] n)) B ρ4 σ4) H4 →
          SR F.K τ H0 B (ρ4.set i none) σ4 H4 ∧ Kp (OwnX τ B ρ2 σ2) H3 (OwnX τ B (ρ4.set i none) σ4) H4 := fun s4 k4 => ⟨s4.unRf hko hi ht, (k3.trans k4).trans (Kp.sub fun b z => (ownX_unrf hko hi b).mp z)⟩
      cases q : g (ρ2.set i (some (.int n))) with
      | next ρ4 => rw [q] at p2; exact fun σ4 H4 s4 k4 => let ⟨s5, k5⟩ := back s4 k4; ⟨_, s5, k2.trans k5, p2.later k5⟩
      | cont ρ4 => rw [q] at p2; exact fun σ4 H4 s4 k4 => let ⟨s5, k5⟩ := back s4 k4; ⟨_, s5, k2.trans k5, p2.later k5⟩
      | brk ρ4 => rw [q] at p2; exact fun σ4 H4 s4 k4 => let ⟨s5, k5⟩ := back s4 k4; p2 σ4 H4 s5 k5
      | ret d => rw [q] at p2; exact p2
      | exc c => rw [q] at p2; exact p2
      | bad => rw [q] at p2; exact p2
    · have e : n = fs.length := by omega
      subst e
      rw [hb.len, List.drop_length] at p2
      exact .inl ⟨⟨_, hl2, by rw [List.length_map]; exact Nat.le_refl _⟩, p2 σ2 H2 s2 Kp.refl⟩
end
/-! ### x(e, ..), x a name that holds a def -/
section
variable {F : Fam} {τ : List Kd} {e : Expr} {es : List Expr} {gs : Rho → Res (List D)} {fl : Fl} {pos p : Pos} {x : Str} {k : Nat} {fa' : Addr} {fd : FuncData} {ps : List Str} {fn : List D → Res D}
def eCallL (i : Nat) (n : Nat) (fn : List D → Res D) (gs : Rho → Res (List D)) : Rho → Res D := fun ρ => (eVar i ρ).bind fun _ => eCall n fn gs ρ
theorem pe_callLS {X : Cx} {CX : CXT} {i : Nat} {f : Addr} {sp : Sp} {E : L2.St → XK} {t : TA} (G : FnOk X.prog X.w X.K X.mg X.base CX k f fd ps sp) (hr : Room k X.A) (hN : X.N[i]? = some x) (hv : Vis X.env.scope x) (hk : PySem.W.keepIn X.K (.ref f) = true) (hb : Binds X.K fd ps []) (hx : ∀ σ, PassesAt CX X σ (E σ)) (ha : PA X (e :: es) t)
    (hdb : (x == ("__debug__" : Str)) = false) (hcd : (x == ("__classdict__" : Str)) = false) (he : starEach (e :: es) X.env = (false, eval e X.env) :: starEach es X.env) (hpl : (backTo pos (starEach es X.env)).any (·.1) = false) :
    PE X (.Call (.Name x p) (e :: es) [] pos) (fun σ H Q => σ[i]? = some (some (.ref f)) ∧ tCallS sp E t σ H Q) := by
  refine ⟨fun pins s σ H Q I ⟨hs, ht⟩ => wpAny_Call_Name_kw (thn ((pe_var (pos := p) hN hv hdb hcd).run pins s σ H (fun v H1 => v = .ref f ∧ H1 = H) I ⟨.ref f, hs, rfl, rfl⟩) fun u s1 ⟨v, H1, I1, r1, q1⟩ => ?_)⟩
  obtain ⟨rfl, rfl⟩ := q1
  cases r1
  exact PySem.W.callWith_K (h₀ := X.base) I.ok.mod.kin hk (thn (ha.run pos pins s1 σ _ _ I1 ht) fun us s2 ⟨vs, H2, I2, r, q⟩ => ⟨I2.kIn, run_fnS G hr hb (hx σ) I2 r q⟩) he hpl
theorem dn_callL (i n c : Nat) {fr : Bool} (G : ∀ j, FnOk (F.X j).prog (F.X j).w (F.X j).K (F.X j).mg (F.X j).base (L2.CX (F.X j).prog (F.X j).w) k fa' fd ps (spD F.K F.Xc (allSh n) fr fn)) (hk : PySem.W.keepIn F.K (.ref fa') = true) (hb : Binds F.K fd ps []) (ha : DnA F τ (e :: es) gs fl)
    (hkd : kd τ i = .rf fa' c := by rfl) (hr : k ≤ F.k := by exact Nat.le_of_ble_eq_true rfl) (hN : ∀ j, (F.X j).N[i]? = some x := by intro _; rfl) (hv : ∀ j, Vis (F.X j).env.scope x := by intro _; first | exact Or.inl rfl | exact Or.inr (Or.inl rfl) | exact Or.inr (Or.inr rfl)) (hdb : (x == ("__debug__" : Str)) = false := by decide) (hcd : (x == ("__classdict__" : Str)) = false := by decide)
    (he : ∀ i, starEach (e :: es) (F.X i).env = (false, eval e (F.X i).env) :: starEach es (F.X i).env := by intro _; rfl) (hpl : ∀ i, (backTo pos (starEach es (F.X i).env)).any (·.1) = false := by intro _; rfl) (hot0 : F.hot = false := by rfl) :
    DnE F τ (.Call (.Name x p) (e :: es) [] pos) (eCallL i n fn gs) (if fr = true then .s else .z) := by
  obtain ⟨t, h1, h2⟩ := ha
  refine ⟨_, fun j => pe_callLS (i := i) (E := WE F.W) (G j) ((F.room hot0 j).mono hr) (hN j) (hv j) (by rw [F.hK j]; exact hk) (by rw [F.hK j]; exact hb) (fun σ => passAt (F.tk j) σ) (h1 j) hdb hcd (he j) (hpl j), fun H0 B ρ σ H Q s p => ?_⟩
  unfold eCallL at p
  cases hf : eVar i ρ with
  | ok d =>
    obtain ⟨v, g1, g2⟩ := s.ok i d (eVar_ok hf)
    rw [hkd] at g2
    obtain ⟨rfl, _⟩ := g2
    rw [hf] at p
    exact ⟨g1, call_sem h2 H0 B ρ σ H Q s p⟩
  | exc c => exact (eVar_exc hf).elim
  | bad => rw [hf] at p; exact p.elim
theorem dn_callLZ (i n c : Nat) (G : ∀ j, FnOk (F.X j).prog (F.X j).w (F.X j).K (F.X j).mg (F.X j).base (L2.CX (F.X j).prog (F.X j).w) k fa' fd ps (spD F.K F.Xc (allSh n) false fn)) (hk : PySem.W.keepIn F.K (.ref fa') = true) (hb : Binds F.K fd ps []) (ha : DnA F τ (e :: es) gs fl)
    (hkd : kd τ i = .rf fa' c := by rfl) (hr : k ≤ F.k := by exact Nat.le_of_ble_eq_true rfl) (hN : ∀ j, (F.X j).N[i]? = some x := by intro _; rfl) (hv : ∀ j, Vis (F.X j).env.scope x := by intro _; first | exact Or.inl rfl | exact Or.inr (Or.inl rfl) | exact Or.inr (Or.inr rfl)) (hdb : (x == ("__debug__" : Str)) = false := by decide) (hcd : (x == ("__classdict__" : Str)) = false := by decide)
    (he : ∀ i, starEach (e :: es) (F.X i).env = (false, eval e (F.X i).env) :: starEach es (F.X i).env := by intro _; rfl) (hpl : ∀ i, (backTo pos (starEach es (F.X i).env)).any (·.1) = false := by intro _; rfl) (hot0 : F.hot = false := by rfl) :
    DnE F τ (.Call (.Name x p) (e :: es) [] pos) (eCallL i n fn gs) .z := dn_callL i n c G hk hb ha hkd hr hN hv hdb hcd he hpl hot0
theorem dn_callLS (i n c : Nat) (G : ∀ j, FnOk (F.X j).prog (F.X j).w (F.X j).K (F.X j).mg (F.X j).base (L2.CX (F.X j).prog (F.X j).w) k fa' fd ps (spD F.K F.Xc (allSh n) true fn)) (hk : PySem.W.keepIn F.K (.ref fa') = true) (hb : Binds F.K fd ps []) (ha : DnA F τ (e :: es) gs fl)
    (hkd : kd τ i = .rf fa' c := by rfl) (hr : k ≤ F.k := by exact Nat.le_of_ble_eq_true rfl) (hN : ∀ j, (F.X j).N[i]? = some x := by intro _; rfl) (hv : ∀ j, Vis (F.X j).env.scope x := by intro _; first | exact Or.inl rfl | exact Or.inr (Or.inl rfl) | exact Or.inr (Or.inr rfl)) (hdb : (x == ("__debug__" : Str)) = false := by decide) (hcd : (x == ("__classdict__" : Str)) = false := by decide)
    (he : ∀ i, starEach (e :: es) (F.X i).env = (false, eval e (F.X i).env) :: starEach es (F.X i).env := by intro _; rfl) (hpl : ∀ i, (backTo pos (starEach es (F.X i).env)).any (·.1) = false := by intro _; rfl) (hot0 : F.hot = false := by rfl) :
    DnE F τ (.Call (.Name x p) (e :: es) [] pos) (eCallL i n fn gs) .s := dn_callL i n c G hk hb ha hkd hr hN hv hdb hcd he hpl hot0
end
end Dn
set_option Elab.async false
set_option linter.all false
set_option maxRecDepth 100000
/-! [e for x in (f, g, ..)]: x a def, called in e -/
namespace Dn
open PySem PySem.Spec PyProof.Rows L2
/-- the element, for each of them -/
inductive Elts (F : Fam) (τ : List Kd) (i : Nat) (e : Expr) : Nat → List Addr → List (Rho → Res D) → Prop
  | nil {m : Nat} : Elts F τ i e m [] []
  | cons {m : Nat} {f : Addr} {fs : List Addr} {g : Rho → Res D} {gs : List (Rho → Res D)} : DnE F (τ.set i (.rf f m)) e g .s → Elts F τ i e (m + 1) fs gs → Elts F τ i e m (f :: fs) (g :: gs)
theorem Elts.get {F : Fam} {τ : List Kd} {i : Nat} {e : Expr} {m : Nat} {fs : List Addr} {gs : List (Rho → Res D)} (h : Elts F τ i e m fs gs) : ∀ {n : Nat} {f : Addr}, fs[n]? = some f → ∃ g, gs[n]? = some g ∧ DnE F (τ.set i (.rf f (m + n))) e g .s := by
  induction h with
  | nil => intro n f e; simp at e
  | cons b _ ih =>
    intro n f e
    cases n with
    | zero => simp at e; subst e; exact ⟨_, rfl, b⟩
    | succ n =>
      obtain ⟨g, h1, h2⟩ := ih (n := n) (f := f) (by simpa using e)
      refine ⟨g, by simpa using h1, ?_⟩
      rw [show ∀ m : Nat, m + (n + 1) = m + 1 + n from fun m => by omega]
      exact h2
theorem Elts.len {F : Fam} {τ : List Kd} {i : Nat} {e : Expr} {m : Nat} {fs : List Addr} {gs : List (Rho → Res D)} (h : Elts F τ i e m fs gs) : fs.length = gs.length := by
  induction h with
  | nil => rfl
  | cons _ _ ih => simp only [List.length_cons, ih]
def fnsE (i : Nat) : List (Rho → Res D) → Nat → Rho → Res (List D)
  | [], _, _ => .ok []
  | g :: gs, m, ρ => (g (ρ.set i (some (.int m)))).bind fun d => (fnsE i gs (m + 1) ρ).bind fun ds => .ok (d :: ds)
def eFns (i : Nat) (gs : List (Rho → Res D)) : Rho → Res D := fun ρ => match fnsE i gs 0 (ρ.set i none) with
  | .ok ds => .ok (.list ds)
  | _ => .bad
theorem dn_cfns (i : Nat) {F : Fam} {τ : List Kd} {es : List Expr} {fs : List Addr} {gs : List (Rho → Res D)} {elt : Expr} {scope : Scope} {x : Str} {x1 : Nat} {p p2 pos : Pos} (hf : DnFs F es fs) (hb : Elts (F.blk scope) τ i elt 0 fs gs)
    (ok : ∀ j, BlkOk (F.X j).N (F.X j).env.scope scope [(x, i)]) (hk : (kd τ i) = .sh := by rfl) (hi : i < τ.length := by exact Nat.lt_of_sub_eq_succ rfl) (hN : ∀ j, (F.X j).N[i]? = some x := by intro _; rfl)
    (hx : ∀ j, Loc ((F.blk scope).X j).env.scope x := by intro _; first | exact .inl rfl | exact .inr rfl) (hfn : ∀ j, ((F.blk scope).X j).fn x = true ∨ ((F.blk scope).X j).env.scope.names.lookup x = some .local := by intro _; first | exact .inl rfl | exact .inr rfl)
    (hl : fs.length ≤ 1000 := by exact Nat.le_of_ble_eq_true rfl) (hs : ∀ j z, foldedSetIterable (.Tuple es x1 p2) (F.X j).env z = pure z := by intro _ _; rfl) (hot0 : F.hot = false := by rfl) :
    DnE F τ (.ListComp elt [⟨.Name x p, .Tuple es x1 p2, [], 0⟩] scope pos) (eFns i gs) .s := by
  obtain ⟨t, f1, f2⟩ := hf
  have hko : (kd τ i).isOwn = false := by rw [hk]; rfl
  have hv : ∀ j ∈ [i], (kd τ j).isOwn = false := fun j hj => by rw [List.mem_singleton.mp hj]; exact hko
  have ht : ∀ P q, τ[i]? ≠ some (.tb P q) := fun P q z => by unfold kd at hk; rw [z] at hk; cases hk
  let te : TE := fun σ H Q => ∃ t' : TE, (∀ j, PE ((F.blk scope).X j) elt t') ∧ t' σ H Q
  have hT : ∀ j, PE ((F.blk scope).X j) elt te := fun j => ⟨fun pins s σ H Q I ⟨t', h1, h2⟩ => (h1 j).run pins s σ H Q I h2⟩
  refine ⟨tLc (iTup F.K (tTupF t)) (gName i) tYes te [i], fun j => ?_, fun H0 B ρ σ H Q s p => ?_⟩
  · have q := pi_tup (tg := .Name x p) (pe_tupF (x1 := x1) (pos := p2) (f1 j)); rw [F.hK j] at q
    exact pe_lc (own := [(x, i)]) (F.calm hot0 j) (F.nd j) q (ok j) (fun s H C cl fp => pg_name ((F.blk scope).nd (j, s, H, C, cl, fp)) (hN j) (hx (j, s, H, C, cl, fp)) (hfn (j, s, H, C, cl, fp))) (fun s H C cl fp => pts_nil) (fun s H C cl fp => hT (j, s, H, C, cl, fp)) (hs j)
  · refine f2 σ H _ ⟨by rw [List.length_map]; exact Nat.le_trans hl (by decide), fun a o ha ho => ⟨a, rfl, ⟨_, TpAt.sq (.inl ⟨o, upd_same, ho⟩)⟩, ?_⟩⟩
    intro Dl hD
    unfold eFns at p
    have e1 : Same H (upd H a (.frz o (.tup (fs.map V.ref)))) := dom_upd ha
    have s1 := s.more e1
    have hsq : ∀ H', Same (upd H a (.frz o (.tup (fs.map V.ref)))) H' → SqT F.K H' a (fs.map V.ref) := fun H' e => TpAt.sq (.inl ⟨o, e _ _ upd_same, ho⟩)
    generalize hH1 : upd H a (.frz o (.tup (fs.map V.ref))) = H1 at *
    cases hc : fnsE i gs 0 (ρ.set i none) with
    | bad => rw [hc] at p; exact p.elim
    | exc c => rw [hc] at p; exact p.elim
    | ok all =>
      rw [hc] at p
      have hall : all.length = fs.length := by
        rw [hb.len]
        have key : ∀ (gs : List (Rho → Res D)) (m : Nat) (r : Rho) (ds : List D), fnsE i gs m r = .ok ds → ds.length = gs.length := by
          intro gs
          induction gs with
          | nil => intro m r ds h; cases h; rfl
          | cons g gs ih =>
            intro m r ds h
            unfold fnsE at h
            obtain ⟨d, _, h⟩ := Res.bind_ok h
            obtain ⟨rs, hr, h⟩ := Res.bind_ok h
            cases h
            rw [List.length_cons, List.length_cons, ih _ _ _ hr]
        exact key _ _ _ _ hc
      refine ⟨fun n m H' => m = fs.length - n ∧ n ≤ fs.length ∧ Same H1 H' ∧ ∃ acc ys rest, ys ++ rest = all ∧ fnsE i (gs.drop n) n (ρ.set i none) = .ok rest ∧ H' Dl = some (.lst acc) ∧ DqL F.K H' (fun a => dom H a ∨ a = Dl) acc ys,
        ⟨fs.length, by simp, Nat.zero_le _, dom_upd hD, [], [], all, rfl, hc, upd_same, .nil⟩, ?_⟩
      rintro n m H2 ⟨rfl, hn, e2, acc, ys, rest, hys, hrest, hacc, hq⟩
      by_cases hlt : n < fs.length
      · have hd : fs[n]? = some fs[n] := List.getElem?_eq_getElem hlt
        obtain ⟨g, hg, ⟨t', b1, b2⟩⟩ := hb.get hd
        rw [Nat.zero_add] at b2
        have hvn : (fs.map V.ref)[n]? = some (.ref fs[n]) := by rw [List.getElem?_map, hd]; rfl
        have hgl : n < gs.length := by rw [← hb.len]; exact hlt
        have e0 : gs.drop n = g :: gs.drop (n + 1) := by
          rw [List.drop_eq_getElem_cons hgl]
          rw [List.getElem?_eq_getElem hgl] at hg
          cases hg
          rfl
        rw [e0] at hrest
        unfold fnsE at hrest
        obtain ⟨yd, hy, hrest⟩ := Res.bind_ok hrest
        obtain ⟨rs, hrs, hrest⟩ := Res.bind_ok hrest
        cases hrest
        refine .inr ⟨⟨_, _, hsq _ e2, hvn⟩, fun H' => Same H1 H' ∧ ∃ acc ys rest, ys ++ rest = all ∧ fnsE i (gs.drop (n + 1)) (n + 1) (ρ.set i none) = .ok rest ∧ H' Dl = some (.lst acc) ∧ DqL F.K H' (fun a => dom H a ∨ a = Dl) acc ys,
          fun H' q => ⟨fs.length - (n + 1), by omega, rfl, hlt, q⟩, fun z H3 y => ?_⟩
        obtain ⟨rfl, hz⟩ := y
        have := hz _ (hsq _ e2)
        rw [hvn] at this
        cases this
        have sB : SR F.K τ H0 (fun a => B a ∨ a = Dl) (wipeR ρ [i]) (L2.wipe σ [i]) H3 := (s1.apart hD e2 hacc).wipe hv
        have s3 := sB.toRf (a := fs[n]) (m := n) hko hi
        refine ⟨?_, ?_⟩
        · show ((σ.set i none).set i _).set i none = σ.set i none
          rw [List.set_set, List.set_set]
        unfold tYes
        dsimp only
        rw [if_pos rfl]
        refine ⟨t', b1, b2 H0 _ _ _ H3 _ s3 ?_⟩
        have hy' : g ((wipeR ρ [i]).set i (some (.int n))) = .ok yd := hy
        rw [hy']
        intro y H5 e5 r5
        have e45 := e5
        have hacc5 : H5 Dl = some (.lst acc) := e45 _ _ hacc
        have hq5 := DqL.mono e45 hq (O' := fun a => dom H a ∨ a = Dl) fun _ z => z
        have r5' : Dq F.K H5 (fun a => dom H a ∨ a = Dl) y yd := Dq.mono (Same.refl _) r5 fun a z => by
          show dom H3 a
          rcases z with z | z
          · exact dom_mono (e1.trans e2) a z
          · subst z
            intro q
            rw [hacc] at q; cases q
        refine ⟨acc, hacc5, ?_, ?_, acc ++ [y], ys ++ [yd], rs, by rw [List.append_assoc]; exact hys, hrs, upd_same, ?_⟩
        · rw [hq.length]
          have h1 : all.length = ys.length + (rs.length + 1) := by rw [← hys, List.length_append, List.length_cons]
          have h2 : all.length ≤ 1000 := by omega
          have h3 : (1000 : Nat) ≤ sizeLine := by decide
          omega
        · exact (e2.trans e45).updM hD hacc5 trivial
        · exact DqL.upd hacc5 trivial (.inr rfl) (hq5.append (.cons r5' .nil))
      · have e : n = fs.length := by omega
        subst e
        rw [hb.len, List.drop_length] at hrest
        cases hrest
        rw [List.append_nil] at hys
        subst hys
        refine .inl ⟨⟨_, hsq _ e2, by rw [List.length_map]; exact Nat.le_refl _⟩, p _ _ (e1.trans e2) ?_⟩
        exact .lst (fun z => dom_mono e1 Dl z hD) hacc hq
end Dn
set_option Elab.async false
set_option linter.all false
set_option maxRecDepth 100000
/-! the end of a law that makes lambdas -/
namespace Dn
open PySem PySem.Spec PyProof.Rows L2 LamX
/-- the table of the law's own code object -/
theorem lawAt {l : PySem.W.OpenLaw} {w : World} {K : PySem.W.Frag} {k : Nat} {x : Str} {mg : Str → Option Value} {fa c P : Addr} {h : Heap} {fd : FuncData} {Xc : Nat → Addr} {f : List D → Res D} {τ : List Kd} {o : Obj} {e : Value} {dd : Option Addr} {vs : Array Value} {sl : Array (Option Value)}
    (KX : K.In h) (own : OwnTab K fa h) (k1 : K.lookup fa = some o) (k2 : o.data = .func fd) (k3 : fd.code = .ref c) (k4 : K.lookup c = some ⟨e, dd, .fields vs, sl⟩) (k5 : vs[11]? = some (.ref P)) (k6 : K.lookup P = none) (k7 : PySem.W.codeHdIn K c P = true)
    (hτ : ∀ P' q, Kd.tb P' q ∈ τ → P' = P ∧ q = lamQ) (hb : ∀ (s : Shared) (u : Value), BindsTo s fd ⟨[u], []⟩ [(x, u)])
    (law_true : ∀ ns : List Int, ns.length ≤ 63 → (∀ z ∈ ns, Builtin.Int.intBits z ≤ 1048576) → f [.list (ns.map .int)] = .ok (.bool true))
    (F : ∀ base : Heap, K.In base → base.Ns mainGlobals mg → TabB base mg c P → FnOk l.prog w K mg base (L2.CX l.prog w) k fa fd [x] (fun vs H Q E => (∀ P q, Kd.tb P q ∈ τ → TabQ H P q) ∧ spD K Xc [.scr] false f vs H Q E)) : LawAtS l w K (L2.CX l.prog w) k 63 x mg fa h := by
  refine ⟨fd, [(c, P)], _, fun p hp => ?_, fun p hp => ?_, fun p hp => ?_, hb, fun H a ns hl hbt hT hS => ⟨fun P' q hm => ?_, ?_⟩, fun base b1 b2 b3 => F base b1 b2 (b3 (c, P) (List.mem_singleton.mpr rfl))⟩
  · rw [List.mem_singleton.mp hp]; exact own c P o fd e dd vs sl k1 k2 k3 k4 k5
  · rw [List.mem_singleton.mp hp]; exact k6
  · rw [List.mem_singleton.mp hp]; exact PySem.W.codeHd_of_K KX k7
  · obtain ⟨rfl, rfl⟩ := hτ P' q hm
    exact ⟨rfl, TabS.nil (hT (c, P') (List.mem_singleton.mpr rfl))⟩
  · refine ⟨[.list (ns.map .int)], fun _ => False, fun _ z => z.elim, .cons ⟨a, _, _, rfl, rfl, ?_, dql_ints ns⟩ .nil, ?_⟩
    · rcases hS with (h | h) | h
      · exact .inr (.inr ⟨id, h⟩)
      · exact .inl h
      · exact .inr (.inl h)
    · rw [law_true ns hl hbt]
      intro v H' e r
      cases r
      rfl
/-- τ's tables are the one at P -/
theorem tb_only {τ : List Kd} {P : Addr} (h : ∃ τ0, τ = τ0 ++ [.tb P lamQ] ∧ noTb τ0 = true) : ∀ P' q, Kd.tb P' q ∈ τ → P' = P ∧ q = lamQ := by
  obtain ⟨τ0, rfl, h0⟩ := h
  intro P' q z
  rcases List.mem_append.mp z with z | z
  · exact absurd z (noTb_mem h0 P' q)
  · cases List.mem_singleton.mp z; exact ⟨rfl, rfl⟩
end Dn
set_option Elab.async false
set_option linter.all false
set_option maxRecDepth 100000
/-! repr(x), in the law's own frame -/
namespace Dn
open PySem PySem.Spec PyProof.Rows L2
mutual
/-- dicts within are empty -/
def eDict : D → Bool
  | .dict kvs => kvs.isEmpty
  | .list xs => eDictL xs
  | .tuple xs => eDictL xs
  | .none => true
  | .bool _ => true
  | .int _ => true
  | .str _ => true
def eDictL : List D → Bool
  | [] => true
  | d :: ds => eDict d && eDictL ds
end
section
variable {X : Cx} {pins : List (Addr × Obj)} {σ : L2.St} {H : Hp} {s : Shared}
theorem dk_reads (I : Inv X pins σ H s) (h1 : H sysModules = none) {a : Addr} {kvs : List (Key × V)} {ds : List D} (h : H a = some (.dK kvs)) (hl : (kvs.map (·.2)).length = ds.length) (he : (((kvs.map fun kv => keyD kv.1).zip ds : List (D × D))).isEmpty = true) :
    ∃ as, Reads s.heap (.ref a) (.dict ((kvs.map fun kv => keyD kv.1).zip ds)) as ∧ sysModules ∉ as := by
  have hk : kvs = [] := by
    cases kvs with
    | nil => rfl
    | cons k r => cases ds with
      | nil => simp at hl
      | cons d ds => simp at he
  subst hk
  obtain ⟨_, hsys, vs, r, o, es, ep, e1, e2, e3, _, e4, _⟩ := I.hok a _ h
  cases r
  have e5 : es.toList = [] := by cases hq : es.toList with
    | nil => rfl
    | cons x l => rw [hq] at e4; cases e4
  refine ⟨a :: [] ++ [], .dict (kvs := []) (as := []) (bs := []) e1 e2.1 e3 (by rw [e5]; exact .nil) (by rw [e5]; exact .nil), ?_⟩
  simp only [List.append_nil, List.mem_singleton]
  intro z
  rw [← z] at hsys
  exact absurd hsys (by decide)
mutual
theorem Dq.reads (I : Inv X pins σ H s) (h1 : H sysModules = none) : ∀ {O : Av} {v : V} {d : D}, Dq X.K H O v d → eDict d = true → ∀ u, RelV v u → ∃ as, Reads s.heap u d as ∧ sysModules ∉ as
  | _, _, _, .non, _, u, r => by cases r; exact ⟨[], .none, by simp⟩
  | _, _, _, .bl b, _, u, r => by cases r; exact ⟨[], .bool b, by simp⟩
  | _, _, _, .int i, _, u, r => by obtain ⟨t, rfl⟩ := r; exact ⟨[], .int i t, by simp⟩
  | _, _, _, .str x, _, u, r => by obtain ⟨t, rfl⟩ := r; exact ⟨[], .str x t, by simp⟩
  | _, _, _, .tup (a := a) h2 h3, he, u, r => by
    cases r
    simp only [eDict] at he
    obtain ⟨its, rv, ⟨o, e1, e2, n, e3⟩, _⟩ := I.tuple h2.sq
    obtain ⟨as, g1, g2⟩ := DqL.reads I h1 h3 he its rv
    exact ⟨as, .tuple e1 e2 e3 g1, g2⟩
  | _, _, _, .lst (a := a) _ h2 h3, he, u, r => by
    cases r
    simp only [eDict] at he
    obtain ⟨its, rv, ⟨o, n, e1, e2, e3, e4⟩, _⟩ := I.list (SqL.of h2)
    obtain ⟨as, g1, g2⟩ := DqL.reads I h1 h3 he its rv
    exact ⟨a :: as, .list e1 e2 e4 g1, fun z => (List.mem_cons.mp z).elim (fun e => by rw [e, h2] at h1; cases h1) g2⟩
  | _, _, _, .dK _ h2 h3, he, u, r => by
    cases r
    simp only [eDict] at he
    exact dk_reads I h1 h2 h3.length he
  | _, _, _, .dT _ h2 h3, he, u, r => by
    cases r
    simp [eDict] at he
  | _, _, _, .dF h2 h3, he, u, r => by simp [eDict] at he
theorem DqL.reads (I : Inv X pins σ H s) (h1 : H sysModules = none) : ∀ {O : Av} {vs : List V} {ds : List D}, DqL X.K H O vs ds → eDictL ds = true → ∀ us, Vals vs us → ∃ as, ReadsAll s.heap us ds as ∧ sysModules ∉ as
  | _, _, _, .nil, _, us, r => by cases r; exact ⟨[], .nil, by simp⟩
  | _, _, _, .cons h2 h3, he, us, r => by
    simp only [eDictL, Bool.and_eq_true] at he
    cases r with
    | cons r1 r2 =>
      obtain ⟨as, g1, g2⟩ := Dq.reads I h1 h2 he.1 _ r1
      obtain ⟨bs, g3, g4⟩ := DqL.reads I h1 h3 he.2 _ r2
      exact ⟨as ++ bs, .cons g1 g3, fun z => (List.mem_append.mp z).elim g2 g4⟩
end
theorem Rv.reads (I : Inv X pins σ H s) (h1 : H sysModules = none) {A : Av} {v : V} {d : D} (h : Rv X.K H A v d) (he : eDict d = true) (u : Value) (r : RelV v u) : ∃ as, Reads s.heap u d as ∧ sysModules ∉ as := by
  rcases h with h | ⟨p, rfl, h⟩
  · exact Dq.reads I h1 h he u r
  · cases r
    rcases h with ⟨vs, ds, rfl, h2, h3⟩ | ⟨kvs, ds, rfl, h2, h3⟩ | ⟨kvs, ds, rfl, h2, h3⟩
    · simp only [eDict] at he
      obtain ⟨its, rv, ⟨o, n, e1, e2, e3, e4⟩, _⟩ := I.list (SqL.of h2)
      obtain ⟨as, g1, g2⟩ := DqL.reads I h1 h3 he its rv
      exact ⟨p :: as, .list e1 e2 e4 g1, fun z => (List.mem_cons.mp z).elim (fun e => by rw [e, h2] at h1; cases h1) g2⟩
    · simp only [eDict] at he
      exact dk_reads I h1 h2 h3.length he
    · simp [eDict] at he
theorem reads_ref {h : Heap} {u : Value} {d : D} {as : List Addr} (r : Reads h u d as) (hd : (∃ xs, d = .list xs) ∨ (∃ xs, d = .tuple xs) ∨ ∃ xs, d = .dict xs) : ∃ a, u = .ref a := by
  cases r with
  | list _ _ _ _ => exact ⟨_, rfl⟩
  | tuple _ _ _ _ => exact ⟨_, rfl⟩
  | dict _ _ _ _ _ => exact ⟨_, rfl⟩
  | none => rcases hd with ⟨_, e⟩ | ⟨_, e⟩ | ⟨_, e⟩ <;> cases e
  | bool _ => rcases hd with ⟨_, e⟩ | ⟨_, e⟩ | ⟨_, e⟩ <;> cases e
  | int _ _ => rcases hd with ⟨_, e⟩ | ⟨_, e⟩ | ⟨_, e⟩ <;> cases e
  | str _ _ => rcases hd with ⟨_, e⟩ | ⟨_, e⟩ | ⟨_, e⟩ <;> cases e
/-- what can be shown here -/
def shOk (d : D) : Bool := d.showable && eDict d && decide (d.depth ≤ 60) && decide (d.shown.length ≤ sizeLine)
def rRepr (K : PySem.W.Frag) : List V → Hp → VK → Prop := fun xs H Q => ∃ (v : V) (d : D) (A : Av), xs = [v] ∧ Rv K H A v d ∧ shOk d = true ∧ Q (.str d.shown) H
theorem call_repr (hg : X.A.guards = some []) (hu : X.A.units + 64 < cLine) (hs : ∃ o, X.s_0.heap.get? sysModules = some o) (h0 : X.H_0 sysModules = none) (hx : sysModules ∉ X.ex) : CallR X (.builtin "repr") (rRepr X.K) := by
  intro pins s σ H xs us Q I r h
  obtain ⟨v, d, A, rfl, hr, hd, q⟩ := h
  cases r with
  | cons rx rr =>
    cases rr
    unfold shOk at hd
    simp only [Bool.and_eq_true, decide_eq_true_eq] at hd
    obtain ⟨⟨⟨d1, d2⟩, d3⟩, d4⟩ := hd
    obtain ⟨o, ho⟩ := hs
    have h1 : H sysModules = none := I.base.free _ _ ho h0 hx
    obtain ⟨as, g1, g2⟩ := Rv.reads I h1 hr d2 _ rx
    have fin : ∀ (h' : Heap) (u tk : Nat), (∀ b o, s.heap.get? b = some o → h'.get? b = some o) → EP X pins σ Q (.str d.shown u) { s with heap := h', toks := tk } := fun h' u tk hk => ⟨.str d.shown, H, I.kept hk, ⟨u, rfl⟩, q⟩
    cases d with
    | none =>
      cases g1
      simp only [PyData.shown] at q
      exact PySem.P.repr_of_none ⟨.str "None", H, I.tok _, ⟨_, rfl⟩, q⟩
    | bool b =>
      cases g1
      simp only [PyData.shown] at q
      exact PySem.P.repr_of_bool ⟨.str (if b then "True" else "False"), H, I.tok _, ⟨_, rfl⟩, by cases b <;> exact q⟩
    | int i =>
      cases g1
      simp only [PyData.shown] at q
      simp only [PyData.showable, decide_eq_true_eq] at d1
      exact PySem.P.repr_of_int d1 ⟨.str (toString i), H, I.tok _, ⟨_, rfl⟩, q⟩
    | str x =>
      cases g1
      simp only [PyData.shown] at q d4
      exact PySem.P.repr_of_str ⟨.str (reprText x), H, I.tok _, ⟨_, rfl⟩, q⟩ d4
    | list xs =>
      obtain ⟨a, rfl⟩ := reads_ref g1 (by first | exact .inl ⟨_, rfl⟩ | exact .inr (.inl ⟨_, rfl⟩) | exact .inr (.inr ⟨_, rfl⟩))
      exact repr_of_reads' g1 d1 (fun _ => g2) hg (by omega) (fun _ _ e => e) fin d4
    | tuple xs =>
      obtain ⟨a, rfl⟩ := reads_ref g1 (by first | exact .inl ⟨_, rfl⟩ | exact .inr (.inl ⟨_, rfl⟩) | exact .inr (.inr ⟨_, rfl⟩))
      exact repr_of_reads' g1 d1 (fun _ => g2) hg (by omega) (fun _ _ e => e) fin d4
    | dict xs =>
      obtain ⟨a, rfl⟩ := reads_ref g1 (by first | exact .inl ⟨_, rfl⟩ | exact .inr (.inl ⟨_, rfl⟩) | exact .inr (.inr ⟨_, rfl⟩))
      exact repr_of_reads' g1 d1 (fun _ => g2) hg (by omega) (fun _ _ e => e) fin d4
end
def reprD : List D → Option D
  | [d] => if shOk d = true then some (.str d.shown) else none
  | _ => none
theorem reprD_imm : ∀ ds d, reprD ds = some d → imm d = true := by
  intro ds d h
  unfold reprD at h
  split at h
  · split at h <;> cases h; rfl
  · cases h
/-- the frame in which repr may be asked -/
structure ReG (X : Cx) : Prop where
  gd : X.A.guards = some []
  sy : ∃ o, X.s_0.heap.get? sysModules = some o
  h0 : X.H_0 sysModules = none
  ex : sysModules ∉ X.ex
theorem c_repr {F : Fam} (hg : ∀ i, ReG (F.X i)) : CallD F (.builtin "repr") reprD := by
  refine CallD.mk (r := rRepr) (fun i => call_repr (hg i).gd (by have := F.un i; omega) (hg i).sy (hg i).h0 (hg i).ex) ?_
  intro A H vs ds d hA r h Q k
  unfold reprD at h
  split at h
  · split at h
    · rename_i d' hd
      cases h
      cases r with
      | cons r1 r2 => cases r2; exact ⟨_, _, A, rfl, r1, hd, k _ H (Same.refl _) (.str _)⟩
    · cases h
  · cases h
end Dn
set_option Elab.async false
set_option linter.all false
set_option maxRecDepth 100000
/-! the end of a law that asks repr: its body is walked in the caller's own frame alone -/
namespace Dn
open PySem PySem.Spec PyProof.Rows L2 LamX
/-- a def's promise where it is called by the caller itself -/
structure FnG (P : Program) (w : World) (K : PySem.W.Frag) (mg : Str → Option Value) (base : Heap) (CX : CXT) (f : Addr) (fd : FuncData) (ps : List Str) (sp : Sp) : Prop where
  run : ∀ (s : Shared) (H : Hp) (args : PySem.Args) (us : List Value) (vs : List V) (Q : VK) (E : XK), (∃ o, s.heap.get? sysModules = some o) → H sysModules = none → Env0 P w K mg base callerA [] s H → BindsTo s fd args (ps.zip us) → Vals vs us → sp vs H Q E →
    codeAny (model P w) callerA (.call (.ref f) args) (CR CX [] P w H s Q E) s
theorem fn_okG {P : Program} {w : World} {K : PySem.W.Frag} {mg : Str → Option Value} {base : Heap} {x qual : Str} {st : Stmt} {f : Addr} {fd : FuncData} {N ps : List Str} {k : Nat} {Xc : Nat → Addr} {κ τ τo : List Kd} {rf : Bool} {g : Rho → Out}
    (F : Fun K x qual st f fd) (S : FnScope N ps (defScope st)) (hl : κ.length = ps.length) (hn : κ.length ≤ N.length) (hτ : ∀ (i : Nat) (k : Kd), κ[i]? = some k → kd τ i = k) (hk : ∀ k ∈ κ, k.isArg = true) (hr0 : Room (k + 1) callerA)
    (body : ∀ (cdv : Value) (_ : fd.code = cdv) (s : Shared) (H : Hp) (E : XK) (hr : Room k (callerA.deeper (PyProof.Rows.envOfC qual (defScope st) s.heap.objs.size f cdv))), (∀ i, ReG ((famOf P w K mg base N qual (defScope st) f cdv callerA [] s H E Xc k hr S.nd).X i)) →
      DnB (famOf P w K mg base N qual (defScope st) f cdv callerA [] s H E Xc k hr S.nd) τ τo rf (defBody st) g) :
    FnG P w K mg base (L2.CX P w) f fd ps (fun vs H Q E => (∀ P q, Kd.tb P q ∈ τ → TabQ H P q) ∧ spD K Xc κ rf (fnD N.length g) vs H Q E) := by
  obtain ⟨oc, od, kV, doc, pm, an, cdv, ct, osl, rfl, lk, hcd⟩ := F.ex
  refine ⟨fun s H args us vs Q E hsy h0 e0 hb r hsp => ?_⟩
  obtain ⟨htb, ds, O, hO, ha, h⟩ := hsp
  have hlv : vs.length = ps.length := by rw [ha.len.1, hl]
  have KX : K.In s.heap := e0.mod.kin.keeps fun b o e => (e0.bs b o e).1
  have lim : s.heap.NoLimit := e0.mod.nolimit.keeps fun b o e => (e0.bs b o e).1
  have room := hr0.deeper (envOfC qual (defScope st) s.heap.objs.size f cdv)
  obtain ⟨t, h1, h2⟩ := body cdv rfl s H E room fun _ => ⟨rfl, hsy, h0, fun z => absurd (show sysModules ∈ ([] : List Addr) from z) (by simp)⟩
  refine codeAny_call_function hr0.depth (KX _ _ lk) rfl S.co S.gen rfl (PySem.W.codeRec_of KX hcd) (hb _ _ _ _ ?_)
  refine wpAny_newFunctionEnv_cells S.kind (fun ⟨n, v⟩ hy => ?_) fun env he s1 y => ?_
  · rcases S.par n (List.of_mem_zip hy).1 with q | q
    · exact .inl q
    · exact .inr ⟨q, PySem.W.cellsFrom_some _ _ _ (.inl q)⟩
  · subst he
    refine ⟨lim.keeps y.toInCall.keep, codeAny_func ?_⟩
    have I := inv_start (CX := L2.CX P w) (E := E) S hr0.hd e0 hlv r y
    obtain ⟨sr, hX⟩ := entry_sr (N := N) hO ha hτ hk hn htb
    have hg : t { nx := fun _ H' => Q .non H', rt := Q } (L2.start N vs) H := by
      refine h2 H O _ _ H _ sr ?_
      have h : match resOf (g (ds.map some ++ List.replicate (N.length - ds.length) none)) with
        | .ok d => ∀ v H', Same H H' → Dq K H' (if rf = true then dom H else O) v d → Q v H'
        | .exc c => ∀ H', Same H H' → E (.ref (Xc c)) none H'
        | .bad => False := h
      cases q : g (ds.map some ++ List.replicate (N.length - ds.length) none) with
      | next ρ => rw [q] at h; exact fun σ' H' s' _ => h .non H' s'.ext .non
      | ret d => rw [q] at h; exact fun v H' e r => h v H' e r
      | brk ρ => rw [q] at h; exact h.elim
      | cont ρ => rw [q] at h; exact h.elim
      | exc c => rw [q] at h; exact fun σ' H' e => h H' e
      | bad => rw [q] at h; exact h.elim
    refine wpAny_mono ((h1 ()).run [] s1 (L2.start N vs) H _ I hg) (fun fl s' hs => ?_) fun e s' hs => hs
    cases fl with
    | ret u =>
      obtain ⟨v, σ', H', J, rv, q⟩ := hs
      exact ⟨v, H', J.os, J.bare, J.base, J.hok, rv, q⟩
    | next =>
      obtain ⟨σ', H', J, q⟩ := hs
      exact ⟨V.non, H', J.os, J.bare, J.base, J.hok, rfl, q⟩
    | brk => obtain ⟨_, _, _, q⟩ := hs; exact False.elim q
    | cont => obtain ⟨_, _, _, q⟩ := hs; exact False.elim q
/-- the law is called: the script at a, the law's own table at T -/
theorem call_lawG {P : Program} {w : World} {K : PySem.W.Frag} {mg mb : Str → Option Value} {CX : CXT} {fa a c T : Addr} {fd : FuncData} {x : Str} {sp : Sp} {s₁ : Shared} {vs : List Value} {ns : List Int}
    (KX : K.In s₁.heap) (hns : s₁.heap.Ns mainGlobals mg) (hb : s₁.heap.Ns builtinsNs mb) (hbb : ∀ x : Str, x ≠ "__name__" → mb x = bootBuiltins x) (hlim : s₁.heap.NoLimit) (hg : s₁.gens = #[]) (hsy : ∃ mm, s₁.heap.Ns sysModules mm)
    (hT : s₁.heap.get? T = some { cls := .none, data := .fields #[] }) (nT : K.lookup T = none) (C : PySem.W.CodeHd s₁.heap c T)
    (hbm : ∃ (bm : Addr) (ob : Obj), mg "__builtins__" = some (.ref bm) ∧ bm ≠ builtinsNs ∧ s₁.heap.get? bm = some ob ∧ ob.cls = .type "module" ∧ ob.dict = some builtinsNs ∧ ob.data = .plain)
    (ha : s₁.heap.get? a = some { cls := .type "list", data := .seq vs.toArray }) (hi : IntsAre vs ns) (hl : ns.length ≤ sizeLine)
    (F : ∀ base : Heap, K.In base → base.Ns mainGlobals mg → TabB base mg c T → FnG P w K mg base CX fa fd [x] sp) (hbind : ∀ (s : Shared) (u : Value), BindsTo s fd ⟨[u], []⟩ [(x, u)])
    (hsp : ∀ H : Hp, H T = some (.tbl #[]) → SqL K H a (ns.map V.int) → sp [.ref a] H (fun v _ => v = .bl true) fun _ _ _ => False) (hCX : ∀ H e s', CX [] H s₁ (fun _ _ _ => False) e s' → False) :
    codeAny (model P w) callerA (.call (.ref fa) ⟨[.ref a], []⟩) (fun r s' => r = .ok (.ret (.bool true)) ∧ OldK s₁.heap s'.heap ∧ s'.os = s₁.os ∧ AllBare s'.gens) s₁ := by
  have rv := vals_ints hi
  have lenV := hi.length
  have naT : a ≠ T := fun z => by
    rw [z, hT] at ha
    have := congrArg Obj.data (Option.some.inj ha)
    cases this
  have core : ∀ H : Hp, H T = some (.tbl #[]) → (∀ b, b ≠ T → H b = none ∨ (b = a ∧ K.lookup a = none ∧ H b = some (.frz { cls := .type "list", data := .seq vs.toArray } (.lst (ns.map V.int))))) → SqL K H a (ns.map V.int) →
      codeAny (model P w) callerA (.call (.ref fa) ⟨[.ref a], []⟩) (fun r s' => r = .ok (.ret (.bool true)) ∧ OldK s₁.heap s'.heap ∧ s'.os = s₁.os ∧ AllBare s'.gens) s₁ := by
    intro H h1 h2 hS
    have hok : HOk P w H s₁.heap := fun b u z => by
      by_cases hbT : b = T
      · subst hbT; rw [h1] at z; cases z; exact hT
      · rcases h2 b hbT with q | ⟨rfl, _, q⟩
        · rw [q] at z; cases z
        · rw [q] at z; cases z; exact ⟨ha, by rw [List.length_map]; exact hl, vs, _, rv, ha⟩
    have un : ∀ {b : Addr} {o : Obj}, s₁.heap.get? b = some o → (∀ vs n, o.data ≠ .seq vs n) → o.data ≠ .fields #[] → H b = none := fun {b o} e n1 n2 => by
      by_cases hbT : b = T
      · subst hbT; rw [hT] at e; cases e; exact (n2 rfl).elim
      · rcases h2 b hbT with q | ⟨rfl, _, _⟩
        · exact q
        · rw [ha] at e; cases e; exact (n1 _ _ rfl).elim
    have stays : ∀ {b : Addr} {o : Obj}, s₁.heap.get? b = some o → H b = none → (hidT s₁.heap H).get? b = some o := fun e n => hidT_get e n
    have unD : ∀ {b : Addr} {o : Obj} {es : Array DictEntry} {ep : Nat}, s₁.heap.get? b = some o → o.data = .dict es ep → H b = none := fun e d => un e (fun _ _ z => by rw [d] at z; cases z) fun z => by rw [d] at z; cases z
    have nsK : ∀ {b : Addr} {m : Str → Option Value}, s₁.heap.Ns b m → (hidT s₁.heap H).Ns b m := fun ⟨o, es, ep, e, d, r⟩ => ⟨o, es, ep, stays e (unD e d), d, r⟩
    have hKb : K.In (hidT s₁.heap H) := fun b o e => stays (KX b o e) (by
      by_cases hbT : b = T
      · subst hbT; rw [nT] at e; cases e
      · rcases h2 b hbT with q | ⟨rfl, n, _⟩
        · exact q
        · rw [n] at e; cases e)
    have hM : L2.Mod K mg (hidT s₁.heap H) := ⟨hKb, nsK hns, ⟨mb, nsK hb, hbb⟩, let ⟨mc, g1, g2⟩ := hlim; ⟨mc, nsK g1, g2⟩⟩
    have TB : TabB (hidT s₁.heap H) mg c T := by
      refine ⟨?_, ?_, fun z => ?_⟩
      · obtain ⟨o, us, file, tf, flags, tg, inF, text, tt, e1, r1, r2, r3, r4, r5, r6, r7, r8, hne⟩ := C
        refine ⟨o, us, file, tf, flags, tg, inF, text, tt, stays e1 (un e1 (fun _ _ z => by rw [r2] at z; cases z) fun z => ?_), r1, r2, r3, r4, r5, r6, r7, r8, hne⟩
        rw [r2] at z
        cases z
        simp at r3
      · obtain ⟨bm, ob, b1, b2, b3, b4, b5, b6⟩ := hbm
        refine ⟨bm, ob, b1, b2, fun q => ?_, fun q => ?_, stays b3 (un b3 (fun _ _ z => by rw [b6] at z; cases z) fun z => by rw [b6] at z; cases z), b4, b5, b6⟩
        · obtain ⟨o, es, ep, e, hd, _⟩ := hns
          rw [q, e] at b3
          cases b3
          rw [hd] at b6
          cases b6
        · rw [q, hT] at b3
          cases b3
          cases b6
      · obtain ⟨o, es, ep, e, hd, _⟩ := hns
        rw [z, hT] at e
        cases e
        cases hd
    obtain ⟨mm, osy, esy, epy, gsy, dsy, _⟩ := hsy
    have e0 : Env0 P w K mg (hidT s₁.heap H) callerA [] s₁ H := ⟨rfl, hM, fun b o e => of_hidT e, Nat.le_of_eq (hidT_size _ _), trivial, fun b hb => absurd (show b ∈ ([] : List Addr) from hb) (by simp), hok, .of_eq hg⟩
    refine codeAny_mono ((F _ hKb (nsK hns) TB).run s₁ H ⟨[.ref a], []⟩ [.ref a] [.ref a] _ _ ⟨osy, gsy⟩ (unD gsy dsy) e0 (hbind s₁ (.ref a)) (.cons rfl .nil) (hsp H h1 hS)) fun r s' h => ?_
    cases r with
    | error e => exact (hCX H e s' h).elim
    | ok fl =>
      cases fl with
      | next => exact False.elim h
      | brk => exact False.elim h
      | cont => exact False.elim h
      | ret u =>
        obtain ⟨v, H', os, bare, uu, hok', r', q⟩ := h
        have q' : v = .bl true := q
        subst q'
        obtain rfl : u = Value.bool true := r'
        have key : ∀ b o, b ≠ T → s₁.heap.get? b = some o → s'.heap.get? b = some o := fun b o nb e => by
          rcases h2 b nb with z | ⟨rfl, _, z⟩
          · exact uu.keep b o e z (by intro y; exact absurd (show b ∈ ([] : List Addr) from y) (by simp)) (by simp)
          · obtain ⟨e2, _⟩ := hok' b _ (uu.frzs b _ _ z)
            rw [ha] at e
            cases e
            exact e2
        obtain ⟨more, hmore⟩ := uu.tbls T #[] h1
        have hm := hok' T _ hmore
        refine ⟨rfl, ⟨fun b o e => ?_, fun b o e => ?_⟩, os, bare⟩
        · by_cases hbT : b = T
          · subst hbT
            rw [hT] at e
            cases e
            exact .inr (.inl ⟨(C.tab hT).isCodeTable, rfl, #[], #[] ++ more, rfl, by rw [Array.empty_append]; exact hm⟩)
          · exact .inl (key b o hbT e)
        · by_cases hbT : b = T
          · subst hbT; exact ⟨_, hm⟩
          · exact ⟨o, key b o hbT e⟩
  cases hk : K.lookup a with
  | some o =>
    have e := KX a o hk
    rw [ha] at e
    cases e
    exact core (fun b => if b = T then some (.tbl #[]) else none) (if_pos rfl) (fun b nb => .inl (if_neg nb)) (.inr ⟨_, vs.toArray, _, hk, rfl, rfl, rfl, by rw [List.size_toArray, lenV]; exact hl, by simpa using rv⟩)
  | none =>
    refine core (fun b => if b = T then some (.tbl #[]) else if b = a then some (.frz { cls := .type "list", data := .seq vs.toArray } (.lst (ns.map V.int))) else none) (if_pos rfl) (fun b nb => ?_) (.inl (.inr ⟨{ cls := .type "list", data := .seq vs.toArray }, (if_neg naT).trans (if_pos rfl)⟩))
    by_cases hba : b = a
    · exact .inr ⟨hba, hk, (if_neg nb).trans (if_pos hba)⟩
    · exact .inl ((if_neg nb).trans (if_neg hba))
/-- what is known of the law's promise at the head's heap h -/
def LawG (l : PySem.W.OpenLaw) (w : World) (K : PySem.W.Frag) (x : Str) (mg : Str → Option Value) (fa : Addr) (h : Heap) : Prop :=
  ∃ (fd : FuncData) (c T : Addr) (sp : Sp), h.get? T = some { cls := .none, data := .fields #[] } ∧ K.lookup T = none ∧ PySem.W.CodeHd h c T ∧ (∀ (s : Shared) (u : Value), BindsTo s fd ⟨[u], []⟩ [(x, u)]) ∧
    (∀ (H : Hp) (a : Addr) (ns : List Int), ns.length ≤ 63 → (∀ z ∈ ns, Builtin.Int.intBits z ≤ 1048576) → H T = some (.tbl #[]) → SqL K H a (ns.map V.int) → sp [.ref a] H (fun v _ => v = .bl true) fun _ _ _ => False) ∧
    ∀ base : Heap, K.In base → base.Ns mainGlobals mg → TabB base mg c T → FnG l.prog w K mg base (L2.CX l.prog w) fa fd [x] sp
theorem walk_G {l : PySem.W.OpenLaw} {q : Program} {loose : List Str} {XP : (Str → Option Value) → Heap → Prop} {YP : World → Heap → Prop} {d : DefRec} {K : Params → PySem.W.Frag} {x : Str}
    (hn : l.most = some 63) (hdf : d.params.defaults = []) (hrec : ((recsOf q).any fun e => e.name == d.name) = true) (him : importsNone q = true) (hY : ∀ (w : World) (h : Heap), YP w h → (K w.params).In h)
    (F : ∀ (w : World) (mg : Str → Option Value) (fa : Addr) (h : Heap), (K w.params).In h → h.Ns mainGlobals mg → mg d.name = some (.ref fa) → OwnTab (K w.params) fa h → LawG l w (K w.params) x mg fa h) :
    PySem.W.WalkO q loose XP YP l.row.toRowW d [] (fun f vs => PySem.call f vs) := by
  refine Att.attach_callB hn hdf fun w s₀ s₁ mg mb fa o pm cd doc a vs ns G Y ho hd hcd hmg hobj hints hlen hbits hg => ?_
  have KX := hY w _ Y
  have own : OwnTab (K w.params) fa s₁.heap := fun c P o1 fd1 e dd vs1 sl k1 k2 k3 k4 k5 => by
    obtain ⟨dL, hm, hn1⟩ := List.any_eq_true.mp hrec
    have hn2 : dL.name = d.name := beq_iff_eq.mp hn1
    obtain ⟨a', o', fd', c', P', h1, h2, h3, h4, h5, h6⟩ := G.T.tab dL hm
    rw [hn2, hmg] at h1
    cases h1
    have g1 := KX _ _ k1
    rw [g1] at h2
    cases h2
    rw [k2] at h3
    cases h3
    rw [k3] at h4
    cases h4
    obtain ⟨⟨oc, vc, e1, _, e3, e4⟩, hP⟩ := h6
    have g2 := KX _ _ k4
    rw [g2] at e1
    cases e1
    cases e3
    rw [k5] at e4
    cases e4
    exact hP
  obtain ⟨fd, c, T, sp, hT, nT, C, hb, hsp, hF⟩ := F w mg fa _ KX G.T.g hmg own
  refine call_lawG KX G.T.g G.T.b G.T.builtins G.T.nolimit hg (let ⟨mm, m1, _⟩ := (G.T.seer him).mods; ⟨mm, m1⟩) hT nT C G.T.bmain hobj hints (Nat.le_trans hlen (by decide)) hF hb (fun H hH hS => hsp H a ns hlen hbits hH hS) fun H e s' z => ?_
  obtain ⟨_, _, _, _, _, _, _, _, _, _, _, _, z⟩ := z
  exact z
theorem lawG {l : PySem.W.OpenLaw} {w : World} {K : PySem.W.Frag} {x : Str} {mg : Str → Option Value} {fa c P : Addr} {h : Heap} {fd : FuncData} {Xc : Nat → Addr} {f : List D → Res D} {τ : List Kd} {o : Obj} {e : Value} {dd : Option Addr} {vs : Array Value} {sl : Array (Option Value)}
    (KX : K.In h) (own : OwnTab K fa h) (k1 : K.lookup fa = some o) (k2 : o.data = .func fd) (k3 : fd.code = .ref c) (k4 : K.lookup c = some ⟨e, dd, .fields vs, sl⟩) (k5 : vs[11]? = some (.ref P)) (k6 : K.lookup P = none) (k7 : PySem.W.codeHdIn K c P = true)
    (hτ : ∀ P' q, Kd.tb P' q ∈ τ → P' = P ∧ q = lamQ) (hb : ∀ (s : Shared) (u : Value), BindsTo s fd ⟨[u], []⟩ [(x, u)])
    (law_true : ∀ ns : List Int, ns.length ≤ 63 → (∀ z ∈ ns, Builtin.Int.intBits z ≤ 1048576) → f [.list (ns.map .int)] = .ok (.bool true))
    (F : ∀ base : Heap, K.In base → base.Ns mainGlobals mg → TabB base mg c P → FnG l.prog w K mg base (L2.CX l.prog w) fa fd [x] (fun vs H Q E => (∀ P q, Kd.tb P q ∈ τ → TabQ H P q) ∧ spD K Xc [.scr] false f vs H Q E)) : LawG l w K x mg fa h := by
  refine ⟨fd, c, P, _, own c P o fd e dd vs sl k1 k2 k3 k4 k5, k6, PySem.W.codeHd_of_K KX k7, hb, fun H a ns hl hbt hT hS => ⟨fun P' q hm => ?_, ?_⟩, F⟩
  · obtain ⟨rfl, rfl⟩ := hτ P' q hm
    exact ⟨rfl, TabS.nil hT⟩
  · refine ⟨[.list (ns.map .int)], fun _ => False, fun _ z => z.elim, .cons ⟨a, _, _, rfl, rfl, ?_, dql_ints ns⟩ .nil, ?_⟩
    · rcases hS with (h | h) | h
      · exact .inr (.inr ⟨id, h⟩)
      · exact .inl h
      · exact .inr (.inl h)
    · rw [law_true ns hl hbt]
      intro v H' e r
      cases r
      rfl
end Dn
set_option Elab.async false
set_option linter.all false
set_option maxRecDepth 100000
/-! evaluation of denotations by simp only: a lemma a combinator, applied, parts behind a choice left as they are -/
namespace Dn
open PySem L2
section
variable {ρ ρ' : Rho} {f fa fb fc : Rho → Res D} {g g1 g2 gb : Rho → Out} {gs : Rho → Res (List D)} {i j n : Nat} {d d' : D} {ds xs : List D} {h : D → Rho → Option Rho} {ga gc : Rho → Res Bool} {o : Out} {b : Bool}
def seqO (o : Out) (g : Rho → Out) : Out := match o with
  | .next ρ => g ρ
  | o => o
theorem sSeq_ev : sSeq g1 g2 ρ = seqO (g1 ρ) g2 := rfl
theorem seqO_next : seqO (.next ρ) g = g ρ := rfl
theorem seqO_ret : seqO (.ret d) g = .ret d := rfl
theorem seqO_brk : seqO (.brk ρ) g = .brk ρ := rfl
theorem seqO_cont : seqO (.cont ρ) g = .cont ρ := rfl
theorem seqO_exc {c : Nat} : seqO (.exc c) g = .exc c := rfl
def ifO (c : Res Bool) (g1 g2 : Rho → Out) (ρ : Rho) : Out := outOf c fun c => if c = true then g1 ρ else g2 ρ
theorem sIf_ev : sIf gc g1 g2 ρ = ifO (gc ρ) g1 g2 ρ := rfl
theorem ifO_true : ifO (.ok true) g1 g2 ρ = g1 ρ := rfl
theorem ifO_false : ifO (.ok false) g1 g2 ρ = g2 ρ := rfl
theorem sNext_ev : sNext ρ = .next ρ := rfl
def asgV (r : Res D) (i : Nat) (ρ : Rho) : Out := outOf r fun d => .next (ρ.set i (some d))
theorem sAsg_ev : sAsg i f ρ = asgV (f ρ) i ρ := rfl
theorem asgV_ok : asgV (.ok d) i ρ = .next (ρ.set i (some d)) := rfl
def asgW (r : Res D) (i : Nat) (ρ : Rho) : Out := outOf r fun d => if isMut d = true then .next (ρ.set i (some d)) else .bad
theorem sAsgO_ev : sAsgO i f ρ = asgW (f ρ) i ρ := rfl
theorem asgW_list : asgW (.ok (.list ds)) i ρ = .next (ρ.set i (some (.list ds))) := rfl
def retV (r : Res D) : Out := outOf r .ret
theorem sRet_ev : sRet f ρ = retV (f ρ) := rfl
theorem retV_ok : retV (.ok d) = .ret d := rfl
def dropV (r : Res D) (ρ : Rho) : Out := outOf r fun _ => .next ρ
theorem sDrop_ev : sDrop f ρ = dropV (f ρ) ρ := rfl
theorem dropV_ok : dropV (.ok d) ρ = .next ρ := rfl
def forO (r : Res (List D)) (h : D → Rho → Option Rho) (gb : Rho → Out) (ρ : Rho) : Out := outOf r fun ds => loopD h gb ds ρ
theorem sFor_ev {fi : Rho → Res (List D)} : sFor fi h gb ρ = forO (fi ρ) h gb ρ := rfl
theorem forO_ok : forO (.ok ds) h gb ρ = loopD h gb ds ρ := rfl
theorem loopD_nil : loopD h gb [] ρ = .next ρ := rfl
def loopB (o : Out) (h : D → Rho → Option Rho) (gb : Rho → Out) (ds : List D) : Out := match o with
  | .next ρ2 => loopD h gb ds ρ2
  | .cont ρ2 => loopD h gb ds ρ2
  | .brk ρ2 => .next ρ2
  | o => o
def loopA (r : Option Rho) (h : D → Rho → Option Rho) (gb : Rho → Out) (ds : List D) : Out := match r with
  | none => .bad
  | some ρ1 => loopB (gb ρ1) h gb ds
theorem loopD_cons : loopD h gb (d :: ds) ρ = loopA (h d ρ) h gb ds := by
  rw [loopD]
  unfold loopA loopB
  cases h d ρ with
  | none => rfl
  | some ρ1 => first | rfl | (dsimp only; done) | (dsimp only; cases gb ρ1 <;> rfl)
theorem loopA_some : loopA (some ρ) h gb ds = loopB (gb ρ) h gb ds := rfl
theorem loopB_next : loopB (.next ρ) h gb ds = loopD h gb ds ρ := rfl
theorem loopB_cont : loopB (.cont ρ) h gb ds = loopD h gb ds ρ := rfl
theorem loopB_brk : loopB (.brk ρ) h gb ds = .next ρ := rfl
theorem loopB_ret : loopB (.ret d) h gb ds = .ret d := rfl
theorem gN_ev : gN i d ρ = some (ρ.set i (some d)) := rfl
def varO (x : Option (Option D)) : Res D := match x with
  | some (some d) => .ok d
  | _ => .bad
theorem eVar_ev : eVar i ρ = varO ρ[i]? := rfl
theorem varO_some : varO (some (some d)) = .ok d := rfl
theorem eC_ev : eC d ρ = .ok d := rfl
def bin2 (g : D → D → Option D) (x y : Res D) : Res D := x.bind fun x => y.bind fun y => ofO (g x y)
theorem eBin_ev {g : D → D → Option D} : eBin g fa fb ρ = bin2 g (fa ρ) (fb ρ) := rfl
theorem bin2_ok {g : D → D → Option D} : bin2 g (.ok d) (.ok d') = ofO (g d d') := rfl
theorem ofO_some {α : Type} {a : α} : ofO (some a) = .ok a := rfl
def un1 (g : D → Option D) (x : Res D) : Res D := x.bind fun x => ofO (g x)
theorem eUn_ev {g : D → Option D} : eUn g fa ρ = un1 g (fa ρ) := rfl
theorem un1_ok {g : D → Option D} : un1 g (.ok d) = ofO (g d) := rfl
def tBo (x : Res D) : Res Bool := x.bind toB
theorem eT_ev : eT f ρ = tBo (f ρ) := rfl
theorem tBo_ok : tBo (.ok (.bool b)) = .ok b := rfl
def truO (x : Res D) : Res Bool := x.bind fun d => ofO (truD d)
theorem eTru_ev : eTru f ρ = truO (f ρ) := rfl
theorem truO_bool : truO (.ok (.bool b)) = .ok b := rfl
def notO (x : Res Bool) : Res Bool := x.bind fun b => .ok (!b)
theorem tNotR_ev : tNotR ga ρ = notO (ga ρ) := rfl
theorem notO_ok : notO (.ok b) = .ok (!b) := rfl
def andT (x : Res Bool) (gb : Rho → Res Bool) (ρ : Rho) : Res Bool := x.bind fun b => if b = true then gb ρ else .ok false
theorem tAndR_ev {gb : Rho → Res Bool} : tAndR ga gb ρ = andT (ga ρ) gb ρ := rfl
theorem andT_true {gb : Rho → Res Bool} : andT (.ok true) gb ρ = gb ρ := rfl
theorem andT_false {gb : Rho → Res Bool} : andT (.ok false) gb ρ = .ok false := rfl
def orT (x : Res Bool) (gb : Rho → Res Bool) (ρ : Rho) : Res Bool := x.bind fun b => if b = true then .ok true else gb ρ
theorem tOrR_ev {gb : Rho → Res Bool} : tOrR ga gb ρ = orT (ga ρ) gb ρ := rfl
theorem orT_true {gb : Rho → Res Bool} : orT (.ok true) gb ρ = .ok true := rfl
theorem orT_false {gb : Rho → Res Bool} : orT (.ok false) gb ρ = gb ρ := rfl
def andE (x : Res D) (fb : Rho → Res D) (ρ : Rho) : Res D := x.bind fun x => (toB x).bind fun c => if c = true then fb ρ else .ok (.bool false)
theorem eAnd_ev : eAnd fa fb ρ = andE (fa ρ) fb ρ := rfl
theorem andE_true : andE (.ok (.bool true)) fb ρ = fb ρ := rfl
theorem andE_false : andE (.ok (.bool false)) fb ρ = .ok (.bool false) := rfl
def orE (x : Res D) (fb : Rho → Res D) (ρ : Rho) : Res D := x.bind fun x => (toB x).bind fun c => if c = true then .ok (.bool true) else fb ρ
theorem eOr_ev : eOr fa fb ρ = orE (fa ρ) fb ρ := rfl
theorem orE_true : orE (.ok (.bool true)) fb ρ = .ok (.bool true) := rfl
theorem orE_false : orE (.ok (.bool false)) fb ρ = fb ρ := rfl
def notE (x : Res D) : Res D := x.bind fun x => (toB x).bind fun c => .ok (.bool !c)
theorem eNot_ev : eNot fa ρ = notE (fa ρ) := rfl
theorem notE_ok : notE (.ok (.bool b)) = .ok (.bool !b) := rfl
def ifE (c : Res Bool) (fa fb : Rho → Res D) (ρ : Rho) : Res D := c.bind fun c => if c = true then fa ρ else fb ρ
theorem eIf_ev : eIf gc fa fb ρ = ifE (gc ρ) fa fb ρ := rfl
theorem ifE_true : ifE (.ok true) fa fb ρ = fa ρ := rfl
theorem ifE_false : ifE (.ok false) fa fb ρ = fb ρ := rfl
theorem aNil_ev : aNil ρ = .ok [] := rfl
def consA (x : Res D) (xs : Res (List D)) : Res (List D) := x.bind fun x => xs.bind fun xs => .ok (x :: xs)
theorem aCons_ev : aCons fa gs ρ = consA (fa ρ) (gs ρ) := rfl
theorem consA_ok : consA (.ok d) (.ok ds) = .ok (d :: ds) := rfl
def lstE (x : Res (List D)) : Res D := x.bind fun ds => if fits ds = true then .ok (.list ds) else .bad
theorem eLst_ev : eLst gs ρ = lstE (gs ρ) := rfl
theorem lstE_ok (hf : fits ds = true) : lstE (.ok ds) = .ok (.list ds) := by show (if fits ds = true then Res.ok (PyData.list ds) else .bad) = _; rw [if_pos hf]
def tupE (x : Res (List D)) : Res D := x.bind fun ds => if fits ds = true then .ok (.tuple ds) else .bad
theorem eTup_ev : eTup gs ρ = tupE (gs ρ) := rfl
theorem tupE_ok (hf : fits ds = true) : tupE (.ok ds) = .ok (.tuple ds) := by show (if fits ds = true then Res.ok (PyData.tuple ds) else .bad) = _; rw [if_pos hf]
def callE (n : Nat) (fn : List D → Res D) (x : Res (List D)) : Res D := x.bind fun ds => if ds.length = n then fn ds else .bad
theorem eCall_ev {fn : List D → Res D} : eCall n fn gs ρ = callE n fn (gs ρ) := rfl
theorem callE_1 {fn : List D → Res D} {a : D} : callE 1 fn (.ok [a]) = fn [a] := rfl
theorem callE_2 {fn : List D → Res D} {a b : D} : callE 2 fn (.ok [a, b]) = fn [a, b] := rfl
theorem callE_4 {fn : List D → Res D} {a b c e : D} : callE 4 fn (.ok [a, b, c, e]) = fn [a, b, c, e] := rfl
theorem callE_5 {fn : List D → Res D} {a b c e f : D} : callE 5 fn (.ok [a, b, c, e, f]) = fn [a, b, c, e, f] := rfl
theorem callE_3 {fn : List D → Res D} {a b c : D} : callE 3 fn (.ok [a, b, c]) = fn [a, b, c] := rfl
def biE (g : List D → Option D) (x : Res (List D)) : Res D := x.bind fun ds => ofO (g ds)
theorem eBi_ev {g : List D → Option D} : eBi g gs ρ = biE g (gs ρ) := rfl
theorem biE_ok {g : List D → Option D} : biE g (.ok ds) = ofO (g ds) := rfl
def callS (fn : List D → Res D) (x y : Res D) : Res D := x.bind fun x => y.bind fun y => fn [x, y]
theorem eCallS_ev {fn : List D → Res D} : eCallS i fn fb ρ = callS fn (eVar i ρ) (fb ρ) := rfl
theorem callS_ok {fn : List D → Res D} : callS fn (.ok d) (.ok d') = fn [d, d'] := rfl
def rg1 (x : Res (List D)) : Res (List D) := x.bind fun ds => ofO (range1D ds)
theorem iRange1_ev : iRange1 gs ρ = rg1 (gs ρ) := rfl
theorem rg1_ok {k : Int} (h1 : -(2 ^ 62) ≤ k) (h2 : k < 2 ^ 62) : rg1 (.ok [.int k]) = .ok (rangeD 0 k.toNat) := by show ofO (if -(2 ^ 62) ≤ k ∧ k < 2 ^ 62 then some (rangeD 0 k.toNat) else none) = _; rw [if_pos ⟨h1, h2⟩]; rfl
def rg2 (x : Res (List D)) : Res (List D) := x.bind fun ds => ofO (range2D ds)
theorem iRange2_ev : iRange2 gs ρ = rg2 (gs ρ) := rfl
theorem rg2_ok {k l : Int} (h1 : -(2 ^ 62) ≤ k) (h2 : k < 2 ^ 62) (h3 : -(2 ^ 62) ≤ l) (h4 : l < 2 ^ 62) : rg2 (.ok [.int k, .int l]) = .ok (rangeD k (l - k).toNat) := by show ofO (if -(2 ^ 62) ≤ k ∧ k < 2 ^ 62 ∧ -(2 ^ 62) ≤ l ∧ l < 2 ^ 62 then some (rangeD k (l - k).toNat) else none) = _; rw [if_pos ⟨h1, h2, h3, h4⟩]; rfl
def anyI (x : Res D) : Res (List D) := x.bind fun d => ofO (itemsD d)
theorem iAny_ev : iAny f ρ = anyI (f ρ) := rfl
theorem anyI_list : anyI (.ok (.list ds)) = .ok ds := rfl
theorem anyI_tuple : anyI (.ok (.tuple ds)) = .ok ds := rfl
def compE (x : Res (List D)) (h : D → Rho → Option Rho) (ft : Rho → Res Bool) (fe : Rho → Res D) (vs : List Nat) (ρ : Rho) : Res D := x.bind fun ds => (noX (compD h ft fe (wipeR ρ vs) ds)).bind fun ys => if fits ys = true then .ok (.list ys) else .bad
theorem eComp_ev {fi : Rho → Res (List D)} {ft : Rho → Res Bool} {vs : List Nat} : eComp fi h ft f vs ρ = compE (fi ρ) h ft f vs ρ := rfl
/-- a comprehension whose parts come to ys -/
theorem compE_ok {ft : Rho → Res Bool} {vs : List Nat} {ys : List D} (hc : compD h ft f (wipeR ρ vs) ds = .ok ys) (hf : fits ys = true) : compE (.ok ds) h ft f vs ρ = .ok (.list ys) := by
  show (noX (compD h ft f (wipeR ρ vs) ds)).bind _ = _
  rw [hc]
  show (if fits ys = true then Res.ok (PyData.list ys) else .bad) = _
  rw [if_pos hf]
/-- .. without a test, each part by a function -/
theorem compD_map {F : D → D} : ∀ {ds : List D}, (∀ d ∈ ds, (ofO (h d ρ)).bind f = .ok (F d)) → compD h (fun _ => .ok true) f ρ ds = .ok (ds.map F)
  | [], _ => rfl
  | d :: ds, hd => by
    have h1 := hd d (List.mem_cons_self ..)
    have h2 := compD_map fun x hx => hd x (List.mem_cons_of_mem _ hx)
    unfold compD
    cases hh : h d ρ with
    | none => rw [hh] at h1; cases h1
    | some ρ1 =>
      rw [hh] at h1
      have h1 : f ρ1 = .ok (F d) := h1
      show (f ρ1).bind (fun y => (compD h (fun _ => .ok true) f ρ ds).bind fun ys => .ok (y :: ys)) = _
      rw [h1, h2]
      rfl
end
theorem log2_le {n m : Nat} (h : n < 2 ^ (m + 1)) : n.log2 ≤ m := by
  by_cases h0 : n = 0
  · subst h0; simp
  · have := (Nat.log2_lt h0).mpr h
    omega
theorem mul_small {i j : Int} (a b : Nat) (hi : i.natAbs < 2 ^ (a + 1)) (hj : j.natAbs < 2 ^ (b + 1)) (h : a + b < 1000000) : mulD (.int i) (.int j) = some (.int (i * j)) := by
  have h1 := log2_le hi
  have h2 := log2_le hj
  show (if i.natAbs.log2 + j.natAbs.log2 < 1000000 then some (PyData.int (i * j)) else none) = _
  rw [if_pos (by omega)]
theorem add_int (i j : Int) : addD (.int i) (.int j) = some (.int (i + j)) := rfl
theorem sub_int (i j : Int) : subD (.int i) (.int j) = some (.int (i - j)) := rfl
theorem mod_int {i j : Int} (h : 0 < j) : modD (.int i) (.int j) = some (.int (i % j)) := if_pos h
theorem fdiv_int {i j : Int} (h : 0 < j) (h2 : j.natAbs < 2 ^ 100) : fdivD (.int i) (.int j) = some (.int (i / j)) := if_pos ⟨h, Nat.lt_of_le_of_lt (log2_le (m := 99) h2) (by decide)⟩
theorem ge_int (i j : Int) : geD (.int i) (.int j) = some (.bool (decide (j ≤ i))) := rfl
theorem le_int (i j : Int) : leD (.int i) (.int j) = some (.bool (decide (i ≤ j))) := rfl
theorem gt_int (i j : Int) : gtD (.int i) (.int j) = some (.bool (decide (j < i))) := rfl
theorem lt_int (i j : Int) : ltD (.int i) (.int j) = some (.bool (decide (i < j))) := rfl
theorem eq_int (i j : Int) : eqD (.int i) (.int j) = some (.bool (i == j)) := rfl
theorem ne_int (i j : Int) : neD (.int i) (.int j) = some (.bool (!(i == j))) := rfl
theorem pow18 : powD (.int 10) (.int 18) = some (.int 1000000000000000000) := by
  show (if (0 : Int) ≤ 18 ∧ (18 : Int) ≤ 1000000 ∧ (10 : Int).natAbs < 2 ^ 64 then some (PyData.int (10 ^ (18 : Int).toNat)) else none) = _
  rw [if_pos (by decide)]
  rfl
end Dn
namespace Dn
open PySem L2
section
variable {ρ ρ' : Rho} {gb : Rho → Out} {gc : Rho → Res Bool} {gs : Rho → Res (List D)} {n : Nat} {ds : List D}
theorem sWhile_true (h : gc ρ = .ok true) (hb : gb ρ = .next ρ') : sWhile gc gb (n + 1) ρ = sWhile gc gb n ρ' := by
  rw [sWhile, h]
  show (match gb ρ with
      | .next ρ' => sWhile gc gb n ρ'
      | .cont ρ' => sWhile gc gb n ρ'
      | .brk ρ' => .next ρ'
      | o => o) = _
  rw [hb]
theorem sWhile_false (h : gc ρ = .ok false) : sWhile gc gb (n + 1) ρ = .next ρ := by
  rw [sWhile, h]
  rfl
def enE (x : Res (List D)) : Res (List D) := x.bind fun ds => ofO (enumD ds)
theorem iEnum_ev : iEnum gs ρ = enE (gs ρ) := rfl
def slE (x : Res D) (lo hi : Res (Option Int)) : Res D := x.bind fun x => lo.bind fun lo => hi.bind fun hi => ofO (cutD lo hi x)
theorem eSl_ev {f : Rho → Res D} {fl fh : Rho → Res (Option Int)} : eSl f fl fh ρ = slE (f ρ) (fl ρ) (fh ρ) := rfl
theorem oNone_ev : oNone ρ = .ok none := rfl
def soE (x : Res D) : Res (Option Int) := x.bind fun d => (toI d).bind fun i => .ok (some i)
theorem oSome_ev {f : Rho → Res D} : oSome f ρ = soE (f ρ) := rfl
theorem soE_ok {i : Int} : soE (.ok (.int i)) = .ok (some i) := rfl
theorem enE_list : enE (.ok [.list ds]) = .ok (enumFrom 0 ds) := rfl
theorem enE_tuple : enE (.ok [.tuple ds]) = .ok (enumFrom 0 ds) := rfl
end
def isOk {α : Type} : Res α → Bool
  | .ok _ => true
  | _ => false
def okv : Res D → D
  | .ok d => d
  | _ => .none
theorem ok_of {r : Res D} (h : isOk r = true) : r = .ok (okv r) := by
  cases r with
  | ok d => rfl
  | exc c => cases h
  | bad => cases h
def isF : Res Bool → Bool
  | .ok false => true
  | _ => false
theorem isF_of {r : Res Bool} (h : isF r = true) : r = .ok false := by
  match r, h with
  | .ok false, _ => rfl
theorem all_at {P : Nat → Bool} {m : Nat} (h : (List.range m).all P = true) {i : Nat} (hi : i < m) : P i = true := List.all_eq_true.mp h i (List.mem_range.mpr hi)
theorem map_at {α : Type} {F G : Nat → α} {m : Nat} (h : (List.range m).map F = (List.range m).map G) {i : Nat} (hi : i < m) : F i = G i := by
  have e := congrArg (fun l => l[i]?) h
  simpa [List.getElem?_map, List.getElem?_range hi] using e
section
open PySem.W PySem.Calls PyProof.Rows
theorem leAny_int (i j : Int) : leAny (.int i) (.int j) = decide (i ≤ j) := by
  have e : leAny (.int i) (.int j) = !(lexLt itemOrd [.inl j] [.inl i]) := by
    show sortLe (listOrd itemOrd) false (fun b => keyToks ((fun d : D => d) b)) (.int i) (.int j) = _
    unfold sortLe
    simp [keyToks]
  rw [e]
  by_cases h : i ≤ j
  · have h1 : ¬ j < i := by omega
    simp [PyProof.Rows.lexLt, itemOrd, itemLt, h, h1]
  · have h1 : j < i := by omega
    simp [PyProof.Rows.lexLt, itemOrd, itemLt, h, h1]
theorem sort_ints {ns ms : List Int} (hp : ms.Perm ns) (hs : ms.Pairwise (· ≤ ·)) : sortL (ns.map .int) = ms.map .int := by
  have h1 : (ns.mergeSort fun a b => decide (a ≤ b)).map PyData.int = (ns.map PyData.int).mergeSort leAny := List.map_mergeSort fun a _ b _ => (leAny_int a b).symm
  have h2 := List.pairwise_mergeSort (le := fun a b : Int => decide (a ≤ b)) (fun a b c h h' => by simp at *; omega) (fun a b => by simp; omega) ns
  have h3 : (ns.mergeSort fun a b => decide (a ≤ b)) = ms := by
    refine List.Perm.eq_of_pairwise (le := fun a b : Int => a ≤ b) (fun a b _ _ h h' => by omega) (h2.imp fun h => by simpa using h) hs ((List.mergeSort_perm ns _).trans hp.symm)
  show (ns.map PyData.int).mergeSort leAny = _
  rw [← h1, h3]
end
theorem at_nat {α : Type} (xs : List α) (k : Nat) : atI xs (k : Int) = xs[k]? := by
  unfold atI ixN
  by_cases h : k < xs.length
  · rw [if_pos (by omega), if_pos (by omega)]
    rfl
  · rw [if_pos (by omega), if_neg (by omega), List.getElem?_eq_none (by omega)]
    rfl
end Dn
set_option Elab.async false
set_option linter.all false
set_option maxRecDepth 100000
/-! plain laws: states by their first slots -/
namespace Dn
open PySem L2
/-- the first m slots and how many stand behind them -/
def obsP (m : Nat) (o : Out) : Option (Rho × Nat) := match o with
  | .next ρ => some (ρ.take m, (ρ.drop m).length)
  | _ => none
theorem obsP_next {m w : Nat} {o : Out} {vs : Rho} (h : obsP m o = some (vs, w)) : ∃ tl : Rho, tl.length = w ∧ o = .next (vs ++ tl) := by
  cases o with
  | next ρ =>
    injection h with h
    injection h with h1 h2
    exact ⟨ρ.drop m, h2, by rw [← h1, List.take_append_drop]⟩
  | _ => cases h
/-- a loop that keeps the first slots -/
theorem loop_st {h : D → Rho → Option Rho} {gb : Rho → Out} {vs : Rho} {w : Nat} : ∀ {ds : List D},
    (∀ d ∈ ds, ∀ tl : Rho, tl.length = w → ∃ ρ1, h d (vs ++ tl) = some ρ1 ∧ ∃ tl' : Rho, tl'.length = w ∧ gb ρ1 = .next (vs ++ tl')) → ∀ tl : Rho, tl.length = w → ∃ tl' : Rho, tl'.length = w ∧ loopD h gb ds (vs ++ tl) = .next (vs ++ tl')
  | [], _, tl, ht => ⟨tl, ht, rfl⟩
  | d :: ds, hs, tl, ht => by
    obtain ⟨ρ1, h1, tl1, h2, h3⟩ := hs d (List.mem_cons_self ..) tl ht
    obtain ⟨tl2, h4, h5⟩ := loop_st (fun x hx => hs x (List.mem_cons_of_mem _ hx)) tl1 h2
    refine ⟨tl2, h4, ?_⟩
    rw [loopD_cons, h1, loopA_some, h3, loopB_next, h5]
theorem mem_rangeD {lo : Int} {n : Nat} {d : D} (h : d ∈ rangeD lo n) : ∃ i : Nat, i < n ∧ d = .int (lo + (i : Int)) := by
  unfold rangeD at h
  obtain ⟨i, hi, rfl⟩ := List.mem_map.mp h
  exact ⟨i, List.mem_range.mp hi, rfl⟩
theorem scr_len (ns : List Int) : lenScr (.list (ns.map .int)) = some (.int (ns.length : Int)) := by show some (PyData.int ((ns.map PyData.int).length : Int)) = _; rw [List.length_map]
/-- range(max(1, min(len(script), c))) -/
theorem turns_ok (ns : List Int) (hn : ns.length ≤ 63) (c : Nat) (hc : 1 ≤ c) (hc2 : c ≤ 1000) (tl : Rho) : ∃ m : Nat,
    iRange1 (aCons (eBi maxD (aCons (eC (.int 1)) (aCons (eBi minD (aCons (eUn lenScr (eVar 0)) (aCons (eC (.int (c : Int))) aNil))) aNil))) aNil) (some (.list (ns.map .int)) :: tl) = .ok (rangeD 0 m) := by
  have e3 : ∃ l : Nat, l ≤ 1000 ∧ biE minD (.ok [.int (ns.length : Int), .int (c : Int)]) = .ok (.int (l : Int)) := by
    by_cases h : (c : Int) < (ns.length : Int)
    · refine ⟨c, hc2, ?_⟩
      show Res.ok (PyData.int (if (c : Int) < (ns.length : Int) then (c : Int) else (ns.length : Int))) = _
      rw [if_pos h]
    · refine ⟨ns.length, by omega, ?_⟩
      show Res.ok (PyData.int (if (c : Int) < (ns.length : Int) then (c : Int) else (ns.length : Int))) = _
      rw [if_neg h]
  obtain ⟨l, hl, e3⟩ := e3
  have e2 : ∃ m : Nat, m ≤ 1000 ∧ biE maxD (.ok [.int 1, .int (l : Int)]) = .ok (.int (m : Int)) := by
    by_cases h : (l : Int) > 1
    · refine ⟨l, hl, ?_⟩
      show Res.ok (PyData.int (if (l : Int) > 1 then (l : Int) else 1)) = _
      rw [if_pos h]
    · refine ⟨1, by decide, ?_⟩
      show Res.ok (PyData.int (if (l : Int) > 1 then (l : Int) else 1)) = _
      rw [if_neg h]
      rfl
  obtain ⟨m, hm, e2⟩ := e2
  refine ⟨m, ?_⟩
  simp only [iRange1_ev, aCons_ev, aNil_ev, eBi_ev, eC_ev, eUn_ev, eVar_ev, List.getElem?_cons_zero, varO_some, un1_ok, scr_len, ofO_some, consA_ok, e3, e2, rg1_ok (k := (m : Int)) (by omega) (by omega)]
  rw [Int.toNat_natCast]
/-- a function that is told by another one at what is asked -/
theorem fn_eq {f g : List D → Res D} (h : ∀ ds, f ds = g ds) : f = g := funext h
theorem Ret.of {o : Out} {d : D} (h : o = .ret d) : resOf o = .ok d := by rw [h]; rfl
end Dn
set_option Elab.async false
set_option linter.all false
set_option maxRecDepth 100000
/-! plain laws: rows of ints -/
namespace Dn
open PySem L2
abbrev tI (ns : List Int) : D := .tuple (ns.map .int)
abbrev lI (ns : List Int) : D := .list (ns.map .int)
/-- lo, lo + 1, .. : n of them -/
def iota (lo : Int) (n : Nat) : List Int := (List.range n).map fun (i : Nat) => lo + (i : Int)
theorem rangeD_iota (lo : Int) (n : Nat) : rangeD lo n = (iota lo n).map .int := by unfold rangeD iota; rw [List.map_map]; rfl
theorem iota_length (lo : Int) (n : Nat) : (iota lo n).length = n := by unfold iota; rw [List.length_map, List.length_range]
theorem mem_iota {lo : Int} {n : Nat} {x : Int} : x ∈ iota lo n ↔ lo ≤ x ∧ x < lo + n := by
  unfold iota
  rw [List.mem_map]
  refine ⟨fun ⟨i, hi, e⟩ => ?_, fun h => ⟨(x - lo).toNat, List.mem_range.mpr (by omega), by omega⟩⟩
  have := List.mem_range.mp hi
  omega
theorem iota_get {lo : Int} {n i : Nat} (h : i < n) : (iota lo n)[i]? = some (lo + (i : Int)) := by
  unfold iota
  rw [List.getElem?_map, List.getElem?_range h]
  rfl
theorem iota_nodup (lo : Int) (n : Nat) : (iota lo n).Nodup := by
  unfold iota
  refine List.pairwise_map.mpr ((List.nodup_range (n := n)).imp fun h => ?_)
  intro e
  exact h (by omega)
theorem iota_sorted (lo : Int) (n : Nat) : (iota lo n).Pairwise (· ≤ ·) := by
  unfold iota
  refine List.pairwise_map.mpr ((List.pairwise_lt_range (n := n)).imp fun h => ?_)
  omega
theorem iota_succ (lo : Int) (n : Nat) : iota lo (n + 1) = iota lo n ++ [lo + (n : Int)] := by
  unfold iota; rw [List.range_succ, List.map_append]; rfl
theorem iota_zero (lo : Int) : iota lo 0 = [] := rfl
/-! ### texts of the model on them -/
theorem canLay_ints : ∀ ns : List Int, PyData.canLayAll0 (ns.map .int) = true
  | [] => by simp only [List.map_nil, PyData.canLayAll0]
  | n :: ns => by simp only [List.map_cons, PyData.canLayAll0, PyData.canLay0, canLay_ints ns, Bool.and_self]
theorem depth_ints : ∀ ns : List Int, PyData.depthAll (ns.map .int) = 0
  | [] => by simp only [List.map_nil, PyData.depthAll]
  | n :: ns => by simp only [List.map_cons, PyData.depthAll, PyData.depth, depth_ints ns, Nat.max_self]
theorem shaped_int (i : Int) : SeqAt.shaped (.int i) = true := by
  unfold SeqAt.shaped; simp [PyData.canLay0, PyData.depth]
theorem shaped_tI (ns : List Int) : SeqAt.shaped (tI ns) = true := by
  unfold SeqAt.shaped
  simp only [PyData.canLay0, PyData.depth, canLay_ints, depth_ints]
  decide
theorem shaped_lI (ns : List Int) : SeqAt.shaped (lI ns) = true := by
  unfold SeqAt.shaped
  simp only [PyData.canLay0, PyData.depth, canLay_ints, depth_ints]
  decide
theorem eqv_ints : ∀ a b : List Int, PyData.eqvAll (a.map .int) (b.map .int) = decide (a = b)
  | [], [] => by simp [PyData.eqvAll]
  | [], _ :: _ => by simp [PyData.eqvAll]
  | _ :: _, [] => by simp [PyData.eqvAll]
  | x :: xs, y :: ys => by
    simp only [List.map_cons, PyData.eqvAll, PyData.eqv, eqv_ints xs ys]
    by_cases h : x = y
    · subst h; simp
    · simp [h]
theorem eq_tI (a b : List Int) : eqD (tI a) (tI b) = some (.bool (decide (a = b))) := by
  unfold eqD; rw [if_pos ⟨shaped_tI a, shaped_tI b⟩]; simp only [PyData.eqv, eqv_ints]
theorem ne_tI (a b : List Int) : neD (tI a) (tI b) = some (.bool (!decide (a = b))) := by
  unfold neD; rw [if_pos ⟨shaped_tI a, shaped_tI b⟩]; simp only [PyData.eqv, eqv_ints]
theorem eq_lI (a b : List Int) : eqD (lI a) (lI b) = some (.bool (decide (a = b))) := by
  unfold eqD; rw [if_pos ⟨shaped_lI a, shaped_lI b⟩]; simp only [PyData.eqv, eqv_ints]
theorem ne_lI (a b : List Int) : neD (lI a) (lI b) = some (.bool (!decide (a = b))) := by
  unfold neD; rw [if_pos ⟨shaped_lI a, shaped_lI b⟩]; simp only [PyData.eqv, eqv_ints]
theorem len_tI (ns : List Int) : lenD [tI ns] = some (.int (ns.length : Int)) := by
  show some (PyData.int ((ns.map PyData.int).length : Int)) = _; rw [List.length_map]
theorem len_lI (ns : List Int) : lenD [lI ns] = some (.int (ns.length : Int)) := by
  show some (PyData.int ((ns.map PyData.int).length : Int)) = _; rw [List.length_map]
theorem at_ints {ns : List Int} {i : Nat} (h : i < ns.length) : atI (ns.map PyData.int) (i : Int) = some (.int ns[i]) := by
  rw [at_nat, List.getElem?_map, List.getElem?_eq_getElem h]; rfl
theorem ix_tI {ns : List Int} {i : Nat} (h : i < ns.length) : ixD (tI ns) (.int (i : Int)) = some (.int ns[i]) := at_ints h
theorem ix_lI {ns : List Int} {i : Nat} (h : i < ns.length) : ixD (lI ns) (.int (i : Int)) = some (.int ns[i]) := at_ints h
theorem map_cut (ns : List Int) (lo hi : Option Int) : cutL (ns.map PyData.int) lo hi = (cutL ns lo hi).map PyData.int := by
  unfold cutL
  rw [List.length_map, List.map_take, List.map_drop]
theorem cut_tI (ns : List Int) (lo hi : Option Int) : cutD lo hi (tI ns) = some (tI (cutL ns lo hi)) := by
  show some (PyData.tuple (cutL (ns.map PyData.int) lo hi)) = _; rw [map_cut]
theorem cut_lI (ns : List Int) (lo hi : Option Int) : cutD lo hi (lI ns) = some (lI (cutL ns lo hi)) := by
  show some (PyData.list (cutL (ns.map PyData.int) lo hi)) = _; rw [map_cut]
theorem cutL_to {α : Type} (xs : List α) (k : Nat) : cutL xs none (some (k : Int)) = xs.take k := by
  unfold cutL
  rw [HT.sIx_none, HT.sIx_nat, List.drop_zero, Nat.sub_zero]
  by_cases h : k ≤ xs.length
  · rw [Nat.min_eq_left h]
  · rw [Nat.min_eq_right (by omega), List.take_of_length_le (Nat.le_refl _), List.take_of_length_le (by omega)]
theorem cutL_from {α : Type} (xs : List α) (k : Nat) : cutL xs (some (k : Int)) none = xs.drop k := by
  unfold cutL
  rw [HT.sIx_none, HT.sIx_nat]
  by_cases h : k ≤ xs.length
  · rw [Nat.min_eq_left h, List.take_of_length_le (by rw [List.length_drop]; omega)]
  · rw [Nat.min_eq_right (by omega), List.drop_of_length_le (Nat.le_refl _), List.drop_of_length_le (by omega), List.take_nil]
theorem add_tup {a b : List D} (h : a.length + b.length ≤ sizeLine) : addD (.tuple a) (.tuple b) = some (.tuple (a ++ b)) := if_pos h
theorem add_lst {a b : List D} (h : a.length + b.length ≤ sizeLine) : addD (.list a) (.list b) = some (.list (a ++ b)) := if_pos h
theorem rev_tI (ns : List Int) : revD (tI ns) = some (tI ns.reverse) := by
  show some (PyData.tuple (ns.map PyData.int).reverse) = _; rw [← List.map_reverse]
theorem rev_lI (ns : List Int) : revD (lI ns) = some (lI ns.reverse) := by
  show some (PyData.list (ns.map PyData.int).reverse) = _; rw [← List.map_reverse]
theorem tupT_lst (ds : List D) : tupleT [.list ds] = some (.tuple ds) := rfl
theorem tupT_tup (ds : List D) : tupleT [.tuple ds] = some (.tuple ds) := rfl
theorem lstT_tup (ds : List D) : listT [.tuple ds] = some (.list ds) := rfl
theorem lstT_lst (ds : List D) : listT [.list ds] = some (.list ds) := rfl
theorem fits_of {ds : List D} (h : ds.length ≤ 100000) : fits ds = true := by
  unfold fits
  exact decide_eq_true (Nat.le_trans h (by decide))
/-! ### sorted -/
theorem sortOk_ints (ns : List Int) : sortOk (ns.map .int) = true := by
  unfold sortOk alikeAllB
  simp only [Bool.and_eq_true, List.all_eq_true, Bool.or_eq_true]
  refine ⟨⟨fun d hd d' hd' => ?_, .inr fun d hd => ?_⟩, fun d hd => ?_⟩
  · obtain ⟨i, _, rfl⟩ := List.mem_map.mp hd
    obtain ⟨j, _, rfl⟩ := List.mem_map.mp hd'
    rfl
  · obtain ⟨i, _, rfl⟩ := List.mem_map.mp hd
    rfl
  · obtain ⟨i, _, rfl⟩ := List.mem_map.mp hd
    exact shaped_int i
/-- the ints, rising -/
def srt (ns : List Int) : List Int := ns.mergeSort fun a b => decide (a ≤ b)
theorem srt_perm (ns : List Int) : (srt ns).Perm ns := List.mergeSort_perm ns _
theorem srt_sorted (ns : List Int) : (srt ns).Pairwise (· ≤ ·) :=
  (List.pairwise_mergeSort (le := fun a b : Int => decide (a ≤ b)) (fun a b c h h' => by simp at *; omega) (fun a b => by simp; omega) ns).imp fun h => by simpa using h
theorem srt_eq {ns ms : List Int} (hp : ms.Perm ns) (hs : ms.Pairwise (· ≤ ·)) : srt ns = ms :=
  List.Perm.eq_of_pairwise (le := fun a b : Int => a ≤ b) (fun a b _ _ h h' => by omega) (srt_sorted ns) hs ((srt_perm ns).trans hp.symm)
theorem sortL_ints (ns : List Int) : sortL (ns.map .int) = (srt ns).map .int := sort_ints (srt_perm ns) (srt_sorted ns)
theorem sorted_tI (ns : List Int) : sortedD [tI ns] = some (lI (srt ns)) := by
  show (if sortOk (ns.map PyData.int) = true then some (PyData.list (sortL (ns.map .int))) else none) = _
  rw [if_pos (sortOk_ints ns), sortL_ints]
theorem sorted_lI (ns : List Int) : sortedD [lI ns] = some (lI (srt ns)) := by
  show (if sortOk (ns.map PyData.int) = true then some (PyData.list (sortL (ns.map .int))) else none) = _
  rw [if_pos (sortOk_ints ns), sortL_ints]
/-- rises from lo on without a gap: a permutation of lo, .. -/
theorem srt_iota (ns : List Int) (lo : Int) : srt ns = iota lo ns.length ↔ ns.Perm (iota lo ns.length) :=
  ⟨fun h => by rw [← h]; exact (srt_perm ns).symm, fun h => srt_eq h.symm (iota_sorted lo _)⟩
theorem dist_nodup : ∀ {ns : List Int}, ns.Nodup → dist ns = ns
  | [], _ => rfl
  | a :: l, h => by
    obtain ⟨h1, h2⟩ := List.nodup_cons.mp h
    unfold dist
    rw [if_neg (fun z => h1 (List.contains_iff_mem.mp z)), dist_nodup h2]
theorem intsT_map (ns : List Int) : intsT (ns.map .int) = some ns := by
  induction ns with
  | nil => rfl
  | cons n ns ih => simp only [List.map_cons, intsT, ih, Option.map_some]
theorem lenSet_tI {ns : List Int} (h : ns.length ≤ 4000) : lenSetD (tI ns) = some (.int ((dist ns).length : Nat)) := by
  show ((intsT (ns.map PyData.int)).bind fun ns => if ns.length ≤ 4000 then some (PyData.int ((dist ns).length : Nat)) else none) = _
  rw [intsT_map, Option.bind_some, if_pos h]
theorem rg_ok {a b : Int} (h1 : -(2 ^ 20) ≤ a) (h2 : a < 2 ^ 20) (h3 : -(2 ^ 20) ≤ b) (h4 : b < 2 ^ 20) : rgD a b = some (rangeD a (b - a).toNat) := if_pos ⟨by omega, by omega, by omega, by omega, by omega⟩
/-! ### comprehensions over ints -/
section
variable {ρ : Rho} {i : Nat} {f : Rho → Res D}
/-- each part to a datum -/
theorem compD_all {F : D → D} {ds : List D} (h : ∀ d ∈ ds, f (ρ.set i (some d)) = .ok (F d)) : compD (gN i) (fun _ => .ok true) f ρ ds = .ok (ds.map F) := compD_map fun d hd => h d hd
theorem compE_ints {F : Int → D} {vs : List Nat} {ns : List Int} (hn : ns.length ≤ 100000) (h : ∀ n ∈ ns, f ((wipeR ρ vs).set i (some (.int n))) = .ok (F n)) :
    compE (.ok (ns.map .int)) (gN i) (fun _ => .ok true) f vs ρ = .ok (.list (ns.map F)) := by
  have e := compD_all (f := f) (ρ := wipeR ρ vs) (i := i) (F := fun d => match d with | .int n => F n | d => d) (ds := ns.map .int) (fun d hd => by
    obtain ⟨n, hn, rfl⟩ := List.mem_map.mp hd
    exact h n hn)
  rw [List.map_map] at e
  exact compE_ok e (fits_of (by rw [List.length_map]; exact hn))
/-- a property of the parts -/
theorem compD_prop {P : D → Prop} : ∀ {ds : List D}, (∀ d ∈ ds, ∃ y, f (ρ.set i (some d)) = .ok y ∧ P y) → ∃ ys, compD (gN i) (fun _ => .ok true) f ρ ds = .ok ys ∧ ys.length = ds.length ∧ ∀ y ∈ ys, P y
  | [], _ => ⟨[], rfl, rfl, fun _ z => nomatch z⟩
  | d :: ds, h => by
    obtain ⟨y, h1, h2⟩ := h d (List.mem_cons_self ..)
    obtain ⟨ys, h3, h4, h5⟩ := compD_prop fun x hx => h x (List.mem_cons_of_mem _ hx)
    refine ⟨y :: ys, ?_, by simp [h4], fun z hz => (List.mem_cons.mp hz).elim (fun e => e ▸ h2) (h5 z)⟩
    show (f (ρ.set i (some d))).bind (fun y => (compD (gN i) (fun _ => .ok true) f ρ ds).bind fun ys => .ok (y :: ys)) = _
    rw [h1, h3]
    rfl
theorem compE_prop {P : D → Prop} {vs : List Nat} {ds : List D} (hn : ds.length ≤ 100000) (h : ∀ d ∈ ds, ∃ y, f ((wipeR ρ vs).set i (some d)) = .ok y ∧ P y) :
    ∃ ys, compE (.ok ds) (gN i) (fun _ => .ok true) f vs ρ = .ok (.list ys) ∧ ys.length = ds.length ∧ ∀ y ∈ ys, P y := by
  obtain ⟨ys, h1, h2, h3⟩ := compD_prop h
  exact ⟨ys, compE_ok h1 (fits_of (by rw [h2]; exact hn)), h2, h3⟩
/-- with a test: those that keep it -/
theorem compD_filter {ft : Rho → Res Bool} {p : D → Bool} {F : D → D} : ∀ {ds : List D}, (∀ d ∈ ds, ft (ρ.set i (some d)) = .ok (p d)) → (∀ d ∈ ds, p d = true → f (ρ.set i (some d)) = .ok (F d)) → compD (gN i) ft f ρ ds = .ok ((ds.filter p).map F)
  | [], _, _ => rfl
  | d :: ds, h1, h2 => by
    have e1 := h1 d (List.mem_cons_self ..)
    have e2 := compD_filter (fun x hx => h1 x (List.mem_cons_of_mem _ hx)) (fun x hx => h2 x (List.mem_cons_of_mem _ hx))
    show (ft (ρ.set i (some d))).bind (fun b => if b = true then (f (ρ.set i (some d))).bind (fun y => (compD (gN i) ft f ρ ds).bind fun ys => .ok (y :: ys)) else compD (gN i) ft f ρ ds) = _
    rw [e1]
    cases hp : p d with
    | false =>
      rw [List.filter_cons_of_neg (by rw [hp]; exact Bool.false_ne_true)]
      exact e2
    | true =>
      rw [List.filter_cons_of_pos hp]
      show (f (ρ.set i (some d))).bind (fun y => (compD (gN i) ft f ρ ds).bind fun ys => .ok (y :: ys)) = _
      rw [h2 d (List.mem_cons_self ..) hp, e2]
      rfl
theorem compE_filter {ft : Rho → Res Bool} {p : D → Bool} {F : D → D} {vs : List Nat} {ds : List D} (hn : ds.length ≤ 100000) (h1 : ∀ d ∈ ds, ft ((wipeR ρ vs).set i (some d)) = .ok (p d)) (h2 : ∀ d ∈ ds, p d = true → f ((wipeR ρ vs).set i (some d)) = .ok (F d)) :
    compE (.ok ds) (gN i) ft f vs ρ = .ok (.list ((ds.filter p).map F)) :=
  compE_ok (compD_filter h1 h2) (fits_of (by rw [List.length_map]; exact Nat.le_trans (List.length_filter_le _ _) hn))
end
theorem boolsOf_bools (bs : List Bool) : boolsOf (bs.map .bool) = some bs := by
  induction bs with
  | nil => rfl
  | cons n ns ih => simp only [List.map_cons, boolsOf, ih, Option.map_some]
theorem all_bools (bs : List Bool) : allD [.list (bs.map .bool)] = some (.bool (bs.all id)) := by
  show (boolsOf (bs.map PyData.bool)).map (fun bs => PyData.bool (bs.all id)) = _
  rw [boolsOf_bools]; rfl
/-! ### loops by what stands after so many turns -/
theorem loop_ix {h : D → Rho → Option Rho} {gb : Rho → Out} {P : Nat → Rho → Prop} : ∀ {ds : List D} {j : Nat},
    (∀ i d, ds[i]? = some d → ∀ ρ, P (j + i) ρ → ∃ ρ1, h d ρ = some ρ1 ∧ ∃ ρ2, gb ρ1 = .next ρ2 ∧ P (j + i + 1) ρ2) → ∀ ρ, P j ρ → ∃ ρ', loopD h gb ds ρ = .next ρ' ∧ P (j + ds.length) ρ'
  | [], j, _, ρ, hp => ⟨ρ, rfl, hp⟩
  | d :: ds, j, hs, ρ, hp => by
    obtain ⟨ρ1, h1, ρ2, h2, h3⟩ := hs 0 d rfl ρ hp
    obtain ⟨ρ3, h4, h5⟩ := loop_ix (ds := ds) (j := j + 1) (fun i x hx ρ hρ => by
      have := hs (i + 1) x (by simpa using hx) ρ (by rw [show j + (i + 1) = j + 1 + i by omega]; exact hρ)
      rw [show j + (i + 1) + 1 = j + 1 + i + 1 by omega] at this
      exact this) ρ2 h3
    refine ⟨ρ3, ?_, by rw [List.length_cons, show j + (ds.length + 1) = j + 1 + ds.length by omega]; exact h5⟩
    rw [loopD_cons, h1, loopA_some, h2, loopB_next, h4]
theorem noJump_ev {g : Rho → Out} {ρ ρ' : Rho} (h : g ρ = .next ρ') : noJump g ρ = .next ρ' := by unfold noJump; rw [h]
theorem cut8 (ns : List Int) (k : Nat) : slE (.ok (.list (ns.map .int))) (.ok none) (.ok (some (k : Int))) = .ok (.list ((ns.take k).map .int)) := by
  show ofO (cutD none (some (k : Int)) (lI ns)) = _
  rw [cut_lI, cutL_to]; rfl
/-! ### lists that are changed -/
theorem append_ok {i : Nat} {ρ : Rho} {f : Rho → Res D} {ds : List D} {d : D} (h1 : ρ[i]? = some (some (.list ds))) (h2 : f ρ = .ok d) (h3 : ds.length < 100000) : eAppend i f ρ = .ok (.none, ρ.set i (some (.list (ds ++ [d])))) := by
  unfold eAppend ownL
  rw [h1, h2]
  show (if ds.length < sizeLine then Res.ok (PyData.none, ρ.set i (some (.list (ds ++ [d])))) else .bad) = _
  rw [if_pos (Nat.lt_of_lt_of_le h3 (by decide))]
theorem insert_ok {i : Nat} {ρ : Rho} {fa fb : Rho → Res D} {ds : List D} {k : Nat} {d : D} (h1 : ρ[i]? = some (some (.list ds))) (h2 : fa ρ = .ok (.int (k : Int))) (h3 : fb ρ = .ok d) (h4 : ds.length < 100000) (h5 : k < 2 ^ 60) :
    eInsert i fa fb ρ = .ok (.none, ρ.set i (some (.list (ds.take k ++ [d] ++ ds.drop k)))) := by
  unfold eInsert ownL
  rw [h1, h2, h3]
  show (if ds.length < sizeLine ∧ 0 ≤ (k : Int) ∧ (k : Int) < 2 ^ 63 then Res.ok (PyData.none, ρ.set i (some (.list (ds.take (k : Int).toNat ++ [d] ++ ds.drop (k : Int).toNat)))) else .bad) = _
  rw [if_pos ⟨Nat.lt_of_lt_of_le h4 (by decide), by omega, by omega⟩, Int.toNat_natCast]
theorem dropM_ok {f : Rho → Res (D × Rho)} {ρ ρ' : Rho} {x : D} (h : f ρ = .ok (x, ρ')) : sDropM f ρ = .next ρ' := by
  unfold sDropM; rw [h]; rfl
end Dn
set_option Elab.async false
set_option linter.all false
set_option maxRecDepth 100000
/-! plain laws: more evaluation -/
namespace Dn
open PySem L2
section
variable {ρ : Rho} {f fa fb fc : Rho → Res D} {gs : Rho → Res (List D)}
def isWh : D → Bool
  | .int _ => true
  | _ => false
theorem ints_all : ∀ {ds : List D}, ds.all isWh = true → ∃ ns : List Int, ds = ns.map .int
  | [], _ => ⟨[], rfl⟩
  | d :: ds, h => by
    rw [List.all_cons, Bool.and_eq_true] at h
    obtain ⟨ns, rfl⟩ := ints_all h.2
    cases d with
    | int i => exact ⟨i :: ns, rfl⟩
    | _ => cases h.1
theorem all_ints (ns : List Int) : (ns.map PyData.int).all isWh = true := by
  rw [List.all_eq_true]
  intro d hd
  obtain ⟨i, _, rfl⟩ := List.mem_map.mp hd
  rfl
def isiE (T : String) (x : Res D) : Res D := x.bind fun d => ofO (isiD T d)
theorem eIsi_ev {T : String} : eIsi T f ρ = isiE T (f ρ) := rfl
theorem isi_tt (ds : List D) : isiE "tuple" (.ok (.tuple ds)) = .ok (.bool true) := by kernel_rfl
theorem isi_ll (ds : List D) : isiE "list" (.ok (.list ds)) = .ok (.bool true) := by kernel_rfl
theorem isi_ii (i : Int) : isiE "int" (.ok (.int i)) = .ok (.bool true) := by kernel_rfl
theorem isi_bi (i : Int) : isiE "bool" (.ok (.int i)) = .ok (.bool false) := by kernel_rfl
theorem isi_bb (b : Bool) : isiE "bool" (.ok (.bool b)) = .ok (.bool true) := by kernel_rfl
theorem isi_ss (s : Str) : isiE "str" (.ok (.str s)) = .ok (.bool true) := by kernel_rfl
theorem isi_tn {d : D} (h : ∀ ds, d ≠ .tuple ds) : isiE "tuple" (.ok d) = .ok (.bool false) := by
  cases d with
  | tuple ds => exact absurd rfl (h ds)
  | _ => kernel_rfl
/-- a <= b <= c -/
def chE (g g' : D → D → Option D) (x y z : Res D) : Res D := x.bind fun x => y.bind fun y => (ofO (g x y)).bind fun w => (toB w).bind fun k => if k = true then z.bind fun z => ofO (g' y z) else .ok (.bool false)
theorem eChain_ev {g g' : D → D → Option D} : eChain g g' fa fb fc ρ = chE g g' (fa ρ) (fb ρ) (fc ρ) := rfl
theorem ch_le (a b c : Int) : chE leD leD (.ok (.int a)) (.ok (.int b)) (.ok (.int c)) = .ok (.bool (decide (a ≤ b) && decide (b ≤ c))) := by
  show (if decide (a ≤ b) = true then Res.ok (PyData.bool (decide (b ≤ c))) else .ok (.bool false)) = _
  cases decide (a ≤ b) <;> rfl
theorem ch_lelt (a b c : Int) : chE leD ltD (.ok (.int a)) (.ok (.int b)) (.ok (.int c)) = .ok (.bool (decide (a ≤ b) && decide (b < c))) := by
  show (if decide (a ≤ b) = true then Res.ok (PyData.bool (decide (b < c))) else .ok (.bool false)) = _
  cases decide (a ≤ b) <;> rfl
theorem ch_ltlt (a b c : Int) : chE ltD ltD (.ok (.int a)) (.ok (.int b)) (.ok (.int c)) = .ok (.bool (decide (a < b) && decide (b < c))) := by
  show (if decide (a < b) = true then Res.ok (PyData.bool (decide (b < c))) else .ok (.bool false)) = _
  cases decide (a < b) <;> rfl
def rg2E (x y : Res D) : Res (List D) := x.bind fun d => y.bind fun e => (toI d).bind fun i => (toI e).bind fun j => ofO (rgD i j)
theorem eRg2_ev : eRg2 fa fb ρ = rg2E (fa ρ) (fb ρ) := rfl
theorem rg2E_ok {a b : Int} (h1 : -(2 ^ 20) ≤ a) (h2 : a < 2 ^ 20) (h3 : -(2 ^ 20) ≤ b) (h4 : b < 2 ^ 20) : rg2E (.ok (.int a)) (.ok (.int b)) = .ok ((iota a (b - a).toNat).map .int) := by
  show ofO (rgD a b) = _
  rw [rg_ok h1 h2 h3 h4, rangeD_iota]; rfl
def rg1E (x : Res D) : Res (List D) := x.bind fun d => (toI d).bind fun i => ofO (rgD 0 i)
theorem eRg1_ev : eRg1 fa ρ = rg1E (fa ρ) := rfl
theorem rg1E_ok {b : Int} (h3 : -(2 ^ 20) ≤ b) (h4 : b < 2 ^ 20) : rg1E (.ok (.int b)) = .ok ((iota 0 b.toNat).map .int) := by
  show ofO (rgD 0 b) = _
  rw [rg_ok (by decide) (by decide) h3 h4, rangeD_iota, Int.sub_zero]; rfl
def loE (x : Res (List D)) : Res D := x.bind fun ds => .ok (.list ds)
theorem eListOf_ev {fi : Rho → Res (List D)} : eListOf fi ρ = loE (fi ρ) := rfl
theorem loE_ok (ds : List D) : loE (.ok ds) = .ok (.list ds) := rfl
def toE (x : Res (List D)) : Res D := x.bind fun ds => .ok (.tuple ds)
theorem eTupOf_ev {fi : Rho → Res (List D)} : eTupOf fi ρ = toE (fi ρ) := rfl
theorem toE_ok (ds : List D) : toE (.ok ds) = .ok (.tuple ds) := rfl
theorem rg1I {k : Int} (h1 : -(2 ^ 20) ≤ k) (h2 : k < 2 ^ 20) : rg1 (.ok [.int k]) = .ok ((iota 0 k.toNat).map .int) := by rw [rg1_ok (by omega) (by omega), rangeD_iota]
theorem rg2I {k l : Int} (h1 : -(2 ^ 20) ≤ k) (h2 : k < 2 ^ 20) (h3 : -(2 ^ 20) ≤ l) (h4 : l < 2 ^ 20) : rg2 (.ok [.int k, .int l]) = .ok ((iota k (l - k).toNat).map .int) := by rw [rg2_ok (by omega) (by omega) (by omega) (by omega), rangeD_iota]
def gaE (x : Res D) : Res D := x.bind fun d => if gA d = true then .ok d else .bad
theorem eGA_ev : eGA f ρ = gaE (f ρ) := rfl
theorem imm_ints : ∀ ns : List Int, immL (ns.map .int) = true
  | [] => rfl
  | n :: ns => by show (imm (PyData.int n) && immL (ns.map .int)) = true; rw [imm_ints ns]; rfl
theorem gaE_tI (ns : List Int) : gaE (.ok (tI ns)) = .ok (tI ns) := by
  show (if (imm (tI ns) || false) = true then Res.ok (tI ns) else .bad) = _
  rw [if_pos (by show (immL (ns.map .int) || false) = true; rw [imm_ints]; rfl)]
theorem gaE_lI (ns : List Int) : gaE (.ok (lI ns)) = .ok (lI ns) := by
  show (if (false || immL (ns.map .int)) = true then Res.ok (lI ns) else .bad) = _
  rw [if_pos (by rw [imm_ints]; rfl)]
theorem gaE_int (i : Int) : gaE (.ok (.int i)) = .ok (.int i) := rfl
def immE (x : Res D) : Res D := x.bind fun d => if imm d = true then .ok d else .bad
theorem eImm_ev : eImm f ρ = immE (f ρ) := rfl
theorem immE_int (i : Int) : immE (.ok (.int i)) = .ok (.int i) := rfl
theorem immE_tI (ns : List Int) : immE (.ok (tI ns)) = .ok (tI ns) := by
  show (if imm (tI ns) = true then Res.ok (tI ns) else .bad) = _
  rw [if_pos (by show immL (ns.map .int) = true; rw [imm_ints])]
/-- comprehensions over any data -/
theorem compE_all {i : Nat} {F : D → D} {vs : List Nat} {ds : List D} (hn : ds.length ≤ 100000) (h : ∀ d ∈ ds, f ((wipeR ρ vs).set i (some d)) = .ok (F d)) :
    compE (.ok ds) (gN i) (fun _ => .ok true) f vs ρ = .ok (.list (ds.map F)) := compE_ok (compD_all h) (fits_of (by rw [List.length_map]; exact hn))
theorem bool_pair {b c : Bool} (h : b = true ↔ c = true) : b = c := by cases b <;> cases c <;> simp_all
def binK (k : D → Bool) (g : D → D → Option D) (x : Res D) (fb : Rho → Res D) (ρ : Rho) : Res D := x.bind fun x => if k x = true then (fb ρ).bind fun y => ofO (g x y) else .bad
theorem eBinK_ev {k : D → Bool} {g : D → D → Option D} : eBinK k g fa fb ρ = binK k g (fa ρ) fb ρ := rfl
theorem binK_ok {k : D → Bool} {g : D → D → Option D} {x y d : D} (h1 : k x = true) (h2 : fb ρ = .ok y) (h3 : g x y = some d) : binK k g (.ok x) fb ρ = .ok d := by
  show (if k x = true then (fb ρ).bind fun y => ofO (g x y) else .bad) = _
  rw [if_pos h1, h2]
  show ofO (g x y) = _
  rw [h3]; rfl
/-- the first place of a number -/
theorem firstAt_ints (y : Int) : ∀ (ns : List Int), y ∈ ns → firstAt (.int y) (ns.map .int) = some (ns.idxOf y)
  | [], h => nomatch h
  | n :: ns, h => by
    show (if PyData.eqv (.int n) (.int y) = true then some 0 else (firstAt (.int y) (ns.map .int)).map (· + 1)) = _
    rw [List.idxOf_cons]
    have e : PyData.eqv (.int n) (.int y) = (n == y) := by simp only [PyData.eqv]
    rw [e]
    by_cases hn : n = y
    · subst hn; simp
    · have h2 : y ∈ ns := (List.mem_cons.mp h).elim (fun z => absurd z.symm hn) id
      rw [firstAt_ints y ns h2]
      have : (n == y) = false := by simpa using hn
      rw [this]
      rfl
theorem index_tI {ns : List Int} {y : Int} (h : y ∈ ns) : indexD (tI ns) (.int y) = some (.int (ns.idxOf y : Nat)) := by
  show (if SeqAt.shaped (tI ns) = true ∧ SeqAt.shaped (.int y) = true then (firstAt (.int y) (ns.map .int)).map fun (j : Nat) => PyData.int (j : Int) else none) = _
  rw [if_pos ⟨shaped_tI ns, shaped_int y⟩, firstAt_ints y ns h]; rfl
theorem index_lI {ns : List Int} {y : Int} (h : y ∈ ns) : indexD (lI ns) (.int y) = some (.int (ns.idxOf y : Nat)) := by
  show (if SeqAt.shaped (lI ns) = true ∧ SeqAt.shaped (.int y) = true then (firstAt (.int y) (ns.map .int)).map fun (j : Nat) => PyData.int (j : Int) else none) = _
  rw [if_pos ⟨shaped_lI ns, shaped_int y⟩, firstAt_ints y ns h]; rfl
end
/-! ### setting parts -/
theorem asgG_ok {h : D → Rho → Option Rho} {f : Rho → Res D} {ρ ρ' : Rho} {d : D} (h1 : f ρ = .ok d) (h2 : h d ρ = some ρ') : sAsgG h f ρ = .next ρ' := by
  unfold sAsgG; rw [h1]; show outOf (ofO (h d ρ)) .next = _; rw [h2]; rfl
theorem gSub_ok {i : Nat} {f : Rho → Res D} {ρ : Rho} {ds : List D} {d : D} {k : Nat} (h1 : ρ[i]? = some (some (.list ds))) (h2 : f ρ = .ok (.int (k : Int))) (h3 : k < ds.length) : gSubD i f d ρ = some (ρ.set i (some (.list (ds.set k d)))) := by
  unfold gSubD ownL
  rw [h1, h2]
  show (ixN ds.length (k : Int)).map (fun j => ρ.set i (some (.list (ds.set j d)))) = _
  have e : ixN ds.length (k : Int) = some k := by
    unfold ixN
    rw [if_pos (by omega), if_pos (by omega), Int.toNat_natCast]
  rw [e]; rfl
theorem gT2 {g1 g2 : D → Rho → Option Rho} {x y : D} {ρ ρ1 ρ2 : Rho} (h1 : g1 x ρ = some ρ1) (h2 : g2 y ρ1 = some ρ2) : gT 2 (gConss g1 (gConss g2 gNils)) (.tuple [x, y]) ρ = some ρ2 := by
  show (g1 x ρ).bind (fun ρ1 => (g2 y ρ1).bind fun ρ2 => some ρ2) = _
  rw [h1]
  show (g2 y ρ1).bind (fun ρ2 => some ρ2) = _
  rw [h2]; rfl
theorem sl_to (ns : List Int) (k : Nat) : slE (.ok (tI ns)) (.ok none) (.ok (some (k : Int))) = .ok (tI (ns.take k)) := by
  show ofO (cutD none (some (k : Int)) (tI ns)) = _
  rw [cut_tI, cutL_to]; rfl
theorem sl_from (ns : List Int) (k : Nat) : slE (.ok (tI ns)) (.ok (some (k : Int))) (.ok none) = .ok (tI (ns.drop k)) := by
  show ofO (cutD (some (k : Int)) none (tI ns)) = _
  rw [cut_tI, cutL_from]; rfl
theorem sl_from1 (ns : List Int) (k : Nat) : slE (.ok (tI ns)) (.ok (some ((k : Int) + 1))) (.ok none) = .ok (tI (ns.drop (k + 1))) := sl_from ns (k + 1)
theorem sl_toL (ns : List Int) (k : Nat) : slE (.ok (lI ns)) (.ok none) (.ok (some (k : Int))) = .ok (lI (ns.take k)) := by
  show ofO (cutD none (some (k : Int)) (lI ns)) = _
  rw [cut_lI, cutL_to]; rfl
theorem sl_fromL (ns : List Int) (k : Nat) : slE (.ok (lI ns)) (.ok (some (k : Int))) (.ok none) = .ok (lI (ns.drop k)) := by
  show ofO (cutD (some (k : Int)) none (lI ns)) = _
  rw [cut_lI, cutL_from]; rfl
theorem tup_add {a b : List D} (h : a.length + b.length ≤ 100000) : bin2 addD (.ok (.tuple a)) (.ok (.tuple b)) = .ok (.tuple (a ++ b)) := by
  rw [bin2_ok, add_tup (Nat.le_trans h (by decide))]; rfl
theorem lst_add {a b : List D} (h : a.length + b.length ≤ 100000) : bin2 addD (.ok (.list a)) (.ok (.list b)) = .ok (.list (a ++ b)) := by
  rw [bin2_ok, add_lst (Nat.le_trans h (by decide))]; rfl
theorem str_int {i : Int} (h : i.natAbs < 2 ^ 1900) : strT [.int i] = some (.str (toString i)) := if_pos (Nat.lt_of_le_of_lt (log2_le (m := 1899) h) (by decide))
theorem okv_lst {ds : List D} (h : ds.length ≤ 100000) : lstE (.ok ds) = .ok (.list ds) := lstE_ok (fits_of h)
theorem okv_tup {ds : List D} (h : ds.length ≤ 100000) : tupE (.ok ds) = .ok (.tuple ds) := tupE_ok (fits_of h)
theorem lstE_1 (x0 : D) : lstE (.ok [x0]) = .ok (.list [x0]) := by kernel_rfl
theorem tupE_1 (x0 : D) : tupE (.ok [x0]) = .ok (.tuple [x0]) := by kernel_rfl
theorem lstE_2 (x0 x1 : D) : lstE (.ok [x0, x1]) = .ok (.list [x0, x1]) := by kernel_rfl
theorem tupE_2 (x0 x1 : D) : tupE (.ok [x0, x1]) = .ok (.tuple [x0, x1]) := by kernel_rfl
theorem lstE_3 (x0 x1 x2 : D) : lstE (.ok [x0, x1, x2]) = .ok (.list [x0, x1, x2]) := by kernel_rfl
theorem tupE_3 (x0 x1 x2 : D) : tupE (.ok [x0, x1, x2]) = .ok (.tuple [x0, x1, x2]) := by kernel_rfl
theorem lstE_4 (x0 x1 x2 x3 : D) : lstE (.ok [x0, x1, x2, x3]) = .ok (.list [x0, x1, x2, x3]) := by kernel_rfl
theorem tupE_4 (x0 x1 x2 x3 : D) : tupE (.ok [x0, x1, x2, x3]) = .ok (.tuple [x0, x1, x2, x3]) := by kernel_rfl
theorem lstE_5 (x0 x1 x2 x3 x4 : D) : lstE (.ok [x0, x1, x2, x3, x4]) = .ok (.list [x0, x1, x2, x3, x4]) := by kernel_rfl
theorem tupE_5 (x0 x1 x2 x3 x4 : D) : tupE (.ok [x0, x1, x2, x3, x4]) = .ok (.tuple [x0, x1, x2, x3, x4]) := by kernel_rfl
theorem lstE_6 (x0 x1 x2 x3 x4 x5 : D) : lstE (.ok [x0, x1, x2, x3, x4, x5]) = .ok (.list [x0, x1, x2, x3, x4, x5]) := by kernel_rfl
theorem tupE_6 (x0 x1 x2 x3 x4 x5 : D) : tupE (.ok [x0, x1, x2, x3, x4, x5]) = .ok (.tuple [x0, x1, x2, x3, x4, x5]) := by kernel_rfl
theorem lstE_7 (x0 x1 x2 x3 x4 x5 x6 : D) : lstE (.ok [x0, x1, x2, x3, x4, x5, x6]) = .ok (.list [x0, x1, x2, x3, x4, x5, x6]) := by kernel_rfl
theorem lstE_8 (x0 x1 x2 x3 x4 x5 x6 x7 : D) : lstE (.ok [x0, x1, x2, x3, x4, x5, x6, x7]) = .ok (.list [x0, x1, x2, x3, x4, x5, x6, x7]) := by kernel_rfl
theorem lstE_9 (x0 x1 x2 x3 x4 x5 x6 x7 x8 : D) : lstE (.ok [x0, x1, x2, x3, x4, x5, x6, x7, x8]) = .ok (.list [x0, x1, x2, x3, x4, x5, x6, x7, x8]) := by kernel_rfl
theorem lstE_10 (x0 x1 x2 x3 x4 x5 x6 x7 x8 x9 : D) : lstE (.ok [x0, x1, x2, x3, x4, x5, x6, x7, x8, x9]) = .ok (.list [x0, x1, x2, x3, x4, x5, x6, x7, x8, x9]) := by kernel_rfl
theorem lstE_11 (x0 x1 x2 x3 x4 x5 x6 x7 x8 x9 x10 : D) : lstE (.ok [x0, x1, x2, x3, x4, x5, x6, x7, x8, x9, x10]) = .ok (.list [x0, x1, x2, x3, x4, x5, x6, x7, x8, x9, x10]) := by kernel_rfl
theorem lstE_12 (x0 x1 x2 x3 x4 x5 x6 x7 x8 x9 x10 x11 : D) : lstE (.ok [x0, x1, x2, x3, x4, x5, x6, x7, x8, x9, x10, x11]) = .ok (.list [x0, x1, x2, x3, x4, x5, x6, x7, x8, x9, x10, x11]) := by kernel_rfl
theorem lstE_13 (x0 x1 x2 x3 x4 x5 x6 x7 x8 x9 x10 x11 x12 : D) : lstE (.ok [x0, x1, x2, x3, x4, x5, x6, x7, x8, x9, x10, x11, x12]) = .ok (.list [x0, x1, x2, x3, x4, x5, x6, x7, x8, x9, x10, x11, x12]) := by kernel_rfl
theorem lstE_14 (x0 x1 x2 x3 x4 x5 x6 x7 x8 x9 x10 x11 x12 x13 : D) : lstE (.ok [x0, x1, x2, x3, x4, x5, x6, x7, x8, x9, x10, x11, x12, x13]) = .ok (.list [x0, x1, x2, x3, x4, x5, x6, x7, x8, x9, x10, x11, x12, x13]) := by kernel_rfl
theorem lstE_15 (x0 x1 x2 x3 x4 x5 x6 x7 x8 x9 x10 x11 x12 x13 x14 : D) : lstE (.ok [x0, x1, x2, x3, x4, x5, x6, x7, x8, x9, x10, x11, x12, x13, x14]) = .ok (.list [x0, x1, x2, x3, x4, x5, x6, x7, x8, x9, x10, x11, x12, x13, x14]) := by kernel_rfl
theorem lstE_16 (x0 x1 x2 x3 x4 x5 x6 x7 x8 x9 x10 x11 x12 x13 x14 x15 : D) : lstE (.ok [x0, x1, x2, x3, x4, x5, x6, x7, x8, x9, x10, x11, x12, x13, x14, x15]) = .ok (.list [x0, x1, x2, x3, x4, x5, x6, x7, x8, x9, x10, x11, x12, x13, x14, x15]) := by kernel_rfl
theorem lstE_17 (x0 x1 x2 x3 x4 x5 x6 x7 x8 x9 x10 x11 x12 x13 x14 x15 x16 : D) : lstE (.ok [x0, x1, x2, x3, x4, x5, x6, x7, x8, x9, x10, x11, x12, x13, x14, x15, x16]) = .ok (.list [x0, x1, x2, x3, x4, x5, x6, x7, x8, x9, x10, x11, x12, x13, x14, x15, x16]) := by kernel_rfl
theorem lstE_18 (x0 x1 x2 x3 x4 x5 x6 x7 x8 x9 x10 x11 x12 x13 x14 x15 x16 x17 : D) : lstE (.ok [x0, x1, x2, x3, x4, x5, x6, x7, x8, x9, x10, x11, x12, x13, x14, x15, x16, x17]) = .ok (.list [x0, x1, x2, x3, x4, x5, x6, x7, x8, x9, x10, x11, x12, x13, x14, x15, x16, x17]) := by kernel_rfl
theorem lstE_19 (x0 x1 x2 x3 x4 x5 x6 x7 x8 x9 x10 x11 x12 x13 x14 x15 x16 x17 x18 : D) : lstE (.ok [x0, x1, x2, x3, x4, x5, x6, x7, x8, x9, x10, x11, x12, x13, x14, x15, x16, x17, x18]) = .ok (.list [x0, x1, x2, x3, x4, x5, x6, x7, x8, x9, x10, x11, x12, x13, x14, x15, x16, x17, x18]) := by kernel_rfl
theorem lstE_20 (x0 x1 x2 x3 x4 x5 x6 x7 x8 x9 x10 x11 x12 x13 x14 x15 x16 x17 x18 x19 : D) : lstE (.ok [x0, x1, x2, x3, x4, x5, x6, x7, x8, x9, x10, x11, x12, x13, x14, x15, x16, x17, x18, x19]) = .ok (.list [x0, x1, x2, x3, x4, x5, x6, x7, x8, x9, x10, x11, x12, x13, x14, x15, x16, x17, x18, x19]) := by kernel_rfl
theorem lstE_0 : lstE (.ok []) = .ok (.list []) := by kernel_rfl
theorem tupE_0 : tupE (.ok []) = .ok (.tuple []) := by kernel_rfl
end Dn
set_option Elab.async false
set_option linter.all false
set_option maxRecDepth 100000
/-! plain laws: refusals, loops over defs, equal things, permutations -/
namespace Dn
open PySem L2
section
variable {ρ ρ' : Rho} {f : Rho → Res D} {g : Rho → Out} {gs : List (Rho → Out)} {i m : Nat}
def refE (words : Nat → Option Str) (told : Str) (x : Res D) : Res D := match x with
  | .ok _ => .ok (.str told)
  | .exc c => (match words c with | some w => .ok (.str w) | none => .bad)
  | .bad => .bad
theorem eRef_ev {words : Nat → Option Str} {told : Str} : eRef words told f ρ = refE words told (f ρ) := rfl
theorem refE_ok {words : Nat → Option Str} {told : Str} {d : D} : refE words told (.ok d) = .ok (.str told) := rfl
theorem refE_exc {words : Nat → Option Str} {told w : Str} {c : Nat} (h : words c = some w) : refE words told (.exc c) = .ok (.str w) := by
  show (match words c with | some w => Res.ok (PyData.str w) | none => .bad) = _
  rw [h]
def callL (x : Res D) (y : Res D) : Res D := x.bind fun _ => y
theorem eCallL_ev {n : Nat} {fn : List D → Res D} {as : Rho → Res (List D)} : eCallL i n fn as ρ = callL (eVar i ρ) (callE n fn (as ρ)) := rfl
theorem callL_ok {d : D} {y : Res D} : callL (.ok d) y = y := rfl
theorem sFns_ev : sFns i gs ρ = fnsD i gs 0 ρ := rfl
theorem fnsD_nil : fnsD i [] m ρ = .next ρ := rfl
theorem fnsD_cons (h : g (ρ.set i (some (.int (m : Int)))) = .next ρ') : fnsD i (g :: gs) m ρ = fnsD i gs (m + 1) (ρ'.set i none) := by
  rw [fnsD, h]
end
/-! ### equal things -/
mutual
theorem eqv_refl : ∀ d : D, d.canLay0 = true → PyData.eqv d d = true
  | .none, _ => by simp only [PyData.eqv]
  | .bool b, _ => by simp only [PyData.eqv, BEq.rfl]
  | .int b, _ => by simp only [PyData.eqv, BEq.rfl]
  | .str b, _ => by simp only [PyData.eqv, BEq.rfl]
  | .list xs, h => by
    simp only [PyData.canLay0] at h
    simp only [PyData.eqv, eqvAll_refl xs h]
  | .tuple xs, h => by
    simp only [PyData.canLay0] at h
    simp only [PyData.eqv, eqvAll_refl xs h]
  | .dict xs, h => by simp only [PyData.canLay0] at h; cases h
theorem eqvAll_refl : ∀ ds : List D, PyData.canLayAll0 ds = true → PyData.eqvAll ds ds = true
  | [], _ => by simp only [PyData.eqvAll]
  | d :: ds, h => by
    simp only [PyData.canLayAll0, Bool.and_eq_true] at h
    simp only [PyData.eqvAll, eqv_refl d h.1, eqvAll_refl ds h.2, Bool.and_self]
end
theorem eq_self {d : D} (h : SeqAt.shaped d = true) : eqD d d = some (.bool true) := by
  unfold eqD; rw [if_pos ⟨h, h⟩, eqv_refl d (SeqAt.canLay_of_shaped h)]
theorem ne_self {d : D} (h : SeqAt.shaped d = true) : neD d d = some (.bool false) := by
  unfold neD; rw [if_pos ⟨h, h⟩, eqv_refl d (SeqAt.canLay_of_shaped h)]; rfl
theorem shaped_ll {ls : List (List Int)} : SeqAt.shaped (.list (ls.map tI)) = true := by
  have h : PyData.canLayAll0 (ls.map tI) = true ∧ PyData.depthAll (ls.map tI) ≤ 1 := by
    induction ls with
    | nil => exact ⟨by simp only [List.map_nil, PyData.canLayAll0], by simp only [List.map_nil, PyData.depthAll]; omega⟩
    | cons a l ih =>
      refine ⟨?_, ?_⟩
      · simp only [List.map_cons, PyData.canLayAll0, PyData.canLay0, canLay_ints, ih.1, Bool.and_self]
      · simp only [List.map_cons, PyData.depthAll, PyData.depth, depth_ints]
        have := ih.2
        omega
  unfold SeqAt.shaped
  simp only [PyData.canLay0, PyData.depth, h.1, Bool.true_and]
  exact decide_eq_true (by omega)
theorem shaped_str {s : Str} (h : PyData.strOk s = true) : SeqAt.shaped (.str s) = true := by
  unfold SeqAt.shaped; simp [PyData.canLay0, PyData.depth, h]
theorem ne_str {s t : Str} (h : PyData.strOk s = true) (h' : PyData.strOk t = true) : neD (.str s) (.str t) = some (.bool (!(s == t))) := by
  unfold neD; rw [if_pos ⟨shaped_str h, shaped_str h'⟩]; simp only [PyData.eqv]
theorem eq_str {s t : Str} (h : PyData.strOk s = true) (h' : PyData.strOk t = true) : eqD (.str s) (.str t) = some (.bool (s == t)) := by
  unfold eqD; rw [if_pos ⟨shaped_str h, shaped_str h'⟩]; simp only [PyData.eqv]
/-! ### permutations -/
theorem subset_perm : ∀ {l m : List Int}, l.Nodup → (∀ x ∈ l, x ∈ m) → m.length ≤ l.length → l.Perm m
  | [], m, _, _, h => by
    have : m = [] := List.length_eq_zero_iff.mp (by simpa using h)
    rw [this]
  | a :: l, m, hl, hs, h => by
    obtain ⟨h1, h2⟩ := List.nodup_cons.mp hl
    have ha : a ∈ m := hs a (List.mem_cons_self ..)
    have hp := List.perm_cons_erase ha
    refine (List.Perm.cons a (subset_perm (m := m.erase a) h2 (fun x hx => ?_) ?_)).trans hp.symm
    · have hxm := hs x (List.mem_cons_of_mem _ hx)
      have hne : x ≠ a := fun e => h1 (e ▸ hx)
      exact (List.mem_erase_of_ne hne).mpr hxm
    · rw [List.length_erase_of_mem ha]
      simp only [List.length_cons] at h
      omega
theorem perm_iota {l : List Int} (h1 : l.Nodup) (h2 : ∀ x ∈ l, 1 ≤ x ∧ x ≤ (l.length : Int)) : l.Perm (iota 1 l.length) :=
  subset_perm h1 (fun x hx => mem_iota.mpr ⟨(h2 x hx).1, by have := (h2 x hx).2; omega⟩) (by rw [iota_length]; exact Nat.le_refl _)
theorem rep_flat (n : Nat) (x : D) : (List.replicate n [x]).flatten = List.replicate n x := by
  induction n with
  | zero => rfl
  | succ n ih => rw [List.replicate_succ, List.flatten_cons, ih, List.replicate_succ]; rfl
theorem mul_rep {n : Nat} (x : D) (h : n ≤ 100000) : bin2 mulD (.ok (.list [x])) (.ok (.int (n : Int))) = .ok (.list (List.replicate n x)) := by
  have hc : -(2 ^ 63) ≤ (n : Int) ∧ (n : Int) < 2 ^ 63 ∧ [x].length * (n : Int).toNat ≤ sizeLine := ⟨by omega, by omega, by rw [Int.toNat_natCast, List.length_singleton, Nat.one_mul]; exact Nat.le_trans h (by decide)⟩
  have e : mulD (.list [x]) (.int (n : Int)) = some (.list (List.replicate (n : Int).toNat [x]).flatten) := by
    simp only [mulD]
    rw [if_pos hc]
  rw [bin2_ok, e, Int.toNat_natCast, rep_flat, ofO_some]
theorem enum_get (ns : List Int) : enumFrom 0 (ns.map .int) = (List.range ns.length).map (fun (i : Nat) => PyData.tuple [.int (i : Int), .int (ns.getD i 0)]) := by
  refine List.ext_getElem? fun i => ?_
  rw [List.getElem?_map]
  by_cases h : i < ns.length
  · rw [List.getElem?_range h]
    have hl : i < (enumFrom 0 (ns.map PyData.int)).length := by rw [enumFrom_length, List.length_map]; exact h
    obtain ⟨x, h1, h2⟩ := enumFrom_get _ 0 i _ (List.getElem?_eq_getElem hl)
    rw [List.getElem?_map, List.getElem?_eq_getElem h] at h1
    cases h1
    rw [List.getElem?_eq_getElem hl, h2, Nat.zero_add, Option.map_some, List.getD_eq_getElem?_getD, List.getElem?_eq_getElem h]
    rfl
  · rw [List.getElem?_eq_none (by rw [enumFrom_length, List.length_map]; omega), List.getElem?_eq_none (by rw [List.length_range]; omega)]
    rfl
end Dn
set_option Elab.async false
set_option linter.all false
set_option maxRecDepth 100000
/-! plain laws: texts by their signs -/
namespace Dn
open PySem L2
open SX (S)
theorem strOk_S {l : List Nat} (h : ∀ c ∈ l, c < 1114112) : PyData.strOk (S l) = true := by
  unfold PyData.strOk
  rw [← Array.all_toList, List.all_eq_true]
  exact fun c hc => decide_eq_true (h c hc)
theorem text_S (l : List Nat) : textD (S l) = l.map fun c => .str (S [c]) := rfl
theorem rev_S {l : List Nat} (h : l.length ≤ 100000) : revD (.str (S l)) = some (.str (S l.reverse)) := by
  show (if (S l).length ≤ sizeLine then some (PyData.str (revS (S l))) else none) = _
  rw [if_pos (by rw [SX.S_len]; exact Nat.le_trans h (by decide))]
  rfl
theorem len_S {l : List Nat} (h : l.length ≤ 100000) : lenD [.str (S l)] = some (.int (l.length : Int)) := by
  show (if (S l).length ≤ sizeLine then some (PyData.int ((S l).length : Int)) else none) = _
  rw [if_pos (by rw [SX.S_len]; exact Nat.le_trans h (by decide)), SX.S_len]
theorem eq_S {a b : List Nat} (ha : ∀ c ∈ a, c < 1114112) (hb : ∀ c ∈ b, c < 1114112) : eqD (.str (S a)) (.str (S b)) = some (.bool (decide (a = b))) := by
  rw [eq_str (strOk_S ha) (strOk_S hb), SX.S_beq_eq]
theorem ne_S {a b : List Nat} (ha : ∀ c ∈ a, c < 1114112) (hb : ∀ c ∈ b, c < 1114112) : neD (.str (S a)) (.str (S b)) = some (.bool (!decide (a = b))) := by
  rw [ne_str (strOk_S ha) (strOk_S hb), SX.S_beq_eq]
theorem add_S {a b : List Nat} (h : a.length + b.length ≤ 100000) : addD (.str (S a)) (.str (S b)) = some (.str (S (a ++ b))) := by
  show (if (S a).length + (S b).length ≤ sizeLine then some (PyData.str (S a ++ S b)) else none) = _
  rw [if_pos (by rw [SX.S_len, SX.S_len]; exact Nat.le_trans h (by decide)), SX.S_cat]
theorem joinL_nil : ∀ ys : List (List Nat), TL.joinL [] ys = ys.flatten
  | [] => rfl
  | [p] => by show p = [p].flatten; simp
  | p :: q :: r => by
    show p ++ ([] ++ TL.joinL [] (q :: r)) = _
    rw [List.nil_append, joinL_nil (q :: r)]; rfl
/-- signs put together -/
theorem join_signs {l : List Nat} (h : l.length ≤ 100000) : joinD (.str (S [])) (.list (l.map fun c => .str (S [c]))) = some (.str (S l)) := by
  show (strsOf (l.map fun c => PyData.str (S [c]))).bind _ = _
  rw [show (l.map fun c => PyData.str (S [c])) = (l.map fun c => S [c]).map PyData.str by rw [List.map_map]; rfl, strsOf_map, Option.bind_some]
  have hlen : ((l.map fun c => S [c]).map (·.length)).sum = l.length := by
    rw [List.map_map]
    induction l with
    | nil => rfl
    | cons a l ih => rw [List.map_cons, List.sum_cons, ih (by simp only [List.length_cons] at h; omega)]; show 1 + l.length = _; rw [List.length_cons]; omega
  rw [if_pos (by rw [hlen, List.length_map]; show l.length + l.length * 0 ≤ _; omega)]
  have e : (l.map fun c => S [c]) = (l.map fun c => [c]).map S := by rw [List.map_map]; rfl
  rw [e, SX.join_S, joinL_nil]
  congr 3
  induction l with
  | nil => rfl
  | cons a l ih => 
    rw [List.map_cons, List.flatten_cons, ih (by simp only [List.length_cons] at h; omega) (by
      have := hlen
      simp only [List.map_cons, List.sum_cons, List.length_cons] at this
      have h1 : (S [a]).length = 1 := rfl
      omega) (by rw [List.map_map]; rfl)]
    rfl
/-- u, d -/
def sgn (b : Bool) : Nat := if b = true then 117 else 100
theorem sgn_lt (b : Bool) : sgn b < 1114112 := by cases b <;> decide
theorem sgn_inj {a b : Bool} (h : sgn a = sgn b) : a = b := by cases a <;> cases b <;> first | rfl | cases h
theorem sgns_lt (bs : List Bool) : ∀ c ∈ bs.map sgn, c < 1114112 := fun c hc => by obtain ⟨b, _, rfl⟩ := List.mem_map.mp hc; exact sgn_lt b
theorem sgns_inj {a b : List Bool} : a.map sgn = b.map sgn ↔ a = b := by
  constructor
  · intro h
    induction a generalizing b with
    | nil => cases b with
      | nil => rfl
      | cons y b => cases h
    | cons x a ih => cases b with
      | nil => cases h
      | cons y b =>
        rw [List.map_cons, List.map_cons] at h
        injection h with h1 h2
        rw [sgn_inj h1, ih h2]
  · intro h; rw [h]
/-- a text of turns -/
abbrev U (bs : List Bool) : D := .str (S (bs.map sgn))
theorem u_lit : PyData.str "u" = .str (S [sgn true]) := by kernel_rfl
theorem d_lit : PyData.str "d" = .str (S [sgn false]) := by kernel_rfl
theorem eq_U (a b : List Bool) : eqD (U a) (U b) = some (.bool (decide (a = b))) := by
  rw [eq_S (sgns_lt a) (sgns_lt b)]
  congr 2
  exact decide_eq_decide.mpr sgns_inj
theorem ne_U (a b : List Bool) : neD (U a) (U b) = some (.bool (!decide (a = b))) := by
  rw [ne_S (sgns_lt a) (sgns_lt b)]
  congr 3
  exact decide_eq_decide.mpr sgns_inj
theorem shaped_U (a : List Bool) : SeqAt.shaped (U a) = true := shaped_str (strOk_S (sgns_lt a))
theorem rev_U {a : List Bool} (h : a.length ≤ 100000) : revD (U a) = some (U a.reverse) := by
  rw [rev_S (by rw [List.length_map]; exact h), ← List.map_reverse]
theorem join_U {bs : List Bool} (h : bs.length ≤ 100000) : joinD (.str "") (.list (bs.map fun b => .str (S [sgn b]))) = some (U bs) := by
  have e := join_signs (l := bs.map sgn) (by rw [List.length_map]; exact h)
  rw [List.map_map] at e
  exact e
theorem items_U (bs : List Bool) : anyI (.ok (U bs)) = .ok (bs.map fun b => .str (S [sgn b])) := by
  show Res.ok (textD (S (bs.map sgn))) = _
  rw [text_S, List.map_map]; rfl
/-- a comprehension over a list of things of one sort -/
theorem compE_of {α : Type} {ρ : Rho} {i : Nat} {f : Rho → Res D} {vs : List Nat} {g F : α → D} {xs : List α} (hn : xs.length ≤ 100000) (h : ∀ x ∈ xs, f ((wipeR ρ vs).set i (some (g x))) = .ok (F x)) :
    compE (.ok (xs.map g)) (gN i) (fun _ => .ok true) f vs ρ = .ok (.list (xs.map F)) := by
  have key : ∀ ys : List α, (∀ x ∈ ys, f ((wipeR ρ vs).set i (some (g x))) = .ok (F x)) → compD (gN i) (fun _ => .ok true) f (wipeR ρ vs) (ys.map g) = .ok (ys.map F) := by
    intro ys
    induction ys with
    | nil => intro _; rfl
    | cons y ys ih =>
      intro hy
      have h1 := hy y (List.mem_cons_self ..)
      have h2 := ih fun x hx => hy x (List.mem_cons_of_mem _ hx)
      show (f ((wipeR ρ vs).set i (some (g y)))).bind (fun y => (compD (gN i) (fun _ => .ok true) f (wipeR ρ vs) (ys.map g)).bind fun ys => .ok (y :: ys)) = _
      rw [h1, h2]
      rfl
  exact compE_ok (key xs h) (fits_of (by rw [List.length_map]; exact hn))
end Dn
set_option Elab.async false
set_option linter.all false
set_option maxRecDepth 100000
/-! plain laws: what repr shows -/
namespace Dn
open PySem L2
/-! ### signs of shown texts -/
theorem ok_lit (x : String) : PyData.strOk (x : Str) = true := by
  show PyData.strOk (Str.ofString x) = true
  rw [Str.ofString_eq_toList]
  unfold PyData.strOk
  rw [← Array.all_toList, List.all_eq_true]
  intro c hc
  obtain ⟨ch, _, rfl⟩ := List.mem_map.mp hc
  refine decide_eq_true ?_
  have := ch.valid
  rcases this with h | h
  · exact Nat.lt_trans h (by decide)
  · exact h.2
theorem ok_cat {a b : Str} (ha : PyData.strOk a = true) (hb : PyData.strOk b = true) : PyData.strOk (a ++ b) = true := by
  unfold PyData.strOk at ha hb ⊢
  show (a.cps ++ b.cps).all _ = true
  rw [Array.all_append, ha, hb]; rfl
theorem ok_join : ∀ ts : List Str, (∀ t ∈ ts, PyData.strOk t = true) → PyData.strOk (Str.join ", " ts) = true
  | [], _ => by decide +kernel
  | [x], h => h x (List.mem_singleton.mpr rfl)
  | x :: y :: r, h => by
    show PyData.strOk (x ++ (", " : Str) ++ Str.join ", " (y :: r)) = true
    exact ok_cat (ok_cat (h x (List.mem_cons_self ..)) (ok_lit _)) (ok_join (y :: r) fun t ht => h t (List.mem_cons_of_mem _ ht))
theorem ok_from : ∀ (ts : List Str) (k : Nat) (acc : Str), PyData.strOk acc = true → (∀ t ∈ ts, PyData.strOk t = true) → PyData.strOk (textFrom k acc ts) = true
  | [], _, _, h, _ => h
  | t :: ts, k, acc, h, hs => ok_from ts (k + 1) _ (ok_cat (ok_cat h (ok_lit _)) (hs t (List.mem_cons_self ..))) fun x hx => hs x (List.mem_cons_of_mem _ hx)
structure SH (n k : Nat) (x : D) : Prop where
  s : x.showable = true
  e : eDict x = true
  d : x.depth ≤ k
  l : x.shown.length ≤ n
  o : PyData.strOk x.shown = true
theorem SH.le {n k n' k' : Nat} {d : D} (h : SH n k d) (h1 : n ≤ n') (h2 : k ≤ k') : SH n' k' d := ⟨h.s, h.e, Nat.le_trans h.d h2, Nat.le_trans h.l h1, h.o⟩
theorem SH.ok {n k : Nat} {d : D} (h : SH n k d) (h1 : n ≤ 16000000) (h2 : k ≤ 60) : shOk d = true := by
  unfold shOk
  rw [h.s, h.e, decide_eq_true (Nat.le_trans h.d h2), decide_eq_true (Nat.le_trans h.l (Nat.le_trans h1 (by decide)))]
  rfl
theorem SH.all {n k : Nat} : ∀ {ds : List D}, (∀ x ∈ ds, SH n k x) → PyData.showableAll ds = true ∧ eDictL ds = true ∧ PyData.depthAll ds ≤ k ∧ ((PyData.shownAll ds).map (·.length)).sum ≤ n * ds.length ∧ (PyData.shownAll ds).length = ds.length
  | [], _ => ⟨by simp only [PyData.showableAll], rfl, by simp only [PyData.depthAll]; omega, by simp [PyData.shownAll], by simp [PyData.shownAll]⟩
  | d :: ds, h => by
    obtain ⟨h1, h2, h3, h4, h5⟩ := SH.all fun x hx => h x (List.mem_cons_of_mem _ hx)
    have hd := h d (List.mem_cons_self ..)
    refine ⟨by simp only [PyData.showableAll, hd.s, h1, Bool.and_self], ?_, ?_, ?_, by simp only [PyData.shownAll, List.length_cons, h5]⟩
    · show (eDict d && eDictL ds) = true
      rw [hd.e, h2]; rfl
    · simp only [PyData.depthAll]
      have := hd.d
      omega
    · simp only [PyData.shownAll, List.map_cons, List.sum_cons, List.length_cons, Nat.mul_add, Nat.mul_one]
      have := hd.l
      omega
theorem SH.oks {n k : Nat} : ∀ {ds : List D}, (∀ x ∈ ds, SH n k x) → ∀ t ∈ PyData.shownAll ds, PyData.strOk t = true
  | [], _, t, ht => by simp only [PyData.shownAll] at ht; cases ht
  | d :: ds, h, t, ht => by
    simp only [PyData.shownAll] at ht
    rcases List.mem_cons.mp ht with e | e
    · rw [e]; exact (h d (List.mem_cons_self ..)).o
    · exact SH.oks (fun x hx => h x (List.mem_cons_of_mem _ hx)) t e
theorem SH.tup {n k m : Nat} {ds : List D} (h : ∀ x ∈ ds, SH n k x) (hm : ds.length ≤ m) : SH ((n + 2) * m + 3) (k + 1) (.tuple ds) := by
  obtain ⟨h1, h2, h3, h4, h5⟩ := SH.all h
  refine ⟨by simp only [PyData.showable, h1], by simp only [eDict, h2], by simp only [PyData.depth]; omega, ?_, by
    simp only [PyData.shown]
    unfold tupleText
    exact ok_cat (ok_cat (ok_lit _) (ok_join _ (SH.oks h))) (ok_lit _)⟩
  simp only [PyData.shown]
  have := tupleText_len_le (PyData.shownAll ds)
  rw [h5] at this
  have e : n * ds.length + 2 * ds.length = (n + 2) * ds.length := by rw [Nat.add_mul]
  have : (n + 2) * ds.length ≤ (n + 2) * m := Nat.mul_le_mul_left _ hm
  omega
theorem SH.lst {n k m : Nat} {ds : List D} (h : ∀ x ∈ ds, SH n k x) (hm : ds.length ≤ m) : SH ((n + 2) * m + 3) (k + 1) (.list ds) := by
  obtain ⟨h1, h2, h3, h4, h5⟩ := SH.all h
  refine ⟨by simp only [PyData.showable, h1], by simp only [eDict, h2], by simp only [PyData.depth]; omega, ?_, by
    simp only [PyData.shown]
    unfold listText
    exact ok_cat (ok_from _ _ _ (ok_lit _) (SH.oks h)) (ok_lit _)⟩
  simp only [PyData.shown]
  have := listText_len_le (PyData.shownAll ds)
  rw [h5] at this
  have e : n * ds.length + 2 * ds.length = (n + 2) * ds.length := by rw [Nat.add_mul]
  have : (n + 2) * ds.length ≤ (n + 2) * m := Nat.mul_le_mul_left _ hm
  omega
theorem sh_int {i : Int} (h : i.natAbs < 10 ^ 12) : SH 13 0 (.int i) := by
  refine ⟨?_, rfl, by simp only [PyData.depth]; omega, PyData.shown_int_le h, by simp only [PyData.shown]; exact ok_lit _⟩
  simp only [PyData.showable]
  exact decide_eq_true (Nat.lt_of_le_of_lt (log2_le (m := 99) (Nat.lt_of_lt_of_le h (by decide))) (by decide))
theorem sh_none : SH 13 0 (.none : D) := ⟨by simp only [PyData.showable], rfl, by simp only [PyData.depth]; omega, by simp only [PyData.shown]; decide +kernel, by simp only [PyData.shown]; exact ok_lit _⟩
theorem sh_bool (b : Bool) : SH 13 0 (.bool b) := ⟨by simp only [PyData.showable], rfl, by simp only [PyData.depth]; omega, by cases b <;> simp only [PyData.shown] <;> decide +kernel, by cases b <;> simp only [PyData.shown] <;> decide +kernel⟩
theorem sh_dict : SH 13 1 (.dict [] : D) := ⟨by simp [PyData.showable, PyData.showableKv], rfl, by simp [PyData.depth, PyData.depthKv], by simp only [PyData.shown, PyData.shownKv]; decide +kernel, by simp only [PyData.shown, PyData.shownKv]; decide +kernel⟩
def smB (d : D) : Bool := match d with
  | .str x => decide ((reprText x).length ≤ 64)
  | .int i => decide (i.natAbs.log2 < 1920) && decide ((PyData.shown (.int i)).length ≤ 64)
  | _ => false
theorem sh_str {x : Str} (h : (reprText x).length ≤ 64) (h2 : PyData.strOk (reprText x) = true) : SH 64 0 (.str x) := ⟨by simp only [PyData.showable], rfl, by simp only [PyData.depth]; omega, by simp only [PyData.shown]; exact h, by simp only [PyData.shown]; exact h2⟩
theorem sh_big {i : Int} (h : smB (.int i) = true) : SH 64 0 (.int i) := by
  unfold smB at h
  simp only [Bool.and_eq_true, decide_eq_true_eq] at h
  exact ⟨by simp only [PyData.showable]; exact decide_eq_true h.1, rfl, by simp only [PyData.depth]; omega, h.2, by simp only [PyData.shown]; exact ok_lit _⟩
/-- small things -/
abbrev sm (d : D) : Prop := SH 64 3 d
theorem sm_int {i : Int} (h : i.natAbs < 10 ^ 12) : sm (.int i) := (sh_int h).le (by omega) (by omega)
theorem sm_ints {ns : List Int} (h : ∀ n ∈ ns, n.natAbs < 10 ^ 12) : ∀ x ∈ ns.map PyData.int, sm x := fun x hx => by obtain ⟨i, hi, rfl⟩ := List.mem_map.mp hx; exact sm_int (h i hi)
theorem sm_app {a b : List D} (h1 : ∀ x ∈ a, sm x) (h2 : ∀ x ∈ b, sm x) : ∀ x ∈ a ++ b, sm x := fun x hx => (List.mem_append.mp hx).elim (h1 x) (h2 x)
theorem sm_one {d : D} (h : sm d) : ∀ x ∈ [d], sm x := fun x hx => by rw [List.mem_singleton.mp hx]; exact h
theorem tup_sh {ds : List D} (h : ∀ x ∈ ds, sm x) (hm : ds.length ≤ 100) : SH 7000 4 (.tuple ds) := (SH.tup h hm).le (by omega) (by omega)
theorem lst_sh {ds : List D} (h : ∀ x ∈ ds, sm x) (hm : ds.length ≤ 100) : SH 7000 4 (.list ds) := (SH.lst h hm).le (by omega) (by omega)
theorem repr_ok {d : D} (h : shOk d = true) : biE reprD (.ok [d]) = .ok (.str d.shown) := by
  rw [biE_ok]
  show ofO (if shOk d = true then some (PyData.str d.shown) else none) = _
  rw [if_pos h]; rfl
/-- two texts alike -/
theorem strOk_dec (x : Str) (h : PyData.strOk x = true) : neD (.str x) (.str x) = some (.bool false) := ne_self (shaped_str h)
/-- shown by repr -/
def Sh (d : D) : Prop := shOk d = true ∧ PyData.strOk d.shown = true
theorem SH.sh {n k : Nat} {d : D} (h : SH n k d) (h1 : n ≤ 16000000) (h2 : k ≤ 60) : Sh d := ⟨h.ok h1 h2, h.o⟩
theorem sm1 {n k : Nat} (d : D) (h : SH n k d) : ∀ x ∈ [d], SH n k x := fun x hx => by rw [List.mem_singleton.mp hx]; exact h
end Dn
set_option Elab.async false
set_option linter.all false
set_option maxRecDepth 100000
/-! plain laws: operators on results, ready for simp -/
namespace Dn
open PySem L2
section
variable {ρ ρ' : Rho} {f fa fb : Rho → Res D}
theorem b_add (i j : Int) : bin2 addD (.ok (.int i)) (.ok (.int j)) = .ok (.int (i + j)) := rfl
theorem b_sub (i j : Int) : bin2 subD (.ok (.int i)) (.ok (.int j)) = .ok (.int (i - j)) := rfl
theorem b_lt (i j : Int) : bin2 ltD (.ok (.int i)) (.ok (.int j)) = .ok (.bool (decide (i < j))) := rfl
theorem b_le (i j : Int) : bin2 leD (.ok (.int i)) (.ok (.int j)) = .ok (.bool (decide (i ≤ j))) := rfl
theorem b_gt (i j : Int) : bin2 gtD (.ok (.int i)) (.ok (.int j)) = .ok (.bool (decide (j < i))) := rfl
theorem b_ge (i j : Int) : bin2 geD (.ok (.int i)) (.ok (.int j)) = .ok (.bool (decide (j ≤ i))) := rfl
theorem b_eq (i j : Int) : bin2 eqD (.ok (.int i)) (.ok (.int j)) = .ok (.bool (decide (i = j))) := by
  show Res.ok (PyData.bool (i == j)) = _
  congr 2
theorem b_ne (i j : Int) : bin2 neD (.ok (.int i)) (.ok (.int j)) = .ok (.bool (!decide (i = j))) := by
  show Res.ok (PyData.bool (!(i == j))) = _
  congr 2
theorem b_eqB (i j : Bool) : bin2 eqD (.ok (.bool i)) (.ok (.bool j)) = .ok (.bool (i == j)) := by cases i <;> cases j <;> rfl
theorem b_neB (i j : Bool) : bin2 neD (.ok (.bool i)) (.ok (.bool j)) = .ok (.bool (!(i == j))) := by cases i <;> cases j <;> rfl
theorem b_isB (i j : Bool) : bin2 isD (.ok (.bool i)) (.ok (.bool j)) = .ok (.bool (i == j)) := by cases i <;> cases j <;> rfl
theorem b_mod2 (i : Int) : bin2 modD (.ok (.int i)) (.ok (.int 2)) = .ok (.int (i % 2)) := rfl
theorem u_neg (i : Int) : un1 negD (.ok (.int i)) = .ok (.int (-i)) := rfl
theorem b_lenT (ns : List Int) : biE lenD (.ok [tI ns]) = .ok (.int (ns.length : Int)) := by rw [biE_ok, len_tI]; rfl
theorem b_lenL (ns : List Int) : biE lenD (.ok [lI ns]) = .ok (.int (ns.length : Int)) := by rw [biE_ok, len_lI]; rfl
theorem b_lent (ds : List D) : biE lenD (.ok [.tuple ds]) = .ok (.int (ds.length : Int)) := rfl
theorem b_lenl (ds : List D) : biE lenD (.ok [.list ds]) = .ok (.int (ds.length : Int)) := rfl
theorem u_revT (ns : List Int) : un1 revD (.ok (tI ns)) = .ok (tI ns.reverse) := by rw [un1_ok, rev_tI]; rfl
theorem u_revL (ns : List Int) : un1 revD (.ok (lI ns)) = .ok (lI ns.reverse) := by rw [un1_ok, rev_lI]; rfl
theorem b_tup (ds : List D) : biE tupleT (.ok [.list ds]) = .ok (.tuple ds) := rfl
theorem b_tupT (ds : List D) : biE tupleT (.ok [.tuple ds]) = .ok (.tuple ds) := rfl
theorem b_lst (ds : List D) : biE listT (.ok [.tuple ds]) = .ok (.list ds) := rfl
theorem b_lstL (ds : List D) : biE listT (.ok [.list ds]) = .ok (.list ds) := rfl
theorem b_srtT (ns : List Int) : biE sortedD (.ok [tI ns]) = .ok (lI (srt ns)) := by rw [biE_ok, sorted_tI]; rfl
theorem b_srtL (ns : List Int) : biE sortedD (.ok [lI ns]) = .ok (lI (srt ns)) := by rw [biE_ok, sorted_lI]; rfl
theorem b_eqT (a b : List Int) : bin2 eqD (.ok (tI a)) (.ok (tI b)) = .ok (.bool (decide (a = b))) := by rw [bin2_ok, eq_tI]; rfl
theorem b_neT (a b : List Int) : bin2 neD (.ok (tI a)) (.ok (tI b)) = .ok (.bool (!decide (a = b))) := by rw [bin2_ok, ne_tI]; rfl
theorem b_eqL (a b : List Int) : bin2 eqD (.ok (lI a)) (.ok (lI b)) = .ok (.bool (decide (a = b))) := by rw [bin2_ok, eq_lI]; rfl
theorem b_neL (a b : List Int) : bin2 neD (.ok (lI a)) (.ok (lI b)) = .ok (.bool (!decide (a = b))) := by rw [bin2_ok, ne_lI]; rfl
theorem b_eqU (a b : List Bool) : bin2 eqD (.ok (U a)) (.ok (U b)) = .ok (.bool (decide (a = b))) := by rw [bin2_ok, eq_U]; rfl
theorem b_neU (a b : List Bool) : bin2 neD (.ok (U a)) (.ok (U b)) = .ok (.bool (!decide (a = b))) := by rw [bin2_ok, ne_U]; rfl
theorem b_ne_self {d : D} (h : SeqAt.shaped d = true) : bin2 neD (.ok d) (.ok d) = .ok (.bool false) := by rw [bin2_ok, ne_self h]; rfl
theorem b_eq_self {d : D} (h : SeqAt.shaped d = true) : bin2 eqD (.ok d) (.ok d) = .ok (.bool true) := by rw [bin2_ok, eq_self h]; rfl
theorem asgG_ev {h : D → Rho → Option Rho} : sAsgG h f ρ = outOf (f ρ) (fun d => outOf (ofO (h d ρ)) .next) := rfl
theorem outOf_ok {α : Type} {a : α} {k : α → Out} : outOf (.ok a) k = k a := rfl
theorem gT2_ev {g1 g2 : D → Rho → Option Rho} {x y : D} : gT 2 (gConss g1 (gConss g2 gNils)) (.tuple [x, y]) ρ = (g1 x ρ).bind fun ρ1 => g2 y ρ1 := by
  show (g1 x ρ).bind (fun ρ1 => (g2 y ρ1).bind fun ρ2 => some ρ2) = _
  cases g1 x ρ with
  | none => rfl
  | some ρ1 =>
    show (g2 y ρ1).bind (fun ρ2 => some ρ2) = g2 y ρ1
    cases g2 y ρ1 <;> rfl
theorem gT3_ev {g1 g2 g3 : D → Rho → Option Rho} {x y z : D} : gT 3 (gConss g1 (gConss g2 (gConss g3 gNils))) (.tuple [x, y, z]) ρ = (g1 x ρ).bind fun ρ1 => (g2 y ρ1).bind fun ρ2 => g3 z ρ2 := by
  show (g1 x ρ).bind (fun ρ1 => (g2 y ρ1).bind fun ρ2 => (g3 z ρ2).bind fun ρ3 => some ρ3) = _
  cases g1 x ρ with
  | none => rfl
  | some ρ1 =>
    show (g2 y ρ1).bind (fun ρ2 => (g3 z ρ2).bind fun ρ3 => some ρ3) = (g2 y ρ1).bind fun ρ2 => g3 z ρ2
    cases g2 y ρ1 with
    | none => rfl
    | some ρ2 =>
      show (g3 z ρ2).bind (fun ρ3 => some ρ3) = g3 z ρ2
      cases g3 z ρ2 <;> rfl
theorem sbind_some {α β : Type} {a : α} {k : α → Option β} : (some a).bind k = k a := rfl
theorem resOf_ret {d : D} : resOf (.ret d) = .ok d := rfl
theorem resOf_exc {c : Nat} : resOf (.exc c) = .exc c := rfl
end
end Dn
set_option Elab.async false
set_option linter.all false
set_option maxRecDepth 100000
/-! plain laws: what repr shows of texts and great numbers; membership; ranges of three -/
namespace Dn
open PySem L2
theorem ch_lt (ch : Char) : ch.toNat < 1114112 := by
  rcases ch.valid with h | h
  · exact Nat.lt_trans h (by decide)
  · exact h.2
theorem reprChar_lt {q c : Nat} (hc : c < 1114112) : ∀ x ∈ Builtin.Str.reprChar q c, x < 1114112 := by
  have hh : ∀ w x, x ∈ List.replicate (w - ((Nat.toDigits 16 c).map Char.toNat).length) 48 ++ (Nat.toDigits 16 c).map Char.toNat → x < 1114112 := by
    intro w x hx
    rcases List.mem_append.mp hx with h | h
    · rw [(List.mem_replicate.mp h).2]; decide
    · obtain ⟨ch, _, rfl⟩ := List.mem_map.mp h; exact ch_lt ch
  intro x hx
  unfold Builtin.Str.reprChar at hx
  dsimp only at hx
  repeat' split at hx
  all_goals simp only [List.mem_append, List.mem_cons, List.not_mem_nil, or_false] at hx
  all_goals first
    | (rcases hx with rfl | rfl <;> first | decide | exact hc)
    | (subst hx; exact hc)
    | (rcases hx with (rfl | rfl) | h
       · decide
       · decide
       · exact hh _ x (List.mem_append.mpr h))
theorem repr_fold_lt (q : Nat) : ∀ (l : List Nat) (acc : Array Nat), (∀ c ∈ l, c < 1114112) → (∀ c ∈ acc.toList, c < 1114112) → ∀ c ∈ (l.foldl (fun out c => out ++ (Builtin.Str.reprChar q c).toArray) acc).toList, c < 1114112
  | [], _, _, h => h
  | a :: l, acc, h, h2 => repr_fold_lt q l _ (fun c hc => h c (List.mem_cons_of_mem _ hc)) fun c hc => by
      rw [Array.toList_append] at hc
      rcases List.mem_append.mp hc with z | z
      · exact h2 c z
      · exact reprChar_lt (h a (List.mem_cons_self ..)) c z
theorem strOk_iff {x : Str} : PyData.strOk x = true ↔ ∀ c ∈ x.cps.toList, c < 1114112 := by
  unfold PyData.strOk
  rw [← Array.all_toList, List.all_eq_true]
  exact ⟨fun h c hc => of_decide_eq_true (h c hc), fun h c hc => decide_eq_true (h c hc)⟩
theorem reprQ (x : Str) : reprQuote x < 1114112 := by
  unfold reprQuote
  split <;> decide
theorem repr_strOk {x : Str} (h : PyData.strOk x = true) : PyData.strOk (reprText x) = true := by
  rw [strOk_iff] at h ⊢
  unfold reprText
  show ∀ c ∈ ((x.cps.foldl (fun out c => out ++ (Builtin.Str.reprChar (reprQuote x) c).toArray) #[reprQuote x]).push (reprQuote x)).toList, c < 1114112
  rw [Array.toList_push, ← Array.foldl_toList]
  intro c hc
  rcases List.mem_append.mp hc with z | z
  · refine repr_fold_lt _ _ _ h (fun c hc => ?_) c z
    rw [List.mem_singleton.mp hc]; exact reprQ x
  · rw [List.mem_singleton.mp z]; exact reprQ x
/-- a text of at most m signs -/
theorem sh_text {x : Str} {m : Nat} (h : PyData.strOk x = true) (hm : x.length ≤ m) : SH (10 * m + 2) 0 (.str x) :=
  ⟨by simp only [PyData.showable], rfl, by simp only [PyData.depth]; omega, by
    simp only [PyData.shown]
    have := PySem.StrLaws.reprText_len x (fun c hc => Nat.lt_trans (strOk_iff.mp h c hc) (by decide))
    omega, by simp only [PyData.shown]; exact repr_strOk h⟩
theorem log_le {n k : Nat} (h : n < 10 ^ k) (hk : k ≤ 400) : n.log2 < 1920 := by
  have : n < 2 ^ 1600 := Nat.lt_of_lt_of_le h (Nat.le_trans (Nat.pow_le_pow_right (by decide) hk) (by decide +kernel))
  exact Nat.lt_of_le_of_lt (log2_le (m := 1599) this) (by decide)
theorem sh_intk {i : Int} {k : Nat} (h0 : 0 < k) (hk : k ≤ 400) (h : i.natAbs < 10 ^ k) : SH (k + 1) 0 (.int i) := by
  refine ⟨?_, rfl, by simp only [PyData.depth]; omega, ?_, by simp only [PyData.shown]; exact ok_lit _⟩
  · simp only [PyData.showable]
    exact decide_eq_true (log_le h hk)
  · simp only [PyData.shown]
    have := int_text_length_le10 h0 h
    show (Str.ofString (toString i)).length ≤ _
    rw [ofString_length]; exact this
theorem ofStr_len (x : String) : (Str.ofString x).length = x.length := ofString_length x
/-- True in a list of truths that are False -/
theorem in_false (n : Nat) : bin2 inD (.ok (.bool true)) (.ok (.list (List.replicate n (.bool false)))) = .ok (.bool false) := by
  have h : PyData.canLayAll0 (List.replicate n (PyData.bool false)) = true ∧ PyData.depthAll (List.replicate n (PyData.bool false)) = 0 := by
    induction n with
    | zero => exact ⟨by simp only [List.replicate, PyData.canLayAll0], by simp only [List.replicate, PyData.depthAll]⟩
    | succ n ih => rw [List.replicate_succ]; exact ⟨by simp only [PyData.canLayAll0, PyData.canLay0, ih.1, Bool.and_self], by simp only [PyData.depthAll, PyData.depth, ih.2, Nat.max_self]⟩
  have hs : SeqAt.shaped (.list (List.replicate n (.bool false))) = true := by
    unfold SeqAt.shaped; simp only [PyData.canLay0, PyData.depth, h.1, h.2]; decide
  rw [bin2_ok]
  show ofO ((if SeqAt.shaped (PyData.bool true) = true ∧ SeqAt.shaped (PyData.list (List.replicate n (PyData.bool false))) = true then some ((List.replicate n (PyData.bool false)).any fun z => z.eqv (.bool true)) else none).map PyData.bool) = _
  rw [if_pos ⟨by decide +kernel, hs⟩]
  have e : ((List.replicate n (PyData.bool false)).any fun z => z.eqv (.bool true)) = false := by
    rw [List.any_eq_false]
    intro z hz
    rw [(List.mem_replicate.mp hz).2]
    simp [PyData.eqv]
  rw [e]; rfl
def tr3E (x : Res (List D)) : Res D := x.bind fun ds => (ofO (range3D ds)).bind fun xs => if xs.length ≤ 2 ^ 24 then .ok (.tuple xs) else .bad
theorem eTupRg3_ev {gs : Rho → Res (List D)} {ρ : Rho} : eTupRg3 gs ρ = tr3E (gs ρ) := rfl
theorem range3_down {i j : Int} (h1 : -(2 ^ 20) ≤ i) (h2 : i < 2 ^ 20) (h3 : -(2 ^ 20) ≤ j) (h4 : j < 2 ^ 20) : range3D [.int i, .int j, .int (-1)] = some (rangeCD i (-1) (i - j).toNat) := by
  have h := RgC.neg (i := i) (j := j) (by omega) (by omega) (by omega) (by omega)
  show (if (-1 : Int) ≠ 0 ∧ (-1 : Int).natAbs < 1073741824 ∧ Builtin.Range.small i j (-1) = true ∧ 0 ≤ Builtin.Range.rangeSize i j (-1) then some (rangeCD i (-1) (Builtin.Range.rangeSize i j (-1)).toNat) else none) = _
  rw [if_pos ⟨h.1, h.2.1, h.2.2.1, by rw [h.2.2.2]; omega⟩, h.2.2.2, Int.toNat_natCast]
/-- n, n - 1, .. : k of them -/
def iotaD (n : Int) (k : Nat) : List Int := (List.range k).map fun (i : Nat) => n + (i : Int) * (-1)
theorem tr3_down {i j : Int} (h1 : -(2 ^ 20) ≤ i) (h2 : i < 2 ^ 20) (h3 : -(2 ^ 20) ≤ j) (h4 : j < 2 ^ 20) : tr3E (.ok [.int i, .int j, .int (-1)]) = .ok (tI (iotaD i (i - j).toNat)) := by
  show (ofO (range3D [.int i, .int j, .int (-1)])).bind (fun xs => if xs.length ≤ 2 ^ 24 then Res.ok (PyData.tuple xs) else .bad) = _
  rw [range3_down h1 h2 h3 h4]
  show (if (rangeCD i (-1) (i - j).toNat).length ≤ 2 ^ 24 then Res.ok (PyData.tuple (rangeCD i (-1) (i - j).toNat)) else .bad) = _
  rw [if_pos (by unfold rangeCD; rw [List.length_map, List.length_range]; omega)]
  unfold rangeCD iotaD
  show _ = Res.ok (PyData.tuple (((List.range (i - j).toNat).map fun (k : Nat) => i + (k : Int) * (-1)).map PyData.int))
  rw [List.map_map]; rfl
theorem b_ixT {ns : List Int} {i : Nat} (h : i < ns.length) : bin2 ixD (.ok (tI ns)) (.ok (.int (i : Int))) = .ok (.int ns[i]) := by rw [bin2_ok, ix_tI h]; rfl
theorem b_ixL {ns : List Int} {i : Nat} (h : i < ns.length) : bin2 ixD (.ok (lI ns)) (.ok (.int (i : Int))) = .ok (.int ns[i]) := by rw [bin2_ok, ix_lI h]; rfl
theorem b_mul {i j : Int} (a b : Nat) (hi : i.natAbs < 2 ^ (a + 1)) (hj : j.natAbs < 2 ^ (b + 1)) (h : a + b < 1000000) : bin2 mulD (.ok (.int i)) (.ok (.int j)) = .ok (.int (i * j)) := by rw [bin2_ok, mul_small a b hi hj h]; rfl
/-- the part of a list that a number picks -/
theorem b_pick {xs : List D} {i : Nat} (h : i < xs.length) : bin2 ixD (.ok (.list xs)) (.ok (.int (i : Int))) = .ok xs[i] := by
  rw [bin2_ok]
  show ofO (atI xs (i : Int)) = _
  rw [at_nat, List.getElem?_eq_getElem h]; rfl
theorem b_pickT {xs : List D} {i : Nat} (h : i < xs.length) : bin2 ixD (.ok (.tuple xs)) (.ok (.int (i : Int))) = .ok xs[i] := by
  rw [bin2_ok]
  show ofO (atI xs (i : Int)) = _
  rw [at_nat, List.getElem?_eq_getElem h]; rfl
/-- .. by any whole number in range -/
theorem b_pickI {xs : List D} {q : Int} (h0 : 0 ≤ q) (h : q < xs.length) : ∃ y ∈ xs, bin2 ixD (.ok (.list xs)) (.ok (.int q)) = .ok y := by
  obtain ⟨i, rfl⟩ : ∃ i : Nat, q = (i : Int) := ⟨q.toNat, by omega⟩
  exact ⟨xs[i]'(by omega), List.getElem_mem _, b_pick (by omega)⟩
end Dn
set_option Elab.async false
set_option linter.all false
set_option maxRecDepth 100000
/-! plain laws: tuples of any data, parallel assignment, pops -/
namespace Dn
open PySem L2
section
variable {ρ ρ' : Rho} {f fa fb : Rho → Res D} {i j : Nat} {d e : D} {ds : List D} {gs : Rho → Res (List D)}
def parV (x : Res (List D)) (i j : Nat) (ρ : Rho) : Out := outOf x fun ds => match ds with
  | [d, e] => .next ((ρ.set i (some d)).set j (some e))
  | _ => .bad
theorem sPar_ev : sPar i j gs ρ = parV (gs ρ) i j ρ := rfl
theorem parV_ok : parV (.ok [d, e]) i j ρ = .next ((ρ.set i (some d)).set j (some e)) := rfl
theorem i_bool (b : Bool) : biE intT (.ok [.bool b]) = .ok (.int (if b = true then 1 else 0)) := by cases b <;> rfl
theorem slt_to (ds : List D) (k : Nat) : slE (.ok (.tuple ds)) (.ok none) (.ok (some (k : Int))) = .ok (.tuple (ds.take k)) := by
  show Res.ok (PyData.tuple (cutL ds none (some (k : Int)))) = _
  rw [cutL_to]
theorem slt_from (ds : List D) (k : Nat) : slE (.ok (.tuple ds)) (.ok (some (k : Int))) (.ok none) = .ok (.tuple (ds.drop k)) := by
  show Res.ok (PyData.tuple (cutL ds (some (k : Int)) none)) = _
  rw [cutL_from]
theorem slt_from1 (ds : List D) (k : Nat) : slE (.ok (.tuple ds)) (.ok (some ((k : Int) + 1))) (.ok none) = .ok (.tuple (ds.drop (k + 1))) := slt_from ds (k + 1)
theorem slt_any (ds : List D) (lo hi : Option Int) : slE (.ok (.tuple ds)) (.ok lo) (.ok hi) = .ok (.tuple (cutL ds lo hi)) := rfl
theorem u_revt (ds : List D) : un1 revD (.ok (.tuple ds)) = .ok (.tuple ds.reverse) := rfl
theorem mem_cut {α : Type} {xs : List α} {lo hi : Option Int} {x : α} (h : x ∈ cutL xs lo hi) : x ∈ xs := by
  unfold cutL at h
  exact List.mem_of_mem_drop (List.mem_of_mem_take h)
theorem cut_len {α : Type} (xs : List α) (lo hi : Option Int) : (cutL xs lo hi).length ≤ xs.length := by
  unfold cutL
  rw [List.length_take, List.length_drop]; omega
def popV (x : Res (D × Rho)) (h : D → Rho → Option Rho) : Out := outOf x fun r => outOf (ofO (h r.1 r.2)) .next
theorem sAsgGM_ev {h : D → Rho → Option Rho} {f : Rho → Res (D × Rho)} : sAsgGM h f ρ = popV (f ρ) h := rfl
theorem popV_ok {h : D → Rho → Option Rho} (hh : h d ρ = some ρ') : popV (.ok (d, ρ)) h = .next ρ' := by
  show outOf (ofO (h d ρ)) .next = _
  rw [hh]; rfl
theorem pop_ok (h1 : ρ[i]? = some (some (.list (ds ++ [d])))) : ePop i ρ = .ok (d, ρ.set i (some (.list ds))) := by
  unfold ePop ownL
  rw [h1]
  show (match (ds ++ [d])[(ds ++ [d]).length - 1]? with | some d' => Res.ok (d', ρ.set i (some (.list (ds ++ [d]).dropLast))) | none => .bad) = _
  rw [List.length_append, List.length_singleton, Nat.add_sub_cancel, List.getElem?_append_right (Nat.le_refl _), Nat.sub_self, List.dropLast_concat]
  rfl
theorem extend_ok {es : List D} (h1 : ρ[i]? = some (some (.list ds))) (h2 : f ρ = .ok (.list es)) (h3 : ds.length + es.length ≤ 100000) : eExtend i f ρ = .ok (.none, ρ.set i (some (.list (ds ++ es)))) := by
  unfold eExtend ownL
  rw [h1, h2]
  show (if ds.length + es.length ≤ sizeLine then Res.ok (PyData.none, ρ.set i (some (.list (ds ++ es)))) else .bad) = _
  rw [if_pos (Nat.le_trans h3 (by decide))]
theorem popAt_ok {k : Nat} (h1 : ρ[i]? = some (some (.list ds))) (h2 : f ρ = .ok (.int (k : Int))) (h3 : k < ds.length) (h4 : ds.length ≤ 100000) : ePopAt i f ρ = .ok (ds[k], ρ.set i (some (.list (ds.eraseIdx k)))) := by
  unfold ePopAt ownL
  rw [h1, h2]
  have e : ixN ds.length (k : Int) = some k := by
    unfold ixN
    rw [if_pos (by omega), if_pos (by omega), Int.toNat_natCast]
  show (if fits ds = true then (match ixN ds.length (k : Int) with | some j => (match ds[j]? with | some d => Res.ok (d, ρ.set i (some (.list (ds.eraseIdx j)))) | none => .bad) | none => .bad) else .bad) = _
  rw [if_pos (fits_of h4), e]
  show (match ds[k]? with | some d => Res.ok (d, ρ.set i (some (.list (ds.eraseIdx k)))) | none => .bad) = _
  rw [List.getElem?_eq_getElem h3]
theorem tt_0 : tupE (.ok []) = .ok (.tuple []) := tupE_0
end
/-- things that repr shows short -/
def Shs (ds : List D) : Prop := (∀ x ∈ ds, sm x) ∧ ds.length ≤ 100
theorem Shs.tup {ds : List D} (h : Shs ds) : Sh (.tuple ds) := (tup_sh h.1 h.2).sh (by omega) (by omega)
theorem Shs.lst {ds : List D} (h : Shs ds) : Sh (.list ds) := (lst_sh h.1 h.2).sh (by omega) (by omega)
theorem shs_of {ds es : List D} (h : ∀ x ∈ ds, sm x) (hm : ∀ x ∈ es, x ∈ ds) (hl : es.length ≤ 100) : Shs es := ⟨fun x hx => h x (hm x hx), hl⟩
theorem sm_none : sm (.none : D) := sh_none.le (by omega) (by omega)
theorem sm_bool (b : Bool) : sm (.bool b) := (sh_bool b).le (by omega) (by omega)
theorem sm_lit (x : String) (h : x.length ≤ 6) : sm (.str x) := (sh_text (ok_lit x) (by rw [ofStr_len]; exact h)).le (by omega) (by omega)
theorem sm_tup1 {i : Int} (h : i.natAbs < 10 ^ 12) : sm (.tuple [.int i]) := (SH.tup (m := 1) (sm1 _ (sh_int h)) (by simp)).le (by omega) (by omega)
theorem sm_tup2 {i j : Int} (h : i.natAbs < 10 ^ 12) (h' : j.natAbs < 10 ^ 12) : sm (.tuple [.int i, .int j]) := (SH.tup (n := 13) (k := 0) (m := 2) (fun x hx => by
  simp only [List.mem_cons, List.not_mem_nil, or_false] at hx
  rcases hx with rfl | rfl
  · exact sh_int h
  · exact sh_int h') (by simp)).le (by omega) (by omega)
/-- by a look -/
def shB (d : D) : Bool := shOk d && PyData.strOk d.shown
theorem shB_ok {d : D} (h : shB d = true) : Sh d := by
  unfold shB at h
  rw [Bool.and_eq_true] at h
  exact h
end Dn

set_option Elab.async false
set_option linter.all false
set_option maxRecDepth 100000
namespace Lw
open PySem L2 Dn
def top (i : Nat) : Stmt := PySem.Challenge.pw_upanddowns_k15_whole_triangle.main.body.getD i (.Pass ⟨0, 0, 0, 0⟩)

abbrev s__law_cell_at : Stmt := top 29
abbrev N__law_cell_at : List Str := ["_law_script", "_law_k"]
theorem sc__law_cell_at : FnScope N__law_cell_at ["_law_script", "_law_k"] (defScope s__law_cell_at) := ⟨rfl, rfl, rfl, by decide +kernel, rfl, by decide +kernel, by decide +kernel⟩
abbrev s_is_whole : Stmt := top 4
abbrev N_is_whole : List Str := ["thing"]
theorem sc_is_whole : FnScope N_is_whole ["thing"] (defScope s_is_whole) := ⟨rfl, rfl, rfl, by decide +kernel, rfl, by decide +kernel, by decide +kernel⟩
abbrev s_is_number : Stmt := top 5
abbrev N_is_number : List Str := ["thing", "least", "most"]
theorem sc_is_number : FnScope N_is_number ["thing", "least", "most"] (defScope s_is_number) := ⟨rfl, rfl, rfl, by decide +kernel, rfl, by decide +kernel, by decide +kernel⟩
abbrev s_need_number : Stmt := top 6
abbrev N_need_number : List Str := ["thing", "least", "most"]
theorem sc_need_number : FnScope N_need_number ["thing", "least", "most"] (defScope s_need_number) := ⟨rfl, rfl, rfl, by decide +kernel, rfl, by decide +kernel, by decide +kernel⟩
abbrev s_need_n : Stmt := top 11
abbrev N_need_n : List Str := ["n"]
theorem sc_need_n : FnScope N_need_n ["n"] (defScope s_need_n) := ⟨rfl, rfl, rfl, by decide +kernel, rfl, by decide +kernel, by decide +kernel⟩
abbrev s_rows_to : Stmt := top 10
abbrev N_rows_to : List Str := ["n", "found", "ahead", "k"]
theorem sc_rows_to : FnScope N_rows_to ["n"] (defScope s_rows_to) := ⟨rfl, rfl, rfl, by decide +kernel, rfl, by decide +kernel, by decide +kernel⟩
abbrev s_row : Stmt := top 12
abbrev N_row : List Str := ["n"]
theorem sc_row : FnScope N_row ["n"] (defScope s_row) := ⟨rfl, rfl, rfl, by decide +kernel, rfl, by decide +kernel, by decide +kernel⟩
abbrev s_table : Stmt := top 17
abbrev N_table : List Str := ["n", "k", "some"]
theorem sc_table : FnScope N_table ["n"] (defScope s_table) := ⟨rfl, rfl, rfl, by decide +kernel, rfl, by decide +kernel, by decide +kernel⟩
abbrev s__law_draw : Stmt := top 30
abbrev N__law_draw : List Str := ["_law_cell", "_law_k", "_law_bound", "_law_left", "_law_j", "_law_stir"]
theorem sc__law_draw : FnScope N__law_draw ["_law_cell", "_law_k", "_law_bound"] (defScope s__law_draw) := ⟨rfl, rfl, rfl, by decide +kernel, rfl, by decide +kernel, by decide +kernel⟩
abbrev s_many_of : Stmt := top 13
abbrev N_many_of : List Str := ["n"]
theorem sc_many_of : FnScope N_many_of ["n"] (defScope s_many_of) := ⟨rfl, rfl, rfl, by decide +kernel, rfl, by decide +kernel, by decide +kernel⟩
abbrev s_many : Stmt := top 14
abbrev N_many : List Str := ["n"]
theorem sc_many : FnScope N_many ["n"] (defScope s_many) := ⟨rfl, rfl, rfl, by decide +kernel, rfl, by decide +kernel, by decide +kernel⟩
abbrev s_falls : Stmt := top 16
abbrev N_falls : List Str := ["n", "some", "k"]
theorem sc_falls : FnScope N_falls ["n"] (defScope s_falls) := ⟨rfl, rfl, rfl, by decide +kernel, rfl, by decide +kernel, by decide +kernel⟩
abbrev s_by_turns : Stmt := top 7
abbrev N_by_turns : List Str := ["many", "first", "k"]
theorem sc_by_turns : FnScope N_by_turns ["many", "first"] (defScope s_by_turns) := ⟨rfl, rfl, rfl, by decide +kernel, rfl, by decide +kernel, by decide +kernel⟩
abbrev s_pattern_of : Stmt := top 26
abbrev N_pattern_of : List Str := ["n"]
theorem sc_pattern_of : FnScope N_pattern_of ["n"] (defScope s_pattern_of) := ⟨rfl, rfl, rfl, by decide +kernel, rfl, by decide +kernel, by decide +kernel⟩
abbrev s_led : Stmt := top 19
abbrev N_led : List Str := ["sign", "some", "rank"]
theorem sc_led : FnScope N_led ["sign", "some"] (defScope s_led) := ⟨rfl, rfl, rfl, by decide +kernel, rfl, by decide +kernel, by decide +kernel⟩
abbrev s_ways : Stmt := top 20
abbrev N_ways : List Str := ["pattern", "found", "sign"]
theorem sc_ways : FnScope N_ways ["pattern"] (defScope s_ways) := ⟨rfl, rfl, rfl, by decide +kernel, rfl, by decide +kernel, by decide +kernel⟩
abbrev s_may_stand : Stmt := top 22
abbrev N_may_stand : List Str := ["sign", "rank", "left"]
theorem sc_may_stand : FnScope N_may_stand ["sign", "rank", "left"] (defScope s_may_stand) := ⟨rfl, rfl, rfl, by decide +kernel, rfl, by decide +kernel, by decide +kernel⟩
abbrev s_built : Stmt := top 23
abbrev N_built : List Str := ["pattern", "number", "left", "found", "rank", "sign", "some", "here"]
theorem sc_built : FnScope N_built ["pattern", "number"] (defScope s_built) := ⟨rfl, rfl, rfl, by decide +kernel, rfl, by decide +kernel, by decide +kernel⟩
abbrev s_count_of : Stmt := top 21
abbrev N_count_of : List Str := ["pattern"]
theorem sc_count_of : FnScope N_count_of ["pattern"] (defScope s_count_of) := ⟨rfl, rfl, rfl, by decide +kernel, rfl, by decide +kernel, by decide +kernel⟩
abbrev s_all_updowns : Stmt := top 27
abbrev N_all_updowns : List Str := ["n", "pattern", "number"]
theorem sc_all_updowns : FnScope N_all_updowns ["n"] (defScope s_all_updowns) := ⟨rfl, rfl, rfl, by decide +kernel, rfl, by decide +kernel, by decide +kernel⟩
abbrev s_all_many : Stmt := top 15
abbrev N_all_many : List Str := ["n", "some"]
theorem sc_all_many : FnScope N_all_many ["n"] (defScope s_all_many) := ⟨rfl, rfl, rfl, by decide +kernel, rfl, by decide +kernel, by decide +kernel⟩
abbrev s_law : Stmt := top 31
abbrev N_law : List Str := ["_law_script", "_law_k", "_law_cell", "_law_n", "_law_some", "_law_boards", "_law_small", "_law_firsts", "_law_one", "_law_first"]
theorem sc_law : FnScope N_law ["_law_script"] (defScope s_law) := ⟨rfl, rfl, rfl, by decide +kernel, rfl, by decide +kernel, by decide +kernel⟩
structure Txt (K : PySem.W.Frag) (mg : Str → Option Value) (Xc : Nat → Addr) (fa : Nat → Addr) (fd : Nat → FuncData) (tk : Nat → Tok) : Prop where
  F19 : Fun K "_law_cell_at" "_law_cell_at" s__law_cell_at (fa 19) (fd 19)
  b19 : Binds K (fd 19) ["_law_script", "_law_k"] []
  m19 : mg "_law_cell_at" = some (.ref (fa 19))
  F0 : Fun K "is_whole" "is_whole" s_is_whole (fa 0) (fd 0)
  b0 : Binds K (fd 0) ["thing"] []
  m0 : mg "is_whole" = some (.ref (fa 0))
  F1 : Fun K "is_number" "is_number" s_is_number (fa 1) (fd 1)
  b1 : Binds K (fd 1) ["thing", "least", "most"] []
  m1 : mg "is_number" = some (.ref (fa 1))
  F2 : Fun K "need_number" "need_number" s_need_number (fa 2) (fd 2)
  b2 : Binds K (fd 2) ["thing", "least", "most"] []
  m2 : mg "need_number" = some (.ref (fa 2))
  F5 : Fun K "need_n" "need_n" s_need_n (fa 5) (fd 5)
  b5 : Binds K (fd 5) ["n"] []
  m5 : mg "need_n" = some (.ref (fa 5))
  F4 : Fun K "rows_to" "rows_to" s_rows_to (fa 4) (fd 4)
  b4 : Binds K (fd 4) ["n"] []
  m4 : mg "rows_to" = some (.ref (fa 4))
  F6 : Fun K "row" "row" s_row (fa 6) (fd 6)
  b6 : Binds K (fd 6) ["n"] []
  m6 : mg "row" = some (.ref (fa 6))
  F11 : Fun K "table" "table" s_table (fa 11) (fd 11)
  b11 : Binds K (fd 11) ["n"] []
  m11 : mg "table" = some (.ref (fa 11))
  F20 : Fun K "_law_draw" "_law_draw" s__law_draw (fa 20) (fd 20)
  b20 : Binds K (fd 20) ["_law_cell", "_law_k", "_law_bound"] []
  m20 : mg "_law_draw" = some (.ref (fa 20))
  F7 : Fun K "many_of" "many_of" s_many_of (fa 7) (fd 7)
  b7 : Binds K (fd 7) ["n"] []
  m7 : mg "many_of" = some (.ref (fa 7))
  F8 : Fun K "many" "many" s_many (fa 8) (fd 8)
  b8 : Binds K (fd 8) ["n"] []
  m8 : mg "many" = some (.ref (fa 8))
  F10 : Fun K "falls" "falls" s_falls (fa 10) (fd 10)
  b10 : Binds K (fd 10) ["n"] []
  m10 : mg "falls" = some (.ref (fa 10))
  F3 : Fun K "by_turns" "by_turns" s_by_turns (fa 3) (fd 3)
  b3 : Binds K (fd 3) ["many", "first"] []
  m3 : mg "by_turns" = some (.ref (fa 3))
  F17 : Fun K "pattern_of" "pattern_of" s_pattern_of (fa 17) (fd 17)
  b17 : Binds K (fd 17) ["n"] []
  m17 : mg "pattern_of" = some (.ref (fa 17))
  F12 : Fun K "led" "led" s_led (fa 12) (fd 12)
  b12 : Binds K (fd 12) ["sign", "some"] []
  m12 : mg "led" = some (.ref (fa 12))
  F13 : Fun K "ways" "ways" s_ways (fa 13) (fd 13)
  b13 : Binds K (fd 13) ["pattern"] []
  m13 : mg "ways" = some (.ref (fa 13))
  F15 : Fun K "may_stand" "may_stand" s_may_stand (fa 15) (fd 15)
  b15 : Binds K (fd 15) ["sign", "rank", "left"] []
  m15 : mg "may_stand" = some (.ref (fa 15))
  F16 : Fun K "built" "built" s_built (fa 16) (fd 16)
  b16 : Binds K (fd 16) ["pattern", "number"] []
  m16 : mg "built" = some (.ref (fa 16))
  F14 : Fun K "count_of" "count_of" s_count_of (fa 14) (fd 14)
  b14 : Binds K (fd 14) ["pattern"] []
  m14 : mg "count_of" = some (.ref (fa 14))
  F18 : Fun K "all_updowns" "all_updowns" s_all_updowns (fa 18) (fd 18)
  b18 : Binds K (fd 18) ["n"] []
  m18 : mg "all_updowns" = some (.ref (fa 18))
  F9 : Fun K "all_many" "all_many" s_all_many (fa 9) (fd 9)
  b9 : Binds K (fd 9) ["n"] []
  m9 : mg "all_many" = some (.ref (fa 9))
  F21 : Fun K "law" "law" s_law (fa 21) (fd 21)
  b21 : Binds K (fd 21) ["_law_script"] []
  m21 : mg "law" = some (.ref (fa 21))
  n_bool : mg "bool" = none
  n_enumerate : mg "enumerate" = none
  n_int : mg "int" = none
  n_isinstance : mg "isinstance" = none
  n_len : mg "len" = none
  n_list : mg "list" = none
  n_max : mg "max" = none
  n_min : mg "min" = none
  n_range : mg "range" = none
  n_sorted : mg "sorted" = none
  n_sum : mg "sum" = none
  n_tuple : mg "tuple" = none
  n_zip : mg "zip" = none
  v_MOST_LISTED : mg "MOST_LISTED" = some (.int 8 (tk 0))
  v_MOST_ROWS : mg "MOST_ROWS" = some (.int 60 (tk 1))
  g1 : mg "NoNumber" = some (.ref (Xc 1))
  x1 : PySem.W.excIn K (Xc 1) [.type "ValueError", .type "Exception", .type "BaseException", .type "object"] "ValueError.__new__" = true
  k1 : PySem.W.keepIn K (.ref (Xc 1)) = true
  p1 : PySem.W.subIn K (.ref (Xc 1)) (.type "BaseException") = some true
  t1 : PySem.W.typeIn K (.ref (Xc 1)) = some (.type "type")
section
variable {P : Program} {w : World} {K : PySem.W.Frag} {mg : Str → Option Value} {base : Heap} {Xc fa : Nat → Addr} {fd : Nat → FuncData} {tk : Nat → Tok}
def g__law_cell_at : Rho → Out := sSeq (sIf (eT (eBin ltD (eVar 1) (eUn lenScr (eVar 0)))) (sRet (eBin ixD (eVar 0) (eVar 1))) (sNext)) (sRet (eC (.int 0)))
def d__law_cell_at : List D → Res D := fnD 2 g__law_cell_at
theorem ok__law_cell_at (T : Txt K mg Xc fa fd tk) : FnOk P w K mg base (L2.CX P w) 1 (fa 19) (fd 19) ["_law_script", "_law_k"] (spD K Xc ([.scr, .sh]) false d__law_cell_at) :=
  fn_ok (N := N__law_cell_at) (κ := [.scr, .sh]) (rf := false) (k := 0) (τ := [.scr, .sh]) (τo := [.scr, .sh]) (g := g__law_cell_at) T.F19 sc__law_cell_at rfl (by decide) (kd_take rfl) (by decide) fun cdv A outer s H E hr =>
    db_cons (ds_if (dt_cmp op_ltD (DnE.r (dn_var 1)) (DnE.r (dn_lenScr 0 (fun _ => T.n_len)))) (db_one (ds_ret (dn_ixScr 0 (DnE.r (dn_var 1))))) (db_nil)) (db_one (ds_ret (dn_int)))
def g_is_whole : Rho → Out := sRet (eAnd (eIsi "int" (eVar 0)) (eNot (eIsi "bool" (eVar 0))))
def d_is_whole : List D → Res D := fnD 1 g_is_whole
theorem ok_is_whole (T : Txt K mg Xc fa fd tk) : FnOk P w K mg base (L2.CX P w) 1 (fa 0) (fd 0) ["thing"] (spD K Xc (allSh 1) false d_is_whole) :=
  fn_ok (N := N_is_whole) (κ := allSh 1) (rf := false) (k := 0) (τ := [.sh]) (τo := [.sh]) (g := g_is_whole) T.F0 sc_is_whole rfl (by decide) (kd_take rfl) (by decide) fun cdv A outer s H E hr =>
    db_one (ds_ret (dn_and (dn_isi (DnE.r (dn_var 0)) (fun _ => T.n_isinstance) (fun _ => T.n_int) (by decide +kernel)) (dn_one (dn_not (dn_isi (DnE.r (dn_var 0)) (fun _ => T.n_isinstance) (fun _ => T.n_bool) (by decide +kernel))))))
def g_is_number : Rho → Out := sRet (eAnd (eCall 1 d_is_whole (aCons (eVar 0) (aNil))) (eChain leD leD (eVar 1) (eVar 0) (eVar 2)))
def d_is_number : List D → Res D := fnD 3 g_is_number
theorem ok_is_number (T : Txt K mg Xc fa fd tk) : FnOk P w K mg base (L2.CX P w) 2 (fa 1) (fd 1) ["thing", "least", "most"] (spD K Xc (allSh 3) false d_is_number) :=
  fn_ok (N := N_is_number) (κ := allSh 3) (rf := false) (k := 1) (τ := [.sh, .sh, .sh]) (τo := [.sh, .sh, .sh]) (g := g_is_number) T.F1 sc_is_number rfl (by decide) (kd_take rfl) (by decide) fun cdv A outer s H E hr =>
    db_one (ds_ret (dn_and (dn_callZ 1 (fun _ => ok_is_whole T) (fun _ => T.m0) T.F0.kp T.b0 (da_cons (dn_var 0) (da_nil))) (dn_one (dn_chain op_leD op_leD (DnE.r (dn_var 1)) (DnE.r (dn_var 0)) (DnE.r (dn_var 2))))))
def g_need_number : Rho → Out := sIf (tNotR (eTru (eCall 3 d_is_number (aCons (eVar 0) (aCons (eVar 1) (aCons (eVar 2) (aNil))))))) (fun _ => .exc 1) (sNext)
def d_need_number : List D → Res D := fnD 3 g_need_number
theorem ok_need_number (T : Txt K mg Xc fa fd tk) : FnOk P w K mg base (L2.CX P w) 3 (fa 2) (fd 2) ["thing", "least", "most"] (spD K Xc (allSh 3) false d_need_number) :=
  fn_ok (N := N_need_number) (κ := allSh 3) (rf := false) (k := 2) (τ := [.sh, .sh, .sh]) (τo := [.sh, .sh, .sh]) (g := g_need_number) T.F2 sc_need_number rfl (by decide) (kd_take rfl) (by decide) fun cdv A outer s H E hr =>
    db_one (ds_if (dt_not (dt_tru (DnE.r (dn_callZ 3 (fun _ => ok_is_number T) (fun _ => T.m1) T.F1.kp T.b1 (da_cons (dn_var 0) (da_cons (dn_var 1) (da_cons (dn_var 2) (da_nil)))))))) (db_one (ds_raise 1 PySem.F.excBase_ValueError T.x1 (fun _ => T.g1) T.k1 T.p1 T.t1)) (db_nil))
def g_need_n : Rho → Out := sDrop (eCall 3 d_need_number (aCons (eVar 0) (aCons (eC (.int 1)) (aCons (eC (.int 60)) (aNil)))))
def d_need_n : List D → Res D := fnD 1 g_need_n
theorem ok_need_n (T : Txt K mg Xc fa fd tk) : FnOk P w K mg base (L2.CX P w) 4 (fa 5) (fd 5) ["n"] (spD K Xc (allSh 1) false d_need_n) :=
  fn_ok (N := N_need_n) (κ := allSh 1) (rf := false) (k := 3) (τ := [.sh]) (τo := [.sh]) (g := g_need_n) T.F5 sc_need_n rfl (by decide) (kd_take rfl) (by decide) fun cdv A outer s H E hr =>
    db_one (ds_expr (dn_callZ 3 (fun _ => ok_need_number T) (fun _ => T.m2) T.F2.kp T.b2 (da_cons (dn_var 0) (da_cons (dn_int) (da_cons (dn_globI (hm := fun _ => T.v_MOST_ROWS)) (da_nil))))))
def g_rows_to : Rho → Out := sSeq (sAsgO 1 (eLst (aCons (eLst (aCons (eC (.int 1)) (aNil))) (aNil)))) (sSeq (sWhile (eT (eBin ltD (eBi lenD (aCons (eVar 1) (aNil))) (eVar 0))) (sSeq (sAsg 2 (eBin ixD (eVar 1) (eUn negD (eC (.int 1))))) (sDropM (eAppend 1 (eComp (iRange1 (aCons (eBin addD (eBi lenD (aCons (eVar 2) (aNil))) (eC (.int 1))) (aNil))) (gN 3) (fun _ => .ok true) (eBi sumD (aCons (eSl (eVar 2) (oNone) (oSome (eBin subD (eBi lenD (aCons (eVar 2) (aNil))) (eVar 3)))) (aNil))) [3])))) 100000) (sRet (eVar 1)))
def d_rows_to : List D → Res D := fnD 4 g_rows_to
theorem ok_rows_to (T : Txt K mg Xc fa fd tk) : FnOk P w K mg base (L2.CX P w) 1 (fa 4) (fd 4) ["n"] (spD K Xc (allSh 1) false d_rows_to) :=
  fn_ok (N := N_rows_to) (κ := allSh 1) (rf := false) (k := 0) (τ := [.sh, .own, .sh, .sh]) (τo := [.sh, .own, .sh, .sh]) (g := g_rows_to) T.F4 sc_rows_to rfl (by decide) (kd_take rfl) (by decide) fun cdv A outer s H E hr =>
    db_cons (ds_asgO 1 (dn_lst (da_cons (dn_lst (da_cons (dn_int) (da_nil))) (da_nil)))) (db_cons (ds_while 100000 (dt_cmp op_ltD (DnE.r (dn_biS c_len lenD_imm (fun _ => T.n_len) (by decide +kernel) (dar_cons (dr_var 1) (dar_nil)))) (DnE.r (dn_var 0))) (db_cons (ds_asg 2 (dn_ix (dr_var 1) (DnE.r (dn_neg (dn_int))))) (db_one (ds_exprM (dm_append 1 (DnLc.de (dn_lc (own := [("k", 3)]) (DnI.weak (di_range1 (fun _ => T.n_range) (da_cons (dn_bin op_addD (DnE.r (dn_biS c_len lenD_imm (fun _ => T.n_len) (by decide +kernel) (dar_cons (DnE.r (dn_var 2)) (dar_nil)))) (DnE.r (dn_int))) (da_nil)))) (dg_name 3) (dts_nil) (dn_biS c_sum sumD_imm (fun _ => T.n_sum) (by decide +kernel) (dar_cons (DnE.r (dn_sl (DnE.r (dn_var 2)) (do_none) (do_some (dn_bin op_subD (DnE.r (dn_biS c_len lenD_imm (fun _ => T.n_len) (by decide +kernel) (dar_cons (DnE.r (dn_var 2)) (dar_nil)))) (DnE.r (dn_var 3)))))) (dar_nil))) (fun _ => blkOk_by (by kernel_rfl))))))))) (db_one (ds_retOwn 1)))
def g_row : Rho → Out := sSeq (sDrop (eCall 1 d_need_n (aCons (eVar 0) (aNil)))) (sRet (eBin ixD (eCall 1 d_rows_to (aCons (eVar 0) (aNil))) (eUn negD (eC (.int 1)))))
def d_row : List D → Res D := fnD 1 g_row
theorem ok_row (T : Txt K mg Xc fa fd tk) : FnOk P w K mg base (L2.CX P w) 5 (fa 6) (fd 6) ["n"] (spD K Xc (allSh 1) false d_row) :=
  fn_ok (N := N_row) (κ := allSh 1) (rf := false) (k := 4) (τ := [.sh]) (τo := [.sh]) (g := g_row) T.F6 sc_row rfl (by decide) (kd_take rfl) (by decide) fun cdv A outer s H E hr =>
    db_cons (ds_expr (dn_callZ 1 (fun _ => ok_need_n T) (fun _ => T.m5) T.F5.kp T.b5 (da_cons (dn_var 0) (da_nil)))) (db_one (ds_ret (dn_ix (DnE.r (dn_callZ 1 (fun _ => ok_rows_to T) (fun _ => T.m4) T.F4.kp T.b4 (da_cons (dn_var 0) (da_nil)))) (DnE.r (dn_neg (dn_int))))))
def g_table : Rho → Out := sSeq (sDrop (eCall 1 d_need_n (aCons (eVar 0) (aNil)))) (sRet (eComp (iEnum (aCons (eCall 1 d_rows_to (aCons (eVar 0) (aNil))) (aNil))) (gT 2 (gConss (gN 1) (gConss (gN 2) (gNils)))) (fun _ => .ok true) (eIf (eT (eBin eqD (eBin modD (eVar 1) (eC (.int 2))) (eC (.int 1)))) (eUn revD (eVar 2)) (eVar 2)) [1, 2]))
def d_table : List D → Res D := fnD 3 g_table
theorem ok_table (T : Txt K mg Xc fa fd tk) : FnOk P w K mg base (L2.CX P w) 5 (fa 11) (fd 11) ["n"] (spD K Xc (allSh 1) false d_table) :=
  fn_ok (N := N_table) (κ := allSh 1) (rf := false) (k := 4) (τ := [.sh, .sh, .sh]) (τo := [.sh, .sh, .sh]) (g := g_table) T.F11 sc_table rfl (by decide) (kd_take rfl) (by decide) fun cdv A outer s H E hr =>
    db_cons (ds_expr (dn_callZ 1 (fun _ => ok_need_n T) (fun _ => T.m5) T.F5.kp T.b5 (da_cons (dn_var 0) (da_nil)))) (db_one (ds_ret (DnLc.de (dn_lc (own := [("k", 1), ("some", 2)]) (di_enumR (fun _ => T.n_enumerate) (dar_cons (DnE.r (dn_callZ 1 (fun _ => ok_rows_to T) (fun _ => T.m4) T.F4.kp T.b4 (da_cons (dn_var 0) (da_nil)))) (dar_nil))) (dg_tup 2 (dgs_cons (dg_name 1) (dgs_cons (dg_name 2) (dgs_nil)))) (dts_nil) (dn_if (dt_cmp op_eqD' (DnE.r (dn_bin op_modD (DnE.r (dn_var 1)) (DnE.r (dn_int)))) (DnE.r (dn_int))) (dn_rev (DnE.r (dn_var 2))) (dn_var 2)) (fun _ => blkOk_by (by kernel_rfl))))))
def g__law_draw : Rho → Out := sSeq (sIf (eT (eBin geD (eVar 0) (eBin powD (eC (.int 10)) (eC (.int 18))))) (sSeq (sAsg 3 (eVar 0)) (sSeq (sFor (iRange1 (aCons (eVar 1) (aNil))) (gN 4) (sSeq (sIf (eT (eBin eqD (eVar 3) (eC (.int 0)))) (sRet (eC (.int 0))) (sNext)) (sAsg 3 (eBin fdivD (eVar 3) (eVar 2))))) (sRet (eBin modD (eVar 3) (eVar 2))))) (sNext)) (sSeq (sAsg 5 (eBin modD (eBin mulD (eBin addD (eBin addD (eBin modD (eVar 0) (eC (.int 1000000007))) (eBin mulD (eC (.int 1009)) (eVar 1))) (eC (.int 17))) (eC (.int 69621))) (eC (.int 2147483647)))) (sSeq (sAsg 5 (eBin modD (eBin addD (eBin addD (eBin mulD (eVar 5) (eVar 5)) (eBin mulD (eC (.int 40503)) (eVar 1))) (eC (.int 5))) (eC (.int 2147483629)))) (sRet (eBin modD (eBin fdivD (eBin modD (eBin mulD (eVar 5) (eC (.int 48271))) (eC (.int 2147483647))) (eC (.int 32))) (eVar 2)))))
def d__law_draw : List D → Res D := fnD 6 g__law_draw
theorem ok__law_draw (T : Txt K mg Xc fa fd tk) : FnOk P w K mg base (L2.CX P w) 1 (fa 20) (fd 20) ["_law_cell", "_law_k", "_law_bound"] (spD K Xc (allSh 3) false d__law_draw) :=
  fn_ok (N := N__law_draw) (κ := allSh 3) (rf := false) (k := 0) (τ := [.sh, .sh, .sh, .sh, .sh, .sh]) (τo := [.sh, .sh, .sh, .sh, .sh, .sh]) (g := g__law_draw) T.F20 sc__law_draw rfl (by decide) (kd_take rfl) (by decide) fun cdv A outer s H E hr =>
    db_cons (ds_if (dt_cmp op_geD (DnE.r (dn_var 0)) (DnE.r (dn_bin op_powD (DnE.r (dn_int)) (DnE.r (dn_int))))) (db_cons (ds_asg 3 (dn_var 0)) (db_cons (ds_for (di_range1 (fun _ => T.n_range) (da_cons (dn_var 1) (da_nil))) (dg_name 4) (db_cons (ds_if (dt_cmp op_eqD' (DnE.r (dn_var 3)) (DnE.r (dn_int))) (db_one (ds_ret (dn_int))) (db_nil)) (db_one (ds_asg 3 (dn_bin op_fdivD (DnE.r (dn_var 3)) (DnE.r (dn_var 2))))))) (db_one (ds_ret (dn_bin op_modD (DnE.r (dn_var 3)) (DnE.r (dn_var 2))))))) (db_nil)) (db_cons (ds_asg 5 (dn_bin op_modD (DnE.r (dn_bin op_mulD (DnE.r (dn_bin op_addD (DnE.r (dn_bin op_addD (DnE.r (dn_bin op_modD (DnE.r (dn_var 0)) (DnE.r (dn_int)))) (DnE.r (dn_bin op_mulD (DnE.r (dn_int)) (DnE.r (dn_var 1)))))) (DnE.r (dn_int)))) (DnE.r (dn_int)))) (DnE.r (dn_int)))) (db_cons (ds_asg 5 (dn_bin op_modD (DnE.r (dn_bin op_addD (DnE.r (dn_bin op_addD (DnE.r (dn_bin op_mulD (DnE.r (dn_var 5)) (DnE.r (dn_var 5)))) (DnE.r (dn_bin op_mulD (DnE.r (dn_int)) (DnE.r (dn_var 1)))))) (DnE.r (dn_int)))) (DnE.r (dn_int)))) (db_one (ds_ret (dn_bin op_modD (DnE.r (dn_bin op_fdivD (DnE.r (dn_bin op_modD (DnE.r (dn_bin op_mulD (DnE.r (dn_var 5)) (DnE.r (dn_int)))) (DnE.r (dn_int)))) (DnE.r (dn_int)))) (DnE.r (dn_var 2)))))))
def g_many_of : Rho → Out := sRet (eBi sumD (aCons (eBin ixD (eCall 1 d_rows_to (aCons (eVar 0) (aNil))) (eUn negD (eC (.int 1)))) (aNil)))
def d_many_of : List D → Res D := fnD 1 g_many_of
theorem ok_many_of (T : Txt K mg Xc fa fd tk) : FnOk P w K mg base (L2.CX P w) 2 (fa 7) (fd 7) ["n"] (spD K Xc (allSh 1) false d_many_of) :=
  fn_ok (N := N_many_of) (κ := allSh 1) (rf := false) (k := 1) (τ := [.sh]) (τo := [.sh]) (g := g_many_of) T.F7 sc_many_of rfl (by decide) (kd_take rfl) (by decide) fun cdv A outer s H E hr =>
    db_one (ds_ret (dn_biS c_sum sumD_imm (fun _ => T.n_sum) (by decide +kernel) (dar_cons (DnE.r (dn_ix (DnE.r (dn_callZ 1 (fun _ => ok_rows_to T) (fun _ => T.m4) T.F4.kp T.b4 (da_cons (dn_var 0) (da_nil)))) (DnE.r (dn_neg (dn_int))))) (dar_nil))))
def g_many : Rho → Out := sSeq (sDrop (eCall 1 d_need_n (aCons (eVar 0) (aNil)))) (sRet (eCall 1 d_many_of (aCons (eVar 0) (aNil))))
def d_many : List D → Res D := fnD 1 g_many
theorem ok_many (T : Txt K mg Xc fa fd tk) : FnOk P w K mg base (L2.CX P w) 5 (fa 8) (fd 8) ["n"] (spD K Xc (allSh 1) false d_many) :=
  fn_ok (N := N_many) (κ := allSh 1) (rf := false) (k := 4) (τ := [.sh]) (τo := [.sh]) (g := g_many) T.F8 sc_many rfl (by decide) (kd_take rfl) (by decide) fun cdv A outer s H E hr =>
    db_cons (ds_expr (dn_callZ 1 (fun _ => ok_need_n T) (fun _ => T.m5) T.F5.kp T.b5 (da_cons (dn_var 0) (da_nil)))) (db_one (ds_ret (dn_callZ 1 (fun _ => ok_many_of T) (fun _ => T.m7) T.F7.kp T.b7 (da_cons (dn_var 0) (da_nil)))))
def g_falls : Rho → Out := sSeq (sDrop (eCall 1 d_need_n (aCons (eVar 0) (aNil)))) (sSeq (sAsg 1 (eBin ixD (eCall 1 d_rows_to (aCons (eVar 0) (aNil))) (eUn negD (eC (.int 1))))) (sRet (eComp (iRange1 (aCons (eBin subD (eVar 0) (eC (.int 1))) (aNil))) (gN 2) (fun _ => .ok true) (eBin subD (eBin ixD (eVar 1) (eVar 2)) (eBin ixD (eVar 1) (eBin addD (eVar 2) (eC (.int 1))))) [2])))
def d_falls : List D → Res D := fnD 3 g_falls
theorem ok_falls (T : Txt K mg Xc fa fd tk) : FnOk P w K mg base (L2.CX P w) 5 (fa 10) (fd 10) ["n"] (spD K Xc (allSh 1) false d_falls) :=
  fn_ok (N := N_falls) (κ := allSh 1) (rf := false) (k := 4) (τ := [.sh, .sh, .sh]) (τo := [.sh, .sh, .sh]) (g := g_falls) T.F10 sc_falls rfl (by decide) (kd_take rfl) (by decide) fun cdv A outer s H E hr =>
    db_cons (ds_expr (dn_callZ 1 (fun _ => ok_need_n T) (fun _ => T.m5) T.F5.kp T.b5 (da_cons (dn_var 0) (da_nil)))) (db_cons (ds_asg 1 (dn_ix (DnE.r (dn_callZ 1 (fun _ => ok_rows_to T) (fun _ => T.m4) T.F4.kp T.b4 (da_cons (dn_var 0) (da_nil)))) (DnE.r (dn_neg (dn_int))))) (db_one (ds_ret (DnLc.de (dn_lc (own := [("k", 2)]) (DnI.weak (di_range1 (fun _ => T.n_range) (da_cons (dn_bin op_subD (DnE.r (dn_var 0)) (DnE.r (dn_int))) (da_nil)))) (dg_name 2) (dts_nil) (dn_bin op_subD (DnE.r (dn_ix (DnE.r (dn_var 1)) (DnE.r (dn_var 2)))) (DnE.r (dn_ix (DnE.r (dn_var 1)) (DnE.r (dn_bin op_addD (DnE.r (dn_var 2)) (DnE.r (dn_int))))))) (fun _ => blkOk_by (by kernel_rfl)))))))
def g_by_turns : Rho → Out := sRet (eBinK isTxt joinD (eC (.str "")) (eComp (iRange1 (aCons (eVar 0) (aNil))) (gN 2) (fun _ => .ok true) (eBin ixD (eC (.str "ud")) (eBin modD (eBin addD (eVar 2) (eBi intT (aCons (eBin eqD (eVar 1) (eC (.str "d"))) (aNil)))) (eC (.int 2)))) [2]))
def d_by_turns : List D → Res D := fnD 3 g_by_turns
theorem ok_by_turns (T : Txt K mg Xc fa fd tk) : FnOk P w K mg base (L2.CX P w) 1 (fa 3) (fd 3) ["many", "first"] (spD K Xc (allSh 2) false d_by_turns) :=
  fn_ok (N := N_by_turns) (κ := allSh 2) (rf := false) (k := 0) (τ := [.sh, .sh, .sh]) (τo := [.sh, .sh, .sh]) (g := g_by_turns) T.F3 sc_by_turns rfl (by decide) (kd_take rfl) (by decide) fun cdv A outer s H E hr =>
    db_one (ds_ret (dn_join (DnE.r (dn_str)) (DnE.r (DnLc.de (dn_lc (own := [("k", 2)]) (DnI.weak (di_range1 (fun _ => T.n_range) (da_cons (dn_var 0) (da_nil)))) (dg_name 2) (dts_nil) (dn_ix (DnE.r (dn_str)) (DnE.r (dn_bin op_modD (DnE.r (dn_bin op_addD (DnE.r (dn_var 2)) (DnE.r (dn_tyS c_int intT_imm (fun _ => T.n_int) (by decide +kernel) (dar_cons (DnE.r (dn_cmp op_eqD' (DnE.r (dn_var 1)) (DnE.r (dn_str)))) (dar_nil)))))) (DnE.r (dn_int))))) (fun _ => blkOk_by (by kernel_rfl)))))))
def g_pattern_of : Rho → Out := sRet (eCall 2 d_by_turns (aCons (eBin subD (eVar 0) (eC (.int 1))) (aCons (eC (.str "u")) (aNil))))
def d_pattern_of : List D → Res D := fnD 1 g_pattern_of
theorem ok_pattern_of (T : Txt K mg Xc fa fd tk) : FnOk P w K mg base (L2.CX P w) 2 (fa 17) (fd 17) ["n"] (spD K Xc (allSh 1) false d_pattern_of) :=
  fn_ok (N := N_pattern_of) (κ := allSh 1) (rf := false) (k := 1) (τ := [.sh]) (τo := [.sh]) (g := g_pattern_of) T.F17 sc_pattern_of rfl (by decide) (kd_take rfl) (by decide) fun cdv A outer s H E hr =>
    db_one (ds_ret (dn_callZ 2 (fun _ => ok_by_turns T) (fun _ => T.m3) T.F3.kp T.b3 (da_cons (dn_bin op_subD (DnE.r (dn_var 0)) (DnE.r (dn_int))) (da_cons (dn_str) (da_nil)))))
def g_led : Rho → Out := sSeq (sIf (eT (eBin eqD (eVar 0) (eC (.str "u")))) (sRet (eComp (iRange1 (aCons (eBin addD (eBi lenD (aCons (eVar 1) (aNil))) (eC (.int 1))) (aNil))) (gN 2) (fun _ => .ok true) (eBi sumD (aCons (eSl (eVar 1) (oSome (eVar 2)) (oNone)) (aNil))) [2])) (sNext)) (sSeq (sIf (eT (eBin eqD (eVar 0) (eC (.str "d")))) (sRet (eComp (iRange1 (aCons (eBin addD (eBi lenD (aCons (eVar 1) (aNil))) (eC (.int 1))) (aNil))) (gN 2) (fun _ => .ok true) (eBi sumD (aCons (eSl (eVar 1) (oNone) (oSome (eVar 2))) (aNil))) [2])) (sNext)) (sRet (eBin mulD (eLst (aCons (eBi sumD (aCons (eVar 1) (aNil))) (aNil))) (eBin addD (eBi lenD (aCons (eVar 1) (aNil))) (eC (.int 1))))))
def d_led : List D → Res D := fnD 3 g_led
theorem ok_led (T : Txt K mg Xc fa fd tk) : FnOk P w K mg base (L2.CX P w) 1 (fa 12) (fd 12) ["sign", "some"] (spD K Xc (allSh 2) false d_led) :=
  fn_ok (N := N_led) (κ := allSh 2) (rf := false) (k := 0) (τ := [.sh, .sh, .sh]) (τo := [.sh, .sh, .sh]) (g := g_led) T.F12 sc_led rfl (by decide) (kd_take rfl) (by decide) fun cdv A outer s H E hr =>
    db_cons (ds_if (dt_cmp op_eqD' (DnE.r (dn_var 0)) (DnE.r (dn_str))) (db_one (ds_ret (DnLc.de (dn_lc (own := [("rank", 2)]) (DnI.weak (di_range1 (fun _ => T.n_range) (da_cons (dn_bin op_addD (DnE.r (dn_biS c_len lenD_imm (fun _ => T.n_len) (by decide +kernel) (dar_cons (DnE.r (dn_var 1)) (dar_nil)))) (DnE.r (dn_int))) (da_nil)))) (dg_name 2) (dts_nil) (dn_biS c_sum sumD_imm (fun _ => T.n_sum) (by decide +kernel) (dar_cons (DnE.r (dn_sl (DnE.r (dn_var 1)) (do_some (dn_var 2)) (do_none))) (dar_nil))) (fun _ => blkOk_by (by kernel_rfl)))))) (db_nil)) (db_cons (ds_if (dt_cmp op_eqD' (DnE.r (dn_var 0)) (DnE.r (dn_str))) (db_one (ds_ret (DnLc.de (dn_lc (own := [("rank", 2)]) (DnI.weak (di_range1 (fun _ => T.n_range) (da_cons (dn_bin op_addD (DnE.r (dn_biS c_len lenD_imm (fun _ => T.n_len) (by decide +kernel) (dar_cons (DnE.r (dn_var 1)) (dar_nil)))) (DnE.r (dn_int))) (da_nil)))) (dg_name 2) (dts_nil) (dn_biS c_sum sumD_imm (fun _ => T.n_sum) (by decide +kernel) (dar_cons (DnE.r (dn_sl (DnE.r (dn_var 1)) (do_none) (do_some (dn_var 2)))) (dar_nil))) (fun _ => blkOk_by (by kernel_rfl)))))) (db_nil)) (db_one (ds_ret (dn_bin op_mulD (DnE.r (dn_lst (da_cons (dn_biS c_sum sumD_imm (fun _ => T.n_sum) (by decide +kernel) (dar_cons (DnE.r (dn_var 1)) (dar_nil))) (da_nil)))) (DnE.r (dn_bin op_addD (DnE.r (dn_biS c_len lenD_imm (fun _ => T.n_len) (by decide +kernel) (dar_cons (DnE.r (dn_var 1)) (dar_nil)))) (DnE.r (dn_int))))))))
def g_ways : Rho → Out := sSeq (sAsgO 1 (eLst (aCons (eLst (aCons (eC (.int 1)) (aNil))) (aNil)))) (sSeq (sFor (iAny (eUn revD (eVar 0))) (gN 2) (sDropM (eAppend 1 (eCall 2 d_led (aCons (eVar 2) (aCons (eBin ixD (eVar 1) (eUn negD (eC (.int 1)))) (aNil))))))) (sRet (eUn revD (eVar 1))))
def d_ways : List D → Res D := fnD 3 g_ways
theorem ok_ways (T : Txt K mg Xc fa fd tk) : FnOk P w K mg base (L2.CX P w) 2 (fa 13) (fd 13) ["pattern"] (spD K Xc (allSh 1) false d_ways) :=
  fn_ok (N := N_ways) (κ := allSh 1) (rf := false) (k := 1) (τ := [.sh, .own, .sh]) (τo := [.sh, .own, .sh]) (g := g_ways) T.F13 sc_ways rfl (by decide) (kd_take rfl) (by decide) fun cdv A outer s H E hr =>
    db_cons (ds_asgO 1 (dn_lst (da_cons (dn_lst (da_cons (dn_int) (da_nil))) (da_nil)))) (db_cons (ds_for (di_any (dn_rev (DnE.r (dn_var 0)))) (dg_name 2) (db_one (ds_exprM (dm_append 1 (dn_callZ 2 (fun _ => ok_led T) (fun _ => T.m12) T.F12.kp T.b12 (da_cons (dn_var 2) (da_cons (dn_ix (dr_var 1) (DnE.r (dn_neg (dn_int)))) (da_nil)))))))) (db_one (ds_ret (dn_rev (dr_var 1)))))
def g_may_stand : Rho → Out := sSeq (sIf (eT (eBin eqD (eVar 0) (eC (.str "u")))) (sRet (eListOf (eRg2 (eVar 1) (eVar 2)))) (sNext)) (sSeq (sIf (eT (eBin eqD (eVar 0) (eC (.str "d")))) (sRet (eListOf (eRg1 (eVar 1)))) (sNext)) (sRet (eListOf (eRg1 (eVar 2)))))
def d_may_stand : List D → Res D := fnD 3 g_may_stand
theorem ok_may_stand (T : Txt K mg Xc fa fd tk) : FnOk P w K mg base (L2.CX P w) 1 (fa 15) (fd 15) ["sign", "rank", "left"] (spD K Xc (allSh 3) false d_may_stand) :=
  fn_ok (N := N_may_stand) (κ := allSh 3) (rf := false) (k := 0) (τ := [.sh, .sh, .sh]) (τo := [.sh, .sh, .sh]) (g := g_may_stand) T.F15 sc_may_stand rfl (by decide) (kd_take rfl) (by decide) fun cdv A outer s H E hr =>
    db_cons (ds_if (dt_cmp op_eqD' (DnE.r (dn_var 0)) (DnE.r (dn_str))) (db_one (ds_ret (dn_listRg (dg_2 (fun _ => T.n_range) (dn_var 1) (dn_var 2)) (fun _ => T.n_list)))) (db_nil)) (db_cons (ds_if (dt_cmp op_eqD' (DnE.r (dn_var 0)) (DnE.r (dn_str))) (db_one (ds_ret (dn_listRg (dg_1 (fun _ => T.n_range) (dn_var 1)) (fun _ => T.n_list)))) (db_nil)) (db_one (ds_ret (dn_listRg (dg_1 (fun _ => T.n_range) (dn_var 2)) (fun _ => T.n_list)))))
def g_built : Rho → Out := sSeq (sAsgO 2 (eListOf (eRg2 (eC (.int 1)) (eBin addD (eBi lenD (aCons (eVar 0) (aNil))) (eC (.int 2)))))) (sSeq (sAsgO 3 (eLst (aNil))) (sSeq (sAsg 4 (eC (.int 0))) (sSeq (sFor (iZip (aCons (eBin addD (eC (.str "?")) (eVar 0)) (aCons (eCall 1 d_ways (aCons (eVar 0) (aNil))) (aNil)))) (gT 2 (gConss (gN 5) (gConss (gN 6) (gNils)))) (sSeq (sFor (iAny (eCall 3 d_may_stand (aCons (eVar 5) (aCons (eVar 4) (aCons (eBi lenD (aCons (eVar 2) (aNil))) (aNil)))))) (gN 7) (sSeq (sIf (eT (eBin ltD (eVar 1) (eBin ixD (eVar 6) (eVar 7)))) (sSeq (sAsg 4 (eVar 7)) (.brk)) (sNext)) (sAsg 1 (eBin subD (eVar 1) (eBin ixD (eVar 6) (eVar 7)))))) (sDropM (eAppendM 3 (ePopAt 2 (eVar 4)))))) (sRet (eBi tupleT (aCons (eVar 3) (aNil)))))))
def d_built : List D → Res D := fnD 8 g_built
theorem ok_built (T : Txt K mg Xc fa fd tk) : FnOk P w K mg base (L2.CX P w) 3 (fa 16) (fd 16) ["pattern", "number"] (spD K Xc (allSh 2) false d_built) :=
  fn_ok (N := N_built) (κ := allSh 2) (rf := false) (k := 2) (τ := [.sh, .sh, .own, .own, .sh, .sh, .sh, .sh]) (τo := [.sh, .sh, .own, .own, .sh, .sh, .sh, .sh]) (g := g_built) T.F16 sc_built rfl (by decide) (kd_take rfl) (by decide) fun cdv A outer s H E hr =>
    db_cons (ds_asgO 2 (dn_listRg (dg_2 (fun _ => T.n_range) (dn_int) (dn_bin op_addD (DnE.r (dn_biS c_len lenD_imm (fun _ => T.n_len) (by decide +kernel) (dar_cons (DnE.r (dn_var 0)) (dar_nil)))) (DnE.r (dn_int)))) (fun _ => T.n_list))) (db_cons (ds_asgO 3 (dn_lst (da_nil))) (db_cons (ds_asg 4 (dn_int)) (db_cons (ds_for (di_zip2 (fun _ => T.n_zip) (da_cons (dn_bin op_addD (DnE.r (dn_str)) (DnE.r (dn_var 0))) (da_cons (dn_callZ 1 (fun _ => ok_ways T) (fun _ => T.m13) T.F13.kp T.b13 (da_cons (dn_var 0) (da_nil))) (da_nil))) (aCons_len (aCons_len aNil_len))) (dg_tup 2 (dgs_cons (dg_name 5) (dgs_cons (dg_name 6) (dgs_nil)))) (db_cons (ds_for (di_any (dn_callZ 3 (fun _ => ok_may_stand T) (fun _ => T.m15) T.F15.kp T.b15 (da_cons (dn_var 5) (da_cons (dn_var 4) (da_cons (dn_biS c_len lenD_imm (fun _ => T.n_len) (by decide +kernel) (dar_cons (dr_var 2) (dar_nil))) (da_nil)))))) (dg_name 7) (db_cons (ds_if (dt_cmp op_ltD (DnE.r (dn_var 1)) (DnE.r (dn_ix (DnE.r (dn_var 6)) (DnE.r (dn_var 7))))) (db_cons (ds_asg 4 (dn_var 7)) (db_one (ds_break))) (db_nil)) (db_one (ds_asg 1 (dn_bin op_subD (DnE.r (dn_var 1)) (DnE.r (dn_ix (DnE.r (dn_var 6)) (DnE.r (dn_var 7))))))))) (db_one (ds_exprM (dm_appendM 3 (dm_popAt 2 (dn_var 4))))))) (db_one (ds_ret (dn_ty c_tuple (fun _ => T.n_tuple) (by decide +kernel) (dar_cons (dr_var 3) (dar_nil))))))))
def g_count_of : Rho → Out := sRet (eBi sumD (aCons (eBin ixD (eCall 1 d_ways (aCons (eVar 0) (aNil))) (eC (.int 0))) (aNil)))
def d_count_of : List D → Res D := fnD 1 g_count_of
theorem ok_count_of (T : Txt K mg Xc fa fd tk) : FnOk P w K mg base (L2.CX P w) 3 (fa 14) (fd 14) ["pattern"] (spD K Xc (allSh 1) false d_count_of) :=
  fn_ok (N := N_count_of) (κ := allSh 1) (rf := false) (k := 2) (τ := [.sh]) (τo := [.sh]) (g := g_count_of) T.F14 sc_count_of rfl (by decide) (kd_take rfl) (by decide) fun cdv A outer s H E hr =>
    db_one (ds_ret (dn_biS c_sum sumD_imm (fun _ => T.n_sum) (by decide +kernel) (dar_cons (DnE.r (dn_ix (DnE.r (dn_callZ 1 (fun _ => ok_ways T) (fun _ => T.m13) T.F13.kp T.b13 (da_cons (dn_var 0) (da_nil)))) (DnE.r (dn_int)))) (dar_nil))))
def g_all_updowns : Rho → Out := sSeq (sDrop (eCall 3 d_need_number (aCons (eVar 0) (aCons (eC (.int 1)) (aCons (eC (.int 8)) (aNil)))))) (sSeq (sAsg 1 (eCall 1 d_pattern_of (aCons (eVar 0) (aNil)))) (sRet (eComp (iRange1 (aCons (eCall 1 d_count_of (aCons (eVar 1) (aNil))) (aNil))) (gN 2) (fun _ => .ok true) (eCall 2 d_built (aCons (eVar 1) (aCons (eVar 2) (aNil)))) [2])))
def d_all_updowns : List D → Res D := fnD 3 g_all_updowns
theorem ok_all_updowns (T : Txt K mg Xc fa fd tk) : FnOk P w K mg base (L2.CX P w) 4 (fa 18) (fd 18) ["n"] (spD K Xc (allSh 1) false d_all_updowns) :=
  fn_ok (N := N_all_updowns) (κ := allSh 1) (rf := false) (k := 3) (τ := [.sh, .sh, .sh]) (τo := [.sh, .sh, .sh]) (g := g_all_updowns) T.F18 sc_all_updowns rfl (by decide) (kd_take rfl) (by decide) fun cdv A outer s H E hr =>
    db_cons (ds_expr (dn_callZ 3 (fun _ => ok_need_number T) (fun _ => T.m2) T.F2.kp T.b2 (da_cons (dn_var 0) (da_cons (dn_int) (da_cons (dn_globI (hm := fun _ => T.v_MOST_LISTED)) (da_nil)))))) (db_cons (ds_asg 1 (dn_callZ 1 (fun _ => ok_pattern_of T) (fun _ => T.m17) T.F17.kp T.b17 (da_cons (dn_var 0) (da_nil)))) (db_one (ds_ret (DnLc.de (dn_lc (own := [("number", 2)]) (DnI.weak (di_range1 (fun _ => T.n_range) (da_cons (dn_callZ 1 (fun _ => ok_count_of T) (fun _ => T.m14) T.F14.kp T.b14 (da_cons (dn_var 1) (da_nil))) (da_nil)))) (dg_name 2) (dts_nil) (dn_callZ 2 (fun _ => ok_built T) (fun _ => T.m16) T.F16.kp T.b16 (da_cons (dn_var 1) (da_cons (dn_var 2) (da_nil)))) (fun _ => blkOk_by (by kernel_rfl)))))))
def g_all_many : Rho → Out := sSeq (sDrop (eCall 1 d_need_n (aCons (eVar 0) (aNil)))) (sRet (eComp (iAny (eCall 1 d_rows_to (aCons (eVar 0) (aNil)))) (gN 1) (fun _ => .ok true) (eBi sumD (aCons (eVar 1) (aNil))) [1]))
def d_all_many : List D → Res D := fnD 2 g_all_many
theorem ok_all_many (T : Txt K mg Xc fa fd tk) : FnOk P w K mg base (L2.CX P w) 5 (fa 9) (fd 9) ["n"] (spD K Xc (allSh 1) false d_all_many) :=
  fn_ok (N := N_all_many) (κ := allSh 1) (rf := false) (k := 4) (τ := [.sh, .sh]) (τo := [.sh, .sh]) (g := g_all_many) T.F9 sc_all_many rfl (by decide) (kd_take rfl) (by decide) fun cdv A outer s H E hr =>
    db_cons (ds_expr (dn_callZ 1 (fun _ => ok_need_n T) (fun _ => T.m5) T.F5.kp T.b5 (da_cons (dn_var 0) (da_nil)))) (db_one (ds_ret (DnLc.de (dn_lc (own := [("some", 1)]) (di_read (DnE.r (dn_callZ 1 (fun _ => ok_rows_to T) (fun _ => T.m4) T.F4.kp T.b4 (da_cons (dn_var 0) (da_nil))))) (dg_name 1) (dts_nil) (dn_biS c_sum sumD_imm (fun _ => T.n_sum) (by decide +kernel) (dar_cons (DnE.r (dn_var 1)) (dar_nil))) (fun _ => blkOk_by (by kernel_rfl))))))
def g_law : Rho → Out := sSeq (sFor (iRange1 (aCons (eBi maxD (aCons (eC (.int 1)) (aCons (eBi minD (aCons (eUn lenScr (eVar 0)) (aCons (eC (.int 8)) (aNil)))) (aNil)))) (aNil))) (gN 1) (sSeq (sAsg 2 (eCallS 0 d__law_cell_at (eVar 1))) (sSeq (sAsg 3 (eBin addD (eC (.int 2)) (eCall 3 d__law_draw (aCons (eVar 2) (aCons (eC (.int 0)) (aCons (eC (.int 59)) (aNil))))))) (sSeq (sAsg 4 (eCall 1 d_row (aCons (eVar 3) (aNil)))) (sSeq (sIf (tOrR (eT (eBin neD (eBi sumD (aCons (eVar 4) (aNil))) (eCall 1 d_many (aCons (eVar 3) (aNil))))) (tOrR (eT (eBin neD (eBin ixD (eVar 4) (eC (.int 0))) (eCall 1 d_many (aCons (eBin subD (eVar 3) (eC (.int 1))) (aNil))))) (tOrR (eT (eBin neD (eCall 1 d_falls (aCons (eVar 3) (aNil))) (eUn revD (eCall 1 d_row (aCons (eBin subD (eVar 3) (eC (.int 1))) (aNil)))))) (eT (eBin neD (eBin ixD (eVar 4) (eUn negD (eC (.int 1)))) (eC (.int 0))))))) (sRet (eC (.bool false))) (sNext)) (sSeq (sIf (tOrR (eT (eBin neD (eVar 4) (eUn revD (eBi sortedD (aCons (eVar 4) (aNil)))))) (tOrR (eT (eBin neD (eBin ixD (eCall 1 d_all_many (aCons (eVar 3) (aNil))) (eUn negD (eC (.int 1)))) (eCall 1 d_many (aCons (eVar 3) (aNil))))) (tOrR (eT (eBin neD (eBi lenD (aCons (eCall 1 d_all_many (aCons (eVar 3) (aNil))) (aNil))) (eVar 3))) (eT (eBin neD (eBi lenD (aCons (eVar 4) (aNil))) (eVar 3)))))) (sRet (eC (.bool false))) (sNext)) (sSeq (sAsg 5 (eCall 1 d_table (aCons (eVar 3) (aNil)))) (sSeq (sIf (tOrR (eT (eBin ninD (eBin ixD (eVar 5) (eUn negD (eC (.int 1)))) (eTup (aCons (eVar 4) (aCons (eUn revD (eVar 4)) (aNil)))))) (tOrR (eT (eBin eqD (eBin eqD (eBin ixD (eVar 5) (eUn negD (eC (.int 1)))) (eVar 4)) (eBin eqD (eBin modD (eVar 3) (eC (.int 2))) (eC (.int 0))))) (eT (eBin neD (eSl (eVar 5) (oNone) (oSome (eUn negD (eC (.int 1))))) (eCall 1 d_table (aCons (eBin subD (eVar 3) (eC (.int 1))) (aNil))))))) (sRet (eC (.bool false))) (sNext)) (sSeq (sAsg 6 (eBin addD (eC (.int 1)) (eCall 3 d__law_draw (aCons (eVar 2) (aCons (eC (.int 1)) (aCons (eC (.int 7)) (aNil))))))) (sSeq (sAsg 7 (eComp (iAny (eCall 1 d_all_updowns (aCons (eVar 6) (aNil)))) (gN 8) (fun _ => .ok true) (eBin ixD (eVar 8) (eC (.int 0))) [8])) (sIf (eT (eBin neD (eCall 1 d_row (aCons (eVar 6) (aNil))) (eComp (iRange2 (aCons (eC (.int 1)) (aCons (eBin addD (eVar 6) (eC (.int 1))) (aNil)))) (gN 9) (fun _ => .ok true) (eBinK isSeq countSD (eVar 7) (eVar 9)) [9]))) (sRet (eC (.bool false))) (sNext)))))))))))) (sRet (eC (.bool true)))
def d_law : List D → Res D := fnD 10 g_law
theorem ok_law (T : Txt K mg Xc fa fd tk) : FnOk P w K mg base (L2.CX P w) 6 (fa 21) (fd 21) ["_law_script"] (spD K Xc ([.scr]) false d_law) :=
  fn_ok (N := N_law) (κ := [.scr]) (rf := false) (k := 5) (τ := [.scr, .sh, .sh, .sh, .sh, .sh, .sh, .sh, .sh, .sh]) (τo := [.scr, .sh, .sh, .sh, .sh, .sh, .sh, .sh, .sh, .sh]) (g := g_law) T.F21 sc_law rfl (by decide) (kd_take rfl) (by decide) fun cdv A outer s H E hr =>
    db_cons (ds_for (di_range1 (fun _ => T.n_range) (da_cons (dn_biS c_max maxD_imm (fun _ => T.n_max) (by decide +kernel) (dar_cons (DnE.r (dn_int)) (dar_cons (DnE.r (dn_biS c_min minD_imm (fun _ => T.n_min) (by decide +kernel) (dar_cons (DnE.r (dn_lenScr 0 (fun _ => T.n_len))) (dar_cons (DnE.r (dn_int)) (dar_nil))))) (dar_nil)))) (da_nil))) (dg_name 1) (db_cons (ds_asg 2 (dn_callScr 0 (fun _ => ok__law_cell_at T) (fun _ => T.m19) T.F19.kp T.b19 (dn_var 1))) (db_cons (ds_asg 3 (dn_bin op_addD (DnE.r (dn_int)) (DnE.r (dn_callZ 3 (fun _ => ok__law_draw T) (fun _ => T.m20) T.F20.kp T.b20 (da_cons (dn_var 2) (da_cons (dn_int) (da_cons (dn_int) (da_nil)))))))) (db_cons (ds_asg 4 (dn_callZ 1 (fun _ => ok_row T) (fun _ => T.m6) T.F6.kp T.b6 (da_cons (dn_var 3) (da_nil)))) (db_cons (ds_if (DnW.t (dw_or (dt_cmp op_neD' (DnE.r (dn_biS c_sum sumD_imm (fun _ => T.n_sum) (by decide +kernel) (dar_cons (DnE.r (dn_var 4)) (dar_nil)))) (DnE.r (dn_callZ 1 (fun _ => ok_many T) (fun _ => T.m8) T.F8.kp T.b8 (da_cons (dn_var 3) (da_nil))))) (dw_or (dt_cmp op_neD' (DnE.r (dn_ix (DnE.r (dn_var 4)) (DnE.r (dn_int)))) (DnE.r (dn_callZ 1 (fun _ => ok_many T) (fun _ => T.m8) T.F8.kp T.b8 (da_cons (dn_bin op_subD (DnE.r (dn_var 3)) (DnE.r (dn_int))) (da_nil))))) (dw_or (dt_cmp op_neD' (DnE.r (dn_callZ 1 (fun _ => ok_falls T) (fun _ => T.m10) T.F10.kp T.b10 (da_cons (dn_var 3) (da_nil)))) (DnE.r (dn_rev (DnE.r (dn_callZ 1 (fun _ => ok_row T) (fun _ => T.m6) T.F6.kp T.b6 (da_cons (dn_bin op_subD (DnE.r (dn_var 3)) (DnE.r (dn_int))) (da_nil))))))) (dw_or1 (dt_cmp op_neD' (DnE.r (dn_ix (DnE.r (dn_var 4)) (DnE.r (dn_neg (dn_int))))) (DnE.r (dn_int)))))))) (db_one (ds_ret (dn_bl))) (db_nil)) (db_cons (ds_if (DnW.t (dw_or (dt_cmp op_neD' (DnE.r (dn_var 4)) (DnE.r (dn_rev (DnE.r (dn_bi c_sorted (fun _ => T.n_sorted) (by decide +kernel) (dar_cons (DnE.r (dn_var 4)) (dar_nil))))))) (dw_or (dt_cmp op_neD' (DnE.r (dn_ix (DnE.r (dn_callZ 1 (fun _ => ok_all_many T) (fun _ => T.m9) T.F9.kp T.b9 (da_cons (dn_var 3) (da_nil)))) (DnE.r (dn_neg (dn_int))))) (DnE.r (dn_callZ 1 (fun _ => ok_many T) (fun _ => T.m8) T.F8.kp T.b8 (da_cons (dn_var 3) (da_nil))))) (dw_or (dt_cmp op_neD' (DnE.r (dn_biS c_len lenD_imm (fun _ => T.n_len) (by decide +kernel) (dar_cons (DnE.r (dn_callZ 1 (fun _ => ok_all_many T) (fun _ => T.m9) T.F9.kp T.b9 (da_cons (dn_var 3) (da_nil)))) (dar_nil)))) (DnE.r (dn_var 3))) (dw_or1 (dt_cmp op_neD' (DnE.r (dn_biS c_len lenD_imm (fun _ => T.n_len) (by decide +kernel) (dar_cons (DnE.r (dn_var 4)) (dar_nil)))) (DnE.r (dn_var 3)))))))) (db_one (ds_ret (dn_bl))) (db_nil)) (db_cons (ds_asg 5 (dn_callZ 1 (fun _ => ok_table T) (fun _ => T.m11) T.F11.kp T.b11 (da_cons (dn_var 3) (da_nil)))) (db_cons (ds_if (DnW.t (dw_or (dt_cmp op_ninD' (DnE.r (dn_ix (DnE.r (dn_var 5)) (DnE.r (dn_neg (dn_int))))) (DnE.r (dn_tup (da_cons (dn_var 4) (da_cons (dn_rev (DnE.r (dn_var 4))) (da_nil)))))) (dw_or (dt_cmp op_eqD' (DnE.r (dn_cmp op_eqD' (DnE.r (dn_ix (DnE.r (dn_var 5)) (DnE.r (dn_neg (dn_int))))) (DnE.r (dn_var 4)))) (DnE.r (dn_cmp op_eqD' (DnE.r (dn_bin op_modD (DnE.r (dn_var 3)) (DnE.r (dn_int)))) (DnE.r (dn_int))))) (dw_or1 (dt_cmp op_neD' (DnE.r (dn_sl (DnE.r (dn_var 5)) (do_none) (do_some (dn_neg (dn_int))))) (DnE.r (dn_callZ 1 (fun _ => ok_table T) (fun _ => T.m11) T.F11.kp T.b11 (da_cons (dn_bin op_subD (DnE.r (dn_var 3)) (DnE.r (dn_int))) (da_nil))))))))) (db_one (ds_ret (dn_bl))) (db_nil)) (db_cons (ds_asg 6 (dn_bin op_addD (DnE.r (dn_int)) (DnE.r (dn_callZ 3 (fun _ => ok__law_draw T) (fun _ => T.m20) T.F20.kp T.b20 (da_cons (dn_var 2) (da_cons (dn_int) (da_cons (dn_int) (da_nil)))))))) (db_cons (ds_asg 7 (DnLc.de (dn_lc (own := [("_law_one", 8)]) (di_read (DnE.r (dn_callZ 1 (fun _ => ok_all_updowns T) (fun _ => T.m18) T.F18.kp T.b18 (da_cons (dn_var 6) (da_nil))))) (dg_name 8) (dts_nil) (dn_ix (DnE.r (dn_var 8)) (DnE.r (dn_int))) (fun _ => blkOk_by (by kernel_rfl))))) (db_one (ds_if (dt_cmp op_neD' (DnE.r (dn_callZ 1 (fun _ => ok_row T) (fun _ => T.m6) T.F6.kp T.b6 (da_cons (dn_var 6) (da_nil)))) (DnE.r (DnLc.de (dn_lc (own := [("_law_first", 9)]) (DnI.weak (di_range2 (fun _ => T.n_range) (da_cons (dn_int) (da_cons (dn_bin op_addD (DnE.r (dn_var 6)) (DnE.r (dn_int))) (da_nil))))) (dg_name 9) (dts_nil) (dn_countS (DnE.r (dn_var 7)) (DnE.r (dn_var 9))) (fun _ => blkOk_by (by kernel_rfl)))))) (db_one (ds_ret (dn_bl))) (db_nil))))))))))))) (db_one (ds_ret (dn_bl)))
end
def LawTrue : Prop := ∀ ns : List Int, ns.length ≤ 63 → (∀ z ∈ ns, Builtin.Int.intBits z ≤ 1048576) → d_law [.list (ns.map .int)] = .ok (.bool true)
theorem dropV_exc {c : Nat} {ρ : Rho} : dropV (.exc c) ρ = .exc c := rfl
/-! ### draws -/
abbrev drawBody : Rho → Out := sSeq (sIf (eT (eBin eqD (eVar 3) (eC (.int 0)))) (sRet (eC (.int 0))) (sNext)) (sAsg 3 (eBin fdivD (eVar 3) (eVar 2)))
theorem draw_loop (c k : D) (bound : Int) (hb : 0 < bound) (hl : bound.natAbs < 2 ^ 100) (st : Option D) : ∀ (js : List D) (left : Int) (j : Option D),
    (∃ j', ∃ left' : Int, loopD (gN 4) drawBody js [some c, some k, some (.int bound), some (.int left), j, st] = .next [some c, some k, some (.int bound), some (.int left'), j', st]) ∨
      loopD (gN 4) drawBody js [some c, some k, some (.int bound), some (.int left), j, st] = .ret (.int 0)
  | [], left, j => .inl ⟨j, left, rfl⟩
  | x :: js, left, j => by
    by_cases h0 : left = 0
    · subst h0
      exact .inr rfl
    · have e1 : drawBody [some c, some k, some (.int bound), some (.int left), some x, st] = .next [some c, some k, some (.int bound), some (.int (left / bound)), some x, st] := by
        simp only [drawBody, sSeq_ev, seqO_next, seqO_ret, seqO_brk, seqO_cont, seqO_exc, sIf_ev, ifO_true, ifO_false, sNext_ev, sAsg_ev, asgV_ok, sAsgO_ev, asgW_list, sRet_ev, retV_ok, sDrop_ev, dropV_ok, sFor_ev, forO_ok, gN_ev, eVar_ev, varO_some, eC_ev, eBin_ev, bin2_ok, ofO_some, eUn_ev, un1_ok, eT_ev, tBo_ok, eTru_ev, truO_bool, tNotR_ev, notO_ok, tAndR_ev, andT_true, andT_false, tOrR_ev, orT_true, orT_false, eAnd_ev, andE_true, andE_false, eOr_ev, orE_true, orE_false, eNot_ev, notE_ok, eIf_ev, ifE_true, ifE_false, aNil_ev, aCons_ev, consA_ok, eCall_ev, callE_1, callE_2, callE_3, callE_4, callE_5, eBi_ev, biE_ok, eCallS_ev, callS_ok, iRange1_ev, iRange2_ev, iAny_ev, anyI_list, anyI_tuple, eComp_ev, eLst_ev, eTup_ev, List.getElem?_cons_succ, List.getElem?_cons_zero, List.set_cons_succ, List.set_cons_zero, add_int, sub_int, ge_int, le_int, gt_int, lt_int, eq_int, ne_int, iEnum_ev, enE_list, enE_tuple, eSl_ev, oNone_ev, oSome_ev, soE_ok, beq_false_of_ne h0, fdiv_int hb hl]
      rw [loopD_cons, gN_ev, loopA_some]
      simp only [List.set_cons_succ, List.set_cons_zero]
      rw [e1, loopB_next]
      exact draw_loop c k bound hb hl st js (left / bound) (some x)
/-- a draw is below its bound -/
theorem draw_ok (cell k bound : Int) (hk : 0 ≤ k) (hk2 : k < 2 ^ 40) (hb : 0 < bound) (hb2 : bound < 2 ^ 60) : ∃ r : Int, 0 ≤ r ∧ r < bound ∧ d__law_draw [.int cell, .int k, .int bound] = .ok (.int r) := by
  have hl : bound.natAbs < 2 ^ 100 := by omega
  by_cases hc : 1000000000000000000 ≤ cell
  · have hr := rg1_ok (k := k) (by omega) (by omega)
    have h := draw_loop (.int cell) (.int k) bound hb hl none (rangeD 0 k.toNat) cell none
    rcases h with ⟨j', left', h⟩ | h
    · refine ⟨left' % bound, Int.emod_nonneg _ (by omega), Int.emod_lt_of_pos _ hb, ?_⟩
      show resOf (g__law_draw [some (.int cell), some (.int k), some (.int bound), none, none, none]) = _
      unfold g__law_draw
      simp only [sSeq_ev, seqO_next, seqO_ret, seqO_brk, seqO_cont, seqO_exc, sIf_ev, ifO_true, ifO_false, sNext_ev, sAsg_ev, asgV_ok, sAsgO_ev, asgW_list, sRet_ev, retV_ok, sDrop_ev, dropV_ok, sFor_ev, forO_ok, gN_ev, eVar_ev, varO_some, eC_ev, eBin_ev, bin2_ok, ofO_some, eUn_ev, un1_ok, eT_ev, tBo_ok, eTru_ev, truO_bool, tNotR_ev, notO_ok, tAndR_ev, andT_true, andT_false, tOrR_ev, orT_true, orT_false, eAnd_ev, andE_true, andE_false, eOr_ev, orE_true, orE_false, eNot_ev, notE_ok, eIf_ev, ifE_true, ifE_false, aNil_ev, aCons_ev, consA_ok, eCall_ev, callE_1, callE_2, callE_3, callE_4, callE_5, eBi_ev, biE_ok, eCallS_ev, callS_ok, iRange1_ev, iRange2_ev, iAny_ev, anyI_list, anyI_tuple, eComp_ev, eLst_ev, eTup_ev, List.getElem?_cons_succ, List.getElem?_cons_zero, List.set_cons_succ, List.set_cons_zero, add_int, sub_int, ge_int, le_int, gt_int, lt_int, eq_int, ne_int, iEnum_ev, enE_list, enE_tuple, eSl_ev, oNone_ev, oSome_ev, soE_ok, pow18, decide_eq_true hc, hr]
      rw [h]
      simp only [sSeq_ev, seqO_next, seqO_ret, seqO_brk, seqO_cont, seqO_exc, sIf_ev, ifO_true, ifO_false, sNext_ev, sAsg_ev, asgV_ok, sAsgO_ev, asgW_list, sRet_ev, retV_ok, sDrop_ev, dropV_ok, sFor_ev, forO_ok, gN_ev, eVar_ev, varO_some, eC_ev, eBin_ev, bin2_ok, ofO_some, eUn_ev, un1_ok, eT_ev, tBo_ok, eTru_ev, truO_bool, tNotR_ev, notO_ok, tAndR_ev, andT_true, andT_false, tOrR_ev, orT_true, orT_false, eAnd_ev, andE_true, andE_false, eOr_ev, orE_true, orE_false, eNot_ev, notE_ok, eIf_ev, ifE_true, ifE_false, aNil_ev, aCons_ev, consA_ok, eCall_ev, callE_1, callE_2, callE_3, callE_4, callE_5, eBi_ev, biE_ok, eCallS_ev, callS_ok, iRange1_ev, iRange2_ev, iAny_ev, anyI_list, anyI_tuple, eComp_ev, eLst_ev, eTup_ev, List.getElem?_cons_succ, List.getElem?_cons_zero, List.set_cons_succ, List.set_cons_zero, add_int, sub_int, ge_int, le_int, gt_int, lt_int, eq_int, ne_int, iEnum_ev, enE_list, enE_tuple, eSl_ev, oNone_ev, oSome_ev, soE_ok, mod_int hb, resOf]
    · refine ⟨0, Int.le_refl _, hb, ?_⟩
      show resOf (g__law_draw [some (.int cell), some (.int k), some (.int bound), none, none, none]) = _
      unfold g__law_draw
      simp only [sSeq_ev, seqO_next, seqO_ret, seqO_brk, seqO_cont, seqO_exc, sIf_ev, ifO_true, ifO_false, sNext_ev, sAsg_ev, asgV_ok, sAsgO_ev, asgW_list, sRet_ev, retV_ok, sDrop_ev, dropV_ok, sFor_ev, forO_ok, gN_ev, eVar_ev, varO_some, eC_ev, eBin_ev, bin2_ok, ofO_some, eUn_ev, un1_ok, eT_ev, tBo_ok, eTru_ev, truO_bool, tNotR_ev, notO_ok, tAndR_ev, andT_true, andT_false, tOrR_ev, orT_true, orT_false, eAnd_ev, andE_true, andE_false, eOr_ev, orE_true, orE_false, eNot_ev, notE_ok, eIf_ev, ifE_true, ifE_false, aNil_ev, aCons_ev, consA_ok, eCall_ev, callE_1, callE_2, callE_3, callE_4, callE_5, eBi_ev, biE_ok, eCallS_ev, callS_ok, iRange1_ev, iRange2_ev, iAny_ev, anyI_list, anyI_tuple, eComp_ev, eLst_ev, eTup_ev, List.getElem?_cons_succ, List.getElem?_cons_zero, List.set_cons_succ, List.set_cons_zero, add_int, sub_int, ge_int, le_int, gt_int, lt_int, eq_int, ne_int, iEnum_ev, enE_list, enE_tuple, eSl_ev, oNone_ev, oSome_ev, soE_ok, pow18, decide_eq_true hc, hr]
      rw [h]
      simp only [sSeq_ev, seqO_next, seqO_ret, seqO_brk, seqO_cont, seqO_exc, sIf_ev, ifO_true, ifO_false, sNext_ev, sAsg_ev, asgV_ok, sAsgO_ev, asgW_list, sRet_ev, retV_ok, sDrop_ev, dropV_ok, sFor_ev, forO_ok, gN_ev, eVar_ev, varO_some, eC_ev, eBin_ev, bin2_ok, ofO_some, eUn_ev, un1_ok, eT_ev, tBo_ok, eTru_ev, truO_bool, tNotR_ev, notO_ok, tAndR_ev, andT_true, andT_false, tOrR_ev, orT_true, orT_false, eAnd_ev, andE_true, andE_false, eOr_ev, orE_true, orE_false, eNot_ev, notE_ok, eIf_ev, ifE_true, ifE_false, aNil_ev, aCons_ev, consA_ok, eCall_ev, callE_1, callE_2, callE_3, callE_4, callE_5, eBi_ev, biE_ok, eCallS_ev, callS_ok, iRange1_ev, iRange2_ev, iAny_ev, anyI_list, anyI_tuple, eComp_ev, eLst_ev, eTup_ev, List.getElem?_cons_succ, List.getElem?_cons_zero, List.set_cons_succ, List.set_cons_zero, add_int, sub_int, ge_int, le_int, gt_int, lt_int, eq_int, ne_int, iEnum_ev, enE_list, enE_tuple, eSl_ev, oNone_ev, oSome_ev, soE_ok, resOf]
  · have e1 : cell % 1000000007 < 1000000007 := Int.emod_lt_of_pos _ (by decide)
    have e0 : 0 ≤ cell % 1000000007 := Int.emod_nonneg _ (by decide)
    have m1 : mulD (.int 1009) (.int k) = some (.int (1009 * k)) := mul_small 10 40 (by decide) (by omega) (by decide)
    have m2 : mulD (.int (cell % 1000000007 + 1009 * k + 17)) (.int 69621) = some (.int ((cell % 1000000007 + 1009 * k + 17) * 69621)) := mul_small 60 20 (by omega) (by decide) (by decide)
    generalize hs : (cell % 1000000007 + 1009 * k + 17) * 69621 % 2147483647 = s1
    have s1l : s1 < 2147483647 := by rw [← hs]; exact Int.emod_lt_of_pos _ (by decide)
    have s10 : 0 ≤ s1 := by rw [← hs]; exact Int.emod_nonneg _ (by decide)
    have m3 : mulD (.int s1) (.int s1) = some (.int (s1 * s1)) := mul_small 40 40 (by omega) (by omega) (by decide)
    have m4 : mulD (.int 40503) (.int k) = some (.int (40503 * k)) := mul_small 20 40 (by decide) (by omega) (by decide)
    generalize hs2 : (s1 * s1 + 40503 * k + 5) % 2147483629 = s2
    have s2l : s2 < 2147483629 := by rw [← hs2]; exact Int.emod_lt_of_pos _ (by decide)
    have s20 : 0 ≤ s2 := by rw [← hs2]; exact Int.emod_nonneg _ (by decide)
    have m5 : mulD (.int s2) (.int 48271) = some (.int (s2 * 48271)) := mul_small 40 20 (by omega) (by decide) (by decide)
    refine ⟨s2 * 48271 % 2147483647 / 32 % bound, Int.emod_nonneg _ (by omega), Int.emod_lt_of_pos _ hb, ?_⟩
    show resOf (g__law_draw [some (.int cell), some (.int k), some (.int bound), none, none, none]) = _
    have d0 : decide ((1000000000000000000 : Int) ≤ cell) = false := decide_eq_false hc
    unfold g__law_draw
    simp only [sSeq_ev, seqO_next, seqO_ret, seqO_brk, seqO_cont, seqO_exc, sIf_ev, ifO_true, ifO_false, sNext_ev, sAsg_ev, asgV_ok, sAsgO_ev, asgW_list, sRet_ev, retV_ok, sDrop_ev, dropV_ok, sFor_ev, forO_ok, gN_ev, eVar_ev, varO_some, eC_ev, eBin_ev, bin2_ok, ofO_some, eUn_ev, un1_ok, eT_ev, tBo_ok, eTru_ev, truO_bool, tNotR_ev, notO_ok, tAndR_ev, andT_true, andT_false, tOrR_ev, orT_true, orT_false, eAnd_ev, andE_true, andE_false, eOr_ev, orE_true, orE_false, eNot_ev, notE_ok, eIf_ev, ifE_true, ifE_false, aNil_ev, aCons_ev, consA_ok, eCall_ev, callE_1, callE_2, callE_3, callE_4, callE_5, eBi_ev, biE_ok, eCallS_ev, callS_ok, iRange1_ev, iRange2_ev, iAny_ev, anyI_list, anyI_tuple, eComp_ev, eLst_ev, eTup_ev, List.getElem?_cons_succ, List.getElem?_cons_zero, List.set_cons_succ, List.set_cons_zero, add_int, sub_int, ge_int, le_int, gt_int, lt_int, eq_int, ne_int, iEnum_ev, enE_list, enE_tuple, eSl_ev, oNone_ev, oSome_ev, soE_ok, pow18, d0, mod_int (show (0 : Int) < 1000000007 by decide), mod_int (show (0 : Int) < 2147483647 by decide), mod_int (show (0 : Int) < 2147483629 by decide), mod_int hb, fdiv_int (show (0 : Int) < 32 by decide) (show (32 : Int).natAbs < 2 ^ 100 by decide), m1, m2, hs, m3, m4, hs2, m5, resOf]

/-! ### rows -/
def tabN : List (List Nat) := [[1], [1, 0], [1, 1, 0], [2, 2, 1, 0], [5, 5, 4, 2, 0], [16, 16, 14, 10, 5, 0], [61, 61, 56, 46, 32, 16, 0], [272, 272, 256, 224, 178, 122, 61, 0], [1385, 1385, 1324, 1202, 1024, 800, 544, 272, 0], [7936, 7936, 7664, 7120, 6320, 5296, 4094, 2770, 1385, 0], [50521, 50521, 49136, 46366, 42272, 36976, 30656, 23536, 15872, 7936, 0], [353792, 353792, 345856, 329984, 306448, 275792, 238816, 196544, 150178, 101042, 50521, 0], [2702765, 2702765, 2652244, 2551202, 2401024, 2204480, 1965664, 1689872, 1383424, 1053440, 707584, 353792, 0], [22368256, 22368256, 22014464, 21306880, 20253440, 18870016, 17180144, 15214480, 13010000, 10608976, 8057774, 5405530, 2702765, 0], [199360981, 199360981, 196658216, 191252686, 183194912, 172585936, 159575936, 144361456, 127181312, 108311296, 88057856, 66750976, 44736512, 22368256, 0], [1903757312, 1903757312, 1881389056, 1836652544, 1769901568, 1681843712, 1573532416, 1446351104, 1301989648, 1142413712, 969827776, 786632864, 595380178, 398721962, 199360981, 0], [19391512145, 19391512145, 19192151164, 18793429202, 18198049024, 17411416160, 16441588384, 15299174672, 13997185024, 12550833920, 10977301504, 9295457792, 7525556224, 5688903680, 3807514624, 1903757312, 0], [209865342976, 209865342976, 207961585664, 204154071040, 198465167360, 190939611136, 181644153344, 170666851840, 158116017920, 144118832896, 128819658224, 112378069840, 94966653680, 76768604656, 57975175454, 38783024290, 19391512145, 0], [2404879675441, 2404879675441, 2385488163296, 2346705139006, 2288729963552, 2211961358896, 2116994705216, 2004616635376, 1875796977152, 1731678144256, 1573562126336, 1402895274496, 1221251121152, 1030311510016, 831846342656, 627692271616, 419730685952, 209865342976, 0], [29088885112832, 29088885112832, 28879019769856, 28459289083904, 27831596812288, 26999750469632, 25969438959616, 24748187838464, 23345292563968, 21771730437632, 20040052293376, 18164255316224, 16159638680848, 14042643975632, 11830682616736, 9541952653184, 7195247514178, 4809759350882, 2404879675441, 0], [370371188237525, 370371188237525, 367966308562084, 363156549211202, 355961301697024, 346419349043840, 334588666427104, 320546022451472, 304386383770624, 286222128454400, 266182076161024, 244410345723392, 221065053159424, 196316865320960, 170347426361344, 143347675891712, 115516079079424, 87056789995520, 58177770225664, 29088885112832, 0], [4951498053124096, 4951498053124096, 4922409168011264, 4864231397785600, 4777174607790080, 4661658528710656, 4518310852818944, 4347963426457600, 4151646561136640, 3930581507977216, 3686171162253824, 3419989086092800, 3133766957638400, 2829380573867776, 2508834551416304, 2174245884989200, 1827826535945360, 1471865234248336, 1108708685037134, 740742376475050, 370371188237525, 0], [69348874393137901, 69348874393137901, 68978503204900376, 68237760828425326, 67129052143388192, 65657186909139856, 63829360373194496, 61655114488205296, 59146279936788992, 56316899362921216, 53183132405282816, 49763143319190016, 46076972156936192, 42146390648958976, 37994744087822336, 33646780661364736, 29128469808545792, 24466811279835136, 19689636672045056, 14825405274259456, 9902996106248192, 4951498053124096, 0], [1015423886506852352, 1015423886506852352, 1010472388453728256, 1000569392347480064, 985743987073220608, 966054350401175552, 941587539121340416, 912459069312794624, 878812288651429888, 840817544563607552, 798671153914648576, 752594181757712384, 702831038438522368, 649647906033239552, 593331006670318336, 534184726733529344, 472529612245324048, 408700251872129552, 343043064962989696, 275914012819601504, 207676251991176178, 138697748786275802, 69348874393137901, 0], [15514534163557086905, 15514534163557086905, 15445185289163949004, 15306487540377673202, 15098811288386497024, 14822897275566895520, 14479854210603905824, 14071153958731776272, 13598624346486452224, 13064439619752922880, 12471108613082604544, 11821460707049364992, 11118629668610842624, 10366035486853130240, 9567364332938481664, 8726546788374874112, 7847734499723444224, 6935275430410649600, 5993687891289309184, 5027633540888133632, 4041889553814913024, 3041320161467432960, 2030847773013704704, 1015423886506852352, 0], [246921480190207983616, 246921480190207983616, 245906056303701131264, 243875208530687426560, 240833888369219993600, 236791998815405080576, 231764365274516946944, 225770677383227637760, 218835401952816988160, 210987667453093543936, 202261120664718669824, 192693756331780188160, 182327720844927057920, 171209091176316215296, 159387630469266850304, 146916521856184245760, 133852082236431322880, 120253457889944870656, 106182303931213094384, 91702449720609188560, 76879552445042293040, 61780741156655796016, 46474253616278122814, 31029068327114173810, 15514534163557086905, 0], [4087072509293123892361, 4087072509293123892361, 4071557975129566805456, 4040528906802452631646, 3994054653186174508832, 3932273912029518712816, 3855394359584476419776, 3763691909863867231216, 3657509605932654136832, 3537256148042709266176, 3403404065806277943296, 3256487543950093697536, 3097099913480826847232, 2925890822304510631936, 2743563101459583574016, 2550869345127803385856, 2348608224463084716032, 2137620557009991172096, 1918785155057174183936, 1693014477673946546176, 1461250112399429599232, 1224458113584024518656, 983624225214804525056, 739749016684117098496, 493842960380415967232, 246921480190207983616, 0], [70251601603943959887872, 70251601603943959887872, 70004680123753751904256, 69510837163373335937024, 68771088146689218838528, 67787463921474414313472, 66563005807890389794816, 65101755695490960195584, 63408741217817013649408, 61489956062759839465472, 59352335505749848293376, 57003727281286763577344, 54452857936158960191488, 51709294834699376617472, 48783404012394865985536, 45686304098914039138304, 42429816554963945440768, 39026412489157667497472, 35489156341114958231296, 31831646735182304094464, 28067954825318436863248, 24212560465733960443472, 20280286553704441730656, 16286231900518267221824, 12245702993715814590178, 8174145018586247784722, 4087072509293123892361, 0], [1252259641403629865468285, 1252259641403629865468285, 1248172568894336741575924, 1239998423875750493791202, 1227752720882034679201024, 1211466488981516411979200, 1191186202427811970248544, 1166973641962078009805072, 1138905687136759572941824, 1107074040401577268847360, 1071584884060462310616064, 1032558471571304643118592, 990128655016340697677824, 944442350917426658539520, 895658946905031792553984, 843949652070332415936512, 789496794134173455745024, 732493066852886692167680, 673140731347136843874304, 611650775284377004408832, 548242034066559990759424, 483140278371069030563840, 416577272563178640769024, 348789808641704226455552, 280018720495015007617024, 210507883331641671680000, 140503203207887919775744, 70251601603943959887872, 0], [23119184187809597841473536, 23119184187809597841473536, 23048932586205653881585664, 22908429382997765961809920, 22697921499666124290129920, 22417902779171109282512896, 22069112970529405056057344, 21652535697966226415288320, 21169395419595157384724480, 20621153385528597393965056, 20009502610244220389556224, 19336361878897083545681920, 18603868812044196853514240, 17814372017910023397769216, 16970422365839690981832704, 16074763418934659189278720, 15130321068017232530739200, 14140192413000891833061376, 13107633941429587189942784, 12036049057369124879326720, 10928975016967547610479360, 9790069329830788037537536, 8623095687868710027732464, 7431909485440898057483920, 6220442996459381645504720, 4992690275577346966303696, 3752691851701596472512494, 2504519282807259730936570, 1252259641403629865468285, 0], [441543893249023104553682821, 441543893249023104553682821, 440291633607619474688214536, 437787114324812214957277966, 434034422473110618484765472, 429041732197533271518461776, 422821289201073889872957056, 415389379715632991815473136, 406766284027764281787740672, 396976214697933493750203136, 386047239680965946139723776, 374011190623596821260397056, 360903556682167234070454272, 346763364269166342237392896, 331633043201149109706653696, 315558279782214450517374976, 298587857416374759535542272, 280773485398464736137773056, 262169616586420539284258816, 242833254707523455738576896, 222823752097279235349020672, 202202598711750637955055616, 181033203292155480570331136, 159380667594189254155042816, 137311554623659849098985472, 114893651844488739816472576, 92195730344822615526342656, 69287300961824849564532736, 46238368375619195682947072, 23119184187809597841473536, 0], [8713962757125169296170811392, 8713962757125169296170811392, 8690843572937359698329337856, 8644605204561740502646390784, 8575317903599915653081858048, 8483122173255093037555515392, 8368228521410604297739042816, 8230916966786944448640057344, 8071536299192755194485014528, 7890503095900599713914683392, 7688300497188849075959627776, 7465476745091569840610607104, 7222643490384046384872030208, 6960473873797625845587771392, 6679700388399161109449998336, 6381112530982786349914456064, 6065554251200571899397081088, 5733921207999422789690427392, 5387157843730256447453034496, 5026254287048089213382580224, 4652243096424492392122183168, 4266195856743526445982459392, 3869219642045592952232256256, 3462453358017828670444515584, 3047063978302195678629042448, 2624242689101121788756085392, 2195200956903588517237623616, 1761166534430477898752858144, 1323379420105665683795580178, 883087786498046209107365642, 441543893249023104553682821, 0], [177519391579539289436664789665, 177519391579539289436664789665, 177077847686290266332111106844, 176194759899792220123003741202, 174871380479686554439208161024, 173110213945256076540455302880, 170915012988352488023217679264, 168290770299251366234461593872, 165243706320949170555832551424, 161781252962931341885388035840, 157912033320885748933155779584, 153645837464142222487173320192, 148993594367717730095051137024, 143967340080669640881668556800, 138580182236939384434215522304, 132846261028939961644525094912, 126780706777739389745128013824, 120399594246756603395213557760, 113719893858357442285763559424, 106759419984559816440175788032, 99536776494175770055303757824, 92071299749084200214693150720, 84382999251895351138733522944, 76492496155994751424818839552, 68420959856801996230333825024, 60190042890015051781693767680, 51821814368604447483954724864, 43338692195349354446399209472, 34763374291749438793317351424, 26118769087187698290670960640, 17427925514250338592341622784, 8713962757125169296170811392, 0], [3729407703720529571097509625856, 3729407703720529571097509625856, 3720693740963404401801338814464, 3703265815449154063208997191680, 3677147046361966364918326231040, 3642383672070216926125008879616, 3599044979874867571678609670144, 3547223165506263124194654945280, 3487033122616248072412961177600, 3418612162759446076182627352576, 3342119666603451324757808513024, 3257736667351555973619074990080, 3165665367602471773404381839360, 3066128591108296003349078081536, 2959369171123736186908902293504, 2845649277265378744623138734080, 2725249683018622141227925176320, 2598468976240882751482797162496, 2465622715211942789838272067584, 2327042532975003405404056545280, 2183075192894333764522387988480, 2034081598526616034427336851456, 1880435761062473811940163531264, 1722523727741588063007007751680, 1560742474778656721121619715840, 1395498768457707550565787164416, 1227207998158456184331325570544, 1056292985170103696308107891280, 883182771224847619767652588400, 708311390745161065328444427376, 532116630845368845205440686174, 355038783159078578873329579330, 177519391579539289436664789665, 0], [80723299235887898062168247453281, 80723299235887898062168247453281, 80545779844308358772731582663616, 80190741061149280193858253084286, 79658624430303911348652812398112, 78950313039558750283324367970736, 78067130268333902663556715382336, 77010837283163798967248607491056, 75783629285005342782917281920512, 74388130516547635232351494756096, 72827388041768978511229875040256, 71104864314027390448222867288576, 69224428552964916636282703757312, 67190346954438300601855366905856, 65007271761543966837332978917376, 62680229228568963431928922372096, 60214606513357020642090650304512, 57616137537116137890607853142016, 54890887854097515749379927965696, 52045238576832137004756789231616, 49085869405708400817847886938112, 46019740814600104814498808856576, 42854075446997633041094427017216, 39596338779646077067475352027136, 36254219113042625742717543514112, 32835606950283179666534916161536, 29348573827666931594121954983936, 25801350662160668469927300038656, 22202305682285800898248690368512, 18559922010215583972123681488896, 14882774963853617607205355257856, 11179509148404463543996358066176, 7458815407441059142195019251712, 3729407703720529571097509625856, 0], [1798651693450888780071750349094912, 1798651693450888780071750349094912, 1794922285747168250500652839469056, 1787463470339727191358457820217344, 1776283961191322727814461462151168, 1761401186227469110207256106893312, 1742841264217253526235132425404416, 1720638958534967725336883735035904, 1694837607872807056866956434997248, 1665489034045140125272834480013312, 1632653427094856945606299563851776, 1596399207981814319863582020337664, 1556802869202168242796106668310528, 1513948793755170609755012241293312, 1467929052940570504940513432436736, 1418843183534862104122665545498624, 1366797944958029967117908756267008, 1311907057103932451368528828301312, 1254290919566816313477920975159296, 1194076313053459292835830324854784, 1131396083824890329403901402482688, 1066388812063346362566568423565312, 999198465108908061964713056659456, 929974036555943145328430352902144, 858869172241915754880207485613568, 786041784200146776368977610573312, 711653653683599141136626115817216, 635870024398593798353708833896704, 558859187115429999386460226405648, 480792056847096096722903511023312, 401841743807537346439579143052576, 322183119377233435090926330654464, 241992378316084154897068077570178, 161446598471775796124336494906562, 80723299235887898062168247453281, 0], [41222060339517702122347079671259045, 41222060339517702122347079671259045, 41141337040281814224284911423805764, 40979890441810038428160574928899202, 40737898063493954273263506851329024, 40415714944116720838172580520674560, 40013873200309183491733001377621984, 39533081143462087395010097866598672, 38974221956346657395623637640193024, 38338351931948063597269928806296320, 37626698278264464456133302690479104, 36840656494064317679764325079905792, 35981787321822401924884117594292224, 35051813285266458779555687241390080, 34052614820157550717590974184730624, 32986226008094204355024405761165312, 31854829924269314025620504358682624, 30660753611215854732784674033827840, 29406462691649038419306753058668544, 28094555634545105967938224230367232, 26727757689587076000820315474100224, 25308914506052213896697649928601600, 23840985453111643391757136496164864, 22327036659356472782002124254871552, 20770233790154304539206017586561024, 19173834582172490219342435566223360, 17541181155077633273736136002371584, 15875692121032493148463301522358272, 14180854513159686091596345087361024, 12460215554624718366259461352325120, 10717374290407464840024328926920704, 8955973104179995729817072820027392, 7179689142988673002002611357876224, 5392225672648945810644153537658880, 3597303386901777560143500698189824, 1798651693450888780071750349094912, 0], [970982810785059112379399707952152576, 970982810785059112379399707952152576, 969184159091608223599327957603057664, 965586855704706446039184456904867840, 960194630032057500228540303367208960, 953014940889068827226537692009332736, 944058967784888831496720619189305344, 933341593494481366656696290262384640, 920881377939856648290436828910059520, 906700523426696962198840483822698496, 890824831305664469050377182300340224, 873283650150586835776641046297968640, 854109815568414345557298610731745280, 833339581778260041018092593145184256, 811012545118903568236090468890312704, 787171559665791924844333332394147840, 761862645159739710947635682465546240, 735134887470152634946815366991446016, 707040331835607528978877142761078784, 677633869143958490559570389702410240, 646973115532742635826785715668582400, 615118285608473321801165211309899776, 582132059600379117446140805548734464, 548079444780221566728549831364003840, 513027631494955107948994144122613760, 477045844173132706024110026528321536, 440205187679068388344345701448415744, 402578489400803923888212398757936640, 364240137468855860290942469951640320, 325265915512509202895318832311447296, 285732834369047115500308734444848624, 245718961168737932008575733067226640, 205303246224621211170403152546552080, 164565348161127256897139645695223056, 123585457719317218468979070766323854, 82444120679035404244694159342518090, 41222060339517702122347079671259045, 0], [23489580527043108252017828576198947741, 23489580527043108252017828576198947741, 23448358466703590549895481496527688696, 23365914346024555145650787337185170606, 23242328888305237927181808266418846752, 23077763540144110670284668620723623696, 22872460293919489459114265468177071616, 22626741332750751527105689735109844976, 22341008498381704411605381000664996352, 22015742582869195208710062168353549056, 21651502445400339348419119698401908736, 21248923955999535424530907299643972096, 20808718768320467036186561598195556352, 20331672924147334330162451571667234816, 19818645292652379222213457427544621056, 19270565847872157655484907596180617216, 18688433788271778538038766790631882752, 18073315502663305216237601579321982976, 17426342387130562580410815863653400576, 16748708517986604089851245473950990336, 16041668186150996560872368331189911552, 15306533298680843925925552964198465536, 14544670653521104214977917281732919296, 13757499093855312290133583949338771456, 12946486548736408721897493480448458752, 12113146966958148680879400887303274496, 11259037151389734335322102276571529216, 10385753501239147499545461230273560576, 9494928669933483030495084047973220352, 8588228146506786068296243564150521856, 7667346768566929420005806735240462336, 6734005175072448053349110444978077696, 5789946207287559221852389825788772352, 4836931266398490394625852133779439616, 3876736636366432894397311830412230656, 2911149780661726448358127373507362816, 1941965621570118224758799415904305152, 970982810785059112379399707952152576, 0], [583203324917310043943191641625494290432, 583203324917310043943191641625494290432, 582232342106524984830812241917542137856, 580290376484954866606053442501637832704, 577379226704293140157695315128130469888, 573502490067926707263298003297718239232, 568665558801528216868672151163938799616, 562875612594240657646819761338150027264, 556141607419168209593470650893171949568, 548474260650601280173464844157931487232, 539886032504094494105168600593780965376, 530391103834161011074673516545807745024, 520005350332921863575128055315534184448, 508746313181532129239805953038962655232, 496633166214573980558926552151659380736, 483686679665837571837029058671210921984, 469929180571982259546895474721872150528, 455384509918461155331917557440139231232, 440077976619780311405992004475940765696, 424036308433629314845119636144750854144, 407287599915642710755268390670799863808, 389861257528512148174857574807146463232, 371787942025848842958619973227824480256, 353099508237577064420581206437192597504, 333828942389704906765096298841011980288, 314010297097052527542882841413467359232, 293678624172905193212720389841800124416, 272869905404584726176533828243604568064, 251620981448585190752002920943960595968, 229969479003184851403583801245558687232, 207953736420315656194873739077205138176, 185612727921933951783268358076540141824, 162985986589183200256162668341430296848, 140113526295263710797048402873253225232, 117035762755119600126763734252529601536, 93793433866814362199581925986110754784, 70427519520789807053931138648925584178, 46979161054086216504035657152397895482, 23489580527043108252017828576198947741, 0], [14851150718114980017877156781405826684425, 14851150718114980017877156781405826684425, 14827661137587936909625138952829627736684, 14780681976533850693121103295677229841202, 14710254457013060886067172157028304257024, 14616461023146246523867590231042193502240, 14499425260391126923740826496789663900704, 14359311734095863212943778093916410675472, 14196325747506680012687615425574980378624, 14010713019584746060904347067498440236800, 13802759283164430404709473328421235098624, 13572789804161245553305889527175676411392, 13321168822712660362553886606231715815424, 13048298917308075636377352777988111247360, 12754620293135170443164632388146311122944, 12440609996038117915621749546732843763712, 12106781053648413008856653247891831783424, 11753681545410835944436072041454639185920, 11381893603384987101477452068226814705664, 10992032345856474953302594493419668242432, 10584744745940832242547326102748868378624, 10160708437507202927702206466604117524480, 9720630460887422616296214462128176758784, 9265245950968961460964296904688037527552, 8795316770396979201417401429966165377024, 8311630090731141629580372371294954455040, 7814996924516567649021445819143295074304, 7306250611335035519781639866104332419072, 6786245261002113656206511810788798234624, 6255854157167952645131838294242990489600, 5715968124663858151026669693649209524224, 5167493864013256870853204849491278036992, 4611352256594088661259734198598106087424, 4048476643999848003612914437259956060160, 3479811085198319786744242286096017260544, 2906308595130393079480944282798299021312, 2328929368426099939323248967670168551424, 1748638991941145072717195525168530718720, 1166406649834620087886383283250988580864, 583203324917310043943191641625494290432, 0], [387635983772083031828014624002175135645696, 387635983772083031828014624002175135645696, 387052780447165721784071432360549641355264, 385886373797331101696185049077298652774400, 384137734805389956623467853552130122055680, 381808805436963856684144604584459953504256, 378902496841833463604663660301661654482944, 375422685756635143817919418015565637222400, 371374209112635295814306503578305681162240, 366762856856041207153046769379707575074816, 361595362992027950282193564530216297037824, 355879394867364092131166894836567087513600, 349623540710196139486035056542324097024000, 342837295449194025829828544731535298789376, 335531044837858990310046904865430966370304, 327716047913342422661025459046287671296000, 319404417822611281031445086674992716840960, 310609101052214301830027685245026551463936, 301343855101245340369063388340338513936384, 291623224640357917752767173878210337177600, 281462516202850714825064967411606219653120, 270877771456909882582517641308857351274496, 259885739111053407629215046815437683032064, 248503845507668420527737594747210868326400, 236750163962257584583301522705756229140480, 224643382908609171574444869457864397357056, 212202772912571053658823119911131553593344, 199448152619435883215658487522985242470400, 186399853702127807579281134744997131223040, 173078684879415147216727248138765415407616, 159505895075253901663421358611589738996224, 145703135792089471258711885283168503897600, 131692422772504725197807538215670063660800, 117496097024998045185119922790095083282176, 103136785290902181972176144696178672606704, 88637360030511055048435318199389008706000, 74020899007364808524567727968346815203760, 59310644550351747638500555811318510946736, 44529962573817896945379452515641281105534, 29702301436229960035754313562811653368850, 14851150718114980017877156781405826684425, 0], [10364622733519612119397957304745185976310201, 10364622733519612119397957304745185976310201, 10349771582801497139380080147963780149625776, 10320069281365267179344325834400968496256926, 10275539318791449282398946381885327215151392, 10216228674241097534760445826074008704204656, 10142207775233732726235878098105661889000896, 10053570415203221671187442779906272880294896, 9950433629912319489215266635210094207688192, 9832937532887321444030146712419999124406016, 9701245110114816718832339174204329060745216, 9555541974322727247573627288921160556847616, 9396036079247473345910205930309570817851392, 9222957394368058198693478682170805402443776, 9036557540665930391114197547425808271220736, 8837109388046494507898539059902823028750336, 8624906615133923454239715939991691475156992, 8400263232225314282665271070533827077799936, 8163513068263056698081969547828070848659456, 7915009222755388277554231953080859980333056, 7655123483644334869925016906265422297300992, 7384245712187424987342499264956564946026496, 7102783195984574272517434297544958726373376, 6811159971344216354764667123666748389195776, 6509816116242971014395603735326409875259392, 6199207015190756712565576050081383323795456, 5879802597368145431534130963406390606954496, 5552086549454803008873105504360102935658496, 5216555504616944018563058599494671969288192, 4873718209167749992733230054763136670498816, 4524094668457553853247194998220812573474816, 4168215273590189761116028103384245485961216, 3806619910598161810833834538854029188923392, 3439857053742120603680787769474321613848576, 3068482844629485307866481265896015932686336, 2693060158872850164048561847880450295463936, 2314157662031016700443898187578788640980992, 1932348856594052843759753582994328687476736, 1548211121788662887136285729442198565421056, 1162324747991331785440100680364899912646656, 775271967544166063656029248004350271291392, 387635983772083031828014624002175135645696, 0], [283727921907431909304183316295787837183229952, 283727921907431909304183316295787837183229952, 283340285923659826272355301671785662047584256, 282565013956115660208699272423781311776292864, 281402689208124328423259171743416411863646208, 279854478086335665536122886013974213298225152, 277922129229741612692363132430979884610748416, 275607971567710595991919234243401095969767424, 272914911408837745827870672395520645674303488, 269846428564208260520004191129624629741617152, 266406571510466139916323403360150308127768576, 262599951599867978105489568821296278938845184, 258431736326277788344373540717912033452883968, 253907641657820234491126345719691220879409152, 249033923448652484498393115664928084208910336, 243817367944035540479830057065433412239622144, 238265281394580737470956951561073309303963648, 232385478797212592039422820597666918697009152, 226186271782021835326857244547585535373213696, 219676455665778864312461640812259125497954304, 212865295694434647957696973688592377108758528, 205762512498450073685179539391047418382385152, 198378266786262648697837040126090853436358656, 190723143302618313827912023219825431139057664, 182808134079862925550357791266744571158724608, 174644621011599868852275821718916500310065152, 166244357779374554569610550648382673232265216, 157619451164240631115370834708390981757108224, 148782341776194136607472295648488158728357888, 139745784235528206216358098101062350457137152, 130522826841160148017664619418891545054693376, 121126790761912674671754413488581974236841984, 111571248787589947424180786199660813679994368, 101870003677475130705348447025456484619249152, 92037066144587809261318300313036485494843136, 82086632514675489772103033677826391287154944, 72033062099472268100915590897920118406860048, 61890854324238535374679712799814456517859152, 51674625649997437839919266973740447813654496, 41399086331205988557520320591855120598503104, 31079017049840721378175994757454152102246178, 20729245467039224238795914609490371952620402, 10364622733519612119397957304745185976310201, 0], [7947579422597592703608040510088070619519273805, 7947579422597592703608040510088070619519273805, 7937214799864073091488642552783325433542963604, 7916485554397033867249846638173835061590343202, 7885406537347193145871670643416380909488097024, 7844007451015987157314150322824525788889593920, 7792332825365989719474231055850785341075939424, 7730441971041751184099551343050970884558080272, 7658408908942278915998635752153050766151220224, 7576322276427603426226532718475224374864065280, 7484285210283015616965214418162187889369222144, 7382415206605540486259865971136731404749972992, 7270843957817950538835685184937070591069978624, 7149717167056037864163930771448488616833136640, 7019194340214877716146266152029597071778443264, 6879448555979349509929908053928534721321306112, 6730666214203155373322435758280046562592948224, 6573046763038914742207064923571655580835840000, 6406802405259540187637454372923272907603574784, 6232157784247940318785178551204356407293509632, 6049349650168077393234820759937611836134785024, 5858626506865459079406908736717786404995727360, 5660248240079196430709071696591695551559368704, 5454485727580746357023892157200648133176983552, 5241620431886311709066195183512055756068225024, 5021943976220532844753733542699796630570270720, 4795757704438511009426876298152211095197057024, 4563372225641298417387453477554544176500047872, 4325106944246717679916496525993470867196084224, 4081289576302682139436666468928037454956462080, 3832255652854029654938273353263109370747551744, 3578348011196209420447147007543418149868142592, 3319916274869931632102773466825506116415258624, 3057316323270063653997283898004209837476413440, 2790909751759597514080960494644059529348644864, 2521063323195389253560956303514434899607027712, 2248148411786551507733085631118914253932724224, 1972540440218840911741166396875513157962956800, 1694618310989099299048803264444533273352208384, 1414763832902763633512680378430559060053983232, 1133361143694639305089421206687142648190337024, 850796129738523644880721934263361336414044160, 567455843814863818608366632591575674366459904, 283727921907431909304183316295787837183229952, 0], [227681379129930886488600284336316164603920777216, 227681379129930886488600284336316164603920777216, 227397651208023454579296101020020376766737547264, 226830195364208590760687734387428801092371087360, 225979399234470067115807012453165439755957043200, 224846038090775427810717591246478297107766706176, 223431274257872664177204910868047738047712722944, 221736655946883564878156107603603204774360514560, 219764115506664723966414941206727691616397557760, 217515967094878172458681855575608777362464833536, 214994903771682783205120899272094342462857805824, 212203994019923185691039938777450282933509160960, 209146677696653122037042654879446073096032747520, 205826761421783190404939881412620566979617488896, 202248413410586980984492734405077148829749346304, 198416157757732951329554461051814039459001794560, 194334868181430269190117794582886002004045332480, 190009761237183551510201298056892531136849248256, 185446389011542253092813844579337986960349200384, 180650631307103742083386968281185775865152143360, 175628687330883209238633234738485979234581872640, 170387066898996897529567039554973923478513647616, 164932581171416151172543147397773275345336664064, 159272332931336954741834075701181579793777295360, 153413706424471495662427166964463793388781568000, 147364356774303418269192346204526181552646782976, 141132198990055477950407167653321825145353273344, 134725396584795937762769713280398552237749698560, 128152349821757023020562648356826896656913858560, 121421683607553867647240212598546850094320910336, 114542235051574518137310304544618315372999604224, 107523040711359640421164038392588718301221160960, 100373323544303602557000107621140229684388024320, 93102479586485652018164422436203159093318045696, 85720064379880111531904556465066427688568072704, 78235779169597095914939342046904239799198850560, 70659456893169492488712809328429015424334785280, 63001047984227213572714173576275964658183565056, 55270606013185462388614622233224993773625484784, 47478273187819472669140391177374208432549545360, 39634265736803485511826240854549682643659951440, 31748859199456292365954570211133301734171854416, 23832373645059258498704723572959466672581511214, 15895158845195185407216081020176141239038547610, 7947579422597592703608040510088070619519273805, 0], [6667537516685544977435028474773748197524107684661, 6667537516685544977435028474773748197524107684661, 6659589937262947384731420434263660126904588410856, 6643694778417752199324204353243483985665549863246, 6619862404772692940825499629670524518992968352032, 6588113545573236648459545059459391217258796497616, 6548479279836433162947718818604841534615136546176, 6501001006648613690278578427427467326182587000816, 6445730400635428227889963805194242332408961516032, 6382729352651201014317249631617966367750777950976, 6312069895758031521828536822289537352326443165696, 6233834116588434425913597480242633112527244315136, 6148114052208554314381692923777566684838676242432, 6055011572622068662363528501341363525745358196736, 5954638249077765059806528393720223296060970172416, 5847115208366405419385364355327634577759749011456, 5732572973314830901248054050783016262386749407232, 5611151289707277033600813838184469412292428496896, 5482998939885520010580251189827642515635514638336, 5348273543300724072817481476547243963397764939776, 5207141344310668594867074308893922138252411666432, 5059776987536365176597881962689395956699764883456, 4906363281111893680935454795724932163310983315456, 4747090948180556726193620720023750583517206020096, 4582158367009140575021077572625977308171869356032, 4411771300110143677491510533071003384693355708416, 4236142612779260468252877298332517405458773835776, 4055491981472156726169490330051331629593621692416, 3870045592460614473076676485471993642633272492032, 3680035831223430921566475187415101111496423243776, 3485700963042000652376357392832215109492377911296, 3287284805284267701046802931780401070033376116736, 3085036391873680720062310197375323921203626770432, 2879209630451897529657370315962703354224009281536, 2670062952755244407620327661083257281127976534016, 2457858958735321221929287722305806998194467373056, 2242864054963638438724166823033712655731609567232, 2025348087868760266265484967458103878369144733696, 1805583972362095542299070026251376186752747175936, 1583847316415211977420913918647772981978386661376, 1360416042157339313243709007779725243930673938432, 1135570004066563885432991416533246946822907232256, 909590604832093818317184404080081507066950189056, 682760409467885227556496669692652705974579101696, 455362758259861772977200568672632329207841554432, 227681379129930886488600284336316164603920777216, 0], [199500252157859031027160499643195658166340757225472, 199500252157859031027160499643195658166340757225472, 199272570778729100140671899358859342001736836448256, 198817208020469238367694698790186709672528994893824, 198134447611001353140138202120494056966554415792128, 197224857006169259321821017716413975459487465603072, 196089287002102695436388026299880728512664558370816, 194728870959945356123144317292101003268733884432384, 193145023643530144145723403373453230286755497771008, 191339439671168048603424333347201854100002750595072, 189314091583299288337158848379743750221633605861376, 187071227528335649898434681556710037565901996294144, 184613368569600328676505393834404230567707528921088, 181943305616845084268885066173320973286579552387072, 179064095986393186739227695857358269932355543105536, 175979059594519506019165385659982946011151916335104, 172691774789235238318118582728202544941118540218368, 169206073826193237665742225335370329831626162307072, 165526037994969806744175750147955228720129739063296, 161655992402509192271099073662483235077496466571264, 157600500421037035544929583332431903447902844878848, 153364357808257775076676706034099386042444071043072, 148952586508147631399185195501028382657750715334656, 144370428141138490824164117928402405349578845978624, 139623337192957934097970497208378654766061639958528, 134716973911846040417035042412653722602750656643072, 129657196924309675240437160449964326646050891759616, 124450055579999006645570086141070404507798480093184, 119101782036698282572752604664523160544400715153408, 113618783096812762562172353474695518028765200515072, 108007631807105485528571539636511048616472772018176, 102275058833790654627323485585728032354086022610944, 96427943625424249207938121230400397776326273599488, 90473305376346484148131592836680174480265303427072, 84418293803724415485768064335338810954519945230336, 78270179751515861171386371411561244269681268987904, 72036345634927426745472773931318611157154024672768, 65724275739169395223644237109029073804827581507072, 59341546386518194209326987477411107437076803556096, 52895815985882765981437023672216865104667842040064, 46394814979234152291158445244789397778485255039248, 39846335699397719128210726426184556243870118493072, 33258222153824482479751181366725165026611321995456, 26638359749051789538925681737054640507618353643424, 19994664970634037339601477383811156521952803780178, 13335075033371089954870056949547496395048215369322, 6667537516685544977435028474773748197524107684661, 0], [6096278645568542158691685742876843153976539044435185, 6096278645568542158691685742876843153976539044435185, 6089611108051856613714250714402069405779014936750524, 6076276033018485523759380657452521909383966721381202, 6056281368047851486419779180068710752862013917601024, 6029643008298799696880853498331656112354395563957600, 5996384786144975214401102316964930947327784241962144, 5956538450445577495272891590538746391083914123469072, 5910143635466343342981733145293956993305428868429824, 5857247819480460577000296121621740128200761026389760, 5797906273093942382790969134144329020763684222833664, 5732181997354772987567324897035299946958856641326592, 5660145651719845560821852123103981335801702616653824, 5581875471968329699650465751692420091532021347665920, 5497457178164605284164697687357081280577501402435584, 5406983872788258800016566094520401106097236099008512, 5310555929162834550808627973290000708320909825409024, 5208280870329043896181304487704272675966823802798080, 5100273238521938410652732948067761627350351030779904, 4986654455425125648090560594593066109321585830264832, 4867552673388427365517807989928542948777185115111424, 4743102617808428358872237903787472544269386635018240, 4613445420884118683631800743337508217623335743258624, 4478728446972272643214765700924854495020585086615552, 4339105109779314709116795203716475840254523446657024, 4194734681638176218292631085788073434904944600678400, 4045782095130028586893445890287045052247193885343744, 3892417737321770811816769184252945666204749814300672, 3734817236900733776271839600920513762756846969421824, 3573161244498224584000740527258030527679350502850560, 3407635206503254777256564777110075298959220763787264, 3238429132677061539590822551774704969127594601480192, 3065737357887826301272703969046502424186476061261824, 2889758298293306795253538583386519478175324144926720, 2710694202306913608514310887529161208242968601821184, 2528750896690068524245425821355840234956389049434112, 2344137528120468195568920427521436004388681520513024, 2157066300592132545670485745964725966822779524218880, 1967752209008833257333326897584982216601145918357504, 1776412769337665208729902564237780362501143167762432, 1583267745694135064584179160864327132214387669991424, 1388538874734189708461034843572226128945653785559040, 1192449587732087013024646817272345400432989227188224, 995224730725917753702825799555931424973501761585152, 797090283114916400562687597435437368006947345793024, 598273075094447162194992898645250658334418350899200, 399000504315718062054320999286391316332681514450944, 199500252157859031027160499643195658166340757225472, 0], [190169564657928428175235445073924928592047775873499136, 190169564657928428175235445073924928592047775873499136, 189970064405770569144208284574281732933881435116273664, 189571063901454851082153963574995341617548753601822720, 188972790826360403919958970676350090959214335250923520, 188175700543245487519396283078914653591207387905130496, 187180475812519569765693457279358722166233886143545344, 185988026224787482752668810462086376765800896916357120, 184599487350053293044207775618514150636855243130798080, 183016219604359157979623596457649823504640855460806656, 181239806835021492770893693893412043142139712293044224, 179272054626012659513560366995827060925538566374686720, 177114988325420526967889881249862334958715786850467840, 174770850797300058772320960822340898954327105329954816, 172242099900609990248075535000985058719370716280520704, 169531405698303076639561224113455897511127747678699520, 166641647400009769844307685530069378032952423533772800, 163575910042121943543034981561022875608765947472510976, 160337480909444882003444159009248170639638352871030784, 156929845702941627226187594232138095340679132107243520, 153356684458443402642186853704880064812999781604392960, 149621867221542668865915014103959551050242934634971136, 145729449484220898054098244919706605384038184820670464, 141683667389090869467204799029419560331790990935326720, 137488932707452693248912167943631486896886046334648320, 133149827597673378539795372739915011056631522887991296, 128671099150701105896580607038990156561610937801375744, 124057653729816987212948806295652648343987602058117120, 119314551112008558854076568391865175799718215423098880, 114446998438620131488558760401936632850941030307987456, 109460343983195005840468199807343566741619444477722624, 104360070744673067429815466859275805114269093446942720, 99151789874344023533634162371571532438302269644144640, 93841233945181188982825534398281531729981359818735616, 88434250072392930182808968303761130623884123719727104, 82936792894228324898644270616404049343306622317291520, 77354917422259995198993804864711629251774600969625600, 71694771770540149638171952741607647915972898352971776, 65962589773185376650604627844572347969014041711645184, 60164683500091434267813658710428018948250357488811520, 54307435680610973690813362588806278820049596462421760, 48397292045144630347831629443512321826744167593991936, 42440753594699052852558737852973575435660253470522864, 36444368808554077638157635536008644488332469228560720, 30414725800255277941276782037676988375978073664603120, 24358444432207426454857002857608277623116059747002096, 18282168399188940931097622200155755713732093025620894, 12192557291137084317383371485753686307953078088870370, 6096278645568542158691685742876843153976539044435185, 0], [6053285248188621896314383785111649088103498225146815121, 6053285248188621896314383785111649088103498225146815121, 6047188969543053354155692099368772244949521686102379936, 6034996412251916269838308727883018558641568608013509566, 6016714243852727328907211105682862802927836514987888672, 5992355799420519902452354102825254525304720455240886576, 5961941073620264624511077320787577536928742381576283456, 5925496704811710546872919685251568892440409912347722736, 5883055951217011494020360947398595317004749658877199872, 5834658659171866863672529317955082995178005491283207936, 5780351223491255889981715955366276716357955894820786176, 5720186539991164455713902296655848697409705537331974656, 5654223950217979079063297668811276349440691495620329472, 5582529178447438929425125716069668701524718597267357696, 5505174261025178934226131911204957072272943996297732096, 5422237468130950609327487640588553022929637373980440576, 5333803218058557679144678672284791892305753250260713472, 5239961984113376490161853137886510360575771890441977856, 5140810194239032466628218975514938828137469620797833216, 5036450123494359399198403508655663023023200527350890496, 4926989779511164393357935308848319456281581082873167872, 4812542781072544261869376548446382823430640052565180416, 4693228229960535703015299980054517647630921837142081536, 4569170576230718715802351173758864999286934235083964416, 4440499477080017609905770566719874842725323297282588672, 4307349649482344231365975193979959831668691774394597376, 4169860716774891538117063026036328344771805728059949056, 4028177049385800668649858227006908784440014737124622336, 3882447599901579770595759982087202179055976552303951872, 3732825732680037101729844967983242628005733617668980736, 3579469048221593699087658114278362563192733836064587776, 3422539202518652071861470520046224467852054703957344256, 3262201721609207189858026361036976297212416351086313472, 3098625811567085246314991379475953421603650403613802496, 2931984164167075476470683693945884043570697980080029696, 2762452758468772399831122469832428146059570232401330176, 2590210658568162409583046934831443087340199516120809472, 2415439807770862350810725974009102188385872410790854656, 2238324819445441823842836092759239853427156623940386816, 2059052764819429164329275725763412792501618057565700096, 1877812957984407671558382031870000749359478345272655872, 1694796738380048513578758435412350925854837489811849216, 1510197251029995220534550659793836775217982246681051136, 1324209224805207737781881849331750398452181349764694016, 1137028748992688168016188392052391676285947463621148672, 948853048449442680496792108973477022694740075716018176, 759880257623082276576833138297126931735525740465094656, 570309193721627425494679174722131590117976986863271936, 380339129315856856350470890147849857184095551746998272, 190169564657928428175235445073924928592047775873499136, 0], [196535694915671808914892880726989984967498805398829268992, 196535694915671808914892880726989984967498805398829268992, 196345525351013880486717645281916060038906757622955769856, 195965186221698023630367174391768210181722662071208771584, 195394877027976396204872495217046078591604685084345499648, 194634996770353313928295662078748951659869159343880404992, 193686143721903871247798869969775474637174419268164386816, 192549114972911183079782681577723082960888471804543238144, 191224905748105975342000799728391332562436290454778544128, 189714708497075980121466249068597495787218308208097492992, 188019911758695931607887490633185144861363470718285643776, 186142098800711523936329108601315144112003992373012987904, 184083046035892094771999832875551731319502374315447287808, 181844721216446652948156996782792491466075217691506900992, 179429281408675790597346270808783389277689345280716046336, 176839070750107628187763223873951946190349145764595236864, 174076617991638855787932101404119518044289575532193906688, 171144633827471780311461417710173634000718877552113876992, 168046008015904695065146426330697680579115227148500074496, 164783806294295487875288399969660704281902810797413761024, 161361267091776835803426929449614479814050756093456416768, 157781798043555242104339271335336117250858022257391828992, 154048972310875205002609426367352874622852288639722848256, 150166524710973625232013666385265672443796312087418896384, 146138347661587824563363808158258763659356297350294274048, 141968486944812933025246745132222435314584491622234324992, 137661137295330588793880769938242475482915799847839727616, 133220637818250571183974999371522600640190476550557138944, 128651467242019852468172648197763735640903542315473174528, 123958239012059316765157348217709217993272620478331092992, 119145696230986772503287971669262835169841980425765912576, 114218706451475608109930036360414515713560399342892744704, 109182256327981248710731632851758852690537198815541854208, 104041446133742216244103413876243913862399729194744020992, 98801484149628839753941560738357403501823957304302043136, 93467680931570282074796882066072611609518204054041329664, 88045443463439331465469394425484058586588566680060889088, 82540269202414152531243262514279101514315622683763156992, 76957740023966713601818136798209432812790904086495799296, 71303516073748734522754839129398156463350212590875469824, 65583329533757570067040936832742307765940507053543495168, 59802978310266314177059220877376031049582551158722708992, 53968319651094447313386691559420948054404545667439501056, 48085263699877435819366330612022352737399796008562301184, 42159766995065725272493410926770783844959386096214578448, 36197825921445460647982333605983206308030643714638294992, 30205470122024940745529979503157951782725923259397408416, 24188755878172213416622768397475088979798086744409519744, 18153759465920297146784459669592070421156518136396010178, 12106570496377243792628767570223298176206996450293630242, 6053285248188621896314383785111649088103498225146815121, 0], [6506162486684608847715870634080822983483644236765385576565, 6506162486684608847715870634080822983483644236765385576565, 6500109201436420225819556250295711334395540738540238761444, 6488002630940042982026927482725488036219333742089945131202, 6469848871474122684880143023055895965798177223953549121024, 6445660115595950471463520254658420876818379137209139601280, 6415454645473925530717990275155262925035653213949742192864, 6379256819552480070070007941549279718727622570235103897872, 6337097052557414344797514530622508934882663184138889319424, 6289011788857536908978148200010486582145263388130327018240, 6235043469206442461664761508451065634090858842462887517184, 6175240490896176147487702287573689603041276291304164808192, 6109657161362418577420661350740947295275335784250621313024, 6038353645288669842897906511611549138811985571659745843200, 5961395905264703129296088374813339705999194667573250043904, 5878855636062288976764845112299060604484879044889486886912, 5790810192598849645299375717873576545898290478209425997824, 5697342511667279363224578835807503934288772274155384668160, 5598541027517650523470637275069146530786948316851082625024, 5494499581383908307226533861192902616924548587656338604032, 5385317325055927058515802228341143764234011388840796749824, 5271098618604451450405872191980729248520450989497904005120, 5151952922373464677902584220311466413350609009072138092544, 5027994683361405361137426872093757195357336388593806999552, 4899343216119385508669254223895993459716432846278333825024, 4766122578301134937485279224524470859076242369727776686080, 4628461441005804348691398454586228383593326569879936958464, 4486492954060991415666151709454005948278742078257702633472, 4340354606399403591102787901295747184619385780907408359424, 4190188081688429965870774234910481512175589468819989463040, 4036139109377554760868164808543128637552737180180266614784, 3878357311333999518763825537207792520301879157922874785792, 3716996044242222682960398607758178040487828401829418369024, 3552212237947927195085110207788517336205925591032004608000, 3384166229932022500019963781457819655626810363883504533504, 3213021596104550719708502363747646021626091486331390656512, 3038944978112911863920570262343526503581801910799196749824, 2862105907362804235732807038469574557391452765034601512960, 2682676625954128445135460767660791168113763419753885466624, 2500831904737681792187303770877998676647688202062378565632, 2316748858701789697415303938002446945328185827746931277824, 2130606759901078173478974829401131801216181835373918289920, 1942586848142382241871087338767946656354818364655632646144, 1752872139645306261749621089699349160567600056447535153152, 1561647233897200286407620289970957828005163765992756609024, 1369098118924289103327837608393234745044275294188213370880, 1175411975202385232080038738423459270407100874920048984064, 980776978432031918151743076344710318747231715576168579072, 785382101404055521946870581127664240155627030491823079424, 589416915182357498316503406735896029973904368420614307840, 393071389831343617829785761453979969934997610797658537984, 196535694915671808914892880726989984967498805398829268992, 0], [219523439106761591280258358007964245987752702449505540243456, 219523439106761591280258358007964245987752702449505540243456, 219326903411845919471343465127237256002785203644106710974464, 218933832022014575853513679365783276032850206033309052436480, 218344415106832218355197175959047380002876301664888438128640, 217559033005428162833250305377919715762720674634396615049216, 216578256026996130915098562301575005443973442918820446470144, 215402844051793745683018523563151546173566342043900397486080, 214033745932869456579690685954758311428522066749712184115200, 212472098698972256293283065664787353600516902983719427506176, 210719226559326950031533444575088004439949302927271892353024, 208776639711184567789662357236320057783594484562616259706880, 206646032951283489616183382406918925982378302727242341416960, 204329284092581699918768078468916479037050116899495410139136, 201828452187844018126580774698038480360402428697433031573504, 199145775561889889681445313930377689192288665277679146106880, 196283669654527085445712506891908114634897212512644544593920, 193244724676414173581791936629564588131315410601845347844096, 190031703080309622862083434265816942109689319115513957187584, 186647536850377600362063470484359122454062508751630452654080, 183095324612429673166978360276570605117856583160598448046080, 179378328568187450484017961668812427077368754758769029677056, 175499971256853450965254136131604634557066875600846154891264, 171463832147475896204385971323061505919514138420665888276480, 167273644065787466238515197088151024407338548951845898813440, 162933289459388062647412409186855277222719163170938490454016, 158446796505327071231746257477401271274440421092680787820544, 153818335064321266883054859022815042890847094522800850862080, 149052212486020131945569579798290572031770852153073074176000, 144152869269900746436900325574394578572054419306794740350976, 139124874586539341075762898702300821376697082918200933351424, 133972921664165876397860314481989354963346473909128795258880, 128701823045561424947454442290008625714826022919630891253760, 123316505720505497888938640061667481950592011530790094503936, 117822006139121589581712106200474579333667462943133755899904, 112223465111603939058241468925405432802880514626282673274880, 106526122599936659695016890089597928868591742352127288606720, 100735312407337810049717514371724352322693451873917862608896, 94856456771275521072952669259425291718208572829028375721984, 88895060866010817943656580884611952012209378161455125678080, 82856707220722148100758674373000402873397392589795379834880, 76747050059359729523338013022259455578122056805544758521856, 70571809568463553375850310734685765975080780514240593713664, 64336766099257110914185549226234700340989921671777706196480, 58047754310399574005207401026224213758844658283647379178240, 51710657257842159660409886495601704823961995099508489858816, 45331400438289679590339878554052425105234372529273385960944, 38915945792815754059621888278897162180198719315323643768080, 32470285677219803588158368024238741303380340178114504166800, 26000436805745680903278225001182845337582162954160955045776, 19512434174805637921251297518457357301362829212071009914574, 13012324973369217695431741268161645966967288473530771153130, 6506162486684608847715870634080822983483644236765385576565, 0], [7546659939008739098061432565889736744212240024711699858645581, 7546659939008739098061432565889736744212240024711699858645581, 7540153776522054489213716695255655921228756380474934473069016, 7527141451548685271518284953987494275261789092001403701915886, 7507629017373879633597033656469036917960426262789332692001312, 7481628580568133952693755431467854072622844099835171736955536, 7449158294890914149105597063443615331319463759657057232788736, 7410242349098098395045975175164718169139265040341733589020656, 7364910948659808715455635296610665744034030667812460203059712, 7313200291401966555795225410115064039210068672712951713200896, 7255152537091566981790018009088839825451224014429304334022656, 7190815770992309870875832459862605125110234092757526627826176, 7120243961423846317499982149127919359135153312243286034112512, 7043496911364486587976644136105659903557031255437741275590656, 6960640204143764439875885461732659500683633862847945895755776, 6871745143277753621932228880848047548671424484686490770077696, 6776888686506478100859276211588622256953215911857462394355712, 6676153374099140290809558697216897904630522459983544531746816, 6569627251499203631114541807127299975761930717631417243140096, 6457403786387599692056300338201894542959050203005134569865216, 6339581780248478102474588232001419963625382740062000813965312, 6216265274527972604585649591939752481674790728531210719461376, 6087563451482411179638195149649743855959964705611579828207616, 5953590529818245303240334835167754500996618231702451032948736, 5814465655231705962164571936465453679619921148784250099597312, 5670312785961805215727671610891059101047866729477455359246336, 5521260573475785083782102031092768529016095877324382285070336, 5367442238411463816899047172069953486125248782801581434208256, 5208995441906136745667300914592552214850808361708900646387712, 5046062152446748683019888505405696937628089198537962155933696, 4878788508380961216781373308317545913220750649586116257120256, 4707324676233485320576987336994484407301236511165450368843776, 4531824704976631869611733200862879772744169635564604213952512, 4352446376408444419127715239194067345666800880805835184275456, 4169351051796014745960736878917496740548944297645236736229376, 3982703514945637145598673408433137618094881788893606283575296, 3792671811865327522736589974167320675985192469778092326387712, 3599427087188913349154798037537756087853877059176246978543616, 3403143417534386263709085530645847973218979846663602433949696, 3203997641972496374027640216715470284026691181385923287842816, 3002169189784652355901059442017431803666288752688490256269312, 2797839905692070655982291363548515324629238635788994846130176, 2591193872740787166366107981141596398646860333061752504713216, 2382417233029602598576445623905276340863265848499136245006336, 2171698006470275648544912179330188336423316545571864352653312, 1959225907771303392251629113665400982822799642588144925147136, 1745192161838433935671938427710642671394277575838432741031936, 1529789317786640189988919904147491125220711233794532343545856, 1313211061759644059073821341845916119776737790875711897075712, 1095652028754215896240571036467996404014017116241315282026496, 877307613647383677885373860508949024011140814576426843897856, 658373781625369102031860181143165747978290608543117791461376, 439046878213523182560516716015928491975505404899011080486912, 219523439106761591280258358007964245987752702449505540243456, 0], [264239411287900883270178745605712648488731058170551223831232512, 264239411287900883270178745605712648488731058170551223831232512, 264019887848794121678898487247704684242743305468101718290989056, 263580840970580598496337970531688755750767800063202707210502144, 262922467188955229394306110350545590002789509454659589419040768, 262045159575307845716420736490036640978778368640083162575142912, 260949507546553629820180165453568644574764351523841847293116416, 259636296484793985761106344111722728454987613732966135396040704, 258106507167007345571117424207575237329766902499171603052494848, 256361315005168911635445485779864594658372624923333170311462912, 254402089097397608243193856666199193675549825280745025386315776, 252230391090927332594648944486869005339126508735173161033662464, 249847973857897729996072498862963728998263242886674024788656128, 247256779985156942829706390881822132599616382553612272283942912, 244458940079464872173724099518273617274987143917823277437812736, 241456770889680219817823040076256185471320855165134787181543424, 238252773247707723443795399859540715187294163983748863893700608, 234849629830173337180086314328894867214075184137085261459750912, 231250202742984423830931516291357111126221307077909014481207296, 227457530931119096308194926317189790450236114608130922154819584, 223474827416173459162596252908756652832141232819237315871244288, 219305476364377444416635516029839156091592288521592079135014912, 214953029987968999997507800790645088745925487640786243950739456, 210421205282992368127896067589782208973181318005221639736786944, 205713880606758882807319080252787724565880081494056189367943168, 200835092098377921590537706944470178652659330844470073110822912, 195789029945931172907517818439064481715031241645932110954889216, 190580034504025036161850517524471929500180433284223210308501504, 185212592265613572344951470352401976014055184501421628874293248, 179691331692137787261169368321309207485039088624097246589222912, 174021018906175982045441696710418148383991221894619791229976576, 168206553250944276083277124773952694704371300745835541130379264, 162252962721126030780036789938784940203374682514133090097430528, 156165399269643619600398594789135196347414717808521510269222912, 149949133995115646995812945197195443865739927079990299549761536, 143609552214867168893338356965194023902114544339928298735796224, 137152148428479569201282056626992129359155494136923164165931008, 130582521176980365570167514819864829383393563419291746922790912, 123906367802881225279357956122647931478763040959308202391044096, 117129479116374747178498679911059309221809825047450739996688384, 110257733973096993556566451030211261673138400562764249226610688, 103297093768953229116690565568478602172454766699916303330854912, 96253596857588742528713921432372942268897735444478562055264256, 89133352896164896211213939283245022909762582132235276021151744, 81942537125172586340338106823382417784652348039477749393325568, 74687384588081019358548088814293577959201124025048445059302912, 67374184296679052802752863404178513919991055352335493346102016, 60009273348019244087297228107567848175957024684523033143042304, 52599030998921145692251252932403130006817759644181299554021648, 45149872704030231543145655868959514675498295884524242321232912, 37668244123462097590451900437491660602875451784689070584277376, 30160615106088217956854866781022623684915025521899737892276064, 22633473654539532685336581827035129409653236429898334190360178, 15093319878017478196122865131779473488424480049423399717291162, 7546659939008739098061432565889736744212240024711699858645581, 0], [9420321896420241204202286237690583227209388852599646009394905945, 9420321896420241204202286237690583227209388852599646009394905945, 9412775236481232465104224805124693490465176612574934309536260364, 9397681916603214986908101939992914016976752132525510909818969202, 9375048442948675454222765358165878887567098896095612575628609024, 9344887827842587236265910491384856263882183870573712837736332960, 9307219583719125138675458590947364603279308418789023767152055584, 9262069711015094907132312935078405088603810122904499524830822672, 9209470680016173761440061682146001958596992363260318225276801024, 9149461406668154517352764454038434110421035338575795192133758720, 9082087222371475464550011590634255596501044283223459698787656704, 9007399837783394445191463501819962018541843159198411253728353792, 8925457300658221858851125394996579600757190811158933504335028224, 8836323947762056962639911455713334577847428229026698228313876480, 8740070350904468220111197534280961635578530493582219666258612224, 8636773257135514990994506968712483033406075726882303362927757312, 8526515523162417997437940517682271771732937326319539113701146624, 8409386044046043250259441837771212462511127501272088373704458240, 8285479676243162024980083881648564531032364460312780171313414144, 8154897155066181659409916366828699701648970896893488424390623232, 8017745006637702090208634310201707572289815402756565260224692224, 7874135454422834921315295953236513548387700858416636961488896000, 7724186320427719274319483008039318104521960931336646661939134464, 7568020921158075654719084413250182908174546213528125151669911552, 7405767958436949623939047623311397967971171531013992061572481024, 7237561405186005347855770498537445273266800230268156520442101760, 7063540386279829365810328801827027124882809008373536729212125184, 6883849054587691578549159433505717917397769919749439482622902272, 6698636462322078006204207963153315941383714735248017853748609024, 6508056427818052970042357445628844011883534301963794643440107520, 6312267397872121797134839627189779530168503060317862532485218304, 6111432305773743875544301920245309351515843729473392459374395392, 5905718425166984992736982839992521626949963647979336270006452224, 5695297219883992624609086772402739417976782329974114630269665280, 5480344189896023624611578971612094329230856842333328386318925824, 5261038713531646180194943455582255173139264553811736307183910912, 5037563886115472721032347202673498520307123320992498991312666624, 4810106355184353624724152276356308729856887206384368069157847040, 4578856152441369200893220760064951618730665899306459054676639744, 4344006522611195863713134445736056751516590715169373793216888832, 4105753749363488140269339045876516036329296551185624929323188224, 3864296978473807920451516005800259850857975696020490142141644800, 3619838038394343048277791906281986233582988552102666864703832064, 3372581258409186105448085515400164100983372169549054592419889152, 3122733284551288375452013016537200371985108926662380567631233024, 2870502893460361042857364072050331366645982417927207406597570560, 2616100804362963434614170215384132172970432592646462381211254784, 2359739489357794522978724729604267578312059967723129210899791872, 2101632982190787177407607305396692340982293065223957607847297024, 1841996685705993191646500961284969612527305451490991472451256320, 1581047178159439561826320795831400967952541099967149625158139904, 1319002018584131716109900059341364326973762731327066462582996992, 1056079551395176486715593948990818736970973221872406873163956224, 792498710424595888219255978459129981220205421809204165953454080, 528478822575801766540357491211425296977462116341102447662465024, 264239411287900883270178745605712648488731058170551223831232512, 0], [341838301335718580350174449297951396847081443826785448952307122176, 341838301335718580350174449297951396847081443826785448952307122176, 341574061924430679466904270552345684198592712768614897728475889664, 341045583101854877700363913061134258901615250652273795280813424640, 340253084391430281812144657082675128920395045230464591114859970560, 339197004840035105325429063133684310183424072008592184241696014336, 337878002821450973609319163074342945856450309277265117779113017344, 336296955643291534047492842278511544888497768177297968153954877440, 334454958957585540855846341317226575275970462725806976681503621120, 332353325975394753678438734011829882934988169660583019073656324096, 329993586486036959155460009282225615356676109692859889862756532224, 327377485681673995720845839066841483183705677100213427481545277440, 324506982788213634677988474994791151817059694682286220074947706880, 321384249503662346302536461978253951445074585755623839507316473856, 318011668245253160197088376462853787344091213586074784914896584704, 314391830206858817148810584556571801110508225033972118050192752640, 310527533228385009228359068550771541259650249337951627908051107840, 306421779479021521088089729504895025223320952786766002978727919616, 302077772956410325224376595059158968471804362071596629185511030784, 297498916803968956023483374299094016853073696172290170130834391040, 292688810448784602398759222022737708123216808965905802061676544000, 287651246562669129677726874820064209602909685644913303070363877376, 282390207849137483497531931364481954429770421091101566763179966464, 276909863659241459872920352392869860100539564248768238376861040640, 271214566439357467248311265620467120682562781918794123746591375360, 265308848014190482255574282780474599055612818270814787476584923136, 259197415708416738380029980860229289704096974541341395017210527744, 252885148310544616582895141233039510173928471481023532484725309440, 246377091882726563612852783787410666162044937179059737841285201920, 239678455420404485606648575824257350220661222443811719987536592896, 232794606365816794028099416390751632303263452524062280504913690624, 225731065979536964662289087588924605178380643515688743775701565440, 218493504574350959314433317090387159905113843285420587255259463680, 211087736615914009690494269467075761937142671754406595193686982656, 203519715694755934035775185053825579028968125540878470042017071104, 195795529374328214761455702045786260924446164609541823380077936640, 187921393919905379840140406092549747376058463751125186418589040640, 179903648913267677749931771782348039803768648348368621158364348416, 171748751758201496090521855415519340102119677451475132733973725184, 163463272081958334065541771533870775571087312991162352562660311040, 155053886037912290815282329696099563108576185489890264188955852800, 146527370514749872817844389178417291336843248163570725075254706176, 137890597257614357826849882209704808303437172436688421712326948864, 129150526906709889606738684675423846667858641943106202046068336640, 120314202958947832644098773219710512090011213714079503817754460160, 111388745658289610785247647824713932489254022902920570313419431936, 102381345820506216340056184322893970470712179743722159059691078144, 93299258598134740875506172732259714874211135460498699360903421440, 84149797191466586358153408278221280763790100121922904168769662720, 74940326511450412596713346596075278805193107758662585943492861696, 65678256800435317689581033660996873716589297635758086418662039024, 56371037216716192550905575070049509113309989216969062651509983440, 47026149388873605314639664578664652849427805346395349813773650480, 37651100945924929860416899220498773961860706450299737238145041456, 28253419029321714873508797280505859944883954317774226328326072254, 18840643792840482408404572475381166454418777705199292018789811890, 9420321896420241204202286237690583227209388852599646009394905945, 0], [12622019251806218719903409237287489255482341061191825594069964920041, 12622019251806218719903409237287489255482341061191825594069964920041, 12612598929909798478699206951049798672255131672339225948060570014096, 12593758286116957996290802378574417505800712894634026656041780202206, 12565504867087636281417293581293911645855828940316252429713454129952, 12527853766141711351556876682073412871893968233865952692475309088496, 12480827616752837746242237017494748219044540428519557342661535438016, 12424456579536121553691331442424698709931230439302588280010025454576, 12358778322735686236001750408763701836214641141666830193591363415552, 12283837996224235823405037062167626557409448033908167607647870553856, 12199688199032769237046883653889405276645657933786244703479100891136, 12106388940434634496171377481157145561771446798325746004118197469696, 12004007594614128279831321296834251591300734618582023845058506391552, 11892618848955838669046073649009537658811480595679103274745086959616, 11772304645996890836401974875789827146721469381965023770927332499456, 11643154119090180946795236191114403300053610740021917568881264162816, 11505263521832566588968386308904698491750173567585229147168937213952, 11358736151317816716150541919726281200413330319421658422093682507776, 11203682265279904425335259590030181637304754133931768157904726654976, 11040218993197946091269717818496310861733666820940605805342066343936, 10868470241439744595179195963080791521631547143489130672608092618752, 10688566592526476917429264191298443481827778495140762051449728270336, 10500645198606571537589123785205893734451720031389636865031139229696, 10304849669232243322827668083160107473527273866780095041651061293056, 10101329953537487388791892898106281894498305741239216571609044221952, 9890242216921573379101398628639206132561163069484809976415357239296, 9671748712347222419786965311548818972656049226199389389160097775616, 9446017646367685455124676223959894367477668582683700645384396210176, 9213223040001868661096576807569142735174405130159638364879482519552, 8973544584581464175489928231744885384953743907715826644891945926656, 8727167492698737611877075447957474718791698970536766907050660724736, 8474282344388192995294180306724435208617770499055743374565935415296, 8215084928679776256914150325864205918913673524514401979548724887552, 7949776080665585774658576043083731319858060706243587192072139964416, 7678561514226228307410264777463264199175497924324793068325548589056, 7401651650566986847537344425070394339074958360076024829948687548416, 7119261442717849364039812493705912384645187938984923263185507581952, 6831610196155180234362085618885848175042278253340009960115143704576, 6538921385706395631963326396863110466919061444374104158053467160576, 6241422468902426675939843022564016450065987748201813987922632769536, 5939344695946016350715466427504857481594183386130217358737121738752, 5632922916466994829627376697999962456370862433343451355758393819136, 5322395383238609820399017629449190915111212184005499727850342711296, 5008003553031751003250207044892619114000703958971527609800149958656, 4689991884786497843053118668429765326656612745385452824885253373952, 4368607635282835496750582206451511375211538159629828985377936900096, 4044100652494621862072593731456720223394478464947542765302989193216, 3716723166812947866351747892389878740210772787847329337821443915776, 3386729580326910907196287883107653124854096678154469447958687383552, 3054376254351516153517849149095823241919108508493886428885031059456, 2719921295393930612662002807778596666643138045768079452203527438336, 2383624339750639078614509965500085121754640277590781484049572560896, 2045746336929188105005190802425742175898189968313516366270459543552, 1706549332089152999679761739292057865714765896304924182028763529216, 1366296247697722717867617082209382736794370851074459590913903558656, 1025250664595867840167253169148248477892755600422185795633090134016, 683676602671437160700348898595902793694162887653570897904614244352, 341838301335718580350174449297951396847081443826785448952307122176, 0], [474090194351342155974522582010891145370303013658973457042263121068032, 474090194351342155974522582010891145370303013658973457042263121068032, 473748356050006437394172407561593193973455932215146671593310813945856, 473064679447335000233472058662997291179761769327493100695406199701504, 472039428782739132393304805493849042701869013727070914899773109567488, 470673132535041409675437188411639659965074642875996455308859206008832, 468966583202952256675757426672347602099359876979691531126830442479616, 466920836866023068570752235869921859923461687011378014760559982936064, 464537212526272429492137725904421774801707046733787233276510410375168, 461817291230878498879475723096643178135063908688019153824306882936832, 458762914976526982725957873947547354893144800179525267395421851877376, 455376185396200071818761586064439701768290703501370797947463164493824, 451659462229387123952409838172049823028079930713523468609641720578048, 447615361576892502090337244440593102804685452248575925844338731384832, 443246753941609666593586662234141591429473914088946096858960794484736, 438556762056823168750533543565711826102817301343560644034075541110784, 433548758503791417747283336520819206988816597384589116424275391152128, 428226363120552807926884318891370016073705385200583616696425048440832, 422593440204085813097256942193370053617334522767240165340666654621696, 416654095508139796746541475765865196135740339381109947981929532882944, 410412673039237370070601632743301179685674351632908133994006900113408, 403873751653530974438638306346438069218755290188534029835953432952832, 397042141457375794204276220727552221043713011935194019875838289248256, 389922880014657944840236408233846308659067823996209096612652781666304, 382521228364090957992699063808775914319992865636133071782704094117888, 374842666849864729685288799031312650120817367711808278714378545528832, 366892890769199143910630222988228918800959307005564691522306405564416, 358677805840519367653716072662364712882045633481050289542757680676864, 350203523496131174658421892355640277673427862981994546168191745261568, 341476356003432437046544816907682802954636164011457779261141084536832, 332502811418850972871054888675937917569682420103741952616249138610176, 323289588378849104209958311868368774834508014973582314251369656090624, 313843570732481418754833635644408880467030346390898613605985259880448, 304171822020134196335046670332860061494374297164699224216825162104832, 294281579803212622955945271704220855361813134095214414240409804865536, 284180249849675135567153378806114573467314828353975197668800760643584, 273875400180442892244325710722954465993787554487195102627149699350528, 263374754981836320706736586937748572259335834455805465762118560120832, 252686188389309843789307322746450128777508055960664703710668831850496, 241817718147870099194128126783369337255876508817175573038060739231744, 230777499154672153102858408964873026394142841996234967232718672887808, 219573816889392248677523149374842844756838087862303199074813946232832, 208215080738074431961372607455116563556424757542881540652720263725056, 196709817216241865372404221146211865064674583975296311505551326511104, 185066663097151684425608984955097461764620973235274393936670062348288, 173294358451154793589207010079307634617899503853309370165742729848832, 161401739602198954920160936430298096959088023257630266890997642889216, 149397732007584826640329615133463845367787288639048243045939136497664, 137291343067150192144158237652306699806015841840722497041820939027968, 125091654868117422907111353998417294529370183906936252338341838136832, 112807816871893187083706316936249667971960735873028084730693967582976, 100449038549157500847704566527485966135746094731361254537102604167424, 88024581969621379294013235085061267425814864292058666257092578712848, 75543754352868541547770998067566519206770323863539108914431043274832, 63015900586726830196214121385493106334876355629673156221955734186336, 50450395719639193914796827804199194689020526689356903792242280056384, 37856637433522235918506025425624777183219813794722877136200499854178, 25244038503612437439806818474574978510964682122383651188139929840082, 12622019251806218719903409237287489255482341061191825594069964920041, 0]]
def rowD (r : List Nat) : D := .list (r.map fun n => .int (Int.ofNat n))
def tabD : List D := tabN.map rowD
theorem tabD_len : tabD.length = 60 := by kernel_rfl
abbrev rowsT : Rho → Res Bool := eT (eBin ltD (eBi lenD (aCons (eVar 1) (aNil))) (eVar 0))
abbrev rowsB : Rho → Out := sSeq (sAsg 2 (eBin ixD (eVar 1) (eUn negD (eC (.int 1))))) (sDropM (eAppend 1 (eComp (iRange1 (aCons (eBin addD (eBi lenD (aCons (eVar 2) (aNil))) (eC (.int 1))) (aNil))) (gN 3) (fun _ => .ok true) (eBi sumD (aCons (eSl (eVar 2) (oNone) (oSome (eBin subD (eBi lenD (aCons (eVar 2) (aNil))) (eVar 3)))) (aNil))) [3])))
def stepAt (j : Nat) (n r2 r3 : Option D) : Out := rowsB [n, some (.list (tabD.take (j + 1))), r2, r3]
def stepTo (j : Nat) (n r2 r3 : Option D) : Out := .next [n, some (.list (tabD.take (j + 2))), some (tabD.getD j .none), r3]
theorem rows_steps (n r2 r3 : Option D) : (List.range 59).map (fun j => stepAt j n r2 r3) = (List.range 59).map (fun j => stepTo j n r2 r3) := by kernel_rfl
theorem rows_loop (n : Nat) (hn : n ≤ 60) : ∀ (m fuel j : Nat) (r2 r3 : Option D), j + 1 + m = n → m < fuel →
    ∃ r2', sWhile rowsT rowsB fuel [some (.int (n : Int)), some (.list (tabD.take (j + 1))), r2, r3] = .next [some (.int (n : Int)), some (.list (tabD.take n)), r2', r3]
  | m, 0, j, r2, r3, _, h => by omega
  | 0, fuel + 1, j, r2, r3, hj, _ => by
    refine ⟨r2, ?_⟩
    have hl : (tabD.take (j + 1)).length = n := by rw [List.length_take, tabD_len]; omega
    have ht : rowsT [some (.int (n : Int)), some (.list (tabD.take (j + 1))), r2, r3] = .ok false := by
      have h1 : lenD [.list (tabD.take (j + 1))] = some (.int (n : Int)) := by show some (PyData.int ((tabD.take (j + 1)).length : Int)) = _; rw [hl]
      simp only [rowsT, sSeq_ev, seqO_next, seqO_ret, seqO_brk, seqO_cont, seqO_exc, sIf_ev, ifO_true, ifO_false, sNext_ev, sAsg_ev, asgV_ok, sAsgO_ev, asgW_list, sRet_ev, retV_ok, sDrop_ev, dropV_ok, sFor_ev, forO_ok, gN_ev, eVar_ev, varO_some, eC_ev, eBin_ev, bin2_ok, ofO_some, eUn_ev, un1_ok, eT_ev, tBo_ok, eTru_ev, truO_bool, tNotR_ev, notO_ok, tAndR_ev, andT_true, andT_false, tOrR_ev, orT_true, orT_false, eAnd_ev, andE_true, andE_false, eOr_ev, orE_true, orE_false, eNot_ev, notE_ok, eIf_ev, ifE_true, ifE_false, aNil_ev, aCons_ev, consA_ok, eCall_ev, callE_1, callE_2, callE_3, callE_4, callE_5, eBi_ev, biE_ok, eCallS_ev, callS_ok, iRange1_ev, iRange2_ev, iAny_ev, anyI_list, anyI_tuple, eComp_ev, eLst_ev, eTup_ev, List.getElem?_cons_succ, List.getElem?_cons_zero, List.set_cons_succ, List.set_cons_zero, add_int, sub_int, ge_int, le_int, gt_int, lt_int, eq_int, ne_int, iEnum_ev, enE_list, enE_tuple, eSl_ev, oNone_ev, oSome_ev, soE_ok, h1]
      rw [decide_eq_false (Int.lt_irrefl _)]
    rw [sWhile_false ht]
    rw [show n = j + 1 by omega]
  | m + 1, fuel + 1, j, r2, r3, hj, hf => by
    have hl : (tabD.take (j + 1)).length = j + 1 := by rw [List.length_take, tabD_len]; omega
    have ht : rowsT [some (.int (n : Int)), some (.list (tabD.take (j + 1))), r2, r3] = .ok true := by
      have h1 : lenD [.list (tabD.take (j + 1))] = some (.int ((j + 1 : Nat) : Int)) := by show some (PyData.int ((tabD.take (j + 1)).length : Int)) = _; rw [hl]
      simp only [rowsT, sSeq_ev, seqO_next, seqO_ret, seqO_brk, seqO_cont, seqO_exc, sIf_ev, ifO_true, ifO_false, sNext_ev, sAsg_ev, asgV_ok, sAsgO_ev, asgW_list, sRet_ev, retV_ok, sDrop_ev, dropV_ok, sFor_ev, forO_ok, gN_ev, eVar_ev, varO_some, eC_ev, eBin_ev, bin2_ok, ofO_some, eUn_ev, un1_ok, eT_ev, tBo_ok, eTru_ev, truO_bool, tNotR_ev, notO_ok, tAndR_ev, andT_true, andT_false, tOrR_ev, orT_true, orT_false, eAnd_ev, andE_true, andE_false, eOr_ev, orE_true, orE_false, eNot_ev, notE_ok, eIf_ev, ifE_true, ifE_false, aNil_ev, aCons_ev, consA_ok, eCall_ev, callE_1, callE_2, callE_3, callE_4, callE_5, eBi_ev, biE_ok, eCallS_ev, callS_ok, iRange1_ev, iRange2_ev, iAny_ev, anyI_list, anyI_tuple, eComp_ev, eLst_ev, eTup_ev, List.getElem?_cons_succ, List.getElem?_cons_zero, List.set_cons_succ, List.set_cons_zero, add_int, sub_int, ge_int, le_int, gt_int, lt_int, eq_int, ne_int, iEnum_ev, enE_list, enE_tuple, eSl_ev, oNone_ev, oSome_ev, soE_ok, h1]
      rw [decide_eq_true (by omega)]
    have hb : rowsB [some (.int (n : Int)), some (.list (tabD.take (j + 1))), r2, r3] = .next [some (.int (n : Int)), some (.list (tabD.take (j + 2))), some (tabD.getD j .none), r3] := map_at (rows_steps _ r2 r3) (by omega)
    rw [sWhile_true ht hb]
    exact rows_loop n hn m fuel (j + 1) _ r3 (by omega) (by omega)
theorem rows_ok (n : Nat) (h1 : 1 ≤ n) (hn : n ≤ 60) : d_rows_to [.int (n : Int)] = .ok (.list (tabD.take n)) := by
  obtain ⟨r2, h⟩ := rows_loop n hn (n - 1) 100000 0 none none (by omega) (by omega)
  have e0 : lstE (.ok [PyData.list [.int 1]]) = .ok (.list (tabD.take 1)) := by kernel_rfl
  have e1 : lstE (.ok [PyData.int 1]) = .ok (.list [.int 1]) := by kernel_rfl
  show resOf (g_rows_to [some (.int (n : Int)), none, none, none]) = _
  unfold g_rows_to
  simp only [sSeq_ev, seqO_next, seqO_ret, seqO_brk, seqO_cont, seqO_exc, sIf_ev, ifO_true, ifO_false, sNext_ev, sAsg_ev, asgV_ok, sAsgO_ev, asgW_list, sRet_ev, retV_ok, sDrop_ev, dropV_ok, sFor_ev, forO_ok, gN_ev, eVar_ev, varO_some, eC_ev, eBin_ev, bin2_ok, ofO_some, eUn_ev, un1_ok, eT_ev, tBo_ok, eTru_ev, truO_bool, tNotR_ev, notO_ok, tAndR_ev, andT_true, andT_false, tOrR_ev, orT_true, orT_false, eAnd_ev, andE_true, andE_false, eOr_ev, orE_true, orE_false, eNot_ev, notE_ok, eIf_ev, ifE_true, ifE_false, aNil_ev, aCons_ev, consA_ok, eCall_ev, callE_1, callE_2, callE_3, callE_4, callE_5, eBi_ev, biE_ok, eCallS_ev, callS_ok, iRange1_ev, iRange2_ev, iAny_ev, anyI_list, anyI_tuple, eComp_ev, eLst_ev, eTup_ev, List.getElem?_cons_succ, List.getElem?_cons_zero, List.set_cons_succ, List.set_cons_zero, add_int, sub_int, ge_int, le_int, gt_int, lt_int, eq_int, ne_int, iEnum_ev, enE_list, enE_tuple, eSl_ev, oNone_ev, oSome_ev, soE_ok, e1, e0]
  rw [h]
  simp only [sSeq_ev, seqO_next, seqO_ret, seqO_brk, seqO_cont, seqO_exc, sIf_ev, ifO_true, ifO_false, sNext_ev, sAsg_ev, asgV_ok, sAsgO_ev, asgW_list, sRet_ev, retV_ok, sDrop_ev, dropV_ok, sFor_ev, forO_ok, gN_ev, eVar_ev, varO_some, eC_ev, eBin_ev, bin2_ok, ofO_some, eUn_ev, un1_ok, eT_ev, tBo_ok, eTru_ev, truO_bool, tNotR_ev, notO_ok, tAndR_ev, andT_true, andT_false, tOrR_ev, orT_true, orT_false, eAnd_ev, andE_true, andE_false, eOr_ev, orE_true, orE_false, eNot_ev, notE_ok, eIf_ev, ifE_true, ifE_false, aNil_ev, aCons_ev, consA_ok, eCall_ev, callE_1, callE_2, callE_3, callE_4, callE_5, eBi_ev, biE_ok, eCallS_ev, callS_ok, iRange1_ev, iRange2_ev, iAny_ev, anyI_list, anyI_tuple, eComp_ev, eLst_ev, eTup_ev, List.getElem?_cons_succ, List.getElem?_cons_zero, List.set_cons_succ, List.set_cons_zero, add_int, sub_int, ge_int, le_int, gt_int, lt_int, eq_int, ne_int, iEnum_ev, enE_list, enE_tuple, eSl_ev, oNone_ev, oSome_ev, soE_ok, resOf]
/-! ### what the program tells -/
def A (n : Nat) : D := rowD (tabN.getD (n - 1) [])
theorem whole_ok (n : Int) : d_is_whole [.int n] = .ok (.bool true) := by kernel_rfl
theorem num_ok (n a b : Int) (h1 : a ≤ n) (h2 : n ≤ b) : d_need_number [.int n, .int a, .int b] = .ok .none := by
  have e : d_is_number [.int n, .int a, .int b] = .ok (.bool true) := by
    show resOf (g_is_number [some (.int n), some (.int a), some (.int b)]) = _
    have e2 : eChain leD leD (eVar 1) (eVar 0) (eVar 2) [some (.int n), some (.int a), some (.int b)] = .ok (.bool true) := by
      show ((Res.ok (PyData.bool (decide (a ≤ n)))).bind fun z => (toB z).bind fun k => if k = true then (Res.ok (PyData.int b)).bind fun w => ofO (leD (.int n) w) else .ok (.bool false)) = _
      rw [decide_eq_true h1]
      show Res.ok (PyData.bool (decide (n ≤ b))) = _
      rw [decide_eq_true h2]
    unfold g_is_number
    simp only [sSeq_ev, seqO_next, seqO_ret, seqO_brk, seqO_cont, seqO_exc, sIf_ev, ifO_true, ifO_false, sNext_ev, sAsg_ev, asgV_ok, sAsgO_ev, asgW_list, sRet_ev, retV_ok, sDrop_ev, dropV_ok, sFor_ev, forO_ok, gN_ev, eVar_ev, varO_some, eC_ev, eBin_ev, bin2_ok, ofO_some, eUn_ev, un1_ok, eT_ev, tBo_ok, eTru_ev, truO_bool, tNotR_ev, notO_ok, tAndR_ev, andT_true, andT_false, tOrR_ev, orT_true, orT_false, eAnd_ev, andE_true, andE_false, eOr_ev, orE_true, orE_false, eNot_ev, notE_ok, eIf_ev, ifE_true, ifE_false, aNil_ev, aCons_ev, consA_ok, eCall_ev, callE_1, callE_2, callE_3, callE_4, callE_5, eBi_ev, biE_ok, eCallS_ev, callS_ok, iRange1_ev, iRange2_ev, iAny_ev, anyI_list, anyI_tuple, eComp_ev, eLst_ev, eTup_ev, List.getElem?_cons_succ, List.getElem?_cons_zero, List.set_cons_succ, List.set_cons_zero, add_int, sub_int, ge_int, le_int, gt_int, lt_int, eq_int, ne_int, iEnum_ev, enE_list, enE_tuple, eSl_ev, oNone_ev, oSome_ev, soE_ok, whole_ok, e2, resOf]
  show resOf (g_need_number [some (.int n), some (.int a), some (.int b)]) = _
  unfold g_need_number
  simp only [sSeq_ev, seqO_next, seqO_ret, seqO_brk, seqO_cont, seqO_exc, sIf_ev, ifO_true, ifO_false, sNext_ev, sAsg_ev, asgV_ok, sAsgO_ev, asgW_list, sRet_ev, retV_ok, sDrop_ev, dropV_ok, sFor_ev, forO_ok, gN_ev, eVar_ev, varO_some, eC_ev, eBin_ev, bin2_ok, ofO_some, eUn_ev, un1_ok, eT_ev, tBo_ok, eTru_ev, truO_bool, tNotR_ev, notO_ok, tAndR_ev, andT_true, andT_false, tOrR_ev, orT_true, orT_false, eAnd_ev, andE_true, andE_false, eOr_ev, orE_true, orE_false, eNot_ev, notE_ok, eIf_ev, ifE_true, ifE_false, aNil_ev, aCons_ev, consA_ok, eCall_ev, callE_1, callE_2, callE_3, callE_4, callE_5, eBi_ev, biE_ok, eCallS_ev, callS_ok, iRange1_ev, iRange2_ev, iAny_ev, anyI_list, anyI_tuple, eComp_ev, eLst_ev, eTup_ev, List.getElem?_cons_succ, List.getElem?_cons_zero, List.set_cons_succ, List.set_cons_zero, add_int, sub_int, ge_int, le_int, gt_int, lt_int, eq_int, ne_int, iEnum_ev, enE_list, enE_tuple, eSl_ev, oNone_ev, oSome_ev, soE_ok, e, resOf, Bool.not_true]
theorem need_ok (n : Nat) (h1 : 1 ≤ n) (hn : n ≤ 60) : d_need_n [.int (n : Int)] = .ok .none := by
  show resOf (g_need_n [some (.int (n : Int))]) = _
  unfold g_need_n
  simp only [sSeq_ev, seqO_next, seqO_ret, seqO_brk, seqO_cont, seqO_exc, sIf_ev, ifO_true, ifO_false, sNext_ev, sAsg_ev, asgV_ok, sAsgO_ev, asgW_list, sRet_ev, retV_ok, sDrop_ev, dropV_ok, sFor_ev, forO_ok, gN_ev, eVar_ev, varO_some, eC_ev, eBin_ev, bin2_ok, ofO_some, eUn_ev, un1_ok, eT_ev, tBo_ok, eTru_ev, truO_bool, tNotR_ev, notO_ok, tAndR_ev, andT_true, andT_false, tOrR_ev, orT_true, orT_false, eAnd_ev, andE_true, andE_false, eOr_ev, orE_true, orE_false, eNot_ev, notE_ok, eIf_ev, ifE_true, ifE_false, aNil_ev, aCons_ev, consA_ok, eCall_ev, callE_1, callE_2, callE_3, callE_4, callE_5, eBi_ev, biE_ok, eCallS_ev, callS_ok, iRange1_ev, iRange2_ev, iAny_ev, anyI_list, anyI_tuple, eComp_ev, eLst_ev, eTup_ev, List.getElem?_cons_succ, List.getElem?_cons_zero, List.set_cons_succ, List.set_cons_zero, add_int, sub_int, ge_int, le_int, gt_int, lt_int, eq_int, ne_int, iEnum_ev, enE_list, enE_tuple, eSl_ev, oNone_ev, oSome_ev, soE_ok, num_ok (n : Int) 1 60 (by omega) (by omega), resOf]
theorem neg1 : un1 negD (.ok (.int 1)) = .ok (.int (-1)) := rfl
theorem last_all : (List.range 60).map (fun i => bin2 ixD (.ok (.list (tabD.take (i + 1)))) (.ok (.int (-1)))) = (List.range 60).map (fun i => .ok (A (i + 1))) := by kernel_rfl
theorem last_ok (n : Nat) (h1 : 1 ≤ n) (hn : n ≤ 60) : bin2 ixD (.ok (.list (tabD.take n))) (.ok (.int (-1))) = .ok (A n) := by
  have h := map_at last_all (i := n - 1) (by omega)
  rw [show n - 1 + 1 = n by omega] at h
  exact h
theorem row_ok (n : Nat) (h1 : 1 ≤ n) (hn : n ≤ 60) : d_row [.int (n : Int)] = .ok (A n) := by
  show resOf (g_row [some (.int (n : Int))]) = _
  unfold g_row
  simp only [sSeq_ev, seqO_next, seqO_ret, seqO_brk, seqO_cont, seqO_exc, sIf_ev, ifO_true, ifO_false, sNext_ev, sAsg_ev, asgV_ok, sAsgO_ev, asgW_list, sRet_ev, retV_ok, sDrop_ev, dropV_ok, sFor_ev, forO_ok, gN_ev, eVar_ev, varO_some, eC_ev, eBin_ev, ofO_some, eUn_ev, eT_ev, eTru_ev, truO_bool, tNotR_ev, notO_ok, tAndR_ev, andT_true, andT_false, tOrR_ev, orT_true, orT_false, eAnd_ev, andE_true, andE_false, eOr_ev, orE_true, orE_false, eNot_ev, notE_ok, eIf_ev, ifE_true, ifE_false, aNil_ev, aCons_ev, consA_ok, eCall_ev, callE_1, callE_2, callE_3, callE_4, callE_5, eBi_ev, eCallS_ev, callS_ok, iRange1_ev, iRange2_ev, iAny_ev, anyI_list, anyI_tuple, eComp_ev, eLst_ev, eTup_ev, List.getElem?_cons_succ, List.getElem?_cons_zero, List.set_cons_succ, List.set_cons_zero, add_int, sub_int, ge_int, le_int, gt_int, lt_int, eq_int, ne_int, iEnum_ev, enE_list, enE_tuple, eSl_ev, oNone_ev, oSome_ev, soE_ok, need_ok n h1 hn, rows_ok n h1 hn, neg1, last_ok n h1 hn, resOf]
def M (n : Nat) : D := okv (biE sumD (.ok [A n]))
theorem sum_all : (List.range 60).all (fun i => isOk (biE sumD (.ok [A (i + 1)]))) = true := by decide +kernel
theorem sum_ok (n : Nat) (h1 : 1 ≤ n) (hn : n ≤ 60) : biE sumD (.ok [A n]) = .ok (M n) := by
  have h := all_at sum_all (i := n - 1) (by omega)
  rw [show n - 1 + 1 = n by omega] at h
  exact ok_of h
theorem many_ok (n : Nat) (h1 : 1 ≤ n) (hn : n ≤ 60) : d_many [.int (n : Int)] = .ok (M n) := by
  have e : d_many_of [.int (n : Int)] = .ok (M n) := by
    show resOf (g_many_of [some (.int (n : Int))]) = _
    unfold g_many_of
    simp only [sSeq_ev, seqO_next, seqO_ret, seqO_brk, seqO_cont, seqO_exc, sIf_ev, ifO_true, ifO_false, sNext_ev, sAsg_ev, asgV_ok, sAsgO_ev, asgW_list, sRet_ev, retV_ok, sDrop_ev, dropV_ok, sFor_ev, forO_ok, gN_ev, eVar_ev, varO_some, eC_ev, eBin_ev, ofO_some, eUn_ev, eT_ev, eTru_ev, truO_bool, tNotR_ev, notO_ok, tAndR_ev, andT_true, andT_false, tOrR_ev, orT_true, orT_false, eAnd_ev, andE_true, andE_false, eOr_ev, orE_true, orE_false, eNot_ev, notE_ok, eIf_ev, ifE_true, ifE_false, aNil_ev, aCons_ev, consA_ok, eCall_ev, callE_1, callE_2, callE_3, callE_4, callE_5, eBi_ev, eCallS_ev, callS_ok, iRange1_ev, iRange2_ev, iAny_ev, anyI_list, anyI_tuple, eComp_ev, eLst_ev, eTup_ev, List.getElem?_cons_succ, List.getElem?_cons_zero, List.set_cons_succ, List.set_cons_zero, add_int, sub_int, ge_int, le_int, gt_int, lt_int, eq_int, ne_int, iEnum_ev, enE_list, enE_tuple, eSl_ev, oNone_ev, oSome_ev, soE_ok, rows_ok n h1 hn, neg1, last_ok n h1 hn, sum_ok n h1 hn, resOf]
  show resOf (g_many [some (.int (n : Int))]) = _
  unfold g_many
  simp only [sSeq_ev, seqO_next, seqO_ret, seqO_brk, seqO_cont, seqO_exc, sIf_ev, ifO_true, ifO_false, sNext_ev, sAsg_ev, asgV_ok, sAsgO_ev, asgW_list, sRet_ev, retV_ok, sDrop_ev, dropV_ok, sFor_ev, forO_ok, gN_ev, eVar_ev, varO_some, eC_ev, eBin_ev, ofO_some, eUn_ev, eT_ev, eTru_ev, truO_bool, tNotR_ev, notO_ok, tAndR_ev, andT_true, andT_false, tOrR_ev, orT_true, orT_false, eAnd_ev, andE_true, andE_false, eOr_ev, orE_true, orE_false, eNot_ev, notE_ok, eIf_ev, ifE_true, ifE_false, aNil_ev, aCons_ev, consA_ok, eCall_ev, callE_1, callE_2, callE_3, callE_4, callE_5, eBi_ev, eCallS_ev, callS_ok, iRange1_ev, iRange2_ev, iAny_ev, anyI_list, anyI_tuple, eComp_ev, eLst_ev, eTup_ev, List.getElem?_cons_succ, List.getElem?_cons_zero, List.set_cons_succ, List.set_cons_zero, add_int, sub_int, ge_int, le_int, gt_int, lt_int, eq_int, ne_int, iEnum_ev, enE_list, enE_tuple, eSl_ev, oNone_ev, oSome_ev, soE_ok, need_ok n h1 hn, e, resOf]

abbrev fallsE : Rho → Res D := eBin subD (eBin ixD (eVar 1) (eVar 2)) (eBin ixD (eVar 1) (eBin addD (eVar 2) (eC (.int 1))))
def FaR (n : Nat) : Res D := compE (.ok (rangeD 0 ((n : Int) - 1).toNat)) (gN 2) (fun _ => .ok true) fallsE [2] [some (.int (n : Int)), some (A n), none]
def Fa (n : Nat) : D := okv (FaR n)
theorem fa_all : (List.range 60).all (fun i => isOk (FaR (i + 1))) = true := by decide +kernel
theorem fa_ok (n : Nat) (h1 : 1 ≤ n) (hn : n ≤ 60) : FaR n = .ok (Fa n) := by
  have h := all_at fa_all (i := n - 1) (by omega)
  rw [show n - 1 + 1 = n by omega] at h
  exact ok_of h
theorem sub1 (n : Int) : bin2 subD (.ok (.int n)) (.ok (.int 1)) = .ok (.int (n - 1)) := rfl
theorem falls_ok (n : Nat) (h1 : 1 ≤ n) (hn : n ≤ 60) : d_falls [.int (n : Int)] = .ok (Fa n) := by
  have e := fa_ok n h1 hn
  unfold FaR at e
  show resOf (g_falls [some (.int (n : Int)), none, none]) = _
  unfold g_falls
  simp only [sSeq_ev, seqO_next, seqO_ret, seqO_brk, seqO_cont, seqO_exc, sIf_ev, ifO_true, ifO_false, sNext_ev, sAsg_ev, asgV_ok, sAsgO_ev, asgW_list, sRet_ev, retV_ok, sDrop_ev, dropV_ok, sFor_ev, forO_ok, gN_ev, eVar_ev, varO_some, eC_ev, eBin_ev, ofO_some, eUn_ev, eT_ev, eTru_ev, truO_bool, tNotR_ev, notO_ok, tAndR_ev, andT_true, andT_false, tOrR_ev, orT_true, orT_false, eAnd_ev, andE_true, andE_false, eOr_ev, orE_true, orE_false, eNot_ev, notE_ok, eIf_ev, ifE_true, ifE_false, aNil_ev, aCons_ev, consA_ok, eCall_ev, callE_1, callE_2, callE_3, callE_4, callE_5, eBi_ev, eCallS_ev, callS_ok, iRange1_ev, iRange2_ev, iAny_ev, anyI_list, anyI_tuple, eComp_ev, eLst_ev, eTup_ev, List.getElem?_cons_succ, List.getElem?_cons_zero, List.set_cons_succ, List.set_cons_zero, add_int, sub_int, ge_int, le_int, gt_int, lt_int, eq_int, ne_int, iEnum_ev, enE_list, enE_tuple, eSl_ev, oNone_ev, oSome_ev, soE_ok, need_ok n h1 hn, rows_ok n h1 hn, neg1, last_ok n h1 hn, sub1, rg1_ok (k := (n : Int) - 1) (by omega) (by omega)]
  rw [e]
  simp only [sSeq_ev, seqO_next, seqO_ret, seqO_brk, seqO_cont, seqO_exc, sIf_ev, ifO_true, ifO_false, sNext_ev, sAsg_ev, asgV_ok, sAsgO_ev, asgW_list, sRet_ev, retV_ok, sDrop_ev, dropV_ok, sFor_ev, forO_ok, gN_ev, eVar_ev, varO_some, eC_ev, eBin_ev, ofO_some, eUn_ev, eT_ev, eTru_ev, truO_bool, tNotR_ev, notO_ok, tAndR_ev, andT_true, andT_false, tOrR_ev, orT_true, orT_false, eAnd_ev, andE_true, andE_false, eOr_ev, orE_true, orE_false, eNot_ev, notE_ok, eIf_ev, ifE_true, ifE_false, aNil_ev, aCons_ev, consA_ok, eCall_ev, callE_1, callE_2, callE_3, callE_4, callE_5, eBi_ev, eCallS_ev, callS_ok, iRange1_ev, iRange2_ev, iAny_ev, anyI_list, anyI_tuple, eComp_ev, eLst_ev, eTup_ev, List.getElem?_cons_succ, List.getElem?_cons_zero, List.set_cons_succ, List.set_cons_zero, add_int, sub_int, ge_int, le_int, gt_int, lt_int, eq_int, ne_int, iEnum_ev, enE_list, enE_tuple, eSl_ev, oNone_ev, oSome_ev, soE_ok, resOf]
abbrev amE : Rho → Res D := eBi sumD (aCons (eVar 1) (aNil))
def AmR (n : Nat) : Res D := compE (.ok (tabD.take n)) (gN 1) (fun _ => .ok true) amE [1] [some (.int (n : Int)), none]
def Am (n : Nat) : D := okv (AmR n)
theorem am_all : (List.range 60).all (fun i => isOk (AmR (i + 1))) = true := by decide +kernel
theorem am_ok (n : Nat) (h1 : 1 ≤ n) (hn : n ≤ 60) : AmR n = .ok (Am n) := by
  have h := all_at am_all (i := n - 1) (by omega)
  rw [show n - 1 + 1 = n by omega] at h
  exact ok_of h
theorem all_many_ok (n : Nat) (h1 : 1 ≤ n) (hn : n ≤ 60) : d_all_many [.int (n : Int)] = .ok (Am n) := by
  have e := am_ok n h1 hn
  unfold AmR at e
  show resOf (g_all_many [some (.int (n : Int)), none]) = _
  unfold g_all_many
  simp only [sSeq_ev, seqO_next, seqO_ret, seqO_brk, seqO_cont, seqO_exc, sIf_ev, ifO_true, ifO_false, sNext_ev, sAsg_ev, asgV_ok, sAsgO_ev, asgW_list, sRet_ev, retV_ok, sDrop_ev, dropV_ok, sFor_ev, forO_ok, gN_ev, eVar_ev, varO_some, eC_ev, eBin_ev, ofO_some, eUn_ev, eT_ev, eTru_ev, truO_bool, tNotR_ev, notO_ok, tAndR_ev, andT_true, andT_false, tOrR_ev, orT_true, orT_false, eAnd_ev, andE_true, andE_false, eOr_ev, orE_true, orE_false, eNot_ev, notE_ok, eIf_ev, ifE_true, ifE_false, aNil_ev, aCons_ev, consA_ok, eCall_ev, callE_1, callE_2, callE_3, callE_4, callE_5, eBi_ev, eCallS_ev, callS_ok, iRange1_ev, iRange2_ev, iAny_ev, anyI_list, anyI_tuple, eComp_ev, eLst_ev, eTup_ev, List.getElem?_cons_succ, List.getElem?_cons_zero, List.set_cons_succ, List.set_cons_zero, add_int, sub_int, ge_int, le_int, gt_int, lt_int, eq_int, ne_int, iEnum_ev, enE_list, enE_tuple, eSl_ev, oNone_ev, oSome_ev, soE_ok, need_ok n h1 hn, rows_ok n h1 hn]
  rw [e]
  simp only [sSeq_ev, seqO_next, seqO_ret, seqO_brk, seqO_cont, seqO_exc, sIf_ev, ifO_true, ifO_false, sNext_ev, sAsg_ev, asgV_ok, sAsgO_ev, asgW_list, sRet_ev, retV_ok, sDrop_ev, dropV_ok, sFor_ev, forO_ok, gN_ev, eVar_ev, varO_some, eC_ev, eBin_ev, ofO_some, eUn_ev, eT_ev, eTru_ev, truO_bool, tNotR_ev, notO_ok, tAndR_ev, andT_true, andT_false, tOrR_ev, orT_true, orT_false, eAnd_ev, andE_true, andE_false, eOr_ev, orE_true, orE_false, eNot_ev, notE_ok, eIf_ev, ifE_true, ifE_false, aNil_ev, aCons_ev, consA_ok, eCall_ev, callE_1, callE_2, callE_3, callE_4, callE_5, eBi_ev, eCallS_ev, callS_ok, iRange1_ev, iRange2_ev, iAny_ev, anyI_list, anyI_tuple, eComp_ev, eLst_ev, eTup_ev, List.getElem?_cons_succ, List.getElem?_cons_zero, List.set_cons_succ, List.set_cons_zero, add_int, sub_int, ge_int, le_int, gt_int, lt_int, eq_int, ne_int, iEnum_ev, enE_list, enE_tuple, eSl_ev, oNone_ev, oSome_ev, soE_ok, resOf]
abbrev tbE : Rho → Res D := eIf (eT (eBin eqD (eBin modD (eVar 1) (eC (.int 2))) (eC (.int 1)))) (eUn revD (eVar 2)) (eVar 2)
abbrev tbG : D → Rho → Option Rho := gT 2 (gConss (gN 1) (gConss (gN 2) (gNils)))
def TbR (n : Nat) : Res D := compE (.ok (enumFrom 0 (tabD.take n))) tbG (fun _ => .ok true) tbE [1, 2] [some (.int (n : Int)), none, none]
def Tb (n : Nat) : D := okv (TbR n)
theorem tb_all : (List.range 60).all (fun i => isOk (TbR (i + 1))) = true := by decide +kernel
theorem tb_ok (n : Nat) (h1 : 1 ≤ n) (hn : n ≤ 60) : TbR n = .ok (Tb n) := by
  have h := all_at tb_all (i := n - 1) (by omega)
  rw [show n - 1 + 1 = n by omega] at h
  exact ok_of h
theorem table_ok (n : Nat) (h1 : 1 ≤ n) (hn : n ≤ 60) : d_table [.int (n : Int)] = .ok (Tb n) := by
  have e := tb_ok n h1 hn
  unfold TbR at e
  show resOf (g_table [some (.int (n : Int)), none, none]) = _
  unfold g_table
  simp only [sSeq_ev, seqO_next, seqO_ret, seqO_brk, seqO_cont, seqO_exc, sIf_ev, ifO_true, ifO_false, sNext_ev, sAsg_ev, asgV_ok, sAsgO_ev, asgW_list, sRet_ev, retV_ok, sDrop_ev, dropV_ok, sFor_ev, forO_ok, gN_ev, eVar_ev, varO_some, eC_ev, eBin_ev, ofO_some, eUn_ev, eT_ev, eTru_ev, truO_bool, tNotR_ev, notO_ok, tAndR_ev, andT_true, andT_false, tOrR_ev, orT_true, orT_false, eAnd_ev, andE_true, andE_false, eOr_ev, orE_true, orE_false, eNot_ev, notE_ok, eIf_ev, ifE_true, ifE_false, aNil_ev, aCons_ev, consA_ok, eCall_ev, callE_1, callE_2, callE_3, callE_4, callE_5, eBi_ev, eCallS_ev, callS_ok, iRange1_ev, iRange2_ev, iAny_ev, anyI_list, anyI_tuple, eComp_ev, eLst_ev, eTup_ev, List.getElem?_cons_succ, List.getElem?_cons_zero, List.set_cons_succ, List.set_cons_zero, add_int, sub_int, ge_int, le_int, gt_int, lt_int, eq_int, ne_int, iEnum_ev, enE_list, enE_tuple, eSl_ev, oNone_ev, oSome_ev, soE_ok, need_ok n h1 hn, rows_ok n h1 hn]
  rw [e]
  simp only [sSeq_ev, seqO_next, seqO_ret, seqO_brk, seqO_cont, seqO_exc, sIf_ev, ifO_true, ifO_false, sNext_ev, sAsg_ev, asgV_ok, sAsgO_ev, asgW_list, sRet_ev, retV_ok, sDrop_ev, dropV_ok, sFor_ev, forO_ok, gN_ev, eVar_ev, varO_some, eC_ev, eBin_ev, ofO_some, eUn_ev, eT_ev, eTru_ev, truO_bool, tNotR_ev, notO_ok, tAndR_ev, andT_true, andT_false, tOrR_ev, orT_true, orT_false, eAnd_ev, andE_true, andE_false, eOr_ev, orE_true, orE_false, eNot_ev, notE_ok, eIf_ev, ifE_true, ifE_false, aNil_ev, aCons_ev, consA_ok, eCall_ev, callE_1, callE_2, callE_3, callE_4, callE_5, eBi_ev, eCallS_ev, callS_ok, iRange1_ev, iRange2_ev, iAny_ev, anyI_list, anyI_tuple, eComp_ev, eLst_ev, eTup_ev, List.getElem?_cons_succ, List.getElem?_cons_zero, List.set_cons_succ, List.set_cons_zero, add_int, sub_int, ge_int, le_int, gt_int, lt_int, eq_int, ne_int, iEnum_ev, enE_list, enE_tuple, eSl_ev, oNone_ev, oSome_ev, soE_ok, resOf]
theorem revI (ns : List Nat) : (ns.map fun n => PyData.int (Int.ofNat n)) = (ns.map Int.ofNat).map PyData.int := by rw [List.map_map]; rfl
def down (r : List Nat) : Bool := match r with
  | a :: b :: r => decide (b ≤ a) && down (b :: r)
  | _ => true
def risesB (r : List Int) : Bool := match r with
  | a :: r => r.all (fun b => decide (a ≤ b)) && risesB r
  | [] => true
theorem risesB_pw : ∀ r : List Int, risesB r = true → r.Pairwise (· ≤ ·)
  | [], _ => .nil
  | a :: r, h => by
    unfold risesB at h
    rw [Bool.and_eq_true, List.all_eq_true] at h
    exact .cons (fun b hb => of_decide_eq_true (h.1 b hb)) (risesB_pw r h.2)
theorem rises_all : (List.range 60).all (fun i => risesB (((tabN.getD (i + 1 - 1) []).map Int.ofNat).reverse)) = true := by decide +kernel
theorem sortOk_all : (List.range 60).all (fun i => sortOk ((tabN.getD (i + 1 - 1) []).map fun n => PyData.int (Int.ofNat n))) = true := by decide +kernel
def Ar (n : Nat) : D := .list ((((tabN.getD (n - 1) []).map Int.ofNat).reverse).map .int)
theorem sorted_ok (n : Nat) (h1 : 1 ≤ n) (hn : n ≤ 60) : biE sortedD (.ok [A n]) = .ok (Ar n) := by
  have h := all_at sortOk_all (i := n - 1) (by omega)
  have h2 := all_at rises_all (i := n - 1) (by omega)
  rw [show n - 1 + 1 = n by omega] at h h2
  show ofO (if sortOk ((tabN.getD (n - 1) []).map fun n => PyData.int (Int.ofNat n)) = true then some (PyData.list (sortL ((tabN.getD (n - 1) []).map fun n => PyData.int (Int.ofNat n)))) else none) = _
  rw [if_pos h, revI, sort_ints (List.reverse_perm _) (risesB_pw _ h2)]
  rfl
def F2 (i : Nat) : Bool :=
  isF (tBo (bin2 neD (.ok (M (i + 2))) (.ok (M (i + 2))))) && isF (tBo (bin2 neD (bin2 ixD (.ok (A (i + 2))) (.ok (.int 0))) (.ok (M (i + 2 - 1))))) && isF (tBo (bin2 neD (.ok (Fa (i + 2))) (un1 revD (.ok (A (i + 2 - 1)))))) &&
  isF (tBo (bin2 neD (bin2 ixD (.ok (A (i + 2))) (.ok (.int (-1)))) (.ok (.int 0))))
def F3 (i : Nat) : Bool := isF (tBo (bin2 neD (.ok (A (i + 2))) (un1 revD (.ok (Ar (i + 2)))))) && isF (tBo (bin2 neD (bin2 ixD (.ok (Am (i + 2))) (.ok (.int (-1)))) (.ok (M (i + 2))))) &&
  isF (tBo (bin2 neD (biE lenD (.ok [Am (i + 2)])) (.ok (.int ((i + 2 : Nat) : Int))))) && isF (tBo (bin2 neD (biE lenD (.ok [A (i + 2)])) (.ok (.int ((i + 2 : Nat) : Int)))))
def F4 (i : Nat) : Bool := isF (tBo (bin2 ninD (bin2 ixD (.ok (Tb (i + 2))) (.ok (.int (-1)))) (tupE (consA (.ok (A (i + 2))) (consA (un1 revD (.ok (A (i + 2)))) (.ok [])))))) &&
  isF (tBo (bin2 eqD (bin2 eqD (bin2 ixD (.ok (Tb (i + 2))) (.ok (.int (-1)))) (.ok (A (i + 2)))) (bin2 eqD (bin2 modD (.ok (.int ((i + 2 : Nat) : Int))) (.ok (.int 2))) (.ok (.int 0))))) &&
  isF (tBo (bin2 neD (slE (.ok (Tb (i + 2))) (.ok none) (.ok (some (-1)))) (.ok (Tb (i + 2 - 1)))))
theorem F2_all : (List.range 59).all F2 = true := by decide +kernel
theorem F3_all : (List.range 59).all F3 = true := by decide +kernel
theorem F4_all : (List.range 59).all F4 = true := by decide +kernel
theorem mid_ok (g : Rho → Out) (n : Nat) (h1 : 2 ≤ n) (hn : n ≤ 60) (s k c a4 a5 a6 a7 a8 a9 : Option D) :
    (sSeq (sAsg 4 (eCall 1 d_row (aCons (eVar 3) (aNil)))) (sSeq (sIf (tOrR (eT (eBin neD (eBi sumD (aCons (eVar 4) (aNil))) (eCall 1 d_many (aCons (eVar 3) (aNil))))) (tOrR (eT (eBin neD (eBin ixD (eVar 4) (eC (.int 0))) (eCall 1 d_many (aCons (eBin subD (eVar 3) (eC (.int 1))) (aNil))))) (tOrR (eT (eBin neD (eCall 1 d_falls (aCons (eVar 3) (aNil))) (eUn revD (eCall 1 d_row (aCons (eBin subD (eVar 3) (eC (.int 1))) (aNil)))))) (eT (eBin neD (eBin ixD (eVar 4) (eUn negD (eC (.int 1)))) (eC (.int 0))))))) (sRet (eC (.bool false))) (sNext)) (sSeq (sIf (tOrR (eT (eBin neD (eVar 4) (eUn revD (eBi sortedD (aCons (eVar 4) (aNil)))))) (tOrR (eT (eBin neD (eBin ixD (eCall 1 d_all_many (aCons (eVar 3) (aNil))) (eUn negD (eC (.int 1)))) (eCall 1 d_many (aCons (eVar 3) (aNil))))) (tOrR (eT (eBin neD (eBi lenD (aCons (eCall 1 d_all_many (aCons (eVar 3) (aNil))) (aNil))) (eVar 3))) (eT (eBin neD (eBi lenD (aCons (eVar 4) (aNil))) (eVar 3)))))) (sRet (eC (.bool false))) (sNext)) (sSeq (sAsg 5 (eCall 1 d_table (aCons (eVar 3) (aNil)))) (sSeq (sIf (tOrR (eT (eBin ninD (eBin ixD (eVar 5) (eUn negD (eC (.int 1)))) (eTup (aCons (eVar 4) (aCons (eUn revD (eVar 4)) (aNil)))))) (tOrR (eT (eBin eqD (eBin eqD (eBin ixD (eVar 5) (eUn negD (eC (.int 1)))) (eVar 4)) (eBin eqD (eBin modD (eVar 3) (eC (.int 2))) (eC (.int 0))))) (eT (eBin neD (eSl (eVar 5) (oNone) (oSome (eUn negD (eC (.int 1))))) (eCall 1 d_table (aCons (eBin subD (eVar 3) (eC (.int 1))) (aNil))))))) (sRet (eC (.bool false))) (sNext)) (g)))))) [s, k, c, some (.int (n : Int)), a4, a5, a6, a7, a8, a9] = g [s, k, c, some (.int (n : Int)), some (A n), some (Tb n), a6, a7, a8, a9] := by
  have f2 := all_at F2_all (i := n - 2) (by omega)
  have f3 := all_at F3_all (i := n - 2) (by omega)
  have f4 := all_at F4_all (i := n - 2) (by omega)
  unfold F2 at f2
  unfold F3 at f3
  unfold F4 at f4
  rw [show n - 2 + 2 = n by omega] at f2 f3 f4
  simp only [Bool.and_eq_true] at f2 f3 f4
  obtain ⟨⟨⟨u1, u2⟩, u3⟩, u4⟩ := f2
  obtain ⟨⟨⟨u5, u6⟩, u7⟩, u8⟩ := f3
  obtain ⟨⟨u9, u10⟩, u11⟩ := f4
  have hc : (n : Int) - 1 = ((n - 1 : Nat) : Int) := by omega
  simp only [sSeq_ev, seqO_next, seqO_ret, seqO_brk, seqO_cont, seqO_exc, sIf_ev, ifO_true, ifO_false, sNext_ev, sAsg_ev, asgV_ok, sAsgO_ev, asgW_list, sRet_ev, retV_ok, sDrop_ev, dropV_ok, sFor_ev, forO_ok, gN_ev, eVar_ev, varO_some, eC_ev, eBin_ev, ofO_some, eUn_ev, eT_ev, eTru_ev, truO_bool, tNotR_ev, notO_ok, tAndR_ev, andT_true, andT_false, tOrR_ev, orT_true, orT_false, eAnd_ev, andE_true, andE_false, eOr_ev, orE_true, orE_false, eNot_ev, notE_ok, eIf_ev, ifE_true, ifE_false, aNil_ev, aCons_ev, consA_ok, eCall_ev, callE_1, callE_2, callE_3, callE_4, callE_5, eBi_ev, eCallS_ev, callS_ok, iRange1_ev, iRange2_ev, iAny_ev, anyI_list, anyI_tuple, eComp_ev, eLst_ev, eTup_ev, List.getElem?_cons_succ, List.getElem?_cons_zero, List.set_cons_succ, List.set_cons_zero, add_int, sub_int, ge_int, le_int, gt_int, lt_int, eq_int, ne_int, iEnum_ev, enE_list, enE_tuple, eSl_ev, oNone_ev, oSome_ev, soE_ok, row_ok n (by omega) hn, many_ok n (by omega) hn, sum_ok n (by omega) hn, sub1, hc, many_ok (n - 1) (by omega) (by omega), falls_ok n (by omega) hn, row_ok (n - 1) (by omega) (by omega), neg1, sorted_ok n (by omega) hn, all_many_ok n (by omega) hn,
    table_ok n (by omega) hn, table_ok (n - 1) (by omega) (by omega), isF_of u1, isF_of u2, isF_of u3, isF_of u4, isF_of u5, isF_of u6, isF_of u7, isF_of u8, isF_of u9, isF_of u10, isF_of u11]
abbrev tailL : Rho → Out := sSeq (sAsg 7 (eComp (iAny (eCall 1 d_all_updowns (aCons (eVar 6) (aNil)))) (gN 8) (fun _ => .ok true) (eBin ixD (eVar 8) (eC (.int 0))) [8])) (sIf (eT (eBin neD (eCall 1 d_row (aCons (eVar 6) (aNil))) (eComp (iRange2 (aCons (eC (.int 1)) (aCons (eBin addD (eVar 6) (eC (.int 1))) (aNil)))) (gN 9) (fun _ => .ok true) (eBinK isSeq countSD (eVar 7) (eVar 9)) [9]))) (sRet (eC (.bool false))) (sNext))
def FI (m : Int) : D := okv (eComp (iAny (eCall 1 d_all_updowns (aCons (eC (.int m)) aNil))) (gN 8) (fun _ => .ok true) (eBin ixD (eVar 8) (eC (.int 0))) [8] [none, none, none, none, none, none, none, none, none, none])
theorem tail_1 (s k c a3 a4 a5 a7 a8 a9 : Option D) : tailL [s, k, c, a3, a4, a5, some (.int 1), a7, a8, a9] = .next [s, k, c, a3, a4, a5, some (.int 1), some (FI 1), a8, a9] := by kernel_rfl
theorem tail_2 (s k c a3 a4 a5 a7 a8 a9 : Option D) : tailL [s, k, c, a3, a4, a5, some (.int 2), a7, a8, a9] = .next [s, k, c, a3, a4, a5, some (.int 2), some (FI 2), a8, a9] := by kernel_rfl
theorem tail_3 (s k c a3 a4 a5 a7 a8 a9 : Option D) : tailL [s, k, c, a3, a4, a5, some (.int 3), a7, a8, a9] = .next [s, k, c, a3, a4, a5, some (.int 3), some (FI 3), a8, a9] := by kernel_rfl
theorem tail_4 (s k c a3 a4 a5 a7 a8 a9 : Option D) : tailL [s, k, c, a3, a4, a5, some (.int 4), a7, a8, a9] = .next [s, k, c, a3, a4, a5, some (.int 4), some (FI 4), a8, a9] := by kernel_rfl
theorem tail_5 (s k c a3 a4 a5 a7 a8 a9 : Option D) : tailL [s, k, c, a3, a4, a5, some (.int 5), a7, a8, a9] = .next [s, k, c, a3, a4, a5, some (.int 5), some (FI 5), a8, a9] := by kernel_rfl
theorem tail_6 (s k c a3 a4 a5 a7 a8 a9 : Option D) : tailL [s, k, c, a3, a4, a5, some (.int 6), a7, a8, a9] = .next [s, k, c, a3, a4, a5, some (.int 6), some (FI 6), a8, a9] := by kernel_rfl
theorem tail_7 (s k c a3 a4 a5 a7 a8 a9 : Option D) : tailL [s, k, c, a3, a4, a5, some (.int 7), a7, a8, a9] = .next [s, k, c, a3, a4, a5, some (.int 7), some (FI 7), a8, a9] := by kernel_rfl
theorem tail_ok (m : Int) (h1 : 1 ≤ m) (h7 : m ≤ 7) (s k c a3 a4 a5 a7 a8 a9 : Option D) : tailL [s, k, c, a3, a4, a5, some (.int m), a7, a8, a9] = .next [s, k, c, a3, a4, a5, some (.int m), some (FI m), a8, a9] := by
  have h : m = 1 ∨ m = 2 ∨ m = 3 ∨ m = 4 ∨ m = 5 ∨ m = 6 ∨ m = 7 := by omega
  rcases h with rfl | rfl | rfl | rfl | rfl | rfl | rfl
  · exact tail_1 ..
  · exact tail_2 ..
  · exact tail_3 ..
  · exact tail_4 ..
  · exact tail_5 ..
  · exact tail_6 ..
  · exact tail_7 ..
theorem cell_ok (ns : List Int) (k : Nat) : ∃ c : Int, d__law_cell_at [.list (ns.map .int), .int (k : Int)] = .ok (.int c) := by
  by_cases hk : k < ns.length
  · refine ⟨ns[k], ?_⟩
    show resOf (g__law_cell_at [some (.list (ns.map .int)), some (.int (k : Int))]) = _
    have e1 : lenScr (.list (ns.map .int)) = some (.int (ns.length : Int)) := by show some (PyData.int ((ns.map PyData.int).length : Int)) = _; rw [List.length_map]
    have e2 : ixD (.list (ns.map .int)) (.int (k : Int)) = some (.int ns[k]) := by
      show atI (ns.map PyData.int) (k : Int) = _
      rw [at_nat, List.getElem?_map, List.getElem?_eq_getElem hk]
      rfl
    unfold g__law_cell_at
    simp only [sSeq_ev, seqO_next, seqO_ret, seqO_brk, seqO_cont, seqO_exc, sIf_ev, ifO_true, ifO_false, sNext_ev, sAsg_ev, asgV_ok, sAsgO_ev, asgW_list, sRet_ev, retV_ok, sDrop_ev, dropV_ok, sFor_ev, forO_ok, gN_ev, eVar_ev, varO_some, eC_ev, eBin_ev, bin2_ok, ofO_some, eUn_ev, un1_ok, eT_ev, tBo_ok, eTru_ev, truO_bool, tNotR_ev, notO_ok, tAndR_ev, andT_true, andT_false, tOrR_ev, orT_true, orT_false, eAnd_ev, andE_true, andE_false, eOr_ev, orE_true, orE_false, eNot_ev, notE_ok, eIf_ev, ifE_true, ifE_false, aNil_ev, aCons_ev, consA_ok, eCall_ev, callE_1, callE_2, callE_3, callE_4, callE_5, eBi_ev, biE_ok, eCallS_ev, callS_ok, iRange1_ev, iRange2_ev, iAny_ev, anyI_list, anyI_tuple, eComp_ev, eLst_ev, eTup_ev, List.getElem?_cons_succ, List.getElem?_cons_zero, List.set_cons_succ, List.set_cons_zero, add_int, sub_int, ge_int, le_int, gt_int, lt_int, eq_int, ne_int, iEnum_ev, enE_list, enE_tuple, eSl_ev, oNone_ev, oSome_ev, soE_ok, e1, decide_eq_true (show (k : Int) < (ns.length : Int) by omega), e2, resOf]
  · refine ⟨0, ?_⟩
    show resOf (g__law_cell_at [some (.list (ns.map .int)), some (.int (k : Int))]) = _
    have e1 : lenScr (.list (ns.map .int)) = some (.int (ns.length : Int)) := by show some (PyData.int ((ns.map PyData.int).length : Int)) = _; rw [List.length_map]
    unfold g__law_cell_at
    simp only [sSeq_ev, seqO_next, seqO_ret, seqO_brk, seqO_cont, seqO_exc, sIf_ev, ifO_true, ifO_false, sNext_ev, sAsg_ev, asgV_ok, sAsgO_ev, asgW_list, sRet_ev, retV_ok, sDrop_ev, dropV_ok, sFor_ev, forO_ok, gN_ev, eVar_ev, varO_some, eC_ev, eBin_ev, bin2_ok, ofO_some, eUn_ev, un1_ok, eT_ev, tBo_ok, eTru_ev, truO_bool, tNotR_ev, notO_ok, tAndR_ev, andT_true, andT_false, tOrR_ev, orT_true, orT_false, eAnd_ev, andE_true, andE_false, eOr_ev, orE_true, orE_false, eNot_ev, notE_ok, eIf_ev, ifE_true, ifE_false, aNil_ev, aCons_ev, consA_ok, eCall_ev, callE_1, callE_2, callE_3, callE_4, callE_5, eBi_ev, biE_ok, eCallS_ev, callS_ok, iRange1_ev, iRange2_ev, iAny_ev, anyI_list, anyI_tuple, eComp_ev, eLst_ev, eTup_ev, List.getElem?_cons_succ, List.getElem?_cons_zero, List.set_cons_succ, List.set_cons_zero, add_int, sub_int, ge_int, le_int, gt_int, lt_int, eq_int, ne_int, iEnum_ev, enE_list, enE_tuple, eSl_ev, oNone_ev, oSome_ev, soE_ok, e1, decide_eq_false (show ¬ (k : Int) < (ns.length : Int) by omega), resOf]
abbrev bodyL : Rho → Out := sSeq (sAsg 2 (eCallS 0 d__law_cell_at (eVar 1))) (sSeq (sAsg 3 (eBin addD (eC (.int 2)) (eCall 3 d__law_draw (aCons (eVar 2) (aCons (eC (.int 0)) (aCons (eC (.int 59)) (aNil))))))) (sSeq (sAsg 4 (eCall 1 d_row (aCons (eVar 3) (aNil)))) (sSeq (sIf (tOrR (eT (eBin neD (eBi sumD (aCons (eVar 4) (aNil))) (eCall 1 d_many (aCons (eVar 3) (aNil))))) (tOrR (eT (eBin neD (eBin ixD (eVar 4) (eC (.int 0))) (eCall 1 d_many (aCons (eBin subD (eVar 3) (eC (.int 1))) (aNil))))) (tOrR (eT (eBin neD (eCall 1 d_falls (aCons (eVar 3) (aNil))) (eUn revD (eCall 1 d_row (aCons (eBin subD (eVar 3) (eC (.int 1))) (aNil)))))) (eT (eBin neD (eBin ixD (eVar 4) (eUn negD (eC (.int 1)))) (eC (.int 0))))))) (sRet (eC (.bool false))) (sNext)) (sSeq (sIf (tOrR (eT (eBin neD (eVar 4) (eUn revD (eBi sortedD (aCons (eVar 4) (aNil)))))) (tOrR (eT (eBin neD (eBin ixD (eCall 1 d_all_many (aCons (eVar 3) (aNil))) (eUn negD (eC (.int 1)))) (eCall 1 d_many (aCons (eVar 3) (aNil))))) (tOrR (eT (eBin neD (eBi lenD (aCons (eCall 1 d_all_many (aCons (eVar 3) (aNil))) (aNil))) (eVar 3))) (eT (eBin neD (eBi lenD (aCons (eVar 4) (aNil))) (eVar 3)))))) (sRet (eC (.bool false))) (sNext)) (sSeq (sAsg 5 (eCall 1 d_table (aCons (eVar 3) (aNil)))) (sSeq (sIf (tOrR (eT (eBin ninD (eBin ixD (eVar 5) (eUn negD (eC (.int 1)))) (eTup (aCons (eVar 4) (aCons (eUn revD (eVar 4)) (aNil)))))) (tOrR (eT (eBin eqD (eBin eqD (eBin ixD (eVar 5) (eUn negD (eC (.int 1)))) (eVar 4)) (eBin eqD (eBin modD (eVar 3) (eC (.int 2))) (eC (.int 0))))) (eT (eBin neD (eSl (eVar 5) (oNone) (oSome (eUn negD (eC (.int 1))))) (eCall 1 d_table (aCons (eBin subD (eVar 3) (eC (.int 1))) (aNil))))))) (sRet (eC (.bool false))) (sNext)) (sSeq (sAsg 6 (eBin addD (eC (.int 1)) (eCall 3 d__law_draw (aCons (eVar 2) (aCons (eC (.int 1)) (aCons (eC (.int 7)) (aNil))))))) (sSeq (sAsg 7 (eComp (iAny (eCall 1 d_all_updowns (aCons (eVar 6) (aNil)))) (gN 8) (fun _ => .ok true) (eBin ixD (eVar 8) (eC (.int 0))) [8])) (sIf (eT (eBin neD (eCall 1 d_row (aCons (eVar 6) (aNil))) (eComp (iRange2 (aCons (eC (.int 1)) (aCons (eBin addD (eVar 6) (eC (.int 1))) (aNil)))) (gN 9) (fun _ => .ok true) (eBinK isSeq countSD (eVar 7) (eVar 9)) [9]))) (sRet (eC (.bool false))) (sNext))))))))))
theorem body_ok (ns : List Int) (k : Nat) (a2 a3 a4 a5 a6 a7 a8 a9 : Option D) : ∃ b2 b3 b4 b5 b6 b7 b8 b9 : Option D,
    bodyL [some (.list (ns.map .int)), some (.int (k : Int)), a2, a3, a4, a5, a6, a7, a8, a9] = .next [some (.list (ns.map .int)), some (.int (k : Int)), b2, b3, b4, b5, b6, b7, b8, b9] := by
  obtain ⟨c, hc⟩ := cell_ok ns k
  obtain ⟨r, r0, r1, hr⟩ := draw_ok c 0 59 (by decide) (by decide) (by decide) (by decide)
  obtain ⟨q, q0, q1, hq⟩ := draw_ok c 1 7 (by decide) (by decide) (by decide) (by decide)
  have e2 : (2 : Int) + r = ((2 + r).toNat : Int) := by omega
  have mid := mid_ok (sSeq (sAsg 6 (eBin addD (eC (.int 1)) (eCall 3 d__law_draw (aCons (eVar 2) (aCons (eC (.int 1)) (aCons (eC (.int 7)) (aNil))))))) (sSeq (sAsg 7 (eComp (iAny (eCall 1 d_all_updowns (aCons (eVar 6) (aNil)))) (gN 8) (fun _ => .ok true) (eBin ixD (eVar 8) (eC (.int 0))) [8])) (sIf (eT (eBin neD (eCall 1 d_row (aCons (eVar 6) (aNil))) (eComp (iRange2 (aCons (eC (.int 1)) (aCons (eBin addD (eVar 6) (eC (.int 1))) (aNil)))) (gN 9) (fun _ => .ok true) (eBinK isSeq countSD (eVar 7) (eVar 9)) [9]))) (sRet (eC (.bool false))) (sNext)))) (2 + r).toNat (by omega) (by omega) (some (.list (ns.map .int))) (some (.int (k : Int))) (some (.int c)) a4 a5 a6 a7 a8 a9
  have tl := tail_ok (1 + q) (by omega) (by omega) (some (.list (ns.map .int))) (some (.int (k : Int))) (some (.int c)) (some (.int ((2 + r).toNat : Int))) (some (A (2 + r).toNat)) (some (Tb (2 + r).toNat)) a7 a8 a9
  refine ⟨some (.int c), some (.int ((2 + r).toNat : Int)), some (A (2 + r).toNat), some (Tb (2 + r).toNat), some (.int (1 + q)), some (FI (1 + q)), a8, a9, ?_⟩
  unfold bodyL
  rw [sSeq_ev]
  simp only [sAsg_ev, eCallS_ev, eVar_ev, List.getElem?_cons_succ, List.getElem?_cons_zero, varO_some, callS_ok, hc, asgV_ok, List.set_cons_succ, List.set_cons_zero, seqO_next]
  rw [sSeq_ev]
  simp only [sAsg_ev, eBin_ev, eCall_ev, aCons_ev, aNil_ev, eC_ev, eVar_ev, List.getElem?_cons_succ, List.getElem?_cons_zero, varO_some, consA_ok, callE_3, hr, bin2_ok, add_int, ofO_some, asgV_ok, List.set_cons_succ, List.set_cons_zero, seqO_next]
  rw [e2, mid, sSeq_ev]
  simp only [sAsg_ev, eBin_ev, eCall_ev, aCons_ev, aNil_ev, eC_ev, eVar_ev, List.getElem?_cons_succ, List.getElem?_cons_zero, varO_some, consA_ok, callE_3, hq, bin2_ok, add_int, ofO_some, asgV_ok, List.set_cons_succ, List.set_cons_zero, seqO_next]
  exact tl
theorem loop_ok (ns : List Int) : ∀ (js : List D), (∀ d ∈ js, ∃ k : Nat, d = .int (k : Int)) → ∀ a1 a2 a3 a4 a5 a6 a7 a8 a9 : Option D, ∃ b1 b2 b3 b4 b5 b6 b7 b8 b9 : Option D,
    loopD (gN 1) bodyL js [some (.list (ns.map .int)), a1, a2, a3, a4, a5, a6, a7, a8, a9] = .next [some (.list (ns.map .int)), b1, b2, b3, b4, b5, b6, b7, b8, b9]
  | [], _, a1, a2, a3, a4, a5, a6, a7, a8, a9 => ⟨a1, a2, a3, a4, a5, a6, a7, a8, a9, rfl⟩
  | d :: js, h, a1, a2, a3, a4, a5, a6, a7, a8, a9 => by
    obtain ⟨k, rfl⟩ := h d (List.mem_cons_self ..)
    obtain ⟨b2, b3, b4, b5, b6, b7, b8, b9, hb⟩ := body_ok ns k a2 a3 a4 a5 a6 a7 a8 a9
    obtain ⟨c1, c2, c3, c4, c5, c6, c7, c8, c9, hl⟩ := loop_ok ns js (fun x hx => h x (List.mem_cons_of_mem _ hx)) (some (.int (k : Int))) b2 b3 b4 b5 b6 b7 b8 b9
    refine ⟨c1, c2, c3, c4, c5, c6, c7, c8, c9, ?_⟩
    rw [loopD_cons, gN_ev, loopA_some]
    simp only [List.set_cons_succ, List.set_cons_zero]
    rw [hb, loopB_next, hl]
theorem law_true (ns : List Int) (hn : ns.length ≤ 63) (_ : ∀ z ∈ ns, Builtin.Int.intBits z ≤ 1048576) : d_law [.list (ns.map .int)] = .ok (.bool true) := by
  have e1 : lenScr (.list (ns.map .int)) = some (.int (ns.length : Int)) := by show some (PyData.int ((ns.map PyData.int).length : Int)) = _; rw [List.length_map]
  have e2 : ∃ mv : D, biE minD (.ok [.int (ns.length : Int), .int 8]) = .ok mv ∧ ∃ m : Nat, m ≤ 8 ∧ biE maxD (.ok [.int 1, mv]) = .ok (.int (m : Int)) := by
    by_cases h8 : ns.length ≤ 8
    · refine ⟨.int (ns.length : Int), ?_, ?_⟩
      · show Res.ok (PyData.int (if (8 : Int) < (ns.length : Int) then 8 else (ns.length : Int))) = _
        rw [if_neg (by omega)]
      · by_cases h0 : ns.length = 0
        · rw [h0]; exact ⟨1, by decide, rfl⟩
        · refine ⟨ns.length, h8, ?_⟩
          show Res.ok (PyData.int (if (ns.length : Int) > 1 then (ns.length : Int) else 1)) = _
          by_cases h1 : ns.length = 1
          · rw [h1]; rfl
          · rw [if_pos (by omega)]
    · refine ⟨.int 8, ?_, 8, by decide, rfl⟩
      show Res.ok (PyData.int (if (8 : Int) < (ns.length : Int) then 8 else (ns.length : Int))) = _
      rw [if_pos (by omega)]
  obtain ⟨mv, e3, m, hm, e2⟩ := e2
  obtain ⟨b1, b2, b3, b4, b5, b6, b7, b8, b9, hl⟩ := loop_ok ns (rangeD 0 (m : Int).toNat) (fun d hd => by
    unfold rangeD at hd
    obtain ⟨i, _, rfl⟩ := List.mem_map.mp hd
    exact ⟨i, by rw [Int.zero_add]⟩) none none none none none none none none none
  show resOf (g_law [some (.list (ns.map .int)), none, none, none, none, none, none, none, none, none]) = _
  unfold g_law
  rw [sSeq_ev, sFor_ev]
  simp only [iRange1_ev, aCons_ev, aNil_ev, eBi_ev, eC_ev, eUn_ev, eVar_ev, List.getElem?_cons_zero, varO_some, un1_ok, e1, ofO_some, consA_ok, e3, e2, rg1_ok (k := (m : Int)) (by omega) (by omega), forO_ok]
  rw [hl]
  rfl


set_option maxHeartbeats 0 in
theorem all_mk {l : PySem.W.OpenLaw} {w : World} {K : PySem.W.Frag} {h : Heap} {mg : Str → Option Value}
    {f19 : Addr} {od19 an19 : Option Addr} {sl19 : Array (Option Value)} {oc19 kV19 dc19 pm19 cd19 ct19 : Value}
    {f0 : Addr} {od0 an0 : Option Addr} {sl0 : Array (Option Value)} {oc0 kV0 dc0 pm0 cd0 ct0 : Value}
    {f1 : Addr} {od1 an1 : Option Addr} {sl1 : Array (Option Value)} {oc1 kV1 dc1 pm1 cd1 ct1 : Value}
    {f2 : Addr} {od2 an2 : Option Addr} {sl2 : Array (Option Value)} {oc2 kV2 dc2 pm2 cd2 ct2 : Value}
    {f5 : Addr} {od5 an5 : Option Addr} {sl5 : Array (Option Value)} {oc5 kV5 dc5 pm5 cd5 ct5 : Value}
    {f4 : Addr} {od4 an4 : Option Addr} {sl4 : Array (Option Value)} {oc4 kV4 dc4 pm4 cd4 ct4 : Value}
    {f6 : Addr} {od6 an6 : Option Addr} {sl6 : Array (Option Value)} {oc6 kV6 dc6 pm6 cd6 ct6 : Value}
    {f11 : Addr} {od11 an11 : Option Addr} {sl11 : Array (Option Value)} {oc11 kV11 dc11 pm11 cd11 ct11 : Value}
    {f20 : Addr} {od20 an20 : Option Addr} {sl20 : Array (Option Value)} {oc20 kV20 dc20 pm20 cd20 ct20 : Value}
    {f7 : Addr} {od7 an7 : Option Addr} {sl7 : Array (Option Value)} {oc7 kV7 dc7 pm7 cd7 ct7 : Value}
    {f8 : Addr} {od8 an8 : Option Addr} {sl8 : Array (Option Value)} {oc8 kV8 dc8 pm8 cd8 ct8 : Value}
    {f10 : Addr} {od10 an10 : Option Addr} {sl10 : Array (Option Value)} {oc10 kV10 dc10 pm10 cd10 ct10 : Value}
    {f3 : Addr} {od3 an3 : Option Addr} {sl3 : Array (Option Value)} {oc3 kV3 dc3 pm3 cd3 ct3 : Value}
    {f17 : Addr} {od17 an17 : Option Addr} {sl17 : Array (Option Value)} {oc17 kV17 dc17 pm17 cd17 ct17 : Value}
    {f12 : Addr} {od12 an12 : Option Addr} {sl12 : Array (Option Value)} {oc12 kV12 dc12 pm12 cd12 ct12 : Value}
    {f13 : Addr} {od13 an13 : Option Addr} {sl13 : Array (Option Value)} {oc13 kV13 dc13 pm13 cd13 ct13 : Value}
    {f15 : Addr} {od15 an15 : Option Addr} {sl15 : Array (Option Value)} {oc15 kV15 dc15 pm15 cd15 ct15 : Value}
    {f16 : Addr} {od16 an16 : Option Addr} {sl16 : Array (Option Value)} {oc16 kV16 dc16 pm16 cd16 ct16 : Value}
    {f14 : Addr} {od14 an14 : Option Addr} {sl14 : Array (Option Value)} {oc14 kV14 dc14 pm14 cd14 ct14 : Value}
    {f18 : Addr} {od18 an18 : Option Addr} {sl18 : Array (Option Value)} {oc18 kV18 dc18 pm18 cd18 ct18 : Value}
    {f9 : Addr} {od9 an9 : Option Addr} {sl9 : Array (Option Value)} {oc9 kV9 dc9 pm9 cd9 ct9 : Value}
    {f21 : Addr} {od21 an21 : Option Addr} {sl21 : Array (Option Value)} {oc21 kV21 dc21 pm21 cd21 ct21 : Value}
    {C1 : Addr}
    {tk0 : Tok}
    {tk1 : Tok}
    {fa0 : Addr} (X : K.In h) (G : h.Ns mainGlobals mg) (hfa : mg "law" = some (.ref fa0))
    (a19 : PySem.W.nsIn K mainGlobals "_law_cell_at" = some (some (.ref f19)))
    (l19 : K.lookup f19 = some ⟨oc19, od19, .func (PySem.W.fnOf "_law_cell_at" "_law_cell_at" (defArgs s__law_cell_at) (defBody s__law_cell_at) (defScope s__law_cell_at) .none kV19 dc19 pm19 an19 cd19 ct19), sl19⟩)
    (c19 : PySem.W.codeIn K cd19 "_law_cell_at" = true)
    (k19 : PySem.W.keepIn K (.ref f19) = true)
    (a0 : PySem.W.nsIn K mainGlobals "is_whole" = some (some (.ref f0)))
    (l0 : K.lookup f0 = some ⟨oc0, od0, .func (PySem.W.fnOf "is_whole" "is_whole" (defArgs s_is_whole) (defBody s_is_whole) (defScope s_is_whole) .none kV0 dc0 pm0 an0 cd0 ct0), sl0⟩)
    (c0 : PySem.W.codeIn K cd0 "is_whole" = true)
    (k0 : PySem.W.keepIn K (.ref f0) = true)
    (a1 : PySem.W.nsIn K mainGlobals "is_number" = some (some (.ref f1)))
    (l1 : K.lookup f1 = some ⟨oc1, od1, .func (PySem.W.fnOf "is_number" "is_number" (defArgs s_is_number) (defBody s_is_number) (defScope s_is_number) .none kV1 dc1 pm1 an1 cd1 ct1), sl1⟩)
    (c1 : PySem.W.codeIn K cd1 "is_number" = true)
    (k1 : PySem.W.keepIn K (.ref f1) = true)
    (a2 : PySem.W.nsIn K mainGlobals "need_number" = some (some (.ref f2)))
    (l2 : K.lookup f2 = some ⟨oc2, od2, .func (PySem.W.fnOf "need_number" "need_number" (defArgs s_need_number) (defBody s_need_number) (defScope s_need_number) .none kV2 dc2 pm2 an2 cd2 ct2), sl2⟩)
    (c2 : PySem.W.codeIn K cd2 "need_number" = true)
    (k2 : PySem.W.keepIn K (.ref f2) = true)
    (a5 : PySem.W.nsIn K mainGlobals "need_n" = some (some (.ref f5)))
    (l5 : K.lookup f5 = some ⟨oc5, od5, .func (PySem.W.fnOf "need_n" "need_n" (defArgs s_need_n) (defBody s_need_n) (defScope s_need_n) .none kV5 dc5 pm5 an5 cd5 ct5), sl5⟩)
    (c5 : PySem.W.codeIn K cd5 "need_n" = true)
    (k5 : PySem.W.keepIn K (.ref f5) = true)
    (a4 : PySem.W.nsIn K mainGlobals "rows_to" = some (some (.ref f4)))
    (l4 : K.lookup f4 = some ⟨oc4, od4, .func (PySem.W.fnOf "rows_to" "rows_to" (defArgs s_rows_to) (defBody s_rows_to) (defScope s_rows_to) .none kV4 dc4 pm4 an4 cd4 ct4), sl4⟩)
    (c4 : PySem.W.codeIn K cd4 "rows_to" = true)
    (k4 : PySem.W.keepIn K (.ref f4) = true)
    (a6 : PySem.W.nsIn K mainGlobals "row" = some (some (.ref f6)))
    (l6 : K.lookup f6 = some ⟨oc6, od6, .func (PySem.W.fnOf "row" "row" (defArgs s_row) (defBody s_row) (defScope s_row) .none kV6 dc6 pm6 an6 cd6 ct6), sl6⟩)
    (c6 : PySem.W.codeIn K cd6 "row" = true)
    (k6 : PySem.W.keepIn K (.ref f6) = true)
    (a11 : PySem.W.nsIn K mainGlobals "table" = some (some (.ref f11)))
    (l11 : K.lookup f11 = some ⟨oc11, od11, .func (PySem.W.fnOf "table" "table" (defArgs s_table) (defBody s_table) (defScope s_table) .none kV11 dc11 pm11 an11 cd11 ct11), sl11⟩)
    (c11 : PySem.W.codeIn K cd11 "table" = true)
    (k11 : PySem.W.keepIn K (.ref f11) = true)
    (a20 : PySem.W.nsIn K mainGlobals "_law_draw" = some (some (.ref f20)))
    (l20 : K.lookup f20 = some ⟨oc20, od20, .func (PySem.W.fnOf "_law_draw" "_law_draw" (defArgs s__law_draw) (defBody s__law_draw) (defScope s__law_draw) .none kV20 dc20 pm20 an20 cd20 ct20), sl20⟩)
    (c20 : PySem.W.codeIn K cd20 "_law_draw" = true)
    (k20 : PySem.W.keepIn K (.ref f20) = true)
    (a7 : PySem.W.nsIn K mainGlobals "many_of" = some (some (.ref f7)))
    (l7 : K.lookup f7 = some ⟨oc7, od7, .func (PySem.W.fnOf "many_of" "many_of" (defArgs s_many_of) (defBody s_many_of) (defScope s_many_of) .none kV7 dc7 pm7 an7 cd7 ct7), sl7⟩)
    (c7 : PySem.W.codeIn K cd7 "many_of" = true)
    (k7 : PySem.W.keepIn K (.ref f7) = true)
    (a8 : PySem.W.nsIn K mainGlobals "many" = some (some (.ref f8)))
    (l8 : K.lookup f8 = some ⟨oc8, od8, .func (PySem.W.fnOf "many" "many" (defArgs s_many) (defBody s_many) (defScope s_many) .none kV8 dc8 pm8 an8 cd8 ct8), sl8⟩)
    (c8 : PySem.W.codeIn K cd8 "many" = true)
    (k8 : PySem.W.keepIn K (.ref f8) = true)
    (a10 : PySem.W.nsIn K mainGlobals "falls" = some (some (.ref f10)))
    (l10 : K.lookup f10 = some ⟨oc10, od10, .func (PySem.W.fnOf "falls" "falls" (defArgs s_falls) (defBody s_falls) (defScope s_falls) .none kV10 dc10 pm10 an10 cd10 ct10), sl10⟩)
    (c10 : PySem.W.codeIn K cd10 "falls" = true)
    (k10 : PySem.W.keepIn K (.ref f10) = true)
    (a3 : PySem.W.nsIn K mainGlobals "by_turns" = some (some (.ref f3)))
    (l3 : K.lookup f3 = some ⟨oc3, od3, .func (PySem.W.fnOf "by_turns" "by_turns" (defArgs s_by_turns) (defBody s_by_turns) (defScope s_by_turns) .none kV3 dc3 pm3 an3 cd3 ct3), sl3⟩)
    (c3 : PySem.W.codeIn K cd3 "by_turns" = true)
    (k3 : PySem.W.keepIn K (.ref f3) = true)
    (a17 : PySem.W.nsIn K mainGlobals "pattern_of" = some (some (.ref f17)))
    (l17 : K.lookup f17 = some ⟨oc17, od17, .func (PySem.W.fnOf "pattern_of" "pattern_of" (defArgs s_pattern_of) (defBody s_pattern_of) (defScope s_pattern_of) .none kV17 dc17 pm17 an17 cd17 ct17), sl17⟩)
    (c17 : PySem.W.codeIn K cd17 "pattern_of" = true)
    (k17 : PySem.W.keepIn K (.ref f17) = true)
    (a12 : PySem.W.nsIn K mainGlobals "led" = some (some (.ref f12)))
    (l12 : K.lookup f12 = some ⟨oc12, od12, .func (PySem.W.fnOf "led" "led" (defArgs s_led) (defBody s_led) (defScope s_led) .none kV12 dc12 pm12 an12 cd12 ct12), sl12⟩)
    (c12 : PySem.W.codeIn K cd12 "led" = true)
    (k12 : PySem.W.keepIn K (.ref f12) = true)
    (a13 : PySem.W.nsIn K mainGlobals "ways" = some (some (.ref f13)))
    (l13 : K.lookup f13 = some ⟨oc13, od13, .func (PySem.W.fnOf "ways" "ways" (defArgs s_ways) (defBody s_ways) (defScope s_ways) .none kV13 dc13 pm13 an13 cd13 ct13), sl13⟩)
    (c13 : PySem.W.codeIn K cd13 "ways" = true)
    (k13 : PySem.W.keepIn K (.ref f13) = true)
    (a15 : PySem.W.nsIn K mainGlobals "may_stand" = some (some (.ref f15)))
    (l15 : K.lookup f15 = some ⟨oc15, od15, .func (PySem.W.fnOf "may_stand" "may_stand" (defArgs s_may_stand) (defBody s_may_stand) (defScope s_may_stand) .none kV15 dc15 pm15 an15 cd15 ct15), sl15⟩)
    (c15 : PySem.W.codeIn K cd15 "may_stand" = true)
    (k15 : PySem.W.keepIn K (.ref f15) = true)
    (a16 : PySem.W.nsIn K mainGlobals "built" = some (some (.ref f16)))
    (l16 : K.lookup f16 = some ⟨oc16, od16, .func (PySem.W.fnOf "built" "built" (defArgs s_built) (defBody s_built) (defScope s_built) .none kV16 dc16 pm16 an16 cd16 ct16), sl16⟩)
    (c16 : PySem.W.codeIn K cd16 "built" = true)
    (k16 : PySem.W.keepIn K (.ref f16) = true)
    (a14 : PySem.W.nsIn K mainGlobals "count_of" = some (some (.ref f14)))
    (l14 : K.lookup f14 = some ⟨oc14, od14, .func (PySem.W.fnOf "count_of" "count_of" (defArgs s_count_of) (defBody s_count_of) (defScope s_count_of) .none kV14 dc14 pm14 an14 cd14 ct14), sl14⟩)
    (c14 : PySem.W.codeIn K cd14 "count_of" = true)
    (k14 : PySem.W.keepIn K (.ref f14) = true)
    (a18 : PySem.W.nsIn K mainGlobals "all_updowns" = some (some (.ref f18)))
    (l18 : K.lookup f18 = some ⟨oc18, od18, .func (PySem.W.fnOf "all_updowns" "all_updowns" (defArgs s_all_updowns) (defBody s_all_updowns) (defScope s_all_updowns) .none kV18 dc18 pm18 an18 cd18 ct18), sl18⟩)
    (c18 : PySem.W.codeIn K cd18 "all_updowns" = true)
    (k18 : PySem.W.keepIn K (.ref f18) = true)
    (a9 : PySem.W.nsIn K mainGlobals "all_many" = some (some (.ref f9)))
    (l9 : K.lookup f9 = some ⟨oc9, od9, .func (PySem.W.fnOf "all_many" "all_many" (defArgs s_all_many) (defBody s_all_many) (defScope s_all_many) .none kV9 dc9 pm9 an9 cd9 ct9), sl9⟩)
    (c9 : PySem.W.codeIn K cd9 "all_many" = true)
    (k9 : PySem.W.keepIn K (.ref f9) = true)
    (a21 : PySem.W.nsIn K mainGlobals "law" = some (some (.ref f21)))
    (l21 : K.lookup f21 = some ⟨oc21, od21, .func (PySem.W.fnOf "law" "law" (defArgs s_law) (defBody s_law) (defScope s_law) .none kV21 dc21 pm21 an21 cd21 ct21), sl21⟩)
    (c21 : PySem.W.codeIn K cd21 "law" = true)
    (k21 : PySem.W.keepIn K (.ref f21) = true)
    (ca1 : PySem.W.nsIn K mainGlobals "NoNumber" = some (some (.ref C1)))
    (cx1 : PySem.W.excIn K C1 [.type "ValueError", .type "Exception", .type "BaseException", .type "object"] "ValueError.__new__" = true)
    (ck1 : PySem.W.keepIn K (.ref C1) = true)
    (cp1 : PySem.W.subIn K (.ref C1) (.type "BaseException") = some true)
    (cy1 : PySem.W.typeIn K (.ref C1) = some (.type "type"))
    (z_bool : PySem.W.nsIn K mainGlobals "bool" = some none)
    (z_enumerate : PySem.W.nsIn K mainGlobals "enumerate" = some none)
    (z_int : PySem.W.nsIn K mainGlobals "int" = some none)
    (z_isinstance : PySem.W.nsIn K mainGlobals "isinstance" = some none)
    (z_len : PySem.W.nsIn K mainGlobals "len" = some none)
    (z_list : PySem.W.nsIn K mainGlobals "list" = some none)
    (z_max : PySem.W.nsIn K mainGlobals "max" = some none)
    (z_min : PySem.W.nsIn K mainGlobals "min" = some none)
    (z_range : PySem.W.nsIn K mainGlobals "range" = some none)
    (z_sorted : PySem.W.nsIn K mainGlobals "sorted" = some none)
    (z_sum : PySem.W.nsIn K mainGlobals "sum" = some none)
    (z_tuple : PySem.W.nsIn K mainGlobals "tuple" = some none)
    (z_zip : PySem.W.nsIn K mainGlobals "zip" = some none)
    (v_MOST_LISTED : PySem.W.nsIn K mainGlobals "MOST_LISTED" = some (some (.int 8 tk0)))
    (v_MOST_ROWS : PySem.W.nsIn K mainGlobals "MOST_ROWS" = some (some (.int 60 tk1))) :
    ∃ (fd : FuncData) (Xc : Nat → Addr), (∀ (s : Shared) (v : Value), BindsTo s fd ⟨[v], []⟩ [("_law_script", v)]) ∧ ∀ base : Heap, K.In base → base.Ns mainGlobals mg → FnOk l.prog w K mg base (L2.CX l.prog w) 6 fa0 fd ["_law_script"] (spD K Xc [.scr] false d_law) := by
  have e := (Value.ref.inj (Option.some.inj (hfa.symm.trans (PySem.W.mg_of X G a21)))).symm
  subst e
  have F19 := fun_mk (st := s__law_cell_at) l19 c19 k19
  have b19 := F19.binds (ps := ["_law_script", "_law_k"]) fun _ _ _ _ _ _ us hl => match us, hl with | [_, _], _ => rfl
  have F0 := fun_mk (st := s_is_whole) l0 c0 k0
  have b0 := F0.binds (ps := ["thing"]) fun _ _ _ _ _ _ us hl => match us, hl with | [_], _ => rfl
  have F1 := fun_mk (st := s_is_number) l1 c1 k1
  have b1 := F1.binds (ps := ["thing", "least", "most"]) fun _ _ _ _ _ _ us hl => match us, hl with | [_, _, _], _ => rfl
  have F2 := fun_mk (st := s_need_number) l2 c2 k2
  have b2 := F2.binds (ps := ["thing", "least", "most"]) fun _ _ _ _ _ _ us hl => match us, hl with | [_, _, _], _ => rfl
  have F5 := fun_mk (st := s_need_n) l5 c5 k5
  have b5 := F5.binds (ps := ["n"]) fun _ _ _ _ _ _ us hl => match us, hl with | [_], _ => rfl
  have F4 := fun_mk (st := s_rows_to) l4 c4 k4
  have b4 := F4.binds (ps := ["n"]) fun _ _ _ _ _ _ us hl => match us, hl with | [_], _ => rfl
  have F6 := fun_mk (st := s_row) l6 c6 k6
  have b6 := F6.binds (ps := ["n"]) fun _ _ _ _ _ _ us hl => match us, hl with | [_], _ => rfl
  have F11 := fun_mk (st := s_table) l11 c11 k11
  have b11 := F11.binds (ps := ["n"]) fun _ _ _ _ _ _ us hl => match us, hl with | [_], _ => rfl
  have F20 := fun_mk (st := s__law_draw) l20 c20 k20
  have b20 := F20.binds (ps := ["_law_cell", "_law_k", "_law_bound"]) fun _ _ _ _ _ _ us hl => match us, hl with | [_, _, _], _ => rfl
  have F7 := fun_mk (st := s_many_of) l7 c7 k7
  have b7 := F7.binds (ps := ["n"]) fun _ _ _ _ _ _ us hl => match us, hl with | [_], _ => rfl
  have F8 := fun_mk (st := s_many) l8 c8 k8
  have b8 := F8.binds (ps := ["n"]) fun _ _ _ _ _ _ us hl => match us, hl with | [_], _ => rfl
  have F10 := fun_mk (st := s_falls) l10 c10 k10
  have b10 := F10.binds (ps := ["n"]) fun _ _ _ _ _ _ us hl => match us, hl with | [_], _ => rfl
  have F3 := fun_mk (st := s_by_turns) l3 c3 k3
  have b3 := F3.binds (ps := ["many", "first"]) fun _ _ _ _ _ _ us hl => match us, hl with | [_, _], _ => rfl
  have F17 := fun_mk (st := s_pattern_of) l17 c17 k17
  have b17 := F17.binds (ps := ["n"]) fun _ _ _ _ _ _ us hl => match us, hl with | [_], _ => rfl
  have F12 := fun_mk (st := s_led) l12 c12 k12
  have b12 := F12.binds (ps := ["sign", "some"]) fun _ _ _ _ _ _ us hl => match us, hl with | [_, _], _ => rfl
  have F13 := fun_mk (st := s_ways) l13 c13 k13
  have b13 := F13.binds (ps := ["pattern"]) fun _ _ _ _ _ _ us hl => match us, hl with | [_], _ => rfl
  have F15 := fun_mk (st := s_may_stand) l15 c15 k15
  have b15 := F15.binds (ps := ["sign", "rank", "left"]) fun _ _ _ _ _ _ us hl => match us, hl with | [_, _, _], _ => rfl
  have F16 := fun_mk (st := s_built) l16 c16 k16
  have b16 := F16.binds (ps := ["pattern", "number"]) fun _ _ _ _ _ _ us hl => match us, hl with | [_, _], _ => rfl
  have F14 := fun_mk (st := s_count_of) l14 c14 k14
  have b14 := F14.binds (ps := ["pattern"]) fun _ _ _ _ _ _ us hl => match us, hl with | [_], _ => rfl
  have F18 := fun_mk (st := s_all_updowns) l18 c18 k18
  have b18 := F18.binds (ps := ["n"]) fun _ _ _ _ _ _ us hl => match us, hl with | [_], _ => rfl
  have F9 := fun_mk (st := s_all_many) l9 c9 k9
  have b9 := F9.binds (ps := ["n"]) fun _ _ _ _ _ _ us hl => match us, hl with | [_], _ => rfl
  have F21 := fun_mk (st := s_law) l21 c21 k21
  have b21 := F21.binds (ps := ["_law_script"]) fun _ _ _ _ _ _ us hl => match us, hl with | [_], _ => rfl
  have T : Txt K mg (fun n => ([0, C1] : List Addr).getD n 0) (fun n => ([f0, f1, f2, f3, f4, f5, f6, f7, f8, f9, f10, f11, f12, f13, f14, f15, f16, f17, f18, f19, f20, f21] : List Addr).getD n 0) (fun n => ([PySem.W.fnOf "is_whole" "is_whole" (defArgs s_is_whole) (defBody s_is_whole) (defScope s_is_whole) .none kV0 dc0 pm0 an0 cd0 ct0, PySem.W.fnOf "is_number" "is_number" (defArgs s_is_number) (defBody s_is_number) (defScope s_is_number) .none kV1 dc1 pm1 an1 cd1 ct1, PySem.W.fnOf "need_number" "need_number" (defArgs s_need_number) (defBody s_need_number) (defScope s_need_number) .none kV2 dc2 pm2 an2 cd2 ct2, PySem.W.fnOf "by_turns" "by_turns" (defArgs s_by_turns) (defBody s_by_turns) (defScope s_by_turns) .none kV3 dc3 pm3 an3 cd3 ct3, PySem.W.fnOf "rows_to" "rows_to" (defArgs s_rows_to) (defBody s_rows_to) (defScope s_rows_to) .none kV4 dc4 pm4 an4 cd4 ct4, PySem.W.fnOf "need_n" "need_n" (defArgs s_need_n) (defBody s_need_n) (defScope s_need_n) .none kV5 dc5 pm5 an5 cd5 ct5, PySem.W.fnOf "row" "row" (defArgs s_row) (defBody s_row) (defScope s_row) .none kV6 dc6 pm6 an6 cd6 ct6, PySem.W.fnOf "many_of" "many_of" (defArgs s_many_of) (defBody s_many_of) (defScope s_many_of) .none kV7 dc7 pm7 an7 cd7 ct7, PySem.W.fnOf "many" "many" (defArgs s_many) (defBody s_many) (defScope s_many) .none kV8 dc8 pm8 an8 cd8 ct8, PySem.W.fnOf "all_many" "all_many" (defArgs s_all_many) (defBody s_all_many) (defScope s_all_many) .none kV9 dc9 pm9 an9 cd9 ct9, PySem.W.fnOf "falls" "falls" (defArgs s_falls) (defBody s_falls) (defScope s_falls) .none kV10 dc10 pm10 an10 cd10 ct10, PySem.W.fnOf "table" "table" (defArgs s_table) (defBody s_table) (defScope s_table) .none kV11 dc11 pm11 an11 cd11 ct11, PySem.W.fnOf "led" "led" (defArgs s_led) (defBody s_led) (defScope s_led) .none kV12 dc12 pm12 an12 cd12 ct12, PySem.W.fnOf "ways" "ways" (defArgs s_ways) (defBody s_ways) (defScope s_ways) .none kV13 dc13 pm13 an13 cd13 ct13, PySem.W.fnOf "count_of" "count_of" (defArgs s_count_of) (defBody s_count_of) (defScope s_count_of) .none kV14 dc14 pm14 an14 cd14 ct14, PySem.W.fnOf "may_stand" "may_stand" (defArgs s_may_stand) (defBody s_may_stand) (defScope s_may_stand) .none kV15 dc15 pm15 an15 cd15 ct15, PySem.W.fnOf "built" "built" (defArgs s_built) (defBody s_built) (defScope s_built) .none kV16 dc16 pm16 an16 cd16 ct16, PySem.W.fnOf "pattern_of" "pattern_of" (defArgs s_pattern_of) (defBody s_pattern_of) (defScope s_pattern_of) .none kV17 dc17 pm17 an17 cd17 ct17, PySem.W.fnOf "all_updowns" "all_updowns" (defArgs s_all_updowns) (defBody s_all_updowns) (defScope s_all_updowns) .none kV18 dc18 pm18 an18 cd18 ct18, PySem.W.fnOf "_law_cell_at" "_law_cell_at" (defArgs s__law_cell_at) (defBody s__law_cell_at) (defScope s__law_cell_at) .none kV19 dc19 pm19 an19 cd19 ct19, PySem.W.fnOf "_law_draw" "_law_draw" (defArgs s__law_draw) (defBody s__law_draw) (defScope s__law_draw) .none kV20 dc20 pm20 an20 cd20 ct20, PySem.W.fnOf "law" "law" (defArgs s_law) (defBody s_law) (defScope s_law) .none kV21 dc21 pm21 an21 cd21 ct21] : List FuncData).getD n (PySem.W.fnOf "" "" (defArgs s_law) [] (defScope s_law) .none .none .none .none none .none .none)) (fun n => ([tk0, tk1] : List Tok).getD n 0) := { F19 := F19, b19 := b19, m19 := PySem.W.mg_of X G a19, F0 := F0, b0 := b0, m0 := PySem.W.mg_of X G a0, F1 := F1, b1 := b1, m1 := PySem.W.mg_of X G a1, F2 := F2, b2 := b2, m2 := PySem.W.mg_of X G a2, F5 := F5, b5 := b5, m5 := PySem.W.mg_of X G a5, F4 := F4, b4 := b4, m4 := PySem.W.mg_of X G a4, F6 := F6, b6 := b6, m6 := PySem.W.mg_of X G a6, F11 := F11, b11 := b11, m11 := PySem.W.mg_of X G a11, F20 := F20, b20 := b20, m20 := PySem.W.mg_of X G a20, F7 := F7, b7 := b7, m7 := PySem.W.mg_of X G a7, F8 := F8, b8 := b8, m8 := PySem.W.mg_of X G a8, F10 := F10, b10 := b10, m10 := PySem.W.mg_of X G a10, F3 := F3, b3 := b3, m3 := PySem.W.mg_of X G a3, F17 := F17, b17 := b17, m17 := PySem.W.mg_of X G a17, F12 := F12, b12 := b12, m12 := PySem.W.mg_of X G a12, F13 := F13, b13 := b13, m13 := PySem.W.mg_of X G a13, F15 := F15, b15 := b15, m15 := PySem.W.mg_of X G a15, F16 := F16, b16 := b16, m16 := PySem.W.mg_of X G a16, F14 := F14, b14 := b14, m14 := PySem.W.mg_of X G a14, F18 := F18, b18 := b18, m18 := PySem.W.mg_of X G a18, F9 := F9, b9 := b9, m9 := PySem.W.mg_of X G a9, F21 := F21, b21 := b21, m21 := PySem.W.mg_of X G a21, n_bool := PySem.W.mg_none_of X G z_bool, n_enumerate := PySem.W.mg_none_of X G z_enumerate, n_int := PySem.W.mg_none_of X G z_int, n_isinstance := PySem.W.mg_none_of X G z_isinstance, n_len := PySem.W.mg_none_of X G z_len, n_list := PySem.W.mg_none_of X G z_list, n_max := PySem.W.mg_none_of X G z_max, n_min := PySem.W.mg_none_of X G z_min, n_range := PySem.W.mg_none_of X G z_range, n_sorted := PySem.W.mg_none_of X G z_sorted, n_sum := PySem.W.mg_none_of X G z_sum, n_tuple := PySem.W.mg_none_of X G z_tuple, n_zip := PySem.W.mg_none_of X G z_zip, v_MOST_LISTED := PySem.W.mg_of X G v_MOST_LISTED, v_MOST_ROWS := PySem.W.mg_of X G v_MOST_ROWS, g1 := PySem.W.mg_of X G ca1, x1 := cx1, k1 := ck1, p1 := cp1, t1 := cy1 }
  exact ⟨_, _, fun s v => .of_eq rfl, fun base _ _ => ok_law T⟩
/-- a law that comes to True, walked -/
theorem walk {l : PySem.W.OpenLaw} {q : Program} {loose : List Str} {XP : (Str → Option Value) → Heap → Prop} {YP : World → Heap → Prop} {d : DefRec} {K : Params → PySem.W.Frag} (hn : l.most = some 63) (hdf : d.params.defaults = [])
    (hY : ∀ (w : World) (h : Heap), YP w h → (K w.params).In h) (law_true : ∀ ns : List Int, ns.length ≤ 63 → (∀ z ∈ ns, Builtin.Int.intBits z ≤ 1048576) → d_law [.list (ns.map .int)] = .ok (.bool true))
    (F : ∀ (w : World) (mg : Str → Option Value) (fa : Addr) (h : Heap), (K w.params).In h → h.Ns mainGlobals mg → mg d.name = some (.ref fa) →
      ∃ (fd : FuncData) (Xc : Nat → Addr), (∀ (s : Shared) (u : Value), BindsTo s fd ⟨[u], []⟩ [("_law_script", u)]) ∧ ∀ base : Heap, (K w.params).In base → base.Ns mainGlobals mg → FnOk l.prog w (K w.params) mg base (L2.CX l.prog w) 6 fa fd ["_law_script"] (spD (K w.params) Xc [.scr] false d_law)) :
    PySem.W.WalkO q loose XP YP l.row.toRowW d [] (fun f vs => PySem.call f vs) :=
  L2.walk_ofB (n := 63) (k := 6) (x := "_law_script") (K := K) (CX := fun w => L2.CX l.prog w) (sp := fun w => spTrue (K w.params)) hn (by decide) hdf ⟨rfl, by decide, by decide⟩ hY
    (fun w mg fa h a b c => let ⟨fd, Xc, h1, h2⟩ := F w mg fa h a b c; ⟨fd, h1, fun base i1 i2 => (h2 base i1 i2).imp fun vs H Q E q => spTrue_of law_true q⟩)
    (fun w H a ns hl hb hO hS => spTrue_at hl hb hO hS) fun w H s e s' z => by
      obtain ⟨_, _, _, _, _, _, _, _, _, _, _, _, z⟩ := z
      exact z
end Lw
open PySem PySem.W PyProof.Rows
set_option maxRecDepth 100000 in
set_option maxHeartbeats 0 in
theorem PySem.Challenge.cw_upanddowns_k15_whole_triangle_holds : PySem.Challenge.rw_upanddowns_k15_whole_triangle.Holds := by
  w_on; o_law; k_head; (case hw => w_witness2)
  k_fill
  refine Lw.walk (l := PySem.Challenge.rw_upanddowns_k15_whole_triangle) rfl rfl (fun w h Y => PySem.W.kIn_of Y) Lw.law_true ?F
  case F =>
    intro w mg fa h KX G hmg
    refine' Lw.all_mk KX G hmg ?a19 ?l19 ?c19 ?k19 ?a0 ?l0 ?c0 ?k0 ?a1 ?l1 ?c1 ?k1 ?a2 ?l2 ?c2 ?k2 ?a5 ?l5 ?c5 ?k5 ?a4 ?l4 ?c4 ?k4 ?a6 ?l6 ?c6 ?k6 ?a11 ?l11 ?c11 ?k11 ?a20 ?l20 ?c20 ?k20 ?a7 ?l7 ?c7 ?k7 ?a8 ?l8 ?c8 ?k8 ?a10 ?l10 ?c10 ?k10 ?a3 ?l3 ?c3 ?k3 ?a17 ?l17 ?c17 ?k17 ?a12 ?l12 ?c12 ?k12 ?a13 ?l13 ?c13 ?k13 ?a15 ?l15 ?c15 ?k15 ?a16 ?l16 ?c16 ?k16 ?a14 ?l14 ?c14 ?k14 ?a18 ?l18 ?c18 ?k18 ?a9 ?l9 ?c9 ?k9 ?a21 ?l21 ?c21 ?k21 ?ca1 ?cx1 ?ck1 ?cp1 ?cy1 ?z_bool ?z_enumerate ?z_int ?z_isinstance ?z_len ?z_list ?z_max ?z_min ?z_range ?z_sorted ?z_sum ?z_tuple ?z_zip ?v_MOST_LISTED ?v_MOST_ROWS
    (case a19 => k_is)
    (case l19 => k_is)
    (case c19 => k_is)
    (case k19 => k_is)
    (case a0 => k_is)
    (case l0 => k_is)
    (case c0 => k_is)
    (case k0 => k_is)
    (case a1 => k_is)
    (case l1 => k_is)
    (case c1 => k_is)
    (case k1 => k_is)
    (case a2 => k_is)
    (case l2 => k_is)
    (case c2 => k_is)
    (case k2 => k_is)
    (case a5 => k_is)
    (case l5 => k_is)
    (case c5 => k_is)
    (case k5 => k_is)
    (case a4 => k_is)
    (case l4 => k_is)
    (case c4 => k_is)
    (case k4 => k_is)
    (case a6 => k_is)
    (case l6 => k_is)
    (case c6 => k_is)
    (case k6 => k_is)
    (case a11 => k_is)
    (case l11 => k_is)
    (case c11 => k_is)
    (case k11 => k_is)
    (case a20 => k_is)
    (case l20 => k_is)
    (case c20 => k_is)
    (case k20 => k_is)
    (case a7 => k_is)
    (case l7 => k_is)
    (case c7 => k_is)
    (case k7 => k_is)
    (case a8 => k_is)
    (case l8 => k_is)
    (case c8 => k_is)
    (case k8 => k_is)
    (case a10 => k_is)
    (case l10 => k_is)
    (case c10 => k_is)
    (case k10 => k_is)
    (case a3 => k_is)
    (case l3 => k_is)
    (case c3 => k_is)
    (case k3 => k_is)
    (case a17 => k_is)
    (case l17 => k_is)
    (case c17 => k_is)
    (case k17 => k_is)
    (case a12 => k_is)
    (case l12 => k_is)
    (case c12 => k_is)
    (case k12 => k_is)
    (case a13 => k_is)
    (case l13 => k_is)
    (case c13 => k_is)
    (case k13 => k_is)
    (case a15 => k_is)
    (case l15 => k_is)
    (case c15 => k_is)
    (case k15 => k_is)
    (case a16 => k_is)
    (case l16 => k_is)
    (case c16 => k_is)
    (case k16 => k_is)
    (case a14 => k_is)
    (case l14 => k_is)
    (case c14 => k_is)
    (case k14 => k_is)
    (case a18 => k_is)
    (case l18 => k_is)
    (case c18 => k_is)
    (case k18 => k_is)
    (case a9 => k_is)
    (case l9 => k_is)
    (case c9 => k_is)
    (case k9 => k_is)
    (case a21 => k_is)
    (case l21 => k_is)
    (case c21 => k_is)
    (case k21 => k_is)
    (case ca1 => k_is)
    (case cx1 => k_exc)
    (case ck1 => k_is)
    (case cp1 => k_is)
    (case cy1 => k_is)
    (case z_bool => k_is)
    (case z_enumerate => k_is)
    (case z_int => k_is)
    (case z_isinstance => k_is)
    (case z_len => k_is)
    (case z_list => k_is)
    (case z_max => k_is)
    (case z_min => k_is)
    (case z_range => k_is)
    (case z_sorted => k_is)
    (case z_sum => k_is)
    (case z_tuple => k_is)
    (case z_zip => k_is)
    (case v_MOST_LISTED => k_is)
    (case v_MOST_ROWS => k_is)