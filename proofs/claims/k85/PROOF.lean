import PyProof.Rows.All
import Wide.All
import OpenK.AllK
import Wide.FinOn
import KE.SortData
import KE.DataEq
import KE.DataIsa
import KE.DataMinMax
import KE.DataFind
import KE.GoesNew
import HandS.ForExc
import HandS.ForMost
import HandS.TupAny
import HandS.TupMul
import HandS.TupSets
import HandS.IsInst
import HandS.Deep
import HandS.CallSlots
import HandS.HotCalls
import HandS.ExcIs
import HandS.Flow
import HandS.TryOnly
import HandS.Strs
import HandS.SetFor
import HandS.SetKeys
import HandS.DictTup
import HandS.Codes
import HandS.Iter
import HandS.Zip
import HandS.Head0
import HandS.Head1
import HandS.Head2
import HandS.HeadEnd
import HandS.HeadHook1
import HandS.HeadHook2
import HandS.Defaults
import HandS.SortKw
import HandS.Style
import KE.Datum
import KE.KDictZip
import PyProof.TupleOfGen
import PyProof.CollectWalk
import PyProof.Commute
import HandS.ExcValue
import PySem.Challenge.RW_treeforms_k85_renamed
set_option Elab.async false
set_option linter.all false
set_option maxRecDepth 100000
set_option maxHeartbeats 1000000
/-! The plain layer: data without a heap, and what a piece of syntax does with them as a plain function. -/
namespace Pz
open PySem PySem.Spec L2

/-- what comes of a piece of code: a value, an own exception by its class's name, or nothing known -/
inductive R (α : Type) where
  | ok (a : α)
  | exc (x : Str)
  | bad
namespace R
variable {α β γ : Type}
def bind : R α → (α → R β) → R β
  | .ok a, f => f a
  | .exc x, _ => .exc x
  | .bad, _ => .bad
instance : Monad R where
  pure := .ok
  bind := R.bind
@[simp] theorem bind_ok (a : α) (f : α → R β) : (R.ok a >>= f) = f a := rfl
@[simp] theorem bind_exc (x : Str) (f : α → R β) : ((R.exc x : R α) >>= f) = R.exc x := rfl
@[simp] theorem bind_bad (f : α → R β) : ((R.bad : R α) >>= f) = R.bad := rfl
@[simp] theorem pure_eq (a : α) : (pure a : R α) = R.ok a := rfl
theorem bind_ok_iff {m : R α} {f : α → R β} {b : β} : (m >>= f) = .ok b ↔ ∃ a, m = .ok a ∧ f a = .ok b := by
  cases m <;> simp
end R

abbrev D := PyData
/-- the script, as it is handed in (read alone) -/
abbrev scrD (ds : List D) : D := .dict [(.none, .list ds)]
def keyD : Key → D
  | .inl i => .int i
  | .inr s => .str s

/-- the script's list: a frozen one, or one that stood before -/
def ScrL (K : PySem.W.Frag) (Z : Addr → Prop) (H : Hp) (a : Addr) (xs : List V) : Prop := (Z a ∧ ∃ o, H a = some (.frz o (.lst xs))) ∨ SqL K (fun _ => none) a xs
theorem ScrL.sq {K : PySem.W.Frag} {Z : Addr → Prop} {H : Hp} {a : Addr} {xs : List V} (h : ScrL K Z H a xs) : SqL K H a xs := by
  rcases h with ⟨_, o, h⟩ | h
  · exact .inl (.inr ⟨o, h⟩)
  · rcases h with h | h
    · rcases h with h | ⟨o, h⟩ <;> cases h
    · exact .inr h
/-- a tuple that is known whole: without a __dict__ -/
def TpN (H : Hp) (a : Addr) (xs : List V) : Prop := ∃ o : Obj, H a = some (.frz o (.tup xs)) ∧ o.dict = none
theorem TpN.sq {K : PySem.W.Frag} {H : Hp} {a : Addr} {xs : List V} (h : TpN H a xs) : SqT K H a xs := let ⟨o, e, _⟩ := h; .inl (.inr ⟨o, e⟩)
section
variable (K : PySem.W.Frag) (Z : Addr → Prop) (H : Hp)
mutual
/-- v is the datum: lists and dicts stand at frozen places -/
inductive Rp : V → D → Prop
  | non : Rp .non .none
  | bl (b : Bool) : Rp (.bl b) (.bool b)
  | int (i : Int) : Rp (.int i) (.int i)
  | str (s : Str) : Rp (.str s) (.str s)
  | lst {a : Addr} {xs : List V} {ds : List D} : Z a → H a = some (.lst xs) → RpAll xs ds → Rp (.ref a) (.list ds)
  | scr {a : Addr} {xs : List V} {ds : List D} : ScrL K Z H a xs → RpAll xs ds → Rp (.ref a) (scrD ds)
  | tup {a : Addr} {xs : List V} {ds : List D} : TpN H a xs → RpAll xs ds → Rp (.ref a) (.tuple ds)
  | dic {a : Addr} {kvs : List (Key × V)} {es : List (D × D)} : Z a → H a = some (.dK kvs) → RpKV kvs es → Rp (.ref a) (.dict es)
inductive RpAll : List V → List D → Prop
  | nil : RpAll [] []
  | cons {v : V} {vs : List V} {d : D} {ds : List D} : Rp v d → RpAll vs ds → RpAll (v :: vs) (d :: ds)
inductive RpKV : List (Key × V) → List (D × D) → Prop
  | nil : RpKV [] []
  | cons {k : Key} {v : V} {r : List (Key × V)} {d : D} {es : List (D × D)} : Rp v d → RpKV r es → RpKV ((k, v) :: r) ((keyD k, d) :: es)
end
end

section
variable {K : PySem.W.Frag} {Z Z' Z'' : Addr → Prop} {H H' H'' : Hp}
/-- more is frozen, and what was tracked stands -/
structure Grow (Z : Addr → Prop) (H : Hp) (Z' : Addr → Prop) (H' : Hp) : Prop where
  zt : (∀ a, Z a → H a ≠ none) → ∀ a, Z' a → H' a ≠ none
  zs : ∀ a, Z a → Z' a
  zn : ∀ a, Z' a → Z a ∨ H a = none
  hs : ∀ a o, H a = some o → H' a = some o
theorem Grow.refl : Grow Z H Z H := ⟨fun h => h, fun _ h => h, fun _ h => .inl h, fun _ _ h => h⟩
theorem Grow.trans (g : Grow Z H Z' H') (g' : Grow Z' H' Z'' H'') : Grow Z H Z'' H'' where
  zt := fun h => g'.zt (g.zt h)
  zs := fun a h => g'.zs a (g.zs a h)
  zn := fun a h => by
    rcases g'.zn a h with h | h
    · exact g.zn a h
    · refine .inr ?_
      cases e : H a with
      | none => rfl
      | some o => rw [g.hs a o e] at h; exact nomatch h
  hs := fun a o h => g'.hs a o (g.hs a o h)
/-- what a datum leans on -/
structure Keeps (K : PySem.W.Frag) (Z : Addr → Prop) (H : Hp) (Z' : Addr → Prop) (H' : Hp) : Prop where
  zs : ∀ a, Z a → Z' a
  di : ∀ a o, Z a → H a = some o → H' a = some o
  tp : ∀ a xs, SqT K H a xs → SqT K H' a xs
  tn : ∀ a xs, TpN H a xs → TpN H' a xs
theorem Rd.same (s : ∀ a o, H a = some o → H' a = some o) {a : Addr} {u : HO} (h : Rd H a u) : Rd H' a u := by
  rcases h with h | ⟨o, h⟩
  · exact .inl (s _ _ h)
  · exact .inr ⟨o, s _ _ h⟩
theorem SqL.same (s : ∀ a o, H a = some o → H' a = some o) {a : Addr} {xs : List V} (h : SqL K H a xs) : SqL K H' a xs := by
  rcases h with h | h
  · exact .inl (Rd.same s h)
  · exact .inr h
theorem SqT.same (s : ∀ a o, H a = some o → H' a = some o) {a : Addr} {xs : List V} (h : SqT K H a xs) : SqT K H' a xs := by
  rcases h with h | h
  · exact .inl (Rd.same s h)
  · exact .inr h
theorem Grow.keeps (g : Grow Z H Z' H') : Keeps K Z H Z' H' :=
  ⟨g.zs, fun a o _ h => g.hs a o h, fun _ _ h => SqT.same g.hs h, fun _ _ ⟨o, h, n⟩ => ⟨o, g.hs _ _ h, n⟩⟩
mutual
theorem Rp.keep (k : Keeps K Z H Z' H') : ∀ {v : V} {d : D}, Rp K Z H v d → Rp K Z' H' v d
  | _, _, .non => .non
  | _, _, .bl b => .bl b
  | _, _, .int i => .int i
  | _, _, .str s => .str s
  | _, _, .lst z h r => .lst (k.zs _ z) (k.di _ _ z h) (RpAll.keep k r)
  | _, _, .scr h r => .scr (h.imp (fun ⟨z, o, e⟩ => ⟨k.zs _ z, o, k.di _ _ z e⟩) id) (RpAll.keep k r)
  | _, _, .tup h r => .tup (k.tn _ _ h) (RpAll.keep k r)
  | _, _, .dic z h r => .dic (k.zs _ z) (k.di _ _ z h) (RpKV.keep k r)
theorem RpAll.keep (k : Keeps K Z H Z' H') : ∀ {vs : List V} {ds : List D}, RpAll K Z H vs ds → RpAll K Z' H' vs ds
  | _, _, .nil => .nil
  | _, _, .cons r t => .cons (Rp.keep k r) (RpAll.keep k t)
theorem RpKV.keep (k : Keeps K Z H Z' H') : ∀ {vs : List (Key × V)} {ds : List (D × D)}, RpKV K Z H vs ds → RpKV K Z' H' vs ds
  | _, _, .nil => .nil
  | _, _, .cons r t => .cons (Rp.keep k r) (RpKV.keep k t)
end
theorem Rp.grow (g : Grow Z H Z' H') {v : V} {d : D} (h : Rp K Z H v d) : Rp K Z' H' v d := h.keep g.keeps
theorem RpAll.grow (g : Grow Z H Z' H') {v : List V} {d : List D} (h : RpAll K Z H v d) : RpAll K Z' H' v d := h.keep g.keeps
theorem RpKV.grow (g : Grow Z H Z' H') {v : List (Key × V)} {d : List (D × D)} (h : RpKV K Z H v d) : RpKV K Z' H' v d := h.keep g.keeps
theorem RpAll.length : ∀ {vs : List V} {ds : List D}, RpAll K Z H vs ds → vs.length = ds.length
  | _, _, .nil => rfl
  | _, _, .cons _ t => by simp [RpAll.length t]
theorem RpAll.get : ∀ {vs : List V} {ds : List D}, RpAll K Z H vs ds → ∀ (i : Nat) (d : D), ds[i]? = some d → ∃ v, vs[i]? = some v ∧ Rp K Z H v d
  | _, _, .nil, i, d, e => by simp at e
  | _, _, .cons r t, 0, d, e => by simp at e; subst e; exact ⟨_, rfl, r⟩
  | _, _, .cons r t, i + 1, d, e => by
    obtain ⟨v, h1, h2⟩ := RpAll.get t i d (by simpa using e)
    exact ⟨v, by simpa using h1, h2⟩
theorem RpAll.append : ∀ {vs ws : List V} {ds es : List D}, RpAll K Z H vs ds → RpAll K Z H ws es → RpAll K Z H (vs ++ ws) (ds ++ es)
  | _, _, _, _, .nil, s => s
  | _, _, _, _, .cons r t, s => .cons r (RpAll.append t s)
theorem RpAll.take : ∀ {vs : List V} {ds : List D} (n : Nat), RpAll K Z H vs ds → RpAll K Z H (vs.take n) (ds.take n)
  | _, _, 0, _ => .nil
  | _, _, _ + 1, .nil => .nil
  | _, _, n + 1, .cons r t => .cons r (RpAll.take n t)
theorem RpAll.drop : ∀ {vs : List V} {ds : List D} (n : Nat), RpAll K Z H vs ds → RpAll K Z H (vs.drop n) (ds.drop n)
  | _, _, 0, r => r
  | _, _, _ + 1, .nil => .nil
  | _, _, n + 1, .cons _ t => RpAll.drop n t
theorem RpAll.reverse {vs : List V} {ds : List D} (h : RpAll K Z H vs ds) : RpAll K Z H vs.reverse ds.reverse := by
  induction vs generalizing ds with
  | nil => cases h; exact .nil
  | cons v r ih =>
    cases h with
    | cons h t =>
      rw [List.reverse_cons, List.reverse_cons]
      exact (ih t).append (.cons h .nil)
theorem RpAll.set {v : V} {d : D} (r : Rp K Z H v d) : ∀ {vs : List V} {ds : List D} (i : Nat), RpAll K Z H vs ds → RpAll K Z H (vs.set i v) (ds.set i d)
  | _, _, _, .nil => .nil
  | _, _, 0, .cons _ t => .cons r t
  | _, _, i + 1, .cons q t => .cons q (RpAll.set r i t)

/-! ### as the library reads them -/
mutual
theorem Rp.dp : ∀ {v : V} {d : D}, Rp K Z H v d → d.plain = true → Dp K H v d
  | _, _, .non, _ => .non
  | _, _, .bl b, _ => .bl b
  | _, _, .int i, _ => .int i
  | _, _, .str s, _ => .str s
  | _, _, .lst z h r, p => .lst (.inl (.inl h)) (RpAll.dp r p)
  | _, _, .scr _ _, p => by cases p
  | _, _, .tup h r, p => .tup h.sq (RpAll.dp r p)
  | _, _, .dic _ _ _, p => by cases p
theorem RpAll.dp : ∀ {vs : List V} {ds : List D}, RpAll K Z H vs ds → PyData.plainAll ds = true → DpAll K H vs ds
  | _, _, .nil, _ => .nil
  | _, _, .cons r t, p => by
    have p' : (_ && _) = true := p
    rw [Bool.and_eq_true] at p'
    exact .cons (Rp.dp r p'.1) (RpAll.dp t p'.2)
end

/-! ### the names of a frame -/
inductive Slot where
  | no
  | dat (d : D)
  | own (ds : List D)
  | odi (es : List (D × D))
  | raw (v : V)
abbrev Env := List Slot
def Slot.isOwn : Slot → Bool
  | .own _ => true
  | .odi _ => true
  | _ => false
variable (K Z H) in
def SlotOk : Option (Option V) → Slot → Prop
  | _, .no => True
  | o, .dat d => ∃ v, o = some (some v) ∧ Rp K Z H v d
  | o, .own ds => ∃ a xs, o = some (some (.ref a)) ∧ ¬ Z a ∧ H a = some (.lst xs) ∧ RpAll K Z H xs ds
  | o, .odi es => ∃ a kvs, o = some (some (.ref a)) ∧ ¬ Z a ∧ H a = some (.dK kvs) ∧ RpKV K Z H kvs es
  | o, .raw v => o = some (some v)
structure Base where
  Z : Addr → Prop
  H : Hp
structure EnvOk (K : PySem.W.Frag) (B : Base) (Z : Addr → Prop) (H : Hp) (σ : L2.St) (ρ : Env) : Prop where
  len : σ.length = ρ.length
  sl : ∀ (i : Nat) (s : Slot), ρ[i]? = some s → SlotOk K Z H σ[i]? s
  ap : ∀ (i j : Nat) (a : Addr) (s t : Slot), i ≠ j → ρ[i]? = some s → ρ[j]? = some t → s.isOwn = true → t.isOwn = true → σ[i]? = some (some (V.ref a)) → σ[j]? = some (some (V.ref a)) → False
  on : ∀ (i : Nat) (s : Slot) (a : Addr), ρ[i]? = some s → s.isOwn = true → σ[i]? = some (some (V.ref a)) → B.H a = none
  zt : ∀ a, Z a → H a ≠ none
  zs : ∀ a, B.Z a → Z a
  zn : ∀ a, Z a → B.Z a ∨ B.H a = none
  hs : ∀ a o, B.H a = some o → H a = some o
theorem EnvOk.base {B : Base} {σ : L2.St} {ρ : Env} (E : EnvOk K B Z H σ ρ) : Grow B.Z B.H Z H := ⟨fun _ => E.zt, E.zs, E.zn, E.hs⟩
theorem EnvOk.grow {B : Base} {σ : L2.St} {ρ : Env} (E : EnvOk K B Z H σ ρ) (g : Grow Z H Z' H') : EnvOk K B Z' H' σ ρ where
  len := E.len
  sl := fun i s h => by
    have q := E.sl i s h
    cases s with
    | no => trivial
    | dat d => obtain ⟨v, e, r⟩ := q; exact ⟨v, e, r.grow g⟩
    | own ds =>
      obtain ⟨a, xs, e, z, h, r⟩ := q
      exact ⟨a, xs, e, fun z' => (g.zn a z').elim z fun n => (by rw [h] at n; cases n), g.hs _ _ h, r.grow g⟩
    | odi es =>
      obtain ⟨a, xs, e, z, h, r⟩ := q
      exact ⟨a, xs, e, fun z' => (g.zn a z').elim z fun n => (by rw [h] at n; cases n), g.hs _ _ h, r.grow g⟩
    | raw v => exact q
  ap := E.ap
  on := E.on
  zt := g.zt E.zt
  zs := fun a h => g.zs a (E.zs a h)
  zn := fun a h => by
    rcases g.zn a h with h | h
    · exact E.zn a h
    · refine .inr ?_
      cases e : B.H a with
      | none => rfl
      | some o => rw [E.hs a o e] at h; cases h
  hs := fun a o h => g.hs a o (E.hs a o h)
end

/-! ### the judgements -/
/-- a plain reading of an expression -/
abbrev Fx := Env → R D
def post {α : Type} (k : α → Prop) (w : Str → Prop) : R α → Prop
  | .ok a => k a
  | .exc x => w x
  | .bad => False
theorem post.bind {α β : Type} {k : β → Prop} {w : Str → Prop} {m : R α} {f : α → R β} (h : post k w (m >>= f)) : post (fun a => post k w (f a)) w m := by
  cases m <;> exact h
theorem post.mono {α : Type} {k k' : α → Prop} {w w' : Str → Prop} {m : R α} (h : post k w m) (hk : ∀ a, k a → k' a) (hw : ∀ x, w x → w' x) : post k' w' m := by
  cases m with
  | ok a => exact hk a h
  | exc x => exact hw x h
  | bad => exact h
def ofO {α : Type} : Option α → R α
  | some a => .ok a
  | none => .bad
@[simp] theorem ofO_some {α : Type} (a : α) : ofO (some a) = .ok a := rfl
@[simp] theorem ofO_none {α : Type} : ofO (none : Option α) = .bad := rfl
theorem post.ofO {α : Type} {k : α → Prop} {w : Str → Prop} {o : Option α} (h : post k w (ofO o)) : ∃ a, o = some a ∧ k a := by
  cases o with
  | none => exact h.elim
  | some a => exact ⟨a, rfl, h⟩
/-- W: what is wished of an exception -/
def xWish (K : PySem.W.Frag) (Z : Addr → Prop) (H : Hp) (W : WX) (σ : L2.St) (x : Str) : Prop := ∀ Z' H', Grow Z H Z' H' → W (.ref (He.ga K x)) none σ H'
theorem xWish.grow {K : PySem.W.Frag} {Z Z' : Addr → Prop} {H H' : Hp} {W : WX} {σ : L2.St} {x : Str} (h : xWish K Z H W σ x) (g : Grow Z H Z' H') : xWish K Z' H' W σ x := fun _ _ g' => h _ _ (g.trans g')
def KP (K : PySem.W.Frag) (Z : Addr → Prop) (H : Hp) (d : D) (Q : VK) : Prop := ∀ v Z' H', Grow Z H Z' H' → Rp K Z' H' v d → Q v H'
theorem KP.grow {K : PySem.W.Frag} {Z Z' : Addr → Prop} {H H' : Hp} {d : D} {Q : VK} (h : KP K Z H d Q) (g : Grow Z H Z' H') : KP K Z' H' d Q := fun v _ _ g' r => h v _ _ (g.trans g') r
def tP (K : PySem.W.Frag) (W : WX) (f : Fx) : TE := fun σ H Q => ∃ B Z ρ, EnvOk K B Z H σ ρ ∧ post (fun d => KP K Z H d Q) (xWish K Z H W σ) (f ρ)
/-- as Rp, the top alone may be a list or a dict of the frame's own -/
def RpT (K : PySem.W.Frag) (Z : Addr → Prop) (H : Hp) (v : V) : D → Prop
  | .list ds => ∃ a xs, v = .ref a ∧ H a = some (.lst xs) ∧ RpAll K Z H xs ds
  | .dict es => (∃ a kvs, v = .ref a ∧ H a = some (.dK kvs) ∧ RpKV K Z H kvs es) ∨ ∃ (a : Addr) (_ : Unit) (xs : List V) (ds : List D), es = [(.none, .list ds)] ∧ v = .ref a ∧ SqL K H a xs ∧ RpAll K Z H xs ds
  | d => Rp K Z H v d
theorem Rp.top {K : PySem.W.Frag} {Z : Addr → Prop} {H : Hp} {v : V} {d : D} (h : Rp K Z H v d) : RpT K Z H v d := by
  cases h with
  | lst z h r => exact ⟨_, _, rfl, h, r⟩
  | dic z h r => exact .inl ⟨_, _, rfl, h, r⟩
  | scr h r => exact .inr ⟨_, (), _, _, rfl, rfl, h.sq, r⟩
  | non => exact .non
  | bl b => exact .bl b
  | int i => exact .int i
  | str s => exact .str s
  | tup h r => exact .tup h r
theorem RpT.grow {K : PySem.W.Frag} {Z Z' : Addr → Prop} {H H' : Hp} (g : Grow Z H Z' H') {v : V} {d : D} (h : RpT K Z H v d) : RpT K Z' H' v d := by
  cases d with
  | list ds => obtain ⟨a, xs, e, h, r⟩ := h; exact ⟨a, xs, e, g.hs _ _ h, r.grow g⟩
  | dict es =>
    rcases h with ⟨a, xs, e, h, r⟩ | ⟨a, o, xs, ds, e, e2, h, r⟩
    · exact .inl ⟨a, xs, e, g.hs _ _ h, r.grow g⟩
    · exact .inr ⟨a, o, xs, ds, e, e2, SqL.same g.hs h, r.grow g⟩
  | none => exact Rp.grow g h
  | bool b => exact Rp.grow g h
  | int i => exact Rp.grow g h
  | str s => exact Rp.grow g h
  | tuple ds => exact Rp.grow g h
theorem RpT.dp {K : PySem.W.Frag} {Z : Addr → Prop} {H : Hp} {v : V} {d : D} (h : RpT K Z H v d) (p : d.plain = true) : Dp K H v d := by
  cases d with
  | list ds => obtain ⟨a, xs, rfl, h, r⟩ := h; exact .lst (.inl (.inl h)) (r.dp p)
  | dict es => cases p
  | none => exact Rp.dp h p
  | bool b => exact Rp.dp h p
  | int i => exact Rp.dp h p
  | str s => exact Rp.dp h p
  | tuple ds => exact Rp.dp h p
def KO (K : PySem.W.Frag) (Z : Addr → Prop) (H : Hp) (d : D) (Q : VK) : Prop := ∀ v Z' H', Grow Z H Z' H' → RpT K Z' H' v d → Q v H'
def tO (K : PySem.W.Frag) (W : WX) (f : Fx) : TE := fun σ H Q => ∃ B Z ρ, EnvOk K B Z H σ ρ ∧ post (fun d => KO K Z H d Q) (xWish K Z H W σ) (f ρ)
/-- a new list -/
def KN (K : PySem.W.Frag) (Z : Addr → Prop) (H : Hp) (ds : List D) (Q : VK) : Prop := ∀ a Z' H' xs, Grow Z H Z' H' → H a = none → ¬ Z' a → H' a = some (.lst xs) → RpAll K Z' H' xs ds → Q (.ref a) H'
theorem KN.grow {K : PySem.W.Frag} {Z Z' : Addr → Prop} {H H' : Hp} {d : List D} {Q : VK} (h : KN K Z H d Q) (g : Grow Z H Z' H') : KN K Z' H' d Q := fun a _ _ xs g' n z e r => h a _ _ xs (g.trans g') (by
  cases q : H a with
  | none => rfl
  | some o => rw [g.hs a o q] at n; exact nomatch n) z e r
def tN (K : PySem.W.Frag) (W : WX) (f : Env → R (List D)) : TE := fun σ H Q => ∃ B Z ρ, EnvOk K B Z H σ ρ ∧ post (fun d => KN K Z H d Q) (xWish K Z H W σ) (f ρ)
def tT (K : PySem.W.Frag) (W : WX) (f : Env → R Bool) : TT := fun σ H Q => ∃ B Z ρ, EnvOk K B Z H σ ρ ∧ post (fun b => ∀ Z' H', Grow Z H Z' H' → Q b H') (xWish K Z H W σ) (f ρ)
def tAs (K : PySem.W.Frag) (W : WX) (f : Env → R (List D)) : TA := fun σ H Q => ∃ B Z ρ, EnvOk K B Z H σ ρ ∧ post (fun ds => ∀ vs Z' H', Grow Z H Z' H' → RpAll K Z' H' vs ds → Q vs H') (xWish K Z H W σ) (f ρ)
inductive Fl where
  | nx (ρ : Env)
  | rt (d : D)
  | bk (ρ : Env)
  | ct (ρ : Env)
  | exc (x : Str) (ρ : Env)
  | bad
abbrev Fs := Env → Fl
def BaseOk (B : Base) (Z : Addr → Prop) (H : Hp) : Prop := Grow B.Z B.H Z H
def postS (K : PySem.W.Frag) (B : Base) (W : WX) (D : Ends) : Fl → Prop
  | .nx ρ' => ∀ σ' Z' H', EnvOk K B Z' H' σ' ρ' → D.nx σ' H'
  | .rt d => ∀ v Z' H', BaseOk B Z' H' → Rp K Z' H' v d → D.rt v H'
  | .bk ρ' => ∀ σ' Z' H', EnvOk K B Z' H' σ' ρ' → D.bk σ' H'
  | .ct ρ' => ∀ σ' Z' H', EnvOk K B Z' H' σ' ρ' → D.ct σ' H'
  | .exc x ρ' => ∀ σ' Z' H', EnvOk K B Z' H' σ' ρ' → W (.ref (He.ga K x)) none σ' H'
  | .bad => False
def tS (K : PySem.W.Frag) (W : WX) (F : Fs) : TS := fun D σ H => ∃ B Z ρ, EnvOk K B Z H σ ρ ∧ postS K B W D (F ρ)

section
variable {X : Cx} {e : Expr} {W : WX}
theorem PE.imp {t t' : TE} (h : PE X e t) (hi : ∀ σ H Q, t' σ H Q → t σ H Q) : PE X e t' := ⟨fun pins s σ H Q I hw => h.run pins s σ H Q I (hi σ H Q hw)⟩
theorem PT.imp {t t' : TT} (h : PT X e t) (hi : ∀ σ H Q, t' σ H Q → t σ H Q) : PT X e t' := ⟨fun pins s σ H Q I hw => h.run pins s σ H Q I (hi σ H Q hw)⟩
theorem PW.imp {t t' : TT} (h : PW X e t) (hi : ∀ σ H Q, t' σ H Q → t σ H Q) : PW X e t' := ⟨fun wh pins s σ H Q I hw => h.run wh pins s σ H Q I (hi σ H Q hw)⟩
theorem PA.imp {es : List Expr} {t t' : TA} (h : PA X es t) (hi : ∀ σ H Q, t' σ H Q → t σ H Q) : PA X es t' := ⟨fun pos pins s σ H Q I hw => h.run pos pins s σ H Q I (hi σ H Q hw)⟩
theorem PS.imp {st : Stmt} {t t' : TS} (h : PS X st t) (hi : ∀ D σ H, t' D σ H → t D σ H) : PS X st t' := ⟨fun pins s σ H D I hw => h.run pins s σ H D I (hi D σ H hw)⟩
theorem PSs.imp {st : List Stmt} {t t' : TS} (h : PSs X st t) (hi : ∀ D σ H, t' D σ H → t D σ H) : PSs X st t' := ⟨fun pins s σ H D I hw => h.run pins s σ H D I (hi D σ H hw)⟩
end
end Pz

set_option maxHeartbeats 1000000
/-! The plain layer: new tuples, known whole. -/
namespace Pz
open PySem PySem.Spec L2 PyProof.Rows
/-- a place for a new tuple: the object is told, it has no __dict__ -/
abbrev NewT (H : Hp) (xs : List V) (Q : VK) : Prop := ∀ (p : Addr) (o : Obj), H p = none → o.dict = none → Q (.ref p) (upd H p (.frz o (.tup xs)))
section
variable {X : Cx} {pins : List (Addr × Obj)} {σ : L2.St} {H : Hp} {s : Shared} {Q : VK}
theorem lay_tup (I : L2.Inv X pins σ H s) {xs : List V} {us : List Value} (z : xs.length ≤ sizeLine) (r : Vals xs us) (q : NewT H xs Q) :
    EP X pins σ Q (.ref s.heap.objs.size) { s with heap := s.heap.push { cls := .type "tuple", data := .seq us.toArray } } :=
  ⟨.ref s.heap.objs.size, _, I.laid (t' := s.toks) (o := .frz { cls := .type "tuple", data := .seq us.toArray } (.tup xs)) (fun b ob e => Heap.get?_push_of_some _ e) (Nat.le_refl _)
    ⟨Heap.get?_push_size _ rfl, z, us, r, IsTup.new _ _⟩, rfl, q _ _ (I.hok.fresh (Nat.le_refl _)) rfl⟩
end
section
variable {X : Cx} {es : List Expr} {t : TA} {pos : Pos}
def tTupN (t : TA) : TE := fun σ H Q => t σ H fun xs H1 => xs.length ≤ sizeLine ∧ NewT H1 xs Q
theorem pe_tupN {x1} (h : PA X es t) : PE X (.Tuple es x1 pos) (tTupN t) := by
  refine ⟨fun pins s σ H Q I hq => wpAny_Tuple_spliced (thn (h.run pos pins s σ H _ I hq) fun us s1 ⟨xs, H1, I1, r, z, q⟩ => ⟨by rw [← r.length]; exact z, ?_⟩)⟩
  exact lay_tup I1 z r q
def rCatN (K : PySem.W.Frag) : R2 := fun x y H Q => ∃ a b xs ys, x = .ref a ∧ y = .ref b ∧ SqT K H a xs ∧ SqT K H b ys ∧ xs.length + ys.length ≤ sizeLine ∧
  (xs = [] → Q (.ref b) H) ∧ (xs ≠ [] → ys = [] → Q (.ref a) H) ∧ (xs ≠ [] → ys ≠ [] → NewT H (xs ++ ys) Q)
theorem op_catN : OpR X (binaryOp .Add) (rCatN X.K) := by
  intro pins s σ H x y v u Q I rx ry h
  obtain ⟨a, b, xs, ys, rfl, rfl, ha, hb, hz, q0, q1, q2⟩ := h
  cases rx
  cases ry
  obtain ⟨its, r1, p1, _⟩ := I.tuple ha
  obtain ⟨jts, r2, p2, _⟩ := I.tuple hb
  by_cases hx : xs = []
  · subst hx
    cases r1
    exact cat_tup0 p1 p2 ⟨.ref b, H, I, rfl, q0 rfl⟩
  · refine HT.cat_tup p1 p2 (fun z => hx (r1.nil_iff.mp z)) (fun z => ⟨.ref a, H, I, rfl, q1 hx (r2.nil_iff.mp z)⟩) (fun z => ?_) (by rw [← r1.length, ← r2.length]; exact hz)
    exact lay_tup I (by rw [List.length_append]; exact hz) (r1.append r2) (q2 hx fun w => z (r2.nil_iff.mpr w))
def rSlN' (K : PySem.W.Frag) : V → Option Int → Option Int → Hp → VK → Prop := fun x lo hi H Q => ∃ a xs, x = .ref a ∧ SqT K H a xs ∧
  (HT.sIx xs.length 0 lo = 0 ∧ HT.sIx xs.length xs.length hi = xs.length → Q (.ref a) H) ∧ (¬ (HT.sIx xs.length 0 lo = 0 ∧ HT.sIx xs.length xs.length hi = xs.length) → NewT H (cutV xs lo hi) Q)
theorem sl_tupN : SlR X (rSlN' X.K) := by
  intro pins s σ H x v vl vu lo hi sl Q I rx hs pl pu h
  obtain ⟨a, xs, rfl, hx, q1, q2⟩ := h
  cases rx
  obtain ⟨its, r, ht, hz⟩ := I.tuple hx
  have hlen : its.toArray.size = xs.length := by rw [List.size_toArray]; exact r.length.symm
  refine ⟨"tuple", _, PyProof.Rows.slot_tuple_getitem.lookup, ht.typeIs, ?_⟩
  by_cases hw : HT.sIx xs.length 0 lo = 0 ∧ HT.sIx xs.length xs.length hi = xs.length
  · exact getItem_tuple_whole ht hs pl pu (by rw [hlen]; exact hw) ⟨.ref a, H, I, rfl, q1 hw⟩
  · refine HT.getItem_tuple_cut ht hs pl pu (by rw [hlen]; exact hw) ?_ (by rw [hlen]; exact hz)
    rw [hlen]
    exact lay_tup I (Nat.le_trans (cutV_length xs lo hi) hz) ((r.drop (HT.sIx xs.length 0 lo)).take (HT.sIx xs.length xs.length hi - HT.sIx xs.length 0 lo)) (q2 hw)
theorem call_tuple_ofN : CallR X (.type "tuple") (fun xs H Q => ∃ p ys, xs = [.ref p] ∧ ((SqL X.K H p ys ∧ NewT H ys Q) ∨ (SqT X.K H p ys ∧ Q (.ref p) H))) := by
  intro pins s σ H xs us Q I r h
  obtain ⟨p, ys, rfl, h⟩ := h
  obtain ⟨u, rfl, rx⟩ := vals1 r
  cases rx
  rcases h with ⟨hq, q⟩ | ⟨hq, q⟩
  · obtain ⟨its, rv, pl, hz⟩ := I.list hq
    have hlen := rv.length
    refine call_tuple_list pl.isList (fun h' kp => ?_) (by simp only [List.size_toArray] <;> omega)
    exact lay_tup (I.kept (t' := s.toks) kp) hz rv q
  · obtain ⟨its, rv, pl, hz⟩ := I.tuple hq
    exact call_tuple_same pl ⟨.ref p, H, I, rfl, q⟩
end
end Pz

set_option maxHeartbeats 1000000
/-! The plain layer: names, constants, operators, tests. -/
namespace Pz
open PySem PySem.Spec L2

def fVar (i : Nat) : Fx := fun ρ => match ρ[i]? with
  | some (.dat d) => .ok d
  | _ => .bad
def fOwn (i : Nat) : Fx := fun ρ => match ρ[i]? with
  | some (.dat d) => .ok d
  | some (.own ds) => .ok (.list ds)
  | some (.odi es) => .ok (.dict es)
  | _ => .bad
def fC (d : D) : Fx := fun _ => .ok d
def f1 (g : D → Option D) (a : Fx) : Fx := fun ρ => a ρ >>= fun x => ofO (g x)
def f2 (g : D → D → Option D) (a b : Fx) : Fx := fun ρ => a ρ >>= fun x => b ρ >>= fun y => ofO (g x y)
def fN2 (g : D → D → Option (List D)) (a b : Fx) : Env → R (List D) := fun ρ => a ρ >>= fun x => b ρ >>= fun y => ofO (g x y)
def fLst (f : Env → R (List D)) : Fx := fun ρ => f ρ >>= fun ds => .ok (.list ds)

section
variable {X : Cx} {W : WX} {a b c e : Expr} {pos : Pos}
theorem pz_var (i : Nat) {x : Str} (hN : X.N[i]? = some x := by rfl) (hv : Vis X.env.scope x := by first | exact Or.inl rfl | exact Or.inr (Or.inl rfl) | exact Or.inr (Or.inr rfl)) (hd : (x == ("__debug__" : Str)) = false := by decide)
    (hcd : (x == ("__classdict__" : Str)) = false := by decide) : PE X (.Name x pos) (tP X.K W (fVar i)) := PE.imp (pe_var hN hv hd hcd) fun σ H Q ⟨B, Z, ρ, E, h⟩ => by
  unfold fVar at h
  cases e : ρ[i]? with
  | none => rw [e] at h; exact h.elim
  | some s =>
    rw [e] at h
    cases s with
    | dat d =>
      obtain ⟨v, hv, r⟩ := E.sl i _ e
      exact ⟨v, hv, h v Z H .refl r⟩
    | no => exact h.elim
    | own ds => exact h.elim
    | odi es => exact h.elim
    | raw v => exact h.elim
theorem po_var (i : Nat) {x : Str} (hN : X.N[i]? = some x := by rfl) (hv : Vis X.env.scope x := by first | exact Or.inl rfl | exact Or.inr (Or.inl rfl) | exact Or.inr (Or.inr rfl)) (hd : (x == ("__debug__" : Str)) = false := by decide)
    (hcd : (x == ("__classdict__" : Str)) = false := by decide) : PE X (.Name x pos) (tO X.K W (fOwn i)) := PE.imp (pe_var hN hv hd hcd) fun σ H Q ⟨B, Z, ρ, E, h⟩ => by
  unfold fOwn at h
  cases e : ρ[i]? with
  | none => rw [e] at h; exact h.elim
  | some s =>
    rw [e] at h
    cases s with
    | dat d =>
      obtain ⟨v, hv, r⟩ := E.sl i _ e
      exact ⟨v, hv, h v Z H .refl r.top⟩
    | no => exact h.elim
    | own ds =>
      obtain ⟨l, xs, hv, z, hl, r⟩ := E.sl i _ e
      exact ⟨_, hv, h _ Z H .refl ⟨l, xs, rfl, hl, r⟩⟩
    | odi es =>
      obtain ⟨l, xs, hv, z, hl, r⟩ := E.sl i _ e
      exact ⟨_, hv, h _ Z H .refl (.inl ⟨l, xs, rfl, hl, r⟩)⟩
    | raw v => exact h.elim
theorem pz_c {v : V} {d : D} (h : PE X e (tC v)) (r : ∀ Z H, Rp X.K Z H v d) : PE X e (tP X.K W (fC d)) := PE.imp h fun σ H Q ⟨B, Z, ρ, E, h⟩ => h v Z H .refl (r Z H)
theorem pz_int {i : Int} {j} : PE X (.Constant (.int i) j pos) (tP X.K W (fC (.int i))) := pz_c pe_int fun _ _ => .int i
theorem pz_bl {i : Bool} {j} : PE X (.Constant (.bool i) j pos) (tP X.K W (fC (.bool i))) := pz_c pe_bl fun _ _ => .bl i
theorem pz_non {j} : PE X (.Constant .none j pos) (tP X.K W (fC .none)) := pz_c pe_non fun _ _ => .non
theorem pz_str {i : Str} {j} : PE X (.Constant (.str i) j pos) (tP X.K W (fC (.str i))) := pz_c pe_str fun _ _ => .str i
theorem pz_gint {x : Str} {i : Int} (hg : Gl X x) (hm : ∃ t, X.mg x = some (.int i t)) (hd : (x == ("__debug__" : Str)) = false := by decide) : PE X (.Name x pos) (tP X.K W (fC (.int i))) := by
  obtain ⟨t, hm⟩ := hm
  exact pz_c (v := .int i) (pe_glob hg hm ⟨t, rfl⟩ hd) fun _ _ => .int i
theorem pz_gstr {x : Str} {i : Str} (hg : Gl X x) (hm : ∃ t, X.mg x = some (.str i t)) (hd : (x == ("__debug__" : Str)) = false := by decide) : PE X (.Name x pos) (tP X.K W (fC (.str i))) := by
  obtain ⟨t, hm⟩ := hm
  exact pz_c (v := .str i) (pe_glob hg hm ⟨t, rfl⟩ hd) fun _ _ => .str i
theorem po_of {f : Fx} (h : PE X e (tP X.K W f)) : PE X e (tO X.K W f) := PE.imp h fun σ H Q ⟨B, Z, ρ, E, h⟩ => ⟨B, Z, ρ, E, h.mono (fun d k v Z' H' g r => k v Z' H' g r.top) fun _ w => w⟩
end
/-- one place more is frozen -/
abbrev addZ (Z : Addr → Prop) (a : Addr) : Addr → Prop := fun b => Z b ∨ b = a
theorem Keeps.addZ {K : PySem.W.Frag} {Z : Addr → Prop} {H : Hp} {a : Addr} : Keeps K Z H (Pz.addZ Z a) H := ⟨fun _ h => .inl h, fun _ _ _ h => h, fun _ _ h => h, fun _ _ h => h⟩
theorem Grow.addZ {Z Z' : Addr → Prop} {H H' : Hp} {a : Addr} (g : Grow Z H Z' H') (n : H a = none) (n' : H' a ≠ none) : Grow Z H (Pz.addZ Z' a) H' where
  zt := fun h b hb => by
    rcases hb with hb | hb
    · exact g.zt h b hb
    · rw [hb]; exact n'
  zs := fun b h => .inl (g.zs b h)
  zn := fun b hb => by
    rcases hb with hb | hb
    · exact g.zn b hb
    · rw [hb]; exact .inr n
  hs := g.hs
/-- a new list is frozen -/
theorem KP.kn {K : PySem.W.Frag} {Z : Addr → Prop} {H : Hp} {ds : List D} {Q : VK} (h : KP K Z H (.list ds) Q) : KN K Z H ds Q := fun a Z' H' xs g n z e r =>
  h (.ref a) _ H' (g.addZ n (by rw [e]; exact fun q => nomatch q)) (.lst (.inr rfl) e (r.keep .addZ))
theorem grow_upd {Z : Addr → Prop} {H : Hp} {p : Addr} {o : HO} (n : H p = none) : Grow Z H Z (upd H p o) where
  zt := fun h a z => by
    by_cases e : a = p
    · rw [e, upd_same]; exact fun q => nomatch q
    · rw [upd_ne e]; exact h a z
  zs := fun _ h => h
  zn := fun _ h => .inl h
  hs := fun a u e => by rw [upd_ne (ne_of_none e n)]; exact e
theorem KP.tup {K : PySem.W.Frag} {Z : Addr → Prop} {H : Hp} {ds : List D} {xs : List V} {Q : VK} (h : KP K Z H (.tuple ds) Q) (r : RpAll K Z H xs ds) : ∀ (p : Addr) (o : Obj), H p = none → o.dict = none → Q (.ref p) (upd H p (.frz o (.tup xs))) := fun p o n e =>
  h _ Z _ (grow_upd n) (.tup ⟨o, upd_same, e⟩ (r.grow (grow_upd n)))
theorem KN.lst {K : PySem.W.Frag} {Z : Addr → Prop} {H : Hp} {ds : List D} {xs : List V} {Q : VK} (h : KN K Z H ds Q) (zt : ∀ a, Z a → H a ≠ none) (r : RpAll K Z H xs ds) : ∀ p, H p = none → Q (.ref p) (upd H p (.lst xs)) := fun p n =>
  h p Z _ xs (grow_upd n) n (fun z => zt p z n) upd_same (r.grow (grow_upd n))
section
variable {X : Cx} {W : WX} {a b c e : Expr} {pos : Pos}
theorem pz_new {f : Env → R (List D)} (h : PE X e (tN X.K W f)) : PE X e (tP X.K W (fLst f)) := PE.imp h fun σ H Q ⟨B, Z, ρ, E, h⟩ => ⟨B, Z, ρ, E, h.bind.mono (fun d k => KP.kn k) fun _ w => w⟩

/-! ### operators -/
/-- r does at least g -/
def Op2 (K : PySem.W.Frag) (r : R2) (g : D → D → Option D) : Prop := ∀ (Z : Addr → Prop) (H : Hp) (x y : V) (d e q : D), (∀ a, Z a → H a ≠ none) → RpT K Z H x d → RpT K Z H y e → g d e = some q → ∀ Q, KP K Z H q Q → r x y H Q
def Op2N (K : PySem.W.Frag) (r : R2) (g : D → D → Option (List D)) : Prop := ∀ (Z : Addr → Prop) (H : Hp) (x y : V) (d e : D) (q : List D), (∀ a, Z a → H a ≠ none) → RpT K Z H x d → RpT K Z H y e → g d e = some q → ∀ Q, KN K Z H q Q → r x y H Q
theorem Op2.or {K : PySem.W.Frag} {r r' : R2} {g g' : D → D → Option D} (h : Op2 K r g) (h' : Op2 K r' g') : Op2 K (fun x y H Q => r x y H Q ∨ r' x y H Q) (fun x y => (g x y).orElse fun _ => g' x y) := fun Z H x y d e q zt rx ry hg Q k => by
  cases eg : g d e with
  | some z =>
    simp only [eg, Option.orElse_some] at hg
    cases hg
    exact .inl (h Z H x y d e _ zt rx ry eg Q k)
  | none =>
    simp only [eg, Option.orElse_none] at hg
    exact .inr (h' Z H x y d e _ zt rx ry hg Q k)
theorem op_in {r : R2} {g : D → D → Option D} (hr : Op2 X.K r g) {fa fb : Fx} {σ : L2.St} {H : Hp} {Q : VK} (h : tP X.K W (f2 g fa fb) σ H Q) : tOp r (tO X.K W fa) (tO X.K W fb) σ H Q := by
  obtain ⟨B, Z, ρ, E, h⟩ := h
  refine ⟨B, Z, ρ, E, h.bind.mono (fun d h1 v Z1 H1 g1 r1 => ⟨B, Z1, ρ, E.grow g1, h1.bind.mono (fun d2 h2 v2 Z2 H2 g2 r2 => ?_) fun _ w => w.grow g1⟩) fun _ w => w⟩
  obtain ⟨q, eq, k⟩ := h2.ofO
  exact hr Z2 H2 v v2 d d2 q (E.grow (g1.trans g2)).zt (r1.grow g2) r2 eq Q (k.grow (g1.trans g2))
theorem op_inN {r : R2} {g : D → D → Option (List D)} (hr : Op2N X.K r g) {fa fb : Fx} {σ : L2.St} {H : Hp} {Q : VK} (h : tN X.K W (fN2 g fa fb) σ H Q) : tOp r (tO X.K W fa) (tO X.K W fb) σ H Q := by
  obtain ⟨B, Z, ρ, E, h⟩ := h
  refine ⟨B, Z, ρ, E, h.bind.mono (fun d h1 v Z1 H1 g1 r1 => ⟨B, Z1, ρ, E.grow g1, h1.bind.mono (fun d2 h2 v2 Z2 H2 g2 r2 => ?_) fun _ w => w.grow g1⟩) fun _ w => w⟩
  obtain ⟨q, eq, k⟩ := h2.ofO
  exact hr Z2 H2 v v2 d d2 q (E.grow (g1.trans g2)).zt (r1.grow g2) r2 eq Q (k.grow (g1.trans g2))
variable {fa fb : Fx} {g : D → D → Option D}
theorem pz_op {op : Operator} {r : R2} (ho : OpR X (binaryOp op) r) (hr : Op2 X.K r g) (ha : PE X a (tO X.K W fa)) (hb : PE X b (tO X.K W fb)) : PE X (.BinOp a op b pos) (tP X.K W (f2 g fa fb)) := PE.imp (pe_op ho ha hb) fun _ _ _ h => op_in hr h
theorem pn_op {op : Operator} {r : R2} {g : D → D → Option (List D)} (ho : OpR X (binaryOp op) r) (hr : Op2N X.K r g) (ha : PE X a (tO X.K W fa)) (hb : PE X b (tO X.K W fb)) : PE X (.BinOp a op b pos) (tN X.K W (fN2 g fa fb)) := PE.imp (pe_op ho ha hb) fun _ _ _ h => op_inN hr h
theorem pz_cmp {op : CmpOp} {r : R2} (ho : OpR X (compareOp op) r) (hr : Op2 X.K r g) (ha : PE X a (tO X.K W fa)) (hb : PE X b (tO X.K W fb)) (hm : behindInMarks op b = false) : PE X (.Compare a [op] [b] pos) (tP X.K W (f2 g fa fb)) := PE.imp (pe_cmpR ho ha hb hm) fun _ _ _ h => op_in hr h

/-! ### tests -/
def asB : D → Option Bool
  | .bool b => some b
  | _ => none
/-- a value as a test: a truth -/
def fB (f : Fx) : Env → R Bool := fun ρ => f ρ >>= fun d => ofO (asB d)
theorem asB_some {d : D} {b : Bool} (h : asB d = some b) : d = .bool b := by
  cases d <;> first | (cases h; rfl) | exact nomatch h
theorem rpb {K : PySem.W.Frag} {Z : Addr → Prop} {H : Hp} {v : V} {b : Bool} (h : Rp K Z H v (.bool b)) : v = .bl b := by
  cases h; rfl
theorem tB_of {fa : Fx} {σ : L2.St} {H : Hp} {Q : Bool → Hp → Prop} (h : tT X.K W (fB fa) σ H Q) : tP X.K W fa σ H fun x H1 => ∃ c, x = .bl c ∧ Q c H1 := by
  obtain ⟨B, Z, ρ, E, h⟩ := h
  refine ⟨B, Z, ρ, E, h.bind.mono (fun d h1 v Z' H' g r => ?_) fun _ w => w⟩
  obtain ⟨c, ec, k⟩ := h1.ofO
  cases asB_some ec
  exact ⟨c, rpb r, k Z' H' g⟩
theorem pt_z (h : PE X e (tP X.K W fa)) (he : ∀ whole, isTrue e X.env whole = (do let v ← whole; standAt e.pos; holding [v] (truthy v)) := by intro _; rfl) : PT X e (tT X.K W (fB fa)) := PT.imp (pt_val h he) fun _ _ _ h => tB_of h
theorem pt_cmpz {op : CmpOp} {r : R2} (ho : OpR X (compareOp op) r) (hr : Op2 X.K r g) (ha : PE X a (tO X.K W fa)) (hb : PE X b (tO X.K W fb)) (hm : behindInMarks op b = false) : PT X (.Compare a [op] [b] pos) (tT X.K W (fB (f2 g fa fb))) := by
  refine PT.imp (pt_cmpR ho ha hb hm) fun σ H Q h => ?_
  exact op_in hr (tB_of h)
def fNot (f : Env → R Bool) : Env → R Bool := fun ρ => f ρ >>= fun b => .ok (!b)
def fAnd (f u : Env → R Bool) : Env → R Bool := fun ρ => f ρ >>= fun b => match b with | true => u ρ | false => .ok false
def fOr (f u : Env → R Bool) : Env → R Bool := fun ρ => f ρ >>= fun b => match b with | true => .ok true | false => u ρ
def fIf (t : Env → R Bool) (f u : Fx) : Fx := fun ρ => t ρ >>= fun b => match b with | true => f ρ | false => u ρ
variable {tA tB : Env → R Bool} {rest : List Expr}
theorem tz_not (ha : PT X a (tT X.K W tA)) : PT X (.UnaryOp .Not a pos) (tT X.K W (fNot tA)) := PT.imp (pt_not ha) fun σ H Q ⟨B, Z, ρ, E, h⟩ =>
  ⟨B, Z, ρ, E, h.bind.mono (fun b k Z' H' g => k Z' H' g) fun _ w => w⟩
theorem tz_and1 (ha : PT X a (tT X.K W tA)) : PW X (.BoolOp .And [a] pos) (tT X.K W tA) := pw_and1 ha
theorem tz_or1 (ha : PT X a (tT X.K W tA)) : PW X (.BoolOp .Or [a] pos) (tT X.K W tA) := pw_or1 ha
theorem tz_and (ha : PT X a (tT X.K W tA)) (hb : PW X (.BoolOp .And (b :: rest) pos) (tT X.K W tB)) : PW X (.BoolOp .And (a :: b :: rest) pos) (tT X.K W (fAnd tA tB)) := PW.imp (pw_and ha hb) fun σ H Q ⟨B, Z, ρ, E, h⟩ => by
  refine ⟨B, Z, ρ, E, h.bind.mono (fun b k Z' H' g => ?_) fun _ w => w⟩
  cases b with
  | true => exact iteT ⟨B, Z', ρ, E.grow g, post.mono k (fun b k Z2 H2 g2 => k Z2 H2 (g.trans g2)) fun _ w => w.grow g⟩
  | false => exact iteF (k Z' H' g)
theorem tz_or (ha : PT X a (tT X.K W tA)) (hb : PW X (.BoolOp .Or (b :: rest) pos) (tT X.K W tB)) : PW X (.BoolOp .Or (a :: b :: rest) pos) (tT X.K W (fOr tA tB)) := PW.imp (pw_or ha hb) fun σ H Q ⟨B, Z, ρ, E, h⟩ => by
  refine ⟨B, Z, ρ, E, h.bind.mono (fun b k Z' H' g => ?_) fun _ w => w⟩
  cases b with
  | true => exact iteT (k Z' H' g)
  | false => exact iteF ⟨B, Z', ρ, E.grow g, post.mono k (fun b k Z2 H2 g2 => k Z2 H2 (g.trans g2)) fun _ w => w.grow g⟩
theorem pz_if (hc : PT X c (tT X.K W tA)) (ha : PE X a (tP X.K W fa)) (hb : PE X b (tP X.K W fb)) : PE X (.IfExp c a b pos) (tP X.K W (fIf tA fa fb)) := PE.imp (pe_ifExp hc ha hb) fun σ H Q ⟨B, Z, ρ, E, h⟩ => by
  refine ⟨B, Z, ρ, E, h.bind.mono (fun b k Z' H' g => ?_) fun _ w => w⟩
  cases b with
  | true => exact iteT ⟨B, Z', ρ, E.grow g, post.mono k (fun b k => k.grow g) fun _ w => w.grow g⟩
  | false => exact iteF ⟨B, Z', ρ, E.grow g, post.mono k (fun b k => k.grow g) fun _ w => w.grow g⟩
/-! ### and, or, not as values -/
def fAndV (f u : Fx) : Fx := fun ρ => f ρ >>= fun d => ofO (asB d) >>= fun b => match b with | true => u ρ | false => .ok (.bool false)
def fOrV (f u : Fx) : Fx := fun ρ => f ρ >>= fun d => ofO (asB d) >>= fun b => match b with | true => .ok (.bool true) | false => u ρ
def fNotV (f : Fx) : Fx := fun ρ => f ρ >>= fun d => ofO (asB d) >>= fun b => .ok (.bool (!b))
theorem vz_one {op} (ha : PE X a (tP X.K W fa)) : PE X (.BoolOp op [a] pos) (tP X.K W fa) := pe_one ha
theorem vz_and (ha : PE X a (tP X.K W fa)) (hb : PE X (.BoolOp .And (b :: rest) pos) (tP X.K W fb)) : PE X (.BoolOp .And (a :: b :: rest) pos) (tP X.K W (fAndV fa fb)) := PE.imp (pe_and ha hb) fun σ H Q ⟨B, Z, ρ, E, h⟩ => by
  refine ⟨B, Z, ρ, E, h.bind.mono (fun d h1 v Z' H' g r => ?_) fun _ w => w⟩
  obtain ⟨b, eb, k⟩ := h1.bind.ofO
  cases asB_some eb
  refine ⟨b, rpb r, ?_⟩
  cases b with
  | true => exact iteT ⟨B, Z', ρ, E.grow g, post.mono k (fun b k => k.grow g) fun _ w => w.grow g⟩
  | false => exact iteF (k _ Z' H' g (.bl _))
theorem vz_or (ha : PE X a (tP X.K W fa)) (hb : PE X (.BoolOp .Or (b :: rest) pos) (tP X.K W fb)) : PE X (.BoolOp .Or (a :: b :: rest) pos) (tP X.K W (fOrV fa fb)) := PE.imp (pe_or ha hb) fun σ H Q ⟨B, Z, ρ, E, h⟩ => by
  refine ⟨B, Z, ρ, E, h.bind.mono (fun d h1 v Z' H' g r => ?_) fun _ w => w⟩
  obtain ⟨b, eb, k⟩ := h1.bind.ofO
  cases asB_some eb
  refine ⟨b, rpb r, ?_⟩
  cases b with
  | true => exact iteT (k _ Z' H' g (.bl _))
  | false => exact iteF ⟨B, Z', ρ, E.grow g, post.mono k (fun b k => k.grow g) fun _ w => w.grow g⟩
theorem vz_not (ha : PE X a (tP X.K W fa)) : PE X (.UnaryOp .Not a pos) (tP X.K W (fNotV fa)) := PE.imp (pe_not ha) fun σ H Q ⟨B, Z, ρ, E, h⟩ => by
  refine ⟨B, Z, ρ, E, h.bind.mono (fun d h1 v Z' H' g r => ?_) fun _ w => w⟩
  obtain ⟨b, eb, k⟩ := h1.bind.ofO
  cases asB_some eb
  exact ⟨b, rpb r, k _ Z' H' g (.bl _)⟩
end
/-! ### chains -/
def fChain (g g' : D → D → Option D) (fa fb fc : Fx) : Fx := fun ρ => fa ρ >>= fun x => fb ρ >>= fun y => ofO (g x y) >>= fun d => ofO (asB d) >>= fun b => match b with
  | true => fc ρ >>= fun z => ofO (g' y z)
  | false => .ok (.bool false)
section
variable {X : Cx} {W : WX} {a b c e : Expr} {pos : Pos} {fa fb fc : Fx} {g g' : D → D → Option D}
theorem chain_in {r r' : R2} (hr : Op2 X.K r g) (hr' : Op2 X.K r' g') {σ : L2.St} {H : Hp} {Q : VK} (h : tP X.K W (fChain g g' fa fb fc) σ H Q) : tChain r r' (tO X.K W fa) (tO X.K W fb) (tO X.K W fc) σ H Q := by
  obtain ⟨B, Z, ρ, E, h⟩ := h
  refine ⟨B, Z, ρ, E, h.bind.mono (fun d h1 v Z1 H1 g1 r1 => ⟨B, Z1, ρ, E.grow g1, h1.bind.mono (fun d2 h2 v2 Z2 H2 g2 r2 => ?_) fun _ w => w.grow g1⟩) fun _ w => w⟩
  obtain ⟨q, eq, h3⟩ := h2.bind.ofO
  obtain ⟨c, ec, h4⟩ := (post.bind h3).ofO
  cases asB_some ec
  refine hr Z2 H2 v v2 d d2 _ (E.grow (g1.trans g2)).zt (r1.grow g2) r2 eq _ fun z Z3 H3 g3 r3 => ⟨c, rpb r3, ?_⟩
  cases c with
  | false => exact iteF (h4 _ Z3 H3 (g1.trans (g2.trans g3)) (.bl _))
  | true =>
    refine iteT ⟨B, Z3, ρ, E.grow (g1.trans (g2.trans g3)), (post.bind h4).mono (fun d4 h5 v4 Z4 H4 g4 r4 => ?_) fun _ w => w.grow (g1.trans (g2.trans g3))⟩
    obtain ⟨q5, eq5, k⟩ := h5.ofO
    have G := g1.trans (g2.trans (g3.trans g4))
    exact hr' Z4 H4 v2 v4 d2 d4 q5 (E.grow G).zt (r2.grow (g3.trans g4)) r4 eq5 Q (k.grow G)
theorem pz_chain {op op' : CmpOp} {r r' : R2} (ho : OpR X (compareOp op) r) (hr : Op2 X.K r g) (ho' : OpR X (compareOp op') r') (hr' : Op2 X.K r' g') (ha : PE X a (tO X.K W fa)) (hb : PE X b (tO X.K W fb)) (hc : PE X c (tO X.K W fc))
    (hm : lastMarks [op, op'] [b, c] = false := by with_unfolding_all rfl) : PE X (.Compare a [op, op'] [b, c] pos) (tP X.K W (fChain g g' fa fb fc)) := PE.imp (pe_chain ho ho' ha hb hc hm) fun _ _ _ h => chain_in hr hr' h
theorem pt_chainz {op op' : CmpOp} {r r' : R2} (ho : OpR X (compareOp op) r) (hr : Op2 X.K r g) (ho' : OpR X (compareOp op') r') (hr' : Op2 X.K r' g') (ha : PE X a (tO X.K W fa)) (hb : PE X b (tO X.K W fb)) (hc : PE X c (tO X.K W fc))
    (hm : lastMarks [op, op'] [b, c] = false := by with_unfolding_all rfl) : PT X (.Compare a [op, op'] [b, c] pos) (tT X.K W (fB (fChain g g' fa fb fc))) := PT.imp (pt_chain ho ho' ha hb hc hm) fun _ _ _ h => chain_in hr hr' (tB_of h)
end
end Pz

set_option maxHeartbeats 1000000
/-! The plain layer: what the operators do with data. -/
namespace Pz
open PySem PySem.Spec L2

theorem lim_line {n : Nat} (h : n ≤ 1000000) : n ≤ sizeLine := by rw [sizeLine_eq]; omega
section
variable {K : PySem.W.Frag} {Z : Addr → Prop} {H : Hp} {x : V}
theorem rpi {i : Int} (h : RpT K Z H x (.int i)) : x = .int i := by cases (show Rp K Z H x (.int i) from h); rfl
theorem rps {s : Str} (h : RpT K Z H x (.str s)) : x = .str s := by cases (show Rp K Z H x (.str s) from h); rfl
theorem rpbl {b : Bool} (h : RpT K Z H x (.bool b)) : x = .bl b := rpb h
theorem rpn (h : RpT K Z H x .none) : x = .non := by cases (show Rp K Z H x .none from h); rfl
theorem rpt {ds : List D} (h : RpT K Z H x (.tuple ds)) : ∃ a xs, x = .ref a ∧ SqT K H a xs ∧ RpAll K Z H xs ds := by
  cases (show Rp K Z H x (.tuple ds) from h) with
  | tup h2 r => exact ⟨_, _, rfl, h2.sq, r⟩
theorem rptN {ds : List D} (h : RpT K Z H x (.tuple ds)) : ∃ a xs, x = .ref a ∧ TpN H a xs ∧ RpAll K Z H xs ds := by
  cases (show Rp K Z H x (.tuple ds) from h) with
  | tup h2 r => exact ⟨_, _, rfl, h2, r⟩
theorem rpl {ds : List D} (h : RpT K Z H x (.list ds)) : ∃ a xs, x = .ref a ∧ H a = some (.lst xs) ∧ RpAll K Z H xs ds := h
theorem RpAll.nil_iff {xs : List V} {ds : List D} (h : RpAll K Z H xs ds) : xs = [] ↔ ds = [] := by
  cases h <;> simp
end

/-! ### + -/
def dCat : D → D → Option (List D)
  | .list xs, .list ys => if xs.length + ys.length ≤ 1000000 then some (xs ++ ys) else none
  | _, _ => none
def dAdd : D → D → Option D
  | .int i, .int j => some (.int (i + j))
  | .str s, .str t => if s.length + t.length ≤ 1000000 then some (.str (s ++ t)) else none
  | .tuple xs, .tuple ys => if xs.length + ys.length ≤ 1000000 then some (.tuple (xs ++ ys)) else none
  | .list xs, .list ys => if xs.length + ys.length ≤ 1000000 then some (.list (xs ++ ys)) else none
  | _, _ => none
theorem op2_cat {K : PySem.W.Frag} : Op2N K rCat dCat := fun Z H x y d e q zt rx ry hg Q k => by
  unfold dCat at hg
  split at hg
  rotate_left
  · cases hg
  split at hg <;> cases hg
  rename_i hl
  obtain ⟨a, xs, rfl, ha, r1⟩ := rpl rx
  obtain ⟨b, ys, rfl, hb, r2⟩ := rpl ry
  refine ⟨a, b, xs, ys, rfl, rfl, ha, hb, lim_line (by rw [r1.length, r2.length]; exact hl), k.lst zt (r1.append r2)⟩
def rAdd0 (K : PySem.W.Frag) : R2 := fun x y H Q => (∃ i j, x = .int i ∧ y = .int j ∧ Q (.int (i + j)) H) ∨ (∃ i j, x = .str i ∧ y = .str j ∧ i.length + j.length ≤ sizeLine ∧ Q (.str (i ++ j)) H) ∨ rCatN K x y H Q ∨ rCat x y H Q
theorem op_add0 {X : Cx} : OpR X (binaryOp .Add) (rAdd0 X.K) := op_add.or (op_add_str.or (op_catN.or op_cat))
theorem op2_add {K : PySem.W.Frag} : Op2 K (rAdd0 K) dAdd := fun Z H x y d e q zt rx ry hg Q k => by
  unfold dAdd at hg
  split at hg
  · cases hg
    cases rpi rx; cases rpi ry
    exact .inl ⟨_, _, rfl, rfl, k _ Z H .refl (.int _)⟩
  · split at hg <;> cases hg
    cases rps rx; cases rps ry
    exact .inr (.inl ⟨_, _, rfl, rfl, lim_line (by assumption), k _ Z H .refl (.str _)⟩)
  · split at hg <;> cases hg
    rename_i hl
    obtain ⟨a, xs, rfl, ha, r1⟩ := rptN rx
    obtain ⟨b, ys, rfl, hb, r2⟩ := rptN ry
    refine .inr (.inr (.inl ⟨a, b, xs, ys, rfl, rfl, ha.sq, hb.sq, lim_line (by rw [r1.length, r2.length]; exact hl), fun e => ?_, fun _ e => ?_, fun _ _ => k.tup (r1.append r2)⟩))
    · subst e
      cases r1
      exact k _ Z H .refl (.tup hb r2)
    · subst e
      cases r2
      refine k _ Z H .refl (.tup ha ?_)
      rw [List.append_nil]; exact r1
  · split at hg <;> cases hg
    rename_i hl
    exact .inr (.inr (.inr (op2_cat Z H x y _ _ _ zt rx ry (if_pos hl) Q k.kn)))
  · exact nomatch hg
/-! ### - * // % and the sign -/
def dSub : D → D → Option D
  | .int i, .int j => some (.int (i - j))
  | _, _ => none
theorem op2_sub {K : PySem.W.Frag} : Op2 K (rI0 fun i j => .int (i - j)) dSub := fun Z H x y d e q zt rx ry hg Q k => by
  unfold dSub at hg
  split at hg <;> cases hg
  cases rpi rx; cases rpi ry
  exact ⟨_, _, rfl, rfl, k _ Z H .refl (.int _)⟩
def dMod : D → D → Option D
  | .int i, .int j => if 0 < j then some (.int (i % j)) else none
  | _, _ => none
theorem op2_mod {K : PySem.W.Frag} : Op2 K (rI (fun _ j => 0 < j) fun i j => .int (i % j)) dMod := fun Z H x y d e q zt rx ry hg Q k => by
  unfold dMod at hg
  split at hg
  rotate_left
  · cases hg
  split at hg <;> cases hg
  cases rpi rx; cases rpi ry
  exact ⟨_, _, rfl, rfl, by assumption, k _ Z H .refl (.int _)⟩
def dDiv : D → D → Option D
  | .int i, .int j => if 0 < j ∧ j < 1073741824 then some (.int (i / j)) else none
  | _, _ => none
theorem op2_div {K : PySem.W.Frag} : Op2 K (rI CDiv fun i j => .int (i / j)) dDiv := fun Z H x y d e q zt rx ry hg Q k => by
  unfold dDiv at hg
  split at hg
  rotate_left
  · cases hg
  split at hg <;> cases hg
  cases rpi rx; cases rpi ry
  exact ⟨_, _, rfl, rfl, by assumption, k _ Z H .refl (.int _)⟩
def dNeg : D → Option D
  | .int i => some (.int (-i))
  | _ => none
section
variable {X : Cx} {W : WX} {a b c e : Expr} {pos : Pos} {fa fb fc : Fx}
theorem pz_neg (ha : PE X a (tP X.K W fa)) : PE X (.UnaryOp .USub a pos) (tP X.K W (f1 dNeg fa)) := PE.imp (pe_un un_neg ha) fun σ H Q ⟨B, Z, ρ, E, h⟩ => by
  refine ⟨B, Z, ρ, E, h.bind.mono (fun d h1 v Z' H' g r => ?_) fun _ w => w⟩
  obtain ⟨q, eq, k⟩ := h1.ofO
  unfold dNeg at eq
  split at eq <;> cases eq
  cases r
  exact ⟨_, rfl, k _ Z' H' g (.int _)⟩
end
/-! ### the orders of ints and texts -/
def strLt (s t : Str) : Bool := decide (s.cps.toList < t.cps.toList)
def dLt : D → D → Option D
  | .int i, .int j => some (.bool (decide (i < j)))
  | .str s, .str t => some (.bool (strLt s t))
  | _, _ => none
def dLe : D → D → Option D
  | .int i, .int j => some (.bool (decide (i ≤ j)))
  | .str s, .str t => some (.bool (!strLt t s))
  | _, _ => none
def dGt : D → D → Option D
  | .int i, .int j => some (.bool (decide (j < i)))
  | .str s, .str t => some (.bool (strLt t s))
  | _, _ => none
def dGe : D → D → Option D
  | .int i, .int j => some (.bool (decide (j ≤ i)))
  | .str s, .str t => some (.bool (!strLt s t))
  | _, _ => none
def rOrd (f : Int → Int → Bool) (g : Str → Str → Bool) : R2 := fun x y H Q => (∃ i j, x = .int i ∧ y = .int j ∧ Q (.bl (f i j)) H) ∨ ∃ i j, x = .str i ∧ y = .str j ∧ Q (.bl (g i j)) H
theorem op2_ord {K : PySem.W.Frag} {f : Int → Int → Bool} {g : Str → Str → Bool} {G : D → D → Option D} (h : ∀ d e q, G d e = some q → (∃ i j, d = .int i ∧ e = .int j ∧ q = .bool (f i j)) ∨ ∃ i j, d = .str i ∧ e = .str j ∧ q = .bool (g i j)) : Op2 K (rOrd f g) G := fun Z H x y d e q zt rx ry hg Q k => by
  rcases h d e q hg with ⟨i, j, rfl, rfl, rfl⟩ | ⟨i, j, rfl, rfl, rfl⟩
  · cases rpi rx; cases rpi ry
    exact .inl ⟨_, _, rfl, rfl, k _ Z H .refl (.bl _)⟩
  · cases rps rx; cases rps ry
    exact .inr ⟨_, _, rfl, rfl, k _ Z H .refl (.bl _)⟩
theorem op_lt0 {X : Cx} : OpR X (compareOp .Lt) (rOrd (fun i j => decide (i < j)) strLt) := op_lt.or op_lt_str
theorem op_le0 {X : Cx} : OpR X (compareOp .LtE) (rOrd (fun i j => decide (i ≤ j)) fun s t => !strLt t s) := op_le.or op_le_str
theorem op_gt0 {X : Cx} : OpR X (compareOp .Gt) (rOrd (fun i j => decide (j < i)) fun s t => strLt t s) := op_gt.or op_gt_str
theorem op_ge0 {X : Cx} : OpR X (compareOp .GtE) (rOrd (fun i j => decide (j ≤ i)) fun s t => !strLt s t) := op_ge.or op_ge_str
theorem op2_lt {K : PySem.W.Frag} : Op2 K (rOrd (fun i j => decide (i < j)) strLt) dLt := op2_ord fun d e q h => by
  unfold dLt at h; split at h <;> cases h <;> simp
theorem op2_le {K : PySem.W.Frag} : Op2 K (rOrd (fun i j => decide (i ≤ j)) fun s t => !strLt t s) dLe := op2_ord fun d e q h => by
  unfold dLe at h; split at h <;> cases h <;> simp
theorem op2_gt {K : PySem.W.Frag} : Op2 K (rOrd (fun i j => decide (j < i)) fun s t => strLt t s) dGt := op2_ord fun d e q h => by
  unfold dGt at h; split at h <;> cases h <;> simp
theorem op2_ge {K : PySem.W.Frag} : Op2 K (rOrd (fun i j => decide (j ≤ i)) fun s t => !strLt s t) dGe := op2_ord fun d e q h => by
  unfold dGe at h; split at h <;> cases h <;> simp
/-! ### == and != -/
/-- the two may be compared: no dicts, and not too deep -/
def eqOk (d e : D) : Bool := d.plain && e.plain && decide (min d.depth e.depth ≤ 60)
def dEqB : D → D → Option Bool
  | .dict [(.none, .list ds)], .list [] => some ds.isEmpty
  | d, e => if eqOk d e then some (PyData.eqv d e) else none
def dEq (d e : D) : Option D := (dEqB d e).map .bool
def dNe (d e : D) : Option D := (dEqB d e).map fun b => .bool (!b)
def rEqP (K : PySem.W.Frag) (s : Bool → Bool) : R2 := fun x y H Q => ∃ d e, Dp K H x d ∧ Dp K H y e ∧ d.plain = true ∧ e.plain = true ∧ min d.depth e.depth ≤ 60 ∧ Q (.bl (s (PyData.eqv d e))) H
theorem op_eq0 {X : Cx} (hu : X.A.units + 64 < cLine) : OpR X (compareOp .Eq) (rEqP X.K id) := by
  intro pins s σ H x y v u Q I rx ry h
  obtain ⟨d, e, hd, he, pd, pe, dl, q⟩ := h
  obtain ⟨as, r1⟩ := Dp.reads I d x v hd rx
  obtain ⟨bs, r2⟩ := Dp.reads I e y u he ry
  exact SeqAt.eq_plain r1 r2 pd pe (by omega) ⟨.bl _, H, I, rfl, q⟩
theorem op_ne0 {X : Cx} (hu : X.A.units + 64 < cLine) : OpR X (compareOp .NotEq) (rEqP X.K not) := by
  intro pins s σ H x y v u Q I rx ry h
  obtain ⟨d, e, hd, he, pd, pe, dl, q⟩ := h
  obtain ⟨as, r1⟩ := Dp.reads I d x v hd rx
  obtain ⟨bs, r2⟩ := Dp.reads I e y u he ry
  exact SeqAt.ne_plain r1 r2 pd pe (by omega) ⟨.bl _, H, I, rfl, q⟩
theorem eqOk_iff {d e : D} : eqOk d e = true ↔ d.plain = true ∧ e.plain = true ∧ min d.depth e.depth ≤ 60 := by
  unfold eqOk
  rw [Bool.and_eq_true, Bool.and_eq_true, decide_eq_true_eq, and_assoc]
theorem RpAll.plain_int {K : PySem.W.Frag} {Z : Addr → Prop} {H : Hp} : ∀ {xs : List V} {ds : List D}, RpAll K Z H xs ds → (∀ d ∈ ds, ∃ i, d = .int i) → ∃ ns : List Int, ds = ns.map .int ∧ xs = ns.map .int
  | _, _, .nil, _ => ⟨[], rfl, rfl⟩
  | _, _, .cons r t, h => by
    obtain ⟨i, e⟩ := h _ List.mem_cons_self
    subst e
    obtain ⟨ns, e1, e2⟩ := RpAll.plain_int t fun d hd => h d (List.mem_cons_of_mem _ hd)
    cases r
    exact ⟨i :: ns, by simp [e1], by simp [e2]⟩
theorem op2_eqs {K : PySem.W.Frag} {s : Bool → Bool} : Op2 K (rEqP K s) (fun d e => if eqOk d e then some (.bool (s (PyData.eqv d e))) else none) := fun Z H x y d e q zt rx ry hg Q k => by
  dsimp only at hg
  split at hg <;> cases hg
  rename_i hk
  obtain ⟨h1, h2, h3⟩ := eqOk_iff.mp hk
  exact ⟨d, e, rx.dp h1, ry.dp h2, h1, h2, h3, k _ Z H .refl (.bl _)⟩
end Pz

set_option maxHeartbeats 1000000
/-! The plain layer: the script read, ==, items, slices, in, calls of built-ins. -/
namespace Pz
open PySem PySem.Spec L2

/-- the script as a list -/
def unscr : D → D
  | .dict [(.none, .list ds)] => .list ds
  | d => d
theorem unscr_ne {d : D} (h : ∀ ds, d ≠ scrD ds) : unscr d = d := by
  unfold unscr; split
  · exact absurd rfl (h _)
  · rfl
section
variable {K : PySem.W.Frag} {Z : Addr → Prop} {H : Hp} {x : V}
theorem RpKV.nokey {kvs : List (Key × V)} {ds : D} : ¬ RpKV K Z H kvs [(.none, ds)] := fun h => by
  generalize e : [((PyData.none : D), ds)] = es at h
  cases h with
  | nil => cases e
  | @cons k v r d es h t =>
    injection e with e1 _
    injection e1 with e2 _
    cases k <;> cases e2
/-- what may be read of it -/
theorem RpT.read {d : D} (h : RpT K Z H x d) (p : (unscr d).plain = true) : Dp K H x (unscr d) := by
  unfold unscr at p ⊢
  split at p
  · rename_i ds
    rcases h with ⟨a, kvs, _, _, r⟩ | ⟨a, o, xs, ds', e, e2, hh, r⟩
    · exact absurd r RpKV.nokey
    · injection e with e _
      injection e with _ e
      injection e with e
      subst e e2
      exact .lst hh (r.dp p)
  · exact h.dp p
theorem RpT.seq {d : D} {ds : List D} (h : RpT K Z H x d) (e : unscr d = .list ds) : ∃ a xs, x = .ref a ∧ SqL K H a xs ∧ RpAll K Z H xs ds := by
  unfold unscr at e
  split at e
  · rename_i ds'
    cases e
    rcases h with ⟨a, kvs, _, _, r⟩ | ⟨a, o, xs, ds', e, e2, hh, r⟩
    · exact absurd r RpKV.nokey
    · injection e with e _
      injection e with _ e
      injection e with e
      subst e e2
      exact ⟨a, xs, rfl, hh, r⟩
  · subst e
    obtain ⟨a, xs, e, hh, r⟩ := h
    exact ⟨a, xs, e, .inl (.inl hh), r⟩
end
/-! ### == -/
def eqG (s : Bool → Bool) (d e : D) : Option D := if eqOk (unscr d) (unscr e) then some (.bool (s (PyData.eqv (unscr d) (unscr e)))) else none
abbrev dEq' : D → D → Option D := eqG id
abbrev dNe' : D → D → Option D := eqG not
theorem op2_eq {K : PySem.W.Frag} {s : Bool → Bool} : Op2 K (rEqP K s) (eqG s) := fun Z H x y d e q zt rx ry hg Q k => by
  unfold eqG at hg
  split at hg <;> cases hg
  rename_i hk
  obtain ⟨h1, h2, h3⟩ := eqOk_iff.mp hk
  exact ⟨_, _, rx.read h1, ry.read h2, h1, h2, h3, k _ Z H .refl (.bl _)⟩
/-! ### is None -/
def isN : D → Bool
  | .none => true
  | _ => false
def dIsN : D → D → Option D
  | d, .none => some (.bool (isN d))
  | _, _ => none
def dNotN : D → D → Option D
  | d, .none => some (.bool (!isN d))
  | _, _ => none
theorem rp_none {K : PySem.W.Frag} {Z : Addr → Prop} {H : Hp} {x : V} {d : D} (h : RpT K Z H x d) : decide (x = .non) = isN d := by
  cases d with
  | none => cases rpn h; rfl
  | bool b => cases rpbl h; rfl
  | int i => cases rpi h; rfl
  | str s => cases rps h; rfl
  | list ds => obtain ⟨a, _, rfl, _⟩ := rpl h; rfl
  | tuple ds => obtain ⟨a, _, rfl, _⟩ := rpt h; rfl
  | dict es => rcases h with ⟨a, kvs, rfl, _⟩ | ⟨a, o, xs, ds, _, rfl, _⟩ <;> rfl
theorem op2_isN {K : PySem.W.Frag} : Op2 K (fun x y H Q => y = .non ∧ Q (.bl (decide (x = .non))) H) dIsN := fun Z H x y d e q zt rx ry hg Q k => by
  unfold dIsN at hg
  split at hg <;> cases hg
  cases rpn ry
  exact ⟨rfl, by rw [rp_none rx]; exact k _ Z H .refl (.bl _)⟩
theorem op2_notN {K : PySem.W.Frag} : Op2 K (fun x y H Q => y = .non ∧ Q (.bl (!decide (x = .non))) H) dNotN := fun Z H x y d e q zt rx ry hg Q k => by
  unfold dNotN at hg
  split at hg <;> cases hg
  cases rpn ry
  exact ⟨rfl, by rw [rp_none rx]; exact k _ Z H .refl (.bl _)⟩
/-! ### items -/
def keyIsD : D → Key → Bool
  | .int i, .inl j => decide (i = j)
  | .str s, .inr t => decide (s = t)
  | _, _ => false
def toKey : D → Option Key
  | .int i => some (.inl i)
  | .str s => some (.inr s)
  | _ => none
def lookD (es : List (D × D)) (k : Key) : Option D := (es.find? fun p => keyIsD p.1 k).map (·.2)
theorem keyIsD_keyD (k k' : Key) : keyIsD (keyD k') k = decide (k' = k) := by
  cases k <;> cases k' <;> simp [keyIsD, keyD]
section
variable {K : PySem.W.Frag} {Z : Addr → Prop} {H : Hp} {x : V}
theorem RpKV.look (k : Key) : ∀ {kvs : List (Key × V)} {es : List (D × D)}, RpKV K Z H kvs es → match valV kvs k, lookD es k with
    | some v, some d => Rp K Z H v d
    | none, none => True
    | _, _ => False
  | _, _, .nil => trivial
  | _, _, .cons (k := k') r t => by
    have ih := RpKV.look k t
    by_cases e : k' = k
    · rw [valV_pos e]
      have : keyIsD (keyD k') k = true := by rw [keyIsD_keyD]; exact decide_eq_true e
      simp only [lookD, List.find?_cons, this, Option.map_some]
      exact r
    · rw [valV_neg e]
      have : keyIsD (keyD k') k = false := by rw [keyIsD_keyD]; exact decide_eq_false e
      simp only [lookD, List.find?_cons, this]
      exact ih
theorem toKey_v {d : D} {k : Key} (h : toKey d = some k) (r : RpT K Z H x d) : x = kV k := by
  unfold toKey at h
  split at h <;> cases h
  · exact rpi r
  · exact rps r
end
theorem atI_map {α β : Type} (f : α → β) (xs : List α) (i : Int) : atI (xs.map f) i = (atI xs i).map f := by
  unfold atI
  rw [List.length_map]
  cases ixN xs.length i with
  | none => rfl
  | some j => simp
theorem RpAll.at {K : PySem.W.Frag} {Z : Addr → Prop} {H : Hp} {xs : List V} {ds : List D} (r : RpAll K Z H xs ds) {i : Int} {d : D} (h : atI ds i = some d) : ∃ v, atI xs i = some v ∧ Rp K Z H v d := by
  unfold atI at h ⊢
  rw [r.length]
  cases e : ixN ds.length i with
  | none => rw [e] at h; cases h
  | some j =>
    rw [e] at h
    obtain ⟨v, h1, h2⟩ := r.get j d h
    exact ⟨v, h1, h2⟩
def dIx (d e : D) : Option D := match unscr d, e with
  | .list ds, .int i => atI ds i
  | .tuple ds, .int i => atI ds i
  | .str s, .int i => if s.length ≤ 1000000 then (atI s.cps.toList i).map fun c => .str ⟨#[c]⟩ else none
  | .dict es, k => (toKey k).bind fun k => lookD es k
  | _, _ => none
def rIxD : R2 := fun x y H Q => ∃ a v, x = .ref a ∧ DGet H a y (some v) ∧ Q v H
theorem ix_dict {X : Cx} (hu : X.A.units + 1 < cLine) : IxR X rIxD := by
  intro value slice pins s σ H x y v u Q I rx ry h hs
  obtain ⟨a, w, rfl, g, q⟩ := h
  cases rx
  have hT := dict_typeIs I g
  unfold PyProof.Rows.subscriptTail
  refine wpAny_bind ?_
  rw [getitemInPython_of_ne hT.not_modules]
  refine wpAny_bind (wpAny_specialOf hT PySem.F.slot_dict_getitem.lookup ?_)
  have fin : wpAny (model X.prog X.w) X.A (subscripted slice false (.ref a) u) (fun r s₃ => wpAny (model X.prog X.w) X.A (letTemporaryGo value (.ref a) r >>= fun _ => pure r) (EP X pins σ Q) X.xe s₃) X.xe s := by
    rw [hs]
    refine wpAny_operating (wpAny_mono (d_getItem (Q := EP X pins σ Q) hu I g ry fun w' s3 I3 rw' => ⟨w, H, I3, rw', q⟩) (fun r s₃ h₃ => wpAny_bind (wpAny_letTemporaryGo (wpAny_pure h₃))) fun _ _ x => x)
  first
    | exact wpAny_pure (wpAny_bind fin)
    | exact wpAny_bind fin
def rIx0 (K : PySem.W.Frag) : R2 := fun x y H Q => rIx K x y H Q ∨ rIxD x y H Q
theorem ix_any {X : Cx} (hu : X.A.units + 1 < cLine) : IxR X (rIx0 X.K) := ix_seq.or (ix_dict hu)
theorem op2_ix {K : PySem.W.Frag} : Op2 K (rIx0 K) dIx := fun Z H x y d e q zt rx ry hg Q k => by
  unfold dIx at hg
  split at hg
  · rename_i ds i eu
    cases rpi ry
    obtain ⟨a, xs, rfl, hs, r⟩ := rx.seq eu
    obtain ⟨v, h1, h2⟩ := r.at hg
    exact .inl (.inl ⟨a, xs, i, v, rfl, rfl, hs, h1, k _ Z H .refl h2⟩)
  · rename_i ds i eu
    cases rpi ry
    have ed : d = .tuple ds := by
      unfold unscr at eu; split at eu
      · cases eu
      · exact eu
    subst ed
    obtain ⟨a, xs, rfl, hs, r⟩ := rpt rx
    obtain ⟨v, h1, h2⟩ := r.at hg
    exact .inl (.inr (.inl ⟨a, xs, i, v, rfl, rfl, hs, h1, k _ Z H .refl h2⟩))
  · rename_i z i eu
    cases rpi ry
    have ed : d = .str z := by
      unfold unscr at eu; split at eu
      · cases eu
      · exact eu
    subst ed
    cases rps rx
    split at hg
    rotate_left
    · cases hg
    rename_i hz
    cases ec : atI z.cps.toList i with
    | none => rw [ec] at hg; cases hg
    | some c =>
      rw [ec] at hg
      cases hg
      exact .inl (.inr (.inr ⟨z, i, c, rfl, rfl, lim_line hz, ec, k _ Z H .refl (.str _)⟩))
  · rename_i ke _ _ es eu
    cases ek : toKey ke with
    | none => rw [ek] at hg; cases hg
    | some kk =>
      rw [ek] at hg
      have hg : lookD es kk = some q := hg
      cases toKey_v ek ry
      have ed : d = .dict es := by
        unfold unscr at eu; split at eu
        · cases eu
        · exact eu
      subst ed
      rcases rx with ⟨a, kvs, rfl, hd, r⟩ | ⟨a, o, xs, ds, rfl, rfl, hh, r⟩
      · have l := r.look kk
        rw [hg] at l
        cases ev : valV kvs kk with
        | none => rw [ev] at l; exact l.elim
        | some v =>
          rw [ev] at l
          have l : Rp K Z H v q := l
          refine .inr ⟨a, v, rfl, ?_, k _ Z H .refl l⟩
          rw [← ev]
          exact DGet.k hd
      · cases eu
  · cases hg
section
variable {X : Cx} {W : WX} {a b c e : Expr} {pos : Pos} {fa fb fc : Fx}
theorem pz_ix (hu : X.A.units + 1 < cLine) (ha : PE X a (tO X.K W fa)) (hb : PE X b (tO X.K W fb)) (hs : PlainIx b := by exact fun _ _ => rfl) : PE X (.Subscript a b pos) (tP X.K W (f2 dIx fa fb)) := PE.imp (pe_ix (ix_any hu) ha hb hs) fun _ _ _ h => op_in op2_ix h
end
/-! ### in, not in -/
def dInB (d e : D) : Option Bool := match d, e with
  | d, .list ys => if d.plain && PyData.plainAll ys && decide (min (PyData.depthAll ys) d.depth ≤ 60) then some (ys.any fun y => PyData.eqv y d) else none
  | d, .tuple ys => if d.plain && PyData.plainAll ys && decide (min (PyData.depthAll ys) d.depth ≤ 60) then some (ys.any fun y => PyData.eqv y d) else none
  | .str s, .str z => if s.cps.size = 1 then some (decide (s.cps.getD 0 0 ∈ z.cps.toList)) else none
  | k, .dict es => match es with
    | [(.none, _)] => none
    | es => (toKey k).map fun k => (lookD es k).isSome
  | _, _ => none
def dIn (d e : D) : Option D := (dInB d e).map .bool
def dNotIn (d e : D) : Option D := (dInB d e).map fun b => .bool (!b)
def rIn0 (K : PySem.W.Frag) (s : Bool → Bool) : R2 := fun x y H Q =>
  (∃ d ys, Dp K H x d ∧ (Dp K H y (.list ys) ∨ Dp K H y (.tuple ys)) ∧ d.plain = true ∧ PyData.plainAll ys = true ∧ min (PyData.depthAll ys) d.depth ≤ 60 ∧ Q (.bl (s (ys.any fun y => PyData.eqv y d))) H) ∨
  (∃ (c : Nat) (z : Str), x = .str ⟨#[c]⟩ ∧ y = .str z ∧ Q (.bl (s (decide (c ∈ z.cps.toList)))) H) ∨ ∃ a o, y = .ref a ∧ DGet H a x o ∧ Q (.bl (s o.isSome)) H
theorem op_in0 {X : Cx} (hu : X.A.units + 64 < cLine) : OpR X (compareOp .In) (rIn0 X.K id) := by
  intro pins s σ H x y v u Q I rx ry h
  rcases h with ⟨d, ys, hd, he, pd, pe, dl, q⟩ | h | ⟨a, o, rfl, g, q⟩
  · obtain ⟨as, r1⟩ := Dp.reads I d x v hd rx
    rcases he with he | he
    · obtain ⟨bs, r2⟩ := Dp.reads I (.list ys) y u he ry
      exact SeqAt.in_list_data r2 r1 pe pd (by omega) ⟨.bl _, H, I, rfl, q⟩
    · obtain ⟨bs, r2⟩ := Dp.reads I (.tuple ys) y u he ry
      exact SeqAt.in_tuple_data r2 r1 pe pd (by omega) ⟨.bl _, H, I, rfl, q⟩
  · exact op_in_sign pins s σ H x y v u Q I rx ry h
  · cases ry
    exact d_in (by omega) I g rx fun s3 I3 => ⟨.bl o.isSome, H, I3, rfl, q⟩
theorem op_notIn0 {X : Cx} (hu : X.A.units + 64 < cLine) : OpR X (compareOp .NotIn) (rIn0 X.K not) := by
  intro pins s σ H x y v u Q I rx ry h
  rcases h with ⟨d, ys, hd, he, pd, pe, dl, q⟩ | h | ⟨a, o, rfl, g, q⟩
  · obtain ⟨as, r1⟩ := Dp.reads I d x v hd rx
    rcases he with he | he
    · obtain ⟨bs, r2⟩ := Dp.reads I (.list ys) y u he ry
      exact SeqAt.notIn_list_data r2 r1 pe pd (by omega) ⟨.bl _, H, I, rfl, q⟩
    · obtain ⟨bs, r2⟩ := Dp.reads I (.tuple ys) y u he ry
      exact SeqAt.notIn_tuple_data r2 r1 pe pd (by omega) ⟨.bl _, H, I, rfl, q⟩
  · exact op_notIn_sign pins s σ H x y v u Q I rx ry h
  · cases ry
    exact d_notIn (by omega) I g rx fun s3 I3 => ⟨.bl (!o.isSome), H, I3, rfl, q⟩
theorem in_ok {K : PySem.W.Frag} {s : Bool → Bool} {Z : Addr → Prop} {H : Hp} {x y : V} {d e : D} {b : Bool} (rx : RpT K Z H x d) (ry : RpT K Z H y e) (hg : dInB d e = some b) {Q : VK} (k : Q (.bl (s b)) H) : rIn0 K s x y H Q := by
  unfold dInB at hg
  split at hg
  · split at hg <;> cases hg
    rename_i hk
    rw [Bool.and_eq_true, Bool.and_eq_true, decide_eq_true_eq] at hk
    exact .inl ⟨_, _, rx.dp hk.1.1, .inl (ry.dp hk.1.2), hk.1.1, hk.1.2, hk.2, k⟩
  · split at hg <;> cases hg
    rename_i hk
    rw [Bool.and_eq_true, Bool.and_eq_true, decide_eq_true_eq] at hk
    exact .inl ⟨_, _, rx.dp hk.1.1, .inr (ry.dp hk.1.2), hk.1.1, hk.1.2, hk.2, k⟩
  · split at hg <;> cases hg
    rename_i t z h1
    cases rps rx; cases rps ry
    have et : t = ⟨#[t.cps.getD 0 0]⟩ := by
      obtain ⟨c⟩ := t
      obtain ⟨l⟩ := c
      match l, h1 with
      | [c], _ => rfl
    exact .inr (.inl ⟨_, _, by rw [← et], rfl, k⟩)
  · split at hg
    · cases hg
    · rename_i es _ hne
      cases ek : toKey d with
      | none => rw [ek] at hg; cases hg
      | some kk =>
        rw [ek] at hg
        cases hg
        cases toKey_v ek rx
        rcases ry with ⟨a, kvs, rfl, hd, r⟩ | ⟨a, o, xs, ds, rfl, rfl, hh, r⟩
        · refine .inr (.inr ⟨a, valV kvs kk, rfl, DGet.k hd, ?_⟩)
          have l := r.look kk
          have e2 : (valV kvs kk).isSome = (lookD es kk).isSome := by
            cases e1 : valV kvs kk <;> cases e2 : lookD es kk <;> rw [e1, e2] at l <;> first | rfl | exact l.elim
          rw [e2]
          exact k
        · exact absurd rfl (hne _)
  · cases hg
theorem op2_in {K : PySem.W.Frag} : Op2 K (rIn0 K id) dIn := fun Z H x y d e q zt rx ry hg Q k => by
  unfold dIn at hg
  cases eb : dInB d e with
  | none => rw [eb] at hg; cases hg
  | some b => rw [eb] at hg; cases hg; exact in_ok rx ry eb (k _ Z H .refl (.bl _))
theorem op2_notIn {K : PySem.W.Frag} : Op2 K (rIn0 K not) dNotIn := fun Z H x y d e q zt rx ry hg Q k => by
  unfold dNotIn at hg
  cases eb : dInB d e with
  | none => rw [eb] at hg; cases hg
  | some b => rw [eb] at hg; cases hg; exact in_ok (s := not) rx ry eb (k _ Z H .refl (.bl _))
end Pz

set_option maxHeartbeats 1000000
/-! The plain layer: arguments, displays, slices, calls of built-ins. -/
namespace Pz
open PySem PySem.Spec L2

/-! ### rows of expressions -/
abbrev Fxs := Env → R (List D)
def fNil : Fxs := fun _ => .ok []
def fCons (a : Fx) (b : Fxs) : Fxs := fun ρ => a ρ >>= fun x => b ρ >>= fun xs => .ok (x :: xs)
def fTup (a : Fxs) : Fx := fun ρ => a ρ >>= fun xs => .ok (.tuple xs)
section
variable {X : Cx} {W : WX} {a b c e : Expr} {es : List Expr} {pos : Pos} {fa fb fc : Fx} {fs : Fxs}
theorem az_nil : PA X [] (tAs X.K W fNil) := PA.imp pa_nil fun σ H Q ⟨B, Z, ρ, E, h⟩ => h [] Z H .refl .nil
theorem az_cons (ha : PE X a (tP X.K W fa)) (hr : PA X es (tAs X.K W fs)) (hs : starEach (a :: es) X.env = (false, eval a X.env) :: starEach es X.env := by rfl) : PA X (a :: es) (tAs X.K W (fCons fa fs)) := PA.imp (pa_cons ha hr hs) fun σ H Q ⟨B, Z, ρ, E, h⟩ =>
  ⟨B, Z, ρ, E, h.bind.mono (fun d h1 v Z1 H1 g1 r1 => ⟨B, Z1, ρ, E.grow g1, h1.bind.mono (fun ds k vs Z2 H2 g2 r2 => k (v :: vs) Z2 H2 (g1.trans g2) (.cons (r1.grow g2) r2)) fun _ w => w.grow g1⟩) fun _ w => w⟩
/-- the items that one writes are few -/
theorem pz_tup {k} (h : PA X es (tAs X.K W fs)) (hl : ∀ ρ ds, fs ρ = .ok ds → ds.length ≤ 1000) : PE X (.Tuple es k pos) (tP X.K W (fTup fs)) := PE.imp (pe_tupN h) fun σ H Q ⟨B, Z, ρ, E, h⟩ => by
  refine ⟨B, Z, ρ, E, ?_⟩
  cases e : fs ρ with
  | bad => simp only [fTup, e] at h; exact h
  | exc x => simp only [fTup, e] at h; exact h
  | ok ds =>
    simp only [fTup, e] at h
    intro vs Z1 H1 g1 r1
    refine ⟨by rw [r1.length, sizeLine_eq]; have := hl ρ ds e; omega, KP.tup (KP.grow h g1) r1⟩
theorem pn_lst (h : PA X es (tAs X.K W fs)) (hl : ∀ ρ ds, fs ρ = .ok ds → ds.length ≤ 1000) : PE X (.List es pos) (tN X.K W fs) := PE.imp (pe_lst h) fun σ H Q ⟨B, Z, ρ, E, h⟩ => by
  refine ⟨B, Z, ρ, E, ?_⟩
  cases e : fs ρ with
  | bad => rw [e] at h; exact h
  | exc x => rw [e] at h; exact h
  | ok ds =>
    rw [e] at h
    intro vs Z1 H1 g1 r1
    refine ⟨by rw [r1.length, sizeLine_eq]; have := hl ρ ds e; omega, KN.lst (KN.grow h g1) (E.grow g1).zt r1⟩
end
theorem few0 : ∀ (ρ : Env) (ds : List D), fNil ρ = .ok ds → ds.length ≤ 0 := fun ρ ds e => by cases e; exact Nat.le_refl _
theorem fewS {fa : Fx} {fs : Fxs} {n : Nat} (h : ∀ ρ ds, fs ρ = .ok ds → ds.length ≤ n) : ∀ ρ ds, fCons fa fs ρ = .ok ds → ds.length ≤ n + 1 := fun ρ ds e => by
  unfold fCons at e
  obtain ⟨x, _, e⟩ := R.bind_ok_iff.mp e
  obtain ⟨xs, e1, e⟩ := R.bind_ok_iff.mp e
  cases e
  have := h ρ xs e1
  simp only [List.length_cons]
  omega
theorem fewL {fs : Fxs} {n : Nat} (h : ∀ ρ ds, fs ρ = .ok ds → ds.length ≤ n) (hn : n ≤ 1000) : ∀ ρ ds, fs ρ = .ok ds → ds.length ≤ 1000 := fun ρ ds e => Nat.le_trans (h ρ ds e) hn

/-! ### slices -/
def cutD {α : Type} (xs : List α) (lo hi : Option Int) : List α := (xs.drop (HT.sIx xs.length 0 lo)).take (HT.sIx xs.length xs.length hi - HT.sIx xs.length 0 lo)
theorem RpAll.cut {K : PySem.W.Frag} {Z : Addr → Prop} {H : Hp} {xs : List V} {ds : List D} (r : RpAll K Z H xs ds) (lo hi : Option Int) : RpAll K Z H (cutV xs lo hi) (cutD ds lo hi) := by
  unfold cutV cutD
  rw [r.length]
  exact (r.drop _).take _
def dSl (d : D) (lo hi : Option Int) : Option D := match d with
  | .list ds => some (.list (cutD ds lo hi))
  | .tuple ds => some (.tuple (cutD ds lo hi))
  | .str s => if s.length ≤ 1000000 then some (.str (cutS s lo hi)) else none
  | _ => none
def dSlN (d : D) (lo hi : Option Int) : Option (List D) := match d with
  | .list ds => some (cutD ds lo hi)
  | _ => none
/-- a part of a slice -/
abbrev Fo := Env → R (Option Int)
def fNo : Fo := fun _ => .ok none
def fSo (a : Fx) : Fo := fun ρ => a ρ >>= fun d => match d with
  | .int i => .ok (some i)
  | _ => .bad
def tPo (K : PySem.W.Frag) (W : WX) (f : Fo) : TO := fun σ H Q => ∃ B Z ρ, EnvOk K B Z H σ ρ ∧ post (fun o => ∀ Z' H', Grow Z H Z' H' → Q o H') (xWish K Z H W σ) (f ρ)
def fSl (a : Fx) (l u : Fo) : Fx := fun ρ => a ρ >>= fun x => l ρ >>= fun l => u ρ >>= fun u => ofO (dSl x l u)
def fSlN (a : Fx) (l u : Fo) : Fxs := fun ρ => a ρ >>= fun x => l ρ >>= fun l => u ρ >>= fun u => ofO (dSlN x l u)
def rSl0 (K : PySem.W.Frag) : V → Option Int → Option Int → Hp → VK → Prop := fun x lo hi H Q => rSlL K x lo hi H Q ∨ rSlN' K x lo hi H Q ∨ rSlS x lo hi H Q
section
variable {X : Cx} {W : WX} {a b c e : Expr} {lo hi : Option Expr} {es : List Expr} {pos p2 : Pos} {fa fb fc : Fx} {fs : Fxs} {fl fu : Fo}
theorem PO.imp {o : Option Expr} {t t' : TO} (h : PO X o t) (hi : ∀ σ H Q, t' σ H Q → t σ H Q) : PO X o t' := ⟨fun pins s σ H Q I hw => h.run pins s σ H Q I (hi σ H Q hw)⟩
theorem oz_no : PO X none (tPo X.K W fNo) := PO.imp po_none fun σ H Q ⟨B, Z, ρ, E, h⟩ => h Z H .refl
theorem oz_so (h : PE X e (tP X.K W fa)) : PO X (some e) (tPo X.K W (fSo fa)) := PO.imp (po_some h) fun σ H Q ⟨B, Z, ρ, E, h⟩ => by
  refine ⟨B, Z, ρ, E, h.bind.mono (fun d h1 v Z' H' g r => ?_) fun _ w => w⟩
  cases d with
  | int i => cases r; exact ⟨i, rfl, h1 Z' H' g⟩
  | none => exact h1.elim
  | bool b => exact h1.elim
  | str b => exact h1.elim
  | list b => exact h1.elim
  | tuple b => exact h1.elim
  | dict b => exact h1.elim
theorem sl_any : SlR X (rSl0 X.K) := sl_list.or (sl_tupN.or sl_str)
theorem cut_whole {α : Type} {xs : List α} {lo hi : Option Int} (h : HT.sIx xs.length 0 lo = 0 ∧ HT.sIx xs.length xs.length hi = xs.length) : cutD xs lo hi = xs := by
  unfold cutD
  rw [h.1, h.2]
  simp
theorem pz_slice (ha : PE X a (tO X.K W fa)) (hl : PO X lo (tPo X.K W fl)) (hu : PO X hi (tPo X.K W fu)) : PE X (.Subscript a (.Slice lo hi none p2) pos) (tP X.K W (fSl fa fl fu)) := PE.imp (pe_slice sl_any ha hl hu) fun σ H Q ⟨B, Z, ρ, E, h⟩ => by
  refine ⟨B, Z, ρ, E, h.bind.mono (fun d h1 v Z1 H1 g1 r1 => ⟨B, Z1, ρ, E.grow g1, h1.bind.mono (fun l h2 Z2 H2 g2 => ⟨B, Z2, ρ, E.grow (g1.trans g2), h2.bind.mono (fun u h3 Z3 H3 g3 => ?_) fun _ w => w.grow (g1.trans g2)⟩) fun _ w => w.grow g1⟩) fun _ w => w⟩
  obtain ⟨q, eq, k⟩ := h3.ofO
  have G := g1.trans (g2.trans g3)
  have k := k.grow G
  have r := r1.grow (g2.trans g3)
  unfold dSl at eq
  split at eq
  · cases eq
    obtain ⟨p, xs, rfl, hp, rr⟩ := rpl r
    exact .inl ⟨p, xs, rfl, SqL.of hp, k.kn.lst (E.grow G).zt (rr.cut _ _)⟩
  · cases eq
    obtain ⟨p, xs, rfl, hp, rr⟩ := rptN r
    refine .inr (.inl ⟨p, xs, rfl, hp.sq, fun hw => ?_, fun _ => k.tup (rr.cut _ _)⟩)
    rw [rr.length] at hw
    rw [cut_whole hw] at k
    exact k _ Z3 H3 .refl (.tup hp rr)
  · split at eq <;> cases eq
    cases rps r
    exact .inr (.inr ⟨_, rfl, lim_line (by assumption), k _ Z3 H3 .refl (.str _)⟩)
  · cases eq
theorem pn_slice (ha : PE X a (tO X.K W fa)) (hl : PO X lo (tPo X.K W fl)) (hu : PO X hi (tPo X.K W fu)) : PE X (.Subscript a (.Slice lo hi none p2) pos) (tN X.K W (fSlN fa fl fu)) := PE.imp (pe_slice sl_any ha hl hu) fun σ H Q ⟨B, Z, ρ, E, h⟩ => by
  refine ⟨B, Z, ρ, E, h.bind.mono (fun d h1 v Z1 H1 g1 r1 => ⟨B, Z1, ρ, E.grow g1, h1.bind.mono (fun l h2 Z2 H2 g2 => ⟨B, Z2, ρ, E.grow (g1.trans g2), h2.bind.mono (fun u h3 Z3 H3 g3 => ?_) fun _ w => w.grow (g1.trans g2)⟩) fun _ w => w.grow g1⟩) fun _ w => w⟩
  obtain ⟨q, eq, k⟩ := h3.ofO
  have G := g1.trans (g2.trans g3)
  have k := k.grow G
  have r := r1.grow (g2.trans g3)
  unfold dSlN at eq
  split at eq
  · cases eq
    obtain ⟨p, xs, rfl, hp, rr⟩ := rpl r
    exact .inl ⟨p, xs, rfl, SqL.of hp, k.lst (E.grow G).zt (rr.cut _ _)⟩
  · cases eq
end

/-! ### calls of built-ins with one argument -/
abbrev RC := List V → Hp → VK → Prop
def Op1 (K : PySem.W.Frag) (r : RC) (g : D → Option D) : Prop := ∀ (Z : Addr → Prop) (H : Hp) (x : V) (d q : D), (∀ a, Z a → H a ≠ none) → RpT K Z H x d → g d = some q → ∀ Q, KP K Z H q Q → r [x] H Q
def Op1N (K : PySem.W.Frag) (r : RC) (g : D → Option (List D)) : Prop := ∀ (Z : Addr → Prop) (H : Hp) (x : V) (d : D) (q : List D), (∀ a, Z a → H a ≠ none) → RpT K Z H x d → g d = some q → ∀ Q, KN K Z H q Q → r [x] H Q
def fN1 (g : D → Option (List D)) (a : Fx) : Fxs := fun ρ => a ρ >>= fun x => ofO (g x)
section
variable {X : Cx} {W : WX} {a b c e : Expr} {es : List Expr} {pos p : Pos} {x : Str} {fa fb fc : Fx} {fs : Fxs} {r : RC} {g : D → Option D} {gN : D → Option (List D)} {id : String}
theorem c1_in (hr : Op1 X.K r g) {σ : L2.St} {H : Hp} {Q : VK} (h : tP X.K W (f1 g fa) σ H Q) : tCB r (tCons (tO X.K W fa) tNil) σ H Q := by
  obtain ⟨B, Z, ρ, E, h⟩ := h
  refine ⟨B, Z, ρ, E, h.bind.mono (fun d h1 v Z' H' gr r' => ?_) fun _ w => w⟩
  obtain ⟨q, eq, k⟩ := h1.ofO
  exact hr Z' H' v d q (E.grow gr).zt r' eq Q (k.grow gr)
theorem c1_inN (hr : Op1N X.K r gN) {σ : L2.St} {H : Hp} {Q : VK} (h : tN X.K W (fN1 gN fa) σ H Q) : tCB r (tCons (tO X.K W fa) tNil) σ H Q := by
  obtain ⟨B, Z, ρ, E, h⟩ := h
  refine ⟨B, Z, ρ, E, h.bind.mono (fun d h1 v Z' H' gr r' => ?_) fun _ w => w⟩
  obtain ⟨q, eq, k⟩ := h1.ofO
  exact hr Z' H' v d q (E.grow gr).zt r' eq Q (k.grow gr)
theorem pz_b1 (hc : CallR X (.builtin id) r) (hr : Op1 X.K r g) (hg : Gl X x) (hm : X.mg x = none) (hv : bootBuiltins x = some (.builtin id)) (ha : PE X a (tO X.K W fa)) (hn : x ≠ "__name__" := by decide) (hdb : (x == ("__debug__" : Str)) = false := by decide)
    (he : starEach [a] X.env = (false, eval a X.env) :: starEach [] X.env := by rfl) (hpl : (backTo pos (starEach [] X.env)).any (·.1) = false := by rfl) : PE X (.Call (.Name x p) [a] [] pos) (tP X.K W (f1 g fa)) := PE.imp (pe_callB hc hg hm hv (pa_cons ha pa_nil he) hn hdb he hpl) fun _ _ _ h => c1_in hr h
theorem pz_t1 (hc : CallR X (.type id) r) (hr : Op1 X.K r g) (hg : Gl X x) (hm : X.mg x = none) (hv : bootBuiltins x = some (.type id)) (ha : PE X a (tO X.K W fa)) (hn : x ≠ "__name__" := by decide) (hdb : (x == ("__debug__" : Str)) = false := by decide)
    (he : starEach [a] X.env = (false, eval a X.env) :: starEach [] X.env := by rfl) (hpl : (backTo pos (starEach [] X.env)).any (·.1) = false := by rfl) : PE X (.Call (.Name x p) [a] [] pos) (tP X.K W (f1 g fa)) := PE.imp (pe_callTy hc hg hm hv (pa_cons ha pa_nil he) hn hdb he hpl) fun _ _ _ h => c1_in hr h
theorem pn_b1 (hc : CallR X (.builtin id) r) (hr : Op1N X.K r gN) (hg : Gl X x) (hm : X.mg x = none) (hv : bootBuiltins x = some (.builtin id)) (ha : PE X a (tO X.K W fa)) (hn : x ≠ "__name__" := by decide) (hdb : (x == ("__debug__" : Str)) = false := by decide)
    (he : starEach [a] X.env = (false, eval a X.env) :: starEach [] X.env := by rfl) (hpl : (backTo pos (starEach [] X.env)).any (·.1) = false := by rfl) : PE X (.Call (.Name x p) [a] [] pos) (tN X.K W (fN1 gN fa)) := PE.imp (pe_callB hc hg hm hv (pa_cons ha pa_nil he) hn hdb he hpl) fun _ _ _ h => c1_inN hr h
theorem pn_t1 (hc : CallR X (.type id) r) (hr : Op1N X.K r gN) (hg : Gl X x) (hm : X.mg x = none) (hv : bootBuiltins x = some (.type id)) (ha : PE X a (tO X.K W fa)) (hn : x ≠ "__name__" := by decide) (hdb : (x == ("__debug__" : Str)) = false := by decide)
    (he : starEach [a] X.env = (false, eval a X.env) :: starEach [] X.env := by rfl) (hpl : (backTo pos (starEach [] X.env)).any (·.1) = false := by rfl) : PE X (.Call (.Name x p) [a] [] pos) (tN X.K W (fN1 gN fa)) := PE.imp (pe_callTy hc hg hm hv (pa_cons ha pa_nil he) hn hdb he hpl) fun _ _ _ h => c1_inN hr h
end
/-! ### len -/
def dLen (d : D) : Option D := match unscr d with
  | .list ds => some (.int ds.length)
  | .tuple ds => some (.int ds.length)
  | .str s => if s.length ≤ 1000000 then some (.int s.length) else none
  | .dict es => some (.int es.length)
  | _ => none
theorem RpKV.length {K : PySem.W.Frag} {Z : Addr → Prop} {H : Hp} : ∀ {vs : List (Key × V)} {ds : List (D × D)}, RpKV K Z H vs ds → vs.length = ds.length
  | _, _, .nil => rfl
  | _, _, .cons _ t => by simp [RpKV.length t]
def rLen0 (K : PySem.W.Frag) : RC := fun xs H Q => (∃ x n, xs = [x] ∧ LenV K x H n ∧ Q (.int n) H) ∨ ∃ a kvs, xs = [V.ref a] ∧ H a = some (.dK kvs) ∧ Q (.int kvs.length) H
theorem cr_len0 {X : Cx} : CallR X (.builtin "len") (rLen0 X.K) := call_len.or call_lenD
theorem unscr_ne' {d e : D} (h : unscr d = e) (hl : ∀ ds, e ≠ .list ds) : d = e := by
  unfold unscr at h; split at h
  · exact absurd h.symm (hl _)
  · exact h
theorem op1_len {K : PySem.W.Frag} : Op1 K (rLen0 K) dLen := fun Z H x d q zt rx hg Q k => by
  unfold dLen at hg
  split at hg
  · rename_i ds eu
    cases hg
    obtain ⟨a, xs, rfl, hs, r⟩ := rx.seq eu
    exact .inl ⟨_, xs.length, rfl, .inl ⟨xs, hs, rfl⟩, by rw [r.length]; exact k _ Z H .refl (.int _)⟩
  · rename_i ds eu
    cases hg
    cases unscr_ne' eu (by intro _ q; cases q)
    obtain ⟨a, xs, rfl, hs, r⟩ := rpt rx
    exact .inl ⟨_, xs.length, rfl, .inr ⟨xs, hs, rfl⟩, by rw [r.length]; exact k _ Z H .refl (.int _)⟩
  · rename_i s eu
    split at hg <;> cases hg
    cases unscr_ne' eu (by intro _ q; cases q)
    cases rps rx
    exact .inl ⟨_, _, rfl, ⟨lim_line (by assumption), rfl⟩, k _ Z H .refl (.int _)⟩
  · rename_i es eu
    cases hg
    cases unscr_ne' eu (by intro _ q; cases q)
    rcases rx with ⟨a, kvs, rfl, hd, r⟩ | ⟨a, o, xs, ds, rfl, rfl, hh, r⟩
    · exact .inr ⟨a, kvs, rfl, hd, by rw [r.length]; exact k _ Z H .refl (.int _)⟩
    · cases eu
  · cases hg
/-! ### all, sum -/
def asI : D → Option Int
  | .int i => some i
  | _ => none
def dAll (d : D) : Option D := match d with
  | .list ds => (ds.mapM asB).map fun bs => .bool (bs.all id)
  | _ => none
def dSum (d : D) : Option D := match d with
  | .list ds => (ds.mapM asI).map fun bs => .int bs.sum
  | _ => none
theorem RpAll.bls {K : PySem.W.Frag} {Z : Addr → Prop} {H : Hp} : ∀ {vs : List V} {ds : List D} {bs : List Bool}, RpAll K Z H vs ds → ds.mapM asB = some bs → vs = bs.map V.bl
  | _, _, bs, .nil, h => by cases h; rfl
  | _, _, bs, .cons (d := d) (ds := ds) r t, h => by
    rw [List.mapM_cons] at h
    cases e1 : asB d with
    | none => rw [e1] at h; cases h
    | some b =>
      cases e2 : ds.mapM asB with
      | none => rw [e1, e2] at h; cases h
      | some bs' =>
        rw [e1, e2] at h
        cases h
        cases asB_some e1
        rw [rpb r, RpAll.bls t e2]
        rfl
theorem RpAll.ints {K : PySem.W.Frag} {Z : Addr → Prop} {H : Hp} : ∀ {vs : List V} {ds : List D} {bs : List Int}, RpAll K Z H vs ds → ds.mapM asI = some bs → vs = bs.map V.int
  | _, _, bs, .nil, h => by cases h; rfl
  | _, _, bs, .cons (d := d) (ds := ds) r t, h => by
    rw [List.mapM_cons] at h
    cases e1 : asI d with
    | none => rw [e1] at h; cases h
    | some b =>
      cases e2 : ds.mapM asI with
      | none => rw [e1, e2] at h; cases h
      | some bs' =>
        rw [e1, e2] at h
        cases h
        unfold asI at e1
        split at e1 <;> cases e1
        cases r
        rw [RpAll.ints t e2]
        rfl
theorem op1_all {K : PySem.W.Frag} : Op1 K (rAll K) dAll := fun Z H x d q zt rx hg Q k => by
  unfold dAll at hg
  split at hg
  rotate_left
  · cases hg
  rename_i ds
  cases e : ds.mapM asB with
  | none => rw [e] at hg; cases hg
  | some bs =>
    rw [e] at hg
    cases hg
    obtain ⟨a, xs, rfl, ha, r⟩ := rpl rx
    cases r.bls e
    exact ⟨a, bs, rfl, SqL.of ha, k _ Z H .refl (.bl _)⟩
theorem op1_sum {K : PySem.W.Frag} : Op1 K (rSum K) dSum := fun Z H x d q zt rx hg Q k => by
  unfold dSum at hg
  split at hg
  rotate_left
  · cases hg
  rename_i ds
  cases e : ds.mapM asI with
  | none => rw [e] at hg; cases hg
  | some bs =>
    rw [e] at hg
    cases hg
    obtain ⟨a, xs, rfl, ha, r⟩ := rpl rx
    cases r.ints e
    exact ⟨a, bs, rfl, SqL.of ha, k _ Z H .refl (.int _)⟩
/-! ### int, tuple, list, abs -/
def dInt : D → Option D
  | .int i => some (.int i)
  | .bool b => some (.int (if b then 1 else 0))
  | _ => none
theorem op1_int {K : PySem.W.Frag} : Op1 K (fun xs H Q => (∃ i, xs = [.int i] ∧ Q (.int i) H) ∨ ∃ k, xs = [.bl k] ∧ Q (.int (if k then 1 else 0)) H) dInt := fun Z H x d q zt rx hg Q k => by
  unfold dInt at hg
  split at hg <;> cases hg
  · cases rpi rx; exact .inl ⟨_, rfl, k _ Z H .refl (.int _)⟩
  · cases rpbl rx; exact .inr ⟨_, rfl, k _ Z H .refl (.int _)⟩
def dAbs : D → Option D
  | .int i => some (.int (if i < 0 then -i else i))
  | _ => none
theorem op1_abs {K : PySem.W.Frag} : Op1 K (fun xs H Q => ∃ i, xs = [.int i] ∧ Q (.int (if i < 0 then -i else i)) H) dAbs := fun Z H x d q zt rx hg Q k => by
  unfold dAbs at hg
  split at hg <;> cases hg
  cases rpi rx; exact ⟨_, rfl, k _ Z H .refl (.int _)⟩
def dTuple : D → Option D
  | .list ds => some (.tuple ds)
  | .tuple ds => some (.tuple ds)
  | _ => none
theorem op1_tuple {K : PySem.W.Frag} : Op1 K (fun xs H Q => ∃ p ys, xs = [.ref p] ∧ ((SqL K H p ys ∧ NewT H ys Q) ∨ (SqT K H p ys ∧ Q (.ref p) H))) dTuple := fun Z H x d q zt rx hg Q k => by
  unfold dTuple at hg
  split at hg <;> cases hg
  · obtain ⟨a, xs, rfl, ha, r⟩ := rpl rx
    exact ⟨a, xs, rfl, .inl ⟨SqL.of ha, k.tup r⟩⟩
  · obtain ⟨a, xs, rfl, ha, r⟩ := rptN rx
    exact ⟨a, xs, rfl, .inr ⟨ha.sq, k _ Z H .refl (.tup ha r)⟩⟩
def dList : D → Option (List D)
  | .list ds => some ds
  | .tuple ds => some ds
  | _ => none
theorem op1_list {K : PySem.W.Frag} : Op1N K (fun xs H Q => ∃ p ys, xs = [.ref p] ∧ (SqL K H p ys ∨ SqT K H p ys) ∧ ∀ l, H l = none → Q (.ref l) (upd H l (.lst ys))) dList := fun Z H x d q zt rx hg Q k => by
  unfold dList at hg
  split at hg <;> cases hg
  · obtain ⟨a, xs, rfl, ha, r⟩ := rpl rx
    exact ⟨a, xs, rfl, .inl (SqL.of ha), k.lst zt r⟩
  · obtain ⟨a, xs, rfl, ha, r⟩ := rpt rx
    exact ⟨a, xs, rfl, .inr ha, k.lst zt r⟩
/-! ### isinstance -/
def isT : String → D → Option Bool
  | "int", d => some d.isInt
  | "bool", d => some d.isBool
  | "str", d => some d.isStr
  | "tuple", d => some d.isTuple
  | _, _ => none
def rIsD (K : PySem.W.Frag) (T : String) : RC := fun xs H Q => ∃ x d b, xs = [x, .ty T] ∧ Dp K H x d ∧ isT T d = some b ∧ Q (.bl b) H
theorem cr_isD {X : Cx} {T : String} : CallR X (.builtin "isinstance") (rIsD X.K T) := by
  intro pins s σ H xs us Q I r h
  obtain ⟨x, d, b, rfl, hd, e, q⟩ := h
  obtain ⟨u1, u2, rfl, r1, r2⟩ := vals2 r
  cases r2
  obtain ⟨as, rd⟩ := Dp.reads I d x u1 hd r1
  unfold isT at e
  split at e <;> cases e
  · exact PySem.W.isinstance_int_data rd fun tk _ => ⟨.bl _, H, I.tok tk, rfl, q⟩
  · exact PySem.W.isinstance_bool_data rd fun tk _ => ⟨.bl _, H, I.tok tk, rfl, q⟩
  · exact PySem.W.isinstance_str_data rd fun tk _ => ⟨.bl _, H, I.tok tk, rfl, q⟩
  · exact PySem.W.isinstance_tuple_data rd fun tk _ => ⟨.bl _, H, I.tok tk, rfl, q⟩
def dIsi (T : String) (d : D) : Option D := if d.plain then (isT T d).map .bool else none
section
variable {X : Cx} {W : WX} {a : Expr} {pos p p2 : Pos} {fa : Fx} {T : String} {n : Str}
theorem pz_isi (hg : Gl X "isinstance") (hm : X.mg "isinstance" = none) (hg2 : Gl X n) (hm2 : X.mg n = none) (hv : bootBuiltins n = some (.type T)) (ha : PE X a (tO X.K W fa)) (hn : n ≠ "__name__" := by decide) (hd : (n == ("__debug__" : Str)) = false := by decide)
    (he : starEach [a, .Name n p2] X.env = (false, eval a X.env) :: starEach [.Name n p2] X.env := by rfl) (he2 : starEach [.Name n p2] X.env = (false, eval (.Name n p2) X.env) :: starEach [] X.env := by rfl) (hpl : (backTo pos (starEach [.Name n p2] X.env)).any (·.1) = false := by rfl) :
    PE X (.Call (.Name "isinstance" p) [a, .Name n p2] [] pos) (tP X.K W (f1 (dIsi T) fa)) := by
  refine PE.imp (pe_callB (r := rIsD X.K T) cr_isD hg hm PyProof.Rows.boot_isinstance (pa_cons ha (pa_cons (pe_bltn (v := .ty T) hg2 hm2 hv rfl hn hd) pa_nil he2) he) (by decide) (by decide) he hpl) fun σ H Q ⟨B, Z, ρ, E, h⟩ => ?_
  refine ⟨B, Z, ρ, E, h.bind.mono (fun d h1 v Z' H' g r => ?_) fun _ w => w⟩
  obtain ⟨q, eq, k⟩ := h1.ofO
  unfold dIsi at eq
  split at eq
  rotate_left
  · cases eq
  rename_i hp
  cases e : isT T d with
  | none => rw [e] at eq; cases eq
  | some b =>
    rw [e] at eq
    cases eq
    exact ⟨v, d, b, rfl, r.dp hp, e, k _ Z' H' g (.bl _)⟩
end
/-! ### max, min of two -/
def dMax : D → D → Option D
  | .int i, .int j => some (.int (if j > i then j else i))
  | _, _ => none
def dMin : D → D → Option D
  | .int i, .int j => some (.int (if j < i then j else i))
  | _, _ => none
section
variable {X : Cx} {W : WX} {a b : Expr} {pos p : Pos} {fa fb : Fx}
theorem pz_max (hc : X.calm = true) (hg : Gl X "max") (hm : X.mg "max" = none) (ha : PE X a (tP X.K W fa)) (hb : PE X b (tP X.K W fb))
    (he : starEach [a, b] X.env = (false, eval a X.env) :: starEach [b] X.env := by rfl) (he2 : starEach [b] X.env = (false, eval b X.env) :: starEach [] X.env := by rfl) (hpl : (backTo pos (starEach [b] X.env)).any (·.1) = false := by rfl) : PE X (.Call (.Name "max" p) [a, b] [] pos) (tP X.K W (f2 dMax fa fb)) := by
  refine PE.imp (pe_callB (call_max2 hc) hg hm (by decide +kernel) (pa_cons ha (pa_cons hb pa_nil he2) he) (by decide) (by decide) he hpl) fun σ H Q ⟨B, Z, ρ, E, h⟩ => ?_
  refine ⟨B, Z, ρ, E, h.bind.mono (fun d h1 v Z1 H1 g1 r1 => ⟨B, Z1, ρ, E.grow g1, h1.bind.mono (fun d2 h2 v2 Z2 H2 g2 r2 => ?_) fun _ w => w.grow g1⟩) fun _ w => w⟩
  obtain ⟨q, eq, k⟩ := h2.ofO
  unfold dMax at eq
  split at eq <;> cases eq
  cases r1; cases r2
  exact ⟨_, _, rfl, k _ Z2 H2 (g1.trans g2) (.int _)⟩
theorem pz_min (hc : X.calm = true) (hg : Gl X "min") (hm : X.mg "min" = none) (ha : PE X a (tP X.K W fa)) (hb : PE X b (tP X.K W fb))
    (he : starEach [a, b] X.env = (false, eval a X.env) :: starEach [b] X.env := by rfl) (he2 : starEach [b] X.env = (false, eval b X.env) :: starEach [] X.env := by rfl) (hpl : (backTo pos (starEach [b] X.env)).any (·.1) = false := by rfl) : PE X (.Call (.Name "min" p) [a, b] [] pos) (tP X.K W (f2 dMin fa fb)) := by
  refine PE.imp (pe_callB (call_min2 hc) hg hm (by decide +kernel) (pa_cons ha (pa_cons hb pa_nil he2) he) (by decide) (by decide) he hpl) fun σ H Q ⟨B, Z, ρ, E, h⟩ => ?_
  refine ⟨B, Z, ρ, E, h.bind.mono (fun d h1 v Z1 H1 g1 r1 => ⟨B, Z1, ρ, E.grow g1, h1.bind.mono (fun d2 h2 v2 Z2 H2 g2 r2 => ?_) fun _ w => w.grow g1⟩) fun _ w => w⟩
  obtain ⟨q, eq, k⟩ := h2.ofO
  unfold dMin at eq
  split at eq <;> cases eq
  cases r1; cases r2
  exact ⟨_, _, rfl, k _ Z2 H2 (g1.trans g2) (.int _)⟩
end
end Pz

set_option maxHeartbeats 1000000
/-! The plain layer: what a loop walks. -/
namespace Pz
open PySem PySem.Spec L2

/-- an item: a datum; wk: or a tuple made by the way, of which less is known -/
def RpB (wk : Bool) (K : PySem.W.Frag) (Z : Addr → Prop) (H : Hp) (v : V) (d : D) : Prop := Rp K Z H v d ∨ (wk = true ∧ ∃ a xs ds, v = .ref a ∧ d = .tuple ds ∧ SqT K H a xs ∧ RpAll K Z H xs ds)
theorem RpB.strong {K : PySem.W.Frag} {Z : Addr → Prop} {H : Hp} {v : V} {d : D} (h : RpB false K Z H v d) : Rp K Z H v d := h.elim id fun q => by cases q.1
/-- J walks the data ds, as long as what is frozen stands -/
structure ItOk (wk : Bool) (K : PySem.W.Frag) (Z : Addr → Prop) (H : Hp) (J : It) (ds : List D) : Prop where
  stop : ∀ Z' H', Keeps K Z H Z' H' → J.stop ds.length H'
  step : ∀ Z' H', Keeps K Z H Z' H' → ∀ i d, ds[i]? = some d → J.go i H' ∧ ∀ x H2, J.yld i H' x H2 → Grow Z' H' Z' H2 ∧ RpB wk K Z' H2 x d
def tIt (wk : Bool) (K : PySem.W.Frag) (W : WX) (f : Fxs) : TI := fun σ H Rr => ∃ B Z ρ, EnvOk K B Z H σ ρ ∧ post (fun ds => ∀ J Z' H', Grow Z H Z' H' → ItOk wk K Z' H' J ds → Rr J H') (xWish K Z H W σ) (f ρ)
def dIter : D → Option (List D)
  | .list ds => some ds
  | .tuple ds => some ds
  | .str s => some (s.cps.toList.map fun c => .str ⟨#[c]⟩)
  | _ => none
section
variable {K : PySem.W.Frag} {Z : Addr → Prop} {H : Hp} {x : V}
theorem itOk_list {a : Addr} {xs : List V} {ds : List D} (z : Z a) (h : H a = some (.lst xs)) (r : RpAll K Z H xs ds) : ItOk false K Z H (Itl K a) ds where
  stop := fun Z' H' k => ⟨xs, SqL.of (k.di a _ z h), by rw [r.length]; exact Nat.le_refl _⟩
  step := fun Z' H' k i d e => by
    obtain ⟨v, e1, rv⟩ := (r.keep k).get i d e
    have hs : SqL K H' a xs := SqL.of (k.di a _ z h)
    refine ⟨⟨xs, v, hs, e1⟩, fun x H2 y => ?_⟩
    obtain ⟨rfl, y⟩ := y
    have q := y xs hs
    rw [e1] at q
    cases q
    exact ⟨.refl, .inl rv⟩
theorem itOk_tup {a : Addr} {xs : List V} {ds : List D} (h : SqT K H a xs) (r : RpAll K Z H xs ds) : ItOk false K Z H (Itt K a) ds where
  stop := fun Z' H' k => ⟨xs, k.tp a _ h, by rw [r.length]; exact Nat.le_refl _⟩
  step := fun Z' H' k i d e => by
    obtain ⟨v, e1, rv⟩ := (r.keep k).get i d e
    have hs : SqT K H' a xs := k.tp a _ h
    refine ⟨⟨xs, v, hs, e1⟩, fun x H2 y => ?_⟩
    obtain ⟨rfl, y⟩ := y
    have q := y xs hs
    rw [e1] at q
    cases q
    exact ⟨.refl, .inl rv⟩
theorem itOk_str {s : Str} : ItOk false K Z H (Its s) (s.cps.toList.map fun c => .str ⟨#[c]⟩) where
  stop := fun Z' H' k => by show s.cps.size ≤ _; rw [List.length_map, Array.length_toList]; exact Nat.le_refl _
  step := fun Z' H' k i d e => by
    rw [List.getElem?_map] at e
    cases ec : s.cps.toList[i]? with
    | none => rw [ec] at e; cases e
    | some c =>
      rw [ec] at e
      cases e
      rw [Array.getElem?_toList] at ec
      refine ⟨(Array.getElem?_eq_some_iff.mp ec).1, fun x H2 y => ?_⟩
      obtain ⟨rfl, c', e1, rfl⟩ := y
      rw [ec] at e1
      cases e1
      exact ⟨.refl, .inl (.str _)⟩
theorem itOk_rng {lo : Int} {n : Nat} : ItOk false K Z H (Itr lo n) ((List.range n).map fun i => .int (lo + (i : Nat))) where
  stop := fun Z' H' k => by show n ≤ _; rw [List.length_map, List.length_range]; exact Nat.le_refl _
  step := fun Z' H' k i d e => by
    rw [List.getElem?_map] at e
    by_cases hi : i < n
    · rw [List.getElem?_range hi] at e
      cases e
      refine ⟨hi, fun x H2 y => ?_⟩
      obtain ⟨rfl, rfl⟩ := y
      exact ⟨.refl, .inl (.int _)⟩
    · rw [List.getElem?_eq_none (by rw [List.length_range]; omega)] at e
      cases e
end
/-- a list, a tuple, a text -/
def iAny (K : PySem.W.Frag) (tl : TE) : TI := fun σ H R => tl σ H fun x H1 => (∃ a xs, x = .ref a ∧ SqL K H1 a xs ∧ R (Itl K a) H1) ∨ (∃ a xs, x = .ref a ∧ SqT K H1 a xs ∧ R (Itt K a) H1) ∨ ∃ z, x = .str z ∧ R (Its z) H1
section
variable {X : Cx} {W : WX} {tg e a b : Expr} {tl : TE} {fa fb : Fx} {pos p : Pos}
theorem PI.imp {t t' : TI} (h : PI X tg e t) (hi : ∀ σ H Q, t' σ H Q → t σ H Q) : PI X tg e t' := ⟨fun pins s σ H R I hw => h.run pins s σ H R I (hi σ H R hw)⟩
theorem pi_any (hl : PE X e tl) : PI X tg e (iAny X.K tl) := by
  refine ⟨fun pins s σ H R I h => thn (hl.run pins s σ H _ I h) fun v s1 ⟨x, H1, I1, r1, q1⟩ => ?_⟩
  have k0 : ∀ (x : V), RelV x v → PE X e (fun _ H' Q => Q x H') → True := fun _ _ _ => trivial
  rcases q1 with ⟨a, xs, ex, hq, q⟩ | ⟨a, xs, ex, hq, q⟩ | ⟨z, ex, q⟩
  · subst ex
    cases r1
    obtain ⟨its, rv, pl, hz⟩ := I1.list hq
    refine wpAny_pyIter_list pl.isList ⟨s1.heap.objs.size, [s1.heap.objs.size], _, _, H1, rfl, I1.kept (t' := s1.toks) fun b o q' => Heap.get?_push_of_some _ q', turn_list a _, ⟨_, Heap.get?_push_size _ rfl, rfl, rfl⟩, fun b hb => ?_, q⟩
    cases List.mem_singleton.mp hb
    exact I1.fpOk (Nat.le_refl _) I1.fresh
  · subst ex
    cases r1
    obtain ⟨its, rv, pl, hz⟩ := I1.tuple hq
    refine wpAny_pyIter_tuple (show s1.heap.IsTuple a its.toArray from pl) ⟨s1.heap.objs.size, [s1.heap.objs.size], _, _, H1, rfl, I1.kept (t' := s1.toks) fun b o q' => Heap.get?_push_of_some _ q', turn_tuple a _, ⟨_, Heap.get?_push_size _ rfl, rfl, rfl⟩, fun b hb => ?_, q⟩
    cases List.mem_singleton.mp hb
    exact I1.fpOk (Nat.le_refl _) I1.fresh
  · subst ex
    obtain ⟨t, rfl⟩ := r1
    have hty : strIterType z = "str_ascii_iterator" ∨ strIterType z = "str_iterator" := by unfold strIterType; split <;> simp
    refine wpAny_pyIter_strU ⟨s1.heap.objs.size, [s1.heap.objs.size], _, _, H1, rfl, I1.kept (t' := s1.toks) fun b o q' => Heap.get?_push_of_some _ q', turn_str s1.heap.objs.size z t (strIterType z) hty, ⟨_, Heap.get?_push_size _ rfl, rfl, rfl⟩, fun b hb => ?_, q⟩
    cases List.mem_singleton.mp hb
    exact I1.fpOk (Nat.le_refl _) I1.fresh
def fIter (a : Fx) : Fxs := fun ρ => a ρ >>= fun d => ofO (dIter d)
theorem iz_any (ha : PE X e (tP X.K W fa)) : PI X tg e (tIt false X.K W (fIter fa)) := PI.imp (pi_any ha) fun σ H Rr ⟨B, Z, ρ, E, h⟩ => by
  refine ⟨B, Z, ρ, E, h.bind.mono (fun d h1 v Z' H' g r => ?_) fun _ w => w⟩
  obtain ⟨ds, ed, k⟩ := h1.ofO
  unfold dIter at ed
  split at ed <;> cases ed
  · cases r with
    | lst z hl r => exact .inl ⟨_, _, rfl, SqL.of hl, k _ Z' H' g (itOk_list z hl r)⟩
  · cases r with
    | tup hl r => exact .inr (.inl ⟨_, _, rfl, hl.sq, k _ Z' H' g (itOk_tup hl.sq r)⟩)
  · cases r
    exact .inr (.inr ⟨_, rfl, k _ Z' H' g itOk_str⟩)
/-! ### range -/
def rngD (lo hi : Int) : List D := (List.range (hi - lo).toNat).map fun i => .int (lo + (i : Nat))
def fRng1 (a : Fx) : Fxs := fun ρ => a ρ >>= fun d => match d with
  | .int n => if -1000000 ≤ n ∧ n ≤ 1000000 then .ok (rngD 0 n) else .bad
  | _ => .bad
def fRng2 (a b : Fx) : Fxs := fun ρ => a ρ >>= fun d => b ρ >>= fun e => match d, e with
  | .int m, .int n => if (-1000000 ≤ m ∧ m ≤ 1000000) ∧ -1000000 ≤ n ∧ n ≤ 1000000 then .ok (rngD m n) else .bad
  | _, _ => .bad
theorem iz_range1 (hg : Gl X "range") (hm : X.mg "range" = none) (ha : PE X a (tP X.K W fa)) (hs : starEach [a] X.env = (false, eval a X.env) :: starEach [] X.env := by rfl) (hs2 : starEach [a] X.env = [(false, eval a X.env)] := by rfl) : PI X tg (.Call (.Name "range" p) [a] [] pos) (tIt false X.K W (fRng1 fa)) := PI.imp (pi_range1 hg hm (pa_cons ha pa_nil hs) hs2) fun σ H Rr ⟨B, Z, ρ, E, h⟩ => by
  refine ⟨B, Z, ρ, E, h.bind.mono (fun d h1 v Z' H' g r => ?_) fun _ w => w⟩
  split at h1
  rotate_left
  · exact h1.elim
  rename_i n
  split at h1
  rotate_left
  · exact h1.elim
  rename_i hn
  cases r
  refine ⟨n, rfl, by omega, by omega, ?_⟩
  have q := h1 (Itr 0 n.toNat) Z' H' g (by unfold rngD; rw [show n - 0 = n by omega]; exact itOk_rng)
  exact q
theorem iz_range2 (hg : Gl X "range") (hm : X.mg "range" = none) (ha : PE X a (tP X.K W fa)) (hb : PE X b (tP X.K W fb)) (hs : starEach [a, b] X.env = (false, eval a X.env) :: starEach [b] X.env := by rfl) (hs0 : starEach [b] X.env = (false, eval b X.env) :: starEach [] X.env := by rfl)
    (hs2 : starEach [a, b] X.env = [(false, eval a X.env), (false, eval b X.env)] := by rfl) (hs3 : starEach [b] X.env = [(false, eval b X.env)] := by rfl) : PI X tg (.Call (.Name "range" p) [a, b] [] pos) (tIt false X.K W (fRng2 fa fb)) := PI.imp (pi_range2 hg hm (pa_cons ha (pa_cons hb pa_nil hs0) hs) hs2 hs3) fun σ H Rr ⟨B, Z, ρ, E, h⟩ => by
  refine ⟨B, Z, ρ, E, h.bind.mono (fun d h1 v Z1 H1 g1 r1 => ⟨B, Z1, ρ, E.grow g1, h1.bind.mono (fun d2 h2 v2 Z2 H2 g2 r2 => ?_) fun _ w => w.grow g1⟩) fun _ w => w⟩
  split at h2
  rotate_left
  · exact h2.elim
  rename_i m n
  split at h2
  rotate_left
  · exact h2.elim
  rename_i hn
  cases r1; cases r2
  exact ⟨m, n, rfl, by omega, h2 (Itr m (n - m).toNat) Z2 H2 (g1.trans g2) itOk_rng⟩
end
/-! ### enumerate, over lists and tuples -/
def enumD (ds : List D) : List D := ds.zipIdx.map fun p => .tuple [.int (p.2 : Nat), p.1]
/-- the tuple at a as it stands, each item in a new pair -/
def IteT (K : PySem.W.Frag) (a : Addr) : It :=
  ⟨fun i H => ∃ xs x, SqT K H a xs ∧ xs[i]? = some x, fun i H v H' => ∃ T x, v = .ref T ∧ H T = none ∧ H' = upd H T (.tup [.int (i : Nat), x]) ∧ ∀ xs, SqT K H a xs → xs[i]? = some x, fun i H => ∃ xs, SqT K H a xs ∧ xs.length = i⟩
theorem tup_apart {h : Heap} {a e it : Addr} {its : Array Value} {i : Nat} {k : Int} (pt : PyProof.Rows.IsTup h a its) (hit : h.IsTupleIter it a i) (hen : ∃ old, IsEnum h e it k old) : a ≠ it ∧ a ≠ e := by
  obtain ⟨o2, g1, g2, _⟩ := pt
  refine ⟨fun q => ?_, fun q => ?_⟩
  · obtain ⟨o1, h1, h2, h3⟩ := hit
    rw [q, h1] at g1
    cases g1
    rw [h2] at g2
    exact absurd g2 (by decide)
  · obtain ⟨old, he⟩ := hen
    have he' : h.get? e = some _ := he
    rw [q, he'] at g1
    cases g1
    injection g2 with z
    exact absurd z (by decide)
theorem turn_enumT {P : Program} {w : World} {K : PySem.W.Frag} {elts : List Expr} {kk : Nat} {tpos : Pos} (a e it : Addr) :
    Turn P w K (.Tuple elts kk tpos) (IteT K a) [e, it] e (fun i h => (∃ old, IsEnum h e it (0 + ((i : Nat) : Int)) old) ∧ h.IsTupleIter it a i ∧ e ≠ it) where
  mem := by simp
  obj := fun i h ⟨⟨old, he⟩, ⟨o, ho, hc, hd⟩, _⟩ b hb => by
    rcases List.mem_cons.mp hb with z | z
    · rw [z]; exact ⟨_, he, fun v q => nomatch q⟩
    · rw [List.mem_singleton.mp z]; exact ⟨o, ho, fun v q => by rw [hd] at q; cases q⟩
  keep := fun i h h' ⟨⟨old, he⟩, hi, hne⟩ k => ⟨⟨old, k e (by simp) _ he⟩, hi.at fun o q => k it (by simp) o q, hne⟩
  item := by
    intro X hP hw hK hc i pins s σ H E I hf st hg
    subst hP hw hK
    obtain ⟨hen, hit, hne⟩ := st
    obtain ⟨xs, x, hq, hx⟩ := hg
    obtain ⟨its, rv, pt, hz⟩ := I.tuple hq
    obtain ⟨u, hu, ru⟩ := rv.get hx
    have hlt : i < its.toArray.size := by rw [List.size_toArray]; exact (List.getElem?_eq_some_iff.mp hu).1
    obtain ⟨hta, hae⟩ := tup_apart pt hit hen
    have G := GoesN.enumFrom (prog := X.prog) (w := X.w) (A := X.A) (elts := elts) (x1 := kk) (pos := tpos) 0 (Draws.tuple (A := X.A.in1) (I.ok.hd hc) it a hta its.toArray) e hne (by simp [hne, Ne.symm hae]) (by simp)
    have hel : e < s.heap.objs.size := Heap.lt_size hen.choose_spec
    have hil : it < s.heap.objs.size := by obtain ⟨_, q, _⟩ := hit; exact Heap.lt_size q
    refine wpAny_mono (G.goes i s (fun v s2 => ∃ x H', Inv X pins σ H' s2 ∧ RelV x v ∧ (IteT X.K a).yld i H x H' ∧ ((∃ old, IsEnum s2.heap e it (0 + ((i + 1 : Nat) : Int)) old) ∧ s2.heap.IsTupleIter it a (i + 1) ∧ e ≠ it) ∧ ∀ b ∈ [e, it], H' b = none) E hlt ⟨hen, hit, pt⟩ fun v h' tk hY st' hk _ => ?_) (fun r s1 ⟨v, er, h⟩ => ⟨v, er, h⟩) fun _ _ z => z
    obtain ⟨T, t, y, rfl, hT, hy, hTup⟩ := hY
    rw [List.getElem?_toArray, hu] at hy
    cases hy
    have new : ObjOk X.prog X.w (upd H T (.tup [.int (i : Nat), x])) h' T (.tup [.int (i : Nat), x]) :=
      ⟨by show 2 ≤ sizeLine; decide, [.int (0 + (i : Int)) t, u], .cons ⟨t, by rw [Int.zero_add]⟩ (.cons ru .nil), hTup⟩
    have I1 : Inv X pins σ (upd H T (.tup [.int (i : Nat), x])) { s with heap := h', toks := tk } := I.turnedNew (ch := [e, it]) hk hf hT new
    refine ⟨.ref T, _, I1, rfl, ⟨T, x, rfl, I.hok.fresh hT, rfl, fun ys hy => by rw [I.tuple_inj hy hq]; exact hx⟩, ⟨st'.1, st'.2.1, hne⟩, fun b hb => ?_⟩
    have hb' : b < s.heap.objs.size := by
      rcases List.mem_cons.mp hb with z | z
      · rw [z]; exact hel
      · rw [List.mem_singleton.mp z]; exact hil
    rw [upd_ne (Nat.ne_of_lt (Nat.lt_of_lt_of_le hb' hT))]
    exact (hf b hb).1
  done := by
    intro X hP hw hK hc i pins s σ H E I hf st hg
    subst hP hw hK
    obtain ⟨hen, hit, hne⟩ := st
    obtain ⟨xs, hq, hx⟩ := hg
    obtain ⟨its, rv, pt, hz⟩ := I.tuple hq
    obtain ⟨hta, hae⟩ := tup_apart pt hit hen
    have G := GoesN.enumFrom (prog := X.prog) (w := X.w) (A := X.A) (elts := elts) (x1 := kk) (pos := tpos) 0 (Draws.tuple (A := X.A.in1) (I.ok.hd hc) it a hta its.toArray) e hne (by simp [hne, Ne.symm hae]) (by simp)
    have ei : i = its.toArray.size := by rw [List.size_toArray, ← rv.length]; exact hx.symm
    subst ei
    refine G.stops s (fun s1 => Inv X pins σ H s1) E ⟨hen, hit, pt⟩ fun h' tk hk _ => ?_
    exact I.turnedL (ch := [e, it]) hk hf
  self := fun A i s Q E ⟨⟨_, he⟩, _⟩ h => wpAny_pyIter_enum he h
section
variable {prog : Program} {w : World} {A : Around} {E : Value → Shared → Prop} {s : Shared}
set_option maxHeartbeats 2000000 in
theorem enum_new1 {v : Value} {o : Obj} {H : Heap → Prop} (B : Begins v o H) :
    Meets (Builtin.«enumerate.__new__» ⟨[.type "enumerate", v], []⟩) (fun _ R s => H s.heap ∧
      R (.ok (.ret (.ref (s.heap.push o).objs.size))) { s with heap := (s.heap.push o).push { cls := .type "enumerate", data := .fields #[.none, .bool false, .ref s.heap.objs.size, rawInt 0, .none, .none] } }) :=
  .of_wp fun prog w A R st h => by
    obtain ⟨hh, g, d, tk, os⟩ := st
    obtain ⟨hH, hR⟩ := h
    have hsub := sub_enumerate
    have itr : ∀ {A₂ : Around} {E₂ Q₂ : Value → Shared → Prop}, Q₂ (.ref hh.objs.size) ⟨hh.push o, g, d, tk, os⟩ → wpAny (model prog w) A₂ (pyIter v) Q₂ E₂ ⟨hh, g, d, tk, os⟩ := fun k => B.iter prog w _ _ ⟨hh, g, d, tk, os⟩ _ hH k
    wp_walk using itr
    refine wpAny_stack_any fun z => wpAny_pure ?_
    split
    · rename_i cc _ _ _ _ _
      cases (cc == Value.type "enumerate") <;> (wp_walk using itr; exact ⟨_, rfl, hR⟩)
    · wp_walk using itr
      exact ⟨_, rfl, hR⟩
theorem enum_call1 {v : Value} {o : Obj} {H : Heap → Prop} {Q : Value → Shared → Prop} (B : Begins v o H) (h1 : H s.heap)
    (h : ∀ h', IsEnum h' (s.heap.objs.size + 1) s.heap.objs.size 0 .none → h'.get? s.heap.objs.size = some o → (∀ b u, s.heap.get? b = some u → h'.get? b = some u) → Q (.ref (s.heap.objs.size + 1)) { s with heap := h' }) :
    wpAny (model prog w) A (call (.type "enumerate") [v]) Q E s := by
  refine callType_new F.called_enumerate (by decide) (F.typeCall_enumerate_1 _) (F.newCall_enumerate_1 _) (fun obj => F.args_object_init_2 obj _) F.entry_enumerate_new (enum_new1 B) ⟨h1, ?_⟩
  have sz : (s.heap.push o).objs.size = s.heap.objs.size + 1 := Heap.size_push ..
  show _ ∧ _
  rw [sz]
  have ie : IsEnum ((s.heap.push o).push { cls := .type "enumerate", data := .fields #[.none, .bool false, .ref s.heap.objs.size, rawInt 0, .none, .none] }) (s.heap.objs.size + 1) s.heap.objs.size 0 .none := by
    have z := Heap.get?_push_size (s.heap.push o) (o := { cls := .type "enumerate", data := .fields #[.none, .bool false, .ref s.heap.objs.size, rawInt 0, .none, .none] }) rfl
    rw [sz] at z
    exact z
  exact ⟨⟨_, ie, rfl⟩, h _ ie (Heap.get?_push_of_some _ (Heap.get?_push_size _ B.free)) fun b u x => Heap.get?_push_of_some _ (Heap.get?_push_of_some _ x)⟩
end
/-- enumerate of a list or a tuple -/
def iEnumA (K : PySem.W.Frag) (ta : TA) : TI := fun σ H R => ta σ H fun vs H1 => ∃ a xs, vs = [.ref a] ∧ ((SqL K H1 a xs ∧ R (Ite K a) H1) ∨ (SqT K H1 a xs ∧ R (IteT K a) H1))
theorem pi_enumA {X : Cx} {e : Expr} {ta : TA} {p pos tpos : Pos} {elts : List Expr} {kk : Nat} (hg : Gl X "enumerate") (hm : X.mg "enumerate" = none) (ha : PA X [e] ta) (hs : starEach [e] X.env = [(false, eval e X.env)] := by rfl) :
    PI X (.Tuple elts kk tpos) (.Call (.Name "enumerate" p) [e] [] pos) (iEnumA X.K ta) := by
  refine ⟨fun pins s σ H R I h => PyProof.Rows.Call_ (ld_blt I hg hm PyProof.Rows.boot_enumerate (PyProof.Rows.callWith_type1 (thn (ha.run pos pins s σ H _ I h) fun us s1 ⟨vs, H1, I1, r1, q1⟩ => ?_) hs rfl))⟩
  obtain ⟨a, xs, rfl, q⟩ := q1
  obtain ⟨u, rfl, ru⟩ := vals1 r1
  cases ru
  have fp : ∀ b ∈ [s1.heap.objs.size + 1, s1.heap.objs.size], FpOk X pins H1 b := fun b hb => by
    have hle : s1.heap.objs.size ≤ b := by
      rcases List.mem_cons.mp hb with z | z
      · rw [z]; exact Nat.le_add_right _ _
      · rw [List.mem_singleton.mp z]; exact Nat.le_refl _
    exact I1.fpOk hle (I1.hok.fresh hle)
  rcases q with ⟨hq, q⟩ | ⟨hq, q⟩
  · obtain ⟨its, rv, pl, hz⟩ := I1.list hq
    exact call_enumerate_list pl.isList fun h' he hit hsz hk => wpAny_pyIter_enum he ⟨_, _, _, _, H1, rfl, I1.kept (t' := s1.toks) hk, turn_enum a (s1.heap.objs.size + 1) s1.heap.objs.size, ⟨⟨.none, he⟩, hit, Nat.succ_ne_self _⟩, fp, q⟩
  · obtain ⟨its, rv, pt, hz⟩ := I1.tuple hq
    exact enum_call1 (begins_tuple a its.toArray) pt fun h' he hit hk => wpAny_pyIter_enum he ⟨_, _, _, _, H1, rfl, I1.kept (t' := s1.toks) hk, turn_enumT a (s1.heap.objs.size + 1) s1.heap.objs.size, ⟨⟨.none, he⟩, ⟨_, hit, rfl, rfl⟩, Nat.succ_ne_self _⟩, fp, q⟩
end Pz

set_option maxHeartbeats 1000000
/-! The plain layer: enumerate, zip; names stored; statements. -/
namespace Pz
open PySem PySem.Spec L2

theorem enumD_get (ds : List D) (i : Nat) : (enumD ds)[i]? = (ds[i]?).map fun d => .tuple [.int (i : Nat), d] := by
  unfold enumD
  rw [List.getElem?_map, List.getElem?_zipIdx]
  cases ds[i]? with
  | none => rfl
  | some d => simp
theorem enumD_length (ds : List D) : (enumD ds).length = ds.length := by simp [enumD]
def zipD (ds es : List D) : List D := (ds.zip es).map fun p => .tuple [p.1, p.2]
section
variable {K : PySem.W.Frag} {Z : Addr → Prop} {H : Hp} {x : V}
theorem itOk_enumL {a : Addr} {xs : List V} {ds : List D} (z : Z a) (h : H a = some (.lst xs)) (r : RpAll K Z H xs ds) : ItOk true K Z H (Ite K a) (enumD ds) where
  stop := fun Z' H' k => ⟨xs, SqL.of (k.di a _ z h), by rw [enumD_length, r.length]; exact Nat.le_refl _⟩
  step := fun Z' H' k i d e => by
    rw [enumD_get] at e
    cases ed : ds[i]? with
    | none => rw [ed] at e; cases e
    | some d0 =>
      rw [ed] at e
      cases e
      obtain ⟨v, e1, rv⟩ := (r.keep k).get i d0 ed
      have hs : SqL K H' a xs := SqL.of (k.di a _ z h)
      refine ⟨⟨xs, v, hs, e1⟩, fun x H2 y => ?_⟩
      obtain ⟨T, x', rfl, hn, rfl, y⟩ := y
      have q := y xs hs
      rw [e1] at q
      cases q
      have g := grow_upd (Z := Z') (H := H') (p := T) (o := .tup [.int (i : Nat), v]) hn
      exact ⟨g, .inr ⟨rfl, _, _, _, rfl, rfl, SqT.of upd_same, .cons (.int _) (.cons (rv.grow g) .nil)⟩⟩
theorem itOk_enumT {a : Addr} {xs : List V} {ds : List D} (h : SqT K H a xs) (r : RpAll K Z H xs ds) : ItOk true K Z H (IteT K a) (enumD ds) where
  stop := fun Z' H' k => ⟨xs, k.tp a _ h, by rw [enumD_length, r.length]⟩
  step := fun Z' H' k i d e => by
    rw [enumD_get] at e
    cases ed : ds[i]? with
    | none => rw [ed] at e; cases e
    | some d0 =>
      rw [ed] at e
      cases e
      obtain ⟨v, e1, rv⟩ := (r.keep k).get i d0 ed
      have hs : SqT K H' a xs := k.tp a _ h
      refine ⟨⟨xs, v, hs, e1⟩, fun x H2 y => ?_⟩
      obtain ⟨T, x', rfl, hn, rfl, y⟩ := y
      have q := y xs hs
      rw [e1] at q
      cases q
      have g := grow_upd (Z := Z') (H := H') (p := T) (o := .tup [.int (i : Nat), v]) hn
      exact ⟨g, .inr ⟨rfl, _, _, _, rfl, rfl, SqT.of upd_same, .cons (.int _) (.cons (rv.grow g) .nil)⟩⟩
theorem zip_get {ds es : List D} {i : Nat} {d : D} (e : (zipD ds es)[i]? = some d) : ∃ d1 d2, ds[i]? = some d1 ∧ es[i]? = some d2 ∧ d = .tuple [d1, d2] := by
  unfold zipD at e
  rw [List.getElem?_map] at e
  cases q : (ds.zip es)[i]? with
  | none => rw [q] at e; cases e
  | some p =>
    rw [q] at e
    cases e
    obtain ⟨h1, h2⟩ := List.getElem?_zip_eq_some.mp q
    exact ⟨_, _, h1, h2, rfl⟩
theorem itOk_zipT {a b : Addr} {xs ys : List V} {ds es : List D} (h : SqT K H a xs) (h' : SqT K H b ys) (r : RpAll K Z H xs ds) (r' : RpAll K Z H ys es) : ItOk true K Z H (RZ.ItzT K a b) (zipD ds es) where
  stop := fun Z' H' k => ⟨xs, ys, k.tp a _ h, k.tp b _ h', by simp only [zipD, List.length_map, List.length_zip, r.length, r'.length]; omega⟩
  step := fun Z' H' k i d e => by
    obtain ⟨d1, d2, e1, e2, rfl⟩ := zip_get e
    obtain ⟨v1, f1, r1⟩ := (r.keep k).get i d1 e1
    obtain ⟨v2, f2, r2⟩ := (r'.keep k).get i d2 e2
    refine ⟨⟨xs, ys, v1, v2, k.tp a _ h, k.tp b _ h', f1, f2⟩, fun x H2 y => ?_⟩
    obtain ⟨T, x', y', rfl, hn, rfl, q1, q2⟩ := y
    have q1 := q1 xs (k.tp a _ h)
    have q2 := q2 ys (k.tp b _ h')
    rw [f1] at q1
    rw [f2] at q2
    cases q1; cases q2
    have g := grow_upd (Z := Z') (H := H') (p := T) (o := .tup [v1, v2]) hn
    exact ⟨g, .inr ⟨rfl, _, _, _, rfl, rfl, SqT.of upd_same, .cons (r1.grow g) (.cons (r2.grow g) .nil)⟩⟩
theorem itOk_zipL {a b : Addr} {xs ys : List V} {ds es : List D} (z : Z a) (z' : Z b) (h : H a = some (.lst xs)) (h' : H b = some (.lst ys)) (r : RpAll K Z H xs ds) (r' : RpAll K Z H ys es) : ItOk true K Z H (Itz K a b) (zipD ds es) where
  stop := fun Z' H' k => ⟨xs, ys, SqL.of (k.di a _ z h), SqL.of (k.di b _ z' h'), by simp only [zipD, List.length_map, List.length_zip, r.length, r'.length]; omega⟩
  step := fun Z' H' k i d e => by
    obtain ⟨d1, d2, e1, e2, rfl⟩ := zip_get e
    obtain ⟨v1, f1, r1⟩ := (r.keep k).get i d1 e1
    obtain ⟨v2, f2, r2⟩ := (r'.keep k).get i d2 e2
    have s1 : SqL K H' a xs := SqL.of (k.di a _ z h)
    have s2 : SqL K H' b ys := SqL.of (k.di b _ z' h')
    refine ⟨⟨xs, ys, v1, v2, s1, s2, f1, f2⟩, fun x H2 y => ?_⟩
    obtain ⟨T, x', y', rfl, hn, rfl, q1, q2⟩ := y
    have q1 := q1 xs s1
    have q2 := q2 ys s2
    rw [f1] at q1
    rw [f2] at q2
    cases q1; cases q2
    have g := grow_upd (Z := Z') (H := H') (p := T) (o := .tup [v1, v2]) hn
    exact ⟨g, .inr ⟨rfl, _, _, _, rfl, rfl, SqT.of upd_same, .cons (r1.grow g) (.cons (r2.grow g) .nil)⟩⟩
end
def dItems : D → Option (List D)
  | .list ds => some ds
  | .tuple ds => some ds
  | _ => none
def fEnum (a : Fx) : Fxs := fun ρ => a ρ >>= fun d => ofO (dItems d) >>= fun ds => .ok (enumD ds)
def fZip (a b : Fx) : Fxs := fun ρ => a ρ >>= fun d => b ρ >>= fun e => match d, e with
  | .tuple ds, .tuple es => .ok (zipD ds es)
  | .list ds, .list es => .ok (zipD ds es)
  | _, _ => .bad
section
variable {X : Cx} {W : WX} {tg e a b : Expr} {tl : TE} {fa fb : Fx} {pos p tpos : Pos} {elts : List Expr} {kk : Nat}
theorem iz_enum (hg : Gl X "enumerate") (hm : X.mg "enumerate" = none) (ha : PE X a (tP X.K W fa)) (hs : starEach [a] X.env = (false, eval a X.env) :: starEach [] X.env := by rfl) (hs2 : starEach [a] X.env = [(false, eval a X.env)] := by rfl) :
    PI X (.Tuple elts kk tpos) (.Call (.Name "enumerate" p) [a] [] pos) (tIt true X.K W (fEnum fa)) := PI.imp (pi_enumA hg hm (pa_cons ha pa_nil hs) hs2) fun σ H Rr ⟨B, Z, ρ, E, h⟩ => by
  refine ⟨B, Z, ρ, E, h.bind.mono (fun d h1 v Z' H' g r => ?_) fun _ w => w⟩
  obtain ⟨ds, ed, k⟩ := h1.bind.ofO
  unfold dItems at ed
  split at ed <;> cases ed
  · cases r with
    | lst z hl r => exact ⟨_, _, rfl, .inl ⟨SqL.of hl, k _ Z' H' g (itOk_enumL z hl r)⟩⟩
  · cases r with
    | tup hl r => exact ⟨_, _, rfl, .inr ⟨hl.sq, k _ Z' H' g (itOk_enumT hl.sq r)⟩⟩
theorem iz_zip (hg : Gl X "zip") (hm : X.mg "zip" = none) (ha : PE X a (tP X.K W fa)) (hb : PE X b (tP X.K W fb)) (hs : starEach [a, b] X.env = (false, eval a X.env) :: starEach [b] X.env := by rfl) (hs0 : starEach [b] X.env = (false, eval b X.env) :: starEach [] X.env := by rfl)
    (hpl : (backTo pos (starEach [b] X.env)).any (·.1) = false := by rfl) : PI X (.Tuple elts kk tpos) (.Call (.Name "zip" p) [a, b] [] pos) (tIt true X.K W (fZip fa fb)) := PI.imp (RZ.pi_zipA hg hm (pa_cons ha (pa_cons hb pa_nil hs0) hs) hs hpl) fun σ H Rr ⟨B, Z, ρ, E, h⟩ => by
  refine ⟨B, Z, ρ, E, h.bind.mono (fun d h1 v Z1 H1 g1 r1 => ⟨B, Z1, ρ, E.grow g1, h1.bind.mono (fun d2 h2 v2 Z2 H2 g2 r2 => ?_) fun _ w => w.grow g1⟩) fun _ w => w⟩
  have r1 := r1.grow g2
  split at h2
  · cases r1 with
    | tup hl r =>
      cases r2 with
      | tup hl2 r' => exact ⟨_, _, _, _, rfl, .inr ⟨hl.sq, hl2.sq, h2 _ Z2 H2 (g1.trans g2) (itOk_zipT hl.sq hl2.sq r r')⟩⟩
  · cases r1 with
    | lst z hl r =>
      cases r2 with
      | lst z2 hl2 r' => exact ⟨_, _, _, _, rfl, .inl ⟨SqL.of hl, SqL.of hl2, h2 _ Z2 H2 (g1.trans g2) (itOk_zipL z z2 hl hl2 r r')⟩⟩
  · exact h2.elim
end
/-! ### names stored -/
section
variable {K : PySem.W.Frag} {B : Base} {Z Z' : Addr → Prop} {H H' : Hp} {σ : L2.St} {ρ : Env}
theorem set_get {α : Type} {l : List α} {i j : Nat} {x y : α} (h : (l.set i x)[j]? = some y) : (j = i ∧ y = x) ∨ (j ≠ i ∧ l[j]? = some y) := by
  by_cases e : i = j
  · subst e
    by_cases hl : i < l.length
    · rw [List.getElem?_set_self hl] at h; cases h; exact .inl ⟨rfl, rfl⟩
    · rw [List.getElem?_eq_none (by simpa using hl)] at h; cases h
  · rw [List.getElem?_set_ne e] at h; exact .inr ⟨fun q => e q.symm, h⟩
theorem set_at {α : Type} {l : List α} {i : Nat} {x : α} (h : i < l.length) : (l.set i x)[i]? = some x := List.getElem?_set_self h
theorem lt_of_get {α : Type} {l : List α} {i : Nat} {x : α} (h : l[i]? = some x) : i < l.length := (List.getElem?_eq_some_iff.mp h).1
/-- one name's slot is changed -/
theorem EnvOk.put (E : EnvOk K B Z H σ ρ) {i : Nat} {o : Option V} {s : Slot} (hs : i < ρ.length → SlotOk K Z H (some o) s)
    (ho : ∀ a, s.isOwn = true → o = some (.ref a) → B.H a = none ∧ ∀ j t, j ≠ i → ρ[j]? = some t → t.isOwn = true → σ[j]? ≠ some (some (.ref a))) : EnvOk K B Z H (σ.set i o) (ρ.set i s) where
  len := by rw [List.length_set, List.length_set]; exact E.len
  sl := fun j t h => by
    rcases set_get h with ⟨rfl, rfl⟩ | ⟨ne, h⟩
    · have hl : j < ρ.length := by simpa using lt_of_get h
      rw [set_at (by rw [E.len]; exact hl)]
      exact hs hl
    · rw [List.getElem?_set_ne (Ne.symm ne)]
      exact E.sl j t h
  ap := fun j k a t u ne h1 h2 o1 o2 e1 e2 => by
    rcases set_get h1 with ⟨rfl, rfl⟩ | ⟨n1, h1⟩
    · have hl : j < ρ.length := by simpa using lt_of_get h1
      rw [set_at (by rw [E.len]; exact hl)] at e1
      rcases set_get h2 with ⟨rfl, _⟩ | ⟨n2, h2⟩
      · exact ne rfl
      · rw [List.getElem?_set_ne ne] at e2
        exact (ho a o1 (Option.some.inj e1)).2 k u n2 h2 o2 e2
    · rw [List.getElem?_set_ne (Ne.symm n1)] at e1
      rcases set_get h2 with ⟨ek, eu⟩ | ⟨n2, h2⟩
      · have hl : k < ρ.length := by simpa using lt_of_get h2
        rw [ek, set_at (by rw [E.len, ← ek]; exact hl)] at e2
        exact (ho a (by rw [← eu]; exact o2) (Option.some.inj e2)).2 j t n1 h1 o1 e1
      · rw [List.getElem?_set_ne (Ne.symm n2)] at e2
        exact E.ap j k a t u ne h1 h2 o1 o2 e1 e2
  on := fun j t a h o1 e1 => by
    rcases set_get h with ⟨rfl, rfl⟩ | ⟨n1, h⟩
    · have hl : j < ρ.length := by simpa using lt_of_get h
      rw [set_at (by rw [E.len]; exact hl)] at e1
      exact (ho a o1 (Option.some.inj e1)).1
    · rw [List.getElem?_set_ne (Ne.symm n1)] at e1
      exact E.on j t a h o1 e1
  zt := E.zt
  zs := E.zs
  zn := E.zn
  hs := E.hs
theorem EnvOk.dat (E : EnvOk K B Z H σ ρ) (i : Nat) {v : V} {d : D} (r : Rp K Z H v d) : EnvOk K B Z H (σ.set i (some v)) (ρ.set i (.dat d)) :=
  E.put (fun _ => ⟨v, rfl, r⟩) fun a o _ => Bool.noConfusion o
/-- a new list is a name's own -/
theorem EnvOk.newOwn (E : EnvOk K B Z H σ ρ) (i : Nat) {a : Addr} {xs : List V} {ds : List D} (g : Grow Z H Z' H') (n : H a = none) (z : ¬ Z' a) (h : H' a = some (.lst xs)) (r : RpAll K Z' H' xs ds) : EnvOk K B Z' H' (σ.set i (some (.ref a))) (ρ.set i (.own ds)) := by
  refine (E.grow g).put (fun _ => ⟨a, xs, rfl, z, h, r⟩) fun b _ e => ?_
  cases e
  refine ⟨?_, fun j t _ hj hj2 hj3 => ?_⟩
  · cases q : B.H a with
    | none => rfl
    | some o => rw [E.hs a o q] at n; cases n
  · have q := E.sl j t hj
    cases t with
    | no => cases hj2
    | raw v => cases hj2
    | dat d => cases hj2
    | own ds' =>
      obtain ⟨b, ys, e, _, hb, _⟩ := q
      rw [hj3] at e
      cases e
      rw [n] at hb; cases hb
    | odi ds' =>
      obtain ⟨b, ys, e, _, hb, _⟩ := q
      rw [hj3] at e
      cases e
      rw [n] at hb; cases hb
theorem EnvOk.newOdi (E : EnvOk K B Z H σ ρ) (i : Nat) {a : Addr} {xs : List (Key × V)} {ds : List (D × D)} (g : Grow Z H Z' H') (n : H a = none) (z : ¬ Z' a) (h : H' a = some (.dK xs)) (r : RpKV K Z' H' xs ds) : EnvOk K B Z' H' (σ.set i (some (.ref a))) (ρ.set i (.odi ds)) := by
  refine (E.grow g).put (fun _ => ⟨a, xs, rfl, z, h, r⟩) fun b _ e => ?_
  cases e
  refine ⟨?_, fun j t _ hj hj2 hj3 => ?_⟩
  · cases q : B.H a with
    | none => rfl
    | some o => rw [E.hs a o q] at n; cases n
  · have q := E.sl j t hj
    cases t with
    | no => cases hj2
    | raw v => cases hj2
    | dat d => cases hj2
    | own ds' =>
      obtain ⟨b, ys, e, _, hb, _⟩ := q
      rw [hj3] at e
      cases e
      rw [n] at hb; cases hb
    | odi ds' =>
      obtain ⟨b, ys, e, _, hb, _⟩ := q
      rw [hj3] at e
      cases e
      rw [n] at hb; cases hb
theorem EnvOk.drop (E : EnvOk K B Z H σ ρ) (i : Nat) : EnvOk K B Z H σ (ρ.set i .no) where
  len := by rw [List.length_set]; exact E.len
  sl := fun j t h => by
    rcases set_get h with ⟨rfl, rfl⟩ | ⟨ne, h⟩
    · trivial
    · exact E.sl j t h
  ap := fun j k a t u ne h1 h2 o1 o2 e1 e2 => by
    rcases set_get h1 with ⟨rfl, rfl⟩ | ⟨n1, h1⟩
    · cases o1
    rcases set_get h2 with ⟨rfl, rfl⟩ | ⟨n2, h2⟩
    · cases o2
    exact E.ap j k a t u ne h1 h2 o1 o2 e1 e2
  on := fun j t a h o1 e1 => by
    rcases set_get h with ⟨rfl, rfl⟩ | ⟨n1, h⟩
    · cases o1
    exact E.on j t a h o1 e1
  zt := E.zt
  zs := E.zs
  zn := E.zn
  hs := E.hs
/-- what was a name's own list is frozen -/
theorem EnvOk.freeze (E : EnvOk K B Z H σ ρ) {i : Nat} {ds : List D} (h : ρ[i]? = some (.own ds)) : ∃ Z', EnvOk K B Z' H σ (ρ.set i (.dat (.list ds))) := by
  obtain ⟨a, xs, e, z, ha, r⟩ := E.sl i _ h
  refine ⟨Pz.addZ Z a, ?_⟩
  have kp : Keeps K Z H (Pz.addZ Z a) H := .addZ
  refine ⟨by rw [List.length_set]; exact E.len, fun j t hj => ?_, fun j k b t u ne h1 h2 o1 o2 e1 e2 => ?_, fun j t b hj o1 e1 => ?_, fun b hb => ?_, fun b hb => .inl (E.zs b hb), fun b hb => ?_, E.hs⟩
  · rcases set_get hj with ⟨rfl, rfl⟩ | ⟨ne, hj⟩
    · exact ⟨_, e, .lst (.inr rfl) ha (r.keep kp)⟩
    · have q := E.sl j t hj
      cases t with
      | no => trivial
      | raw v => exact q
      | dat d => obtain ⟨v, e1, r1⟩ := q; exact ⟨v, e1, r1.keep kp⟩
      | own ds' =>
        obtain ⟨b, ys, e1, z1, hb, r1⟩ := q
        refine ⟨b, ys, e1, fun zb => ?_, hb, r1.keep kp⟩
        rcases zb with zb | rfl
        · exact z1 zb
        · exact E.ap j i _ _ _ ne hj h rfl rfl e1 e
      | odi ds' =>
        obtain ⟨b, ys, e1, z1, hb, r1⟩ := q
        refine ⟨b, ys, e1, fun zb => ?_, hb, r1.keep kp⟩
        rcases zb with zb | rfl
        · exact z1 zb
        · exact E.ap j i _ _ _ ne hj h rfl rfl e1 e
  · rcases set_get h1 with ⟨rfl, rfl⟩ | ⟨n1, h1⟩
    · cases o1
    rcases set_get h2 with ⟨rfl, rfl⟩ | ⟨n2, h2⟩
    · cases o2
    exact E.ap j k b t u ne h1 h2 o1 o2 e1 e2
  · rcases set_get hj with ⟨rfl, rfl⟩ | ⟨n1, hj⟩
    · cases o1
    exact E.on j t b hj o1 e1
  · rcases hb with hb | rfl
    · exact E.zt b hb
    · rw [ha]; exact fun q => nomatch q
  · rcases hb with hb | rfl
    · exact E.zn b hb
    · exact .inr (E.on i _ _ h rfl e)
theorem EnvOk.freezeD (E : EnvOk K B Z H σ ρ) {i : Nat} {ds : List (D × D)} (h : ρ[i]? = some (.odi ds)) : ∃ Z', EnvOk K B Z' H σ (ρ.set i (.dat (.dict ds))) := by
  obtain ⟨a, xs, e, z, ha, r⟩ := E.sl i _ h
  refine ⟨Pz.addZ Z a, ?_⟩
  have kp : Keeps K Z H (Pz.addZ Z a) H := .addZ
  refine ⟨by rw [List.length_set]; exact E.len, fun j t hj => ?_, fun j k b t u ne h1 h2 o1 o2 e1 e2 => ?_, fun j t b hj o1 e1 => ?_, fun b hb => ?_, fun b hb => .inl (E.zs b hb), fun b hb => ?_, E.hs⟩
  · rcases set_get hj with ⟨rfl, rfl⟩ | ⟨ne, hj⟩
    · exact ⟨_, e, .dic (.inr rfl) ha (r.keep kp)⟩
    · have q := E.sl j t hj
      cases t with
      | no => trivial
      | raw v => exact q
      | dat d => obtain ⟨v, e1, r1⟩ := q; exact ⟨v, e1, r1.keep kp⟩
      | own ds' =>
        obtain ⟨b, ys, e1, z1, hb, r1⟩ := q
        refine ⟨b, ys, e1, fun zb => ?_, hb, r1.keep kp⟩
        rcases zb with zb | rfl
        · exact z1 zb
        · exact E.ap j i _ _ _ ne hj h rfl rfl e1 e
      | odi ds' =>
        obtain ⟨b, ys, e1, z1, hb, r1⟩ := q
        refine ⟨b, ys, e1, fun zb => ?_, hb, r1.keep kp⟩
        rcases zb with zb | rfl
        · exact z1 zb
        · exact E.ap j i _ _ _ ne hj h rfl rfl e1 e
  · rcases set_get h1 with ⟨rfl, rfl⟩ | ⟨n1, h1⟩
    · cases o1
    rcases set_get h2 with ⟨rfl, rfl⟩ | ⟨n2, h2⟩
    · cases o2
    exact E.ap j k b t u ne h1 h2 o1 o2 e1 e2
  · rcases set_get hj with ⟨rfl, rfl⟩ | ⟨n1, hj⟩
    · cases o1
    exact E.on j t b hj o1 e1
  · rcases hb with hb | rfl
    · exact E.zt b hb
    · rw [ha]; exact fun q => nomatch q
  · rcases hb with hb | rfl
    · exact E.zn b hb
    · exact .inr (E.on i _ _ h rfl e)
/-- a name's own list is changed -/
theorem EnvOk.upd (E : EnvOk K B Z H σ ρ) {i : Nat} {a : Addr} {o' : HO} {s s' : Slot} (h : ρ[i]? = some s) (e : σ[i]? = some (some (.ref a))) (z : ¬ Z a) (so : s.isOwn = true) (hm : ∃ o, H a = some o ∧ (∀ xs, o ≠ .tup xs) ∧ ∀ u xs, o ≠ .frz u (.tup xs))
    (hs : Keeps K Z H Z (upd H a o') → SlotOk K Z (L2.upd H a o') (some (some (.ref a))) s') : EnvOk K B Z (L2.upd H a o') σ (ρ.set i s') := by
  obtain ⟨o0, ho, nt, nf⟩ := hm
  have kp : Keeps K Z H Z (L2.upd H a o') := ⟨fun _ q => q, fun b o q hb => by rw [upd_ne (fun q' => z (by rw [← q']; exact q))]; exact hb, fun b xs hb => by
    rcases hb with hb | hb
    · refine .inl ?_
      rcases hb with hb | ⟨u, hb⟩
      · exact .inl (by rw [upd_ne (fun q' => by subst q'; rw [ho] at hb; cases hb; exact nt _ rfl)]; exact hb)
      · exact .inr ⟨u, by rw [upd_ne (fun q' => by subst q'; rw [ho] at hb; cases hb; exact nf _ _ rfl)]; exact hb⟩
    · exact .inr hb, fun b xs ⟨u, hb, nd⟩ => ⟨u, by rw [upd_ne (fun q' => by subst q'; rw [ho] at hb; cases hb; exact nf _ _ rfl)]; exact hb, nd⟩⟩
  have hn : B.H a = none := E.on i _ a h so e
  refine ⟨by rw [List.length_set]; exact E.len, fun j t hj => ?_, fun j k b t u ne h1 h2 o1 o2 e1 e2 => ?_, fun j t b hj o1 e1 => ?_, fun b hb => ?_, E.zs, E.zn, fun b o hb => ?_⟩
  · rcases set_get hj with ⟨rfl, rfl⟩ | ⟨ne, hj⟩
    · rw [e]; exact hs kp
    · have q := E.sl j t hj
      cases t with
      | no => trivial
      | raw v => exact q
      | dat d => obtain ⟨v, e1, r1⟩ := q; exact ⟨v, e1, r1.keep kp⟩
      | own ds' =>
        obtain ⟨b, ys, e1, z1, hb, r1⟩ := q
        refine ⟨b, ys, e1, z1, ?_, r1.keep kp⟩
        rw [upd_ne (fun q' => E.ap j i a _ _ ne hj h rfl so (by rw [← q']; exact e1) e)]
        exact hb
      | odi ds' =>
        obtain ⟨b, ys, e1, z1, hb, r1⟩ := q
        refine ⟨b, ys, e1, z1, ?_, r1.keep kp⟩
        rw [upd_ne (fun q' => E.ap j i a _ _ ne hj h rfl so (by rw [← q']; exact e1) e)]
        exact hb
  · have old : ∀ (j : Nat) (t : Slot), (ρ.set i s')[j]? = some t → t.isOwn = true → ∃ t' : Slot, ρ[j]? = some t' ∧ t'.isOwn = true := fun j t hj ot => by
      rcases set_get hj with ⟨rfl, rfl⟩ | ⟨ne, hj⟩
      · exact ⟨s, h, so⟩
      · exact ⟨t, hj, ot⟩
    obtain ⟨t', h1', o1'⟩ := old j t h1 o1
    obtain ⟨u', h2', o2'⟩ := old k u h2 o2
    exact E.ap j k b t' u' ne h1' h2' o1' o2' e1 e2
  · rcases set_get hj with ⟨rfl, rfl⟩ | ⟨ne, hj⟩
    · rw [e] at e1; cases e1; exact hn
    · exact E.on j t b hj o1 e1
  · by_cases q : b = a
    · rw [q, upd_same]; exact fun q => nomatch q
    · rw [upd_ne q]; exact E.zt b hb
  · rw [upd_ne (fun q => by rw [q, hn] at hb; cases hb)]
    exact E.hs b o hb
end
end Pz

set_option maxHeartbeats 1000000
/-! The plain layer: statements, loops, comprehensions. -/
namespace Pz
open PySem PySem.Spec L2

/-! ### targets -/
abbrev Tg := D → Env → Option Env
def GZ (wk : Bool) (K : PySem.W.Frag) (g : TG) (t : Tg) (is : List Nat) : Prop := ∀ B Z H σ ρ v d ρ', EnvOk K B Z H σ ρ → RpB wk K Z H v d → t d ρ = some ρ' →
  ∀ Q : L2.St → Hp → Prop, (∀ σ', EnvOk K B Z H σ' ρ' → (∀ vs : List Nat, (∀ i ∈ is, i ∈ vs) → wipe σ' vs = wipe σ vs) → Q σ' H) → g v σ H Q
def tgN (i : Nat) : Tg := fun d ρ => some (ρ.set i (.dat d))
theorem wipe_set {σ : L2.St} {i : Nat} {o : Option V} : ∀ {vs : List Nat}, i ∈ vs → wipe (σ.set i o) vs = wipe σ vs
  | v :: vs, h => by
    unfold wipe
    by_cases e : i ∈ vs
    · rw [wipe_set e]
    · have ei : i = v := by
        rcases List.mem_cons.mp h with q | q
        · exact q
        · exact absurd q e
      subst ei
      have : ∀ (l : List Nat) (σ : L2.St), i ∉ l → (wipe (σ.set i o) l).set i none = (wipe σ l).set i none := by
        intro l
        induction l with
        | nil => intro σ _; unfold wipe; rw [List.set_set]
        | cons a l ih =>
          intro σ hn
          rw [List.mem_cons, not_or] at hn
          unfold wipe
          rw [List.set_comm _ _ (Ne.symm hn.1), ih σ hn.2, List.set_comm _ _ hn.1]
      exact this vs σ e
theorem gz_name (K : PySem.W.Frag) (i : Nat) : GZ false K (gName i) (tgN i) [i] := fun B Z H σ ρ v d ρ' E r e Q k => by
  cases e
  exact k _ (E.dat i r.strong) fun vs h => wipe_set (h i (by simp))
/-- several targets -/
abbrev Tgs := List D → Env → Option Env
def tgNil : Tgs := fun ds ρ => match ds with | [] => some ρ | _ => none
def tgCons (t : Tg) (u : Tgs) : Tgs := fun ds ρ => match ds with | d :: r => (t d ρ).bind (u r) | [] => none
def tgTup (u : Tgs) : Tg := fun d ρ => match d with | .tuple ds => u ds ρ | _ => none
def GZs (K : PySem.W.Frag) (g : TGs) (t : Tgs) (is : List Nat) : Prop := ∀ B Z H σ ρ vs ds ρ', EnvOk K B Z H σ ρ → RpAll K Z H vs ds → t ds ρ = some ρ' →
  ∀ Q : L2.St → Hp → Prop, (∀ σ', EnvOk K B Z H σ' ρ' → (∀ vs : List Nat, (∀ i ∈ is, i ∈ vs) → wipe σ' vs = wipe σ vs) → Q σ' H) → g vs σ H Q
theorem gz_nil (K : PySem.W.Frag) : GZs K gNil tgNil [] := fun B Z H σ ρ v d ρ' E r e Q k => by
  unfold tgNil at e
  split at e <;> cases e
  cases r
  exact ⟨rfl, k _ E fun _ _ => rfl⟩
theorem gz_cons {K : PySem.W.Frag} {g : TG} {gs : TGs} {t : Tg} {u : Tgs} {is js : List Nat} (h : GZ false K g t is) (h' : GZs K gs u js) : GZs K (gCons g gs) (tgCons t u) (is ++ js) := fun B Z H σ ρ v d ρ' E r e Q k => by
  unfold tgCons at e
  split at e
  rotate_left
  · cases e
  rename_i d0 ds
  cases r with
  | cons r0 rr =>
    cases e0 : t d0 ρ with
    | none => rw [e0] at e; cases e
    | some ρ1 =>
      rw [e0] at e
      refine ⟨_, _, rfl, h B Z H σ ρ _ d0 ρ1 E (.inl r0) e0 _ fun σ1 E1 w1 => h' B Z H σ1 ρ1 _ ds ρ' E1 rr e _ fun σ2 E2 w2 => k σ2 E2 fun vs hv => ?_⟩
      rw [w2 vs fun i hi => hv i (by simp [hi]), w1 vs fun i hi => hv i (by simp [hi])]
theorem gz_tup {wk : Bool} {K : PySem.W.Frag} {gs : TGs} {u : Tgs} {is : List Nat} {n : Nat} (h : GZs K gs u is) (hn : ∀ ds ρ ρ', u ds ρ = some ρ' → ds.length = n) : GZ wk K (gTup K n gs) (tgTup u) is := fun B Z H σ ρ v d ρ' E r e Q k => by
  unfold tgTup at e
  split at e
  rotate_left
  · cases e
  rcases r with r | ⟨_, a, xs, ds, rfl, q, hs, r⟩
  · cases r with
    | tup hs r => exact ⟨_, _, rfl, hs.sq, by rw [r.length]; exact hn _ _ _ e, h B Z H σ ρ _ _ ρ' E r e Q k⟩
  · cases q
    exact ⟨_, _, rfl, hs, by rw [r.length]; exact hn _ _ _ e, h B Z H σ ρ _ _ ρ' E r e Q k⟩
theorem len_nil : ∀ (ds : List D) (ρ ρ' : Env), tgNil ds ρ = some ρ' → ds.length = 0 := fun ds ρ ρ' e => by
  unfold tgNil at e; split at e <;> first | rfl | cases e
theorem len_cons {t : Tg} {u : Tgs} {n : Nat} (h : ∀ ds ρ ρ', u ds ρ = some ρ' → ds.length = n) : ∀ (ds : List D) (ρ ρ' : Env), tgCons t u ds ρ = some ρ' → ds.length = n + 1 := fun ds ρ ρ' e => by
  unfold tgCons at e
  split at e
  · rename_i d r
    cases e0 : t d ρ with
    | none => rw [e0] at e; cases e
    | some ρ1 => rw [e0] at e; rw [List.length_cons, h _ _ _ e]
  · cases e

/-! ### small statements -/
def sSkip : Fs := .nx
def sSeq (F G : Fs) : Fs := fun ρ => match F ρ with
  | .nx ρ' => G ρ'
  | r => r
def sAsg (f : Fx) (t : Tg) : Fs := fun ρ => match f ρ with
  | .ok d => (match t d ρ with | some ρ' => .nx ρ' | none => .bad)
  | .exc x => .exc x ρ
  | .bad => .bad
def sOwn (i : Nat) (f : Fxs) : Fs := fun ρ => match f ρ with
  | .ok ds => .nx (ρ.set i (.own ds))
  | .exc x => .exc x ρ
  | .bad => .bad
def sRet (f : Fx) : Fs := fun ρ => match f ρ with
  | .ok d => .rt d
  | .exc x => .exc x ρ
  | .bad => .bad
def sIf (c : Env → R Bool) (F G : Fs) : Fs := fun ρ => match c ρ with
  | .ok true => F ρ
  | .ok false => G ρ
  | .exc x => .exc x ρ
  | .bad => .bad
def sDo (f : Fx) : Fs := fun ρ => match f ρ with
  | .ok _ => .nx ρ
  | .exc x => .exc x ρ
  | .bad => .bad
def killL : List Nat → Env → Env
  | [], ρ => ρ
  | i :: is, ρ => (killL is ρ).set i .no
section
variable {K : PySem.W.Frag} {B : Base} {Z Z' : Addr → Prop} {H H' : Hp} {σ : L2.St} {ρ : Env}
theorem EnvOk.kill (E : EnvOk K B Z H σ ρ) : ∀ is, EnvOk K B Z H σ (killL is ρ)
  | [] => E
  | i :: is => (EnvOk.kill E is).drop i
theorem EnvOk.wipe (E : EnvOk K B Z H σ ρ) : ∀ is, EnvOk K B Z H (L2.wipe σ is) (killL is ρ)
  | [] => E
  | i :: is => (EnvOk.wipe E is).put (fun _ => trivial) fun _ o _ => Bool.noConfusion o
end
section
variable {X : Cx} {W : WX} {st : Stmt} {rest : List Stmt} {F G : Fs} {e a b c : Expr} {pos : Pos} {f : Fx} {fs : Fxs} {tA : Env → R Bool}
theorem sz_nil : PSs X [] (tS X.K W sSkip) := PSs.imp pss_nil fun D σ H ⟨B, Z, ρ, E, h⟩ => h σ Z H E
theorem seq_in {D : Ends} {σ : L2.St} {H : Hp} (h : tS X.K W (sSeq F G) D σ H) : tSeq (tS X.K W F) (tS X.K W G) D σ H := by
  obtain ⟨B, Z, ρ, E, h⟩ := h
  refine ⟨B, Z, ρ, E, ?_⟩
  unfold sSeq at h
  cases e : F ρ with
  | nx ρ' => rw [e] at h; exact fun σ' Z' H' E' => ⟨B, Z', ρ', E', h⟩
  | rt d => rw [e] at h; exact h
  | bk ρ' => rw [e] at h; exact h
  | ct ρ' => rw [e] at h; exact h
  | exc x ρ' => rw [e] at h; exact h
  | bad => rw [e] at h; exact h
theorem sz_cons (h1 : PS X st (tS X.K W F)) (h2 : PSs X rest (tS X.K W G)) : PSs X (st :: rest) (tS X.K W (sSeq F G)) := PSs.imp (pss_cons h1 h2) fun _ _ _ h => seq_in h
theorem sz_one (h1 : PS X st (tS X.K W F)) : PSs X [st] (tS X.K W F) := pss_one h1
theorem sz_pass : PS X (.Pass pos) (tS X.K W sSkip) := PS.imp ps_pass fun D σ H ⟨B, Z, ρ, E, h⟩ => h σ Z H E
theorem sz_break : PS X (.Break pos) (tS X.K W .bk) := PS.imp ps_break fun D σ H ⟨B, Z, ρ, E, h⟩ => h σ Z H E
theorem sz_cont : PS X (.Continue pos) (tS X.K W .ct) := PS.imp ps_continue fun D σ H ⟨B, Z, ρ, E, h⟩ => h σ Z H E
theorem xW {B : Base} {Z : Addr → Prop} {H : Hp} {σ : L2.St} {ρ : Env} {D : Ends} {x : Str} (E : EnvOk X.K B Z H σ ρ) (h : postS X.K B W D (.exc x ρ)) : xWish X.K Z H W σ x := fun Z' H' g => h σ Z' H' (E.grow g)
theorem asg_in {t : Tg} {g : TG} {is : List Nat} (hg : GZ false X.K g t is) {D : Ends} {σ : L2.St} {H : Hp} (h : tS X.K W (sAsg f t) D σ H) : tAsg (tP X.K W f) g D σ H := by
  obtain ⟨B, Z, ρ, E, h⟩ := h
  refine ⟨B, Z, ρ, E, ?_⟩
  unfold sAsg at h
  cases e : f ρ with
  | ok d =>
    rw [e] at h
    cases et : t d ρ with
    | none => simp only [et] at h; exact h.elim
    | some ρ' => simp only [et] at h; exact fun v Z' H' gr r => hg B Z' H' σ ρ v d ρ' (E.grow gr) (.inl r) et _ fun σ' E' _ => h σ' Z' H' E'
  | exc x => rw [e] at h; exact xW E h
  | bad => rw [e] at h; exact h
theorem sz_asg {tg : Expr} {t : Tg} {g : TG} {is : List Nat} (he : PE X e (tP X.K W f)) (hg : PG X tg g) (hgz : GZ false X.K g t is) (hs : swapsWithSole [tg] e pos.line X.env = pure false := by rfl) (hw : swappedStores [tg] e X.env = pure none := by rfl)
    (h1 : (assignEach [tg] X.env).map (·.2) = [assign tg X.env] := by rfl) : PS X (.Assign [tg] e pos) (tS X.K W (sAsg f t)) := PS.imp (ps_asg he hg hs hw h1) fun _ _ _ h => asg_in hgz h
theorem sz_set (i : Nat) {x : Str} {pos' : Pos} (hN : X.N.Nodup) (he : PE X e (tP X.K W f)) (hi : X.N[i]? = some x := by rfl) (hx : Loc X.env.scope x := by first | exact .inl rfl | exact .inr rfl) (hs : swapsWith e (some (.Name x pos')) pos.line X.env = pure false := by rfl) (hf : X.fn x = true ∨ X.env.scope.names.lookup x = some .local := by first | exact .inl rfl | exact .inr rfl) :
    PS X (.Assign [.Name x pos'] e pos) (tS X.K W (sAsg f (tgN i))) := PS.imp (ps_set hN hi hx he hs hf) fun _ _ _ h => asg_in (gz_name X.K i) h
theorem own_in {i : Nat} {D : Ends} {σ : L2.St} {H : Hp} (h : tS X.K W (sOwn i fs) D σ H) : tAsg (tN X.K W fs) (gName i) D σ H := by
  obtain ⟨B, Z, ρ, E, h⟩ := h
  refine ⟨B, Z, ρ, E, ?_⟩
  unfold sOwn at h
  cases e : fs ρ with
  | ok ds => rw [e] at h; exact fun a Z' H' xs gr n z ha r => h _ Z' H' (E.newOwn i gr n z ha r)
  | exc x => rw [e] at h; exact xW E h
  | bad => rw [e] at h; exact h
theorem sz_own (i : Nat) {x : Str} {pos' : Pos} (hN : X.N.Nodup) (he : PE X e (tN X.K W fs)) (hi : X.N[i]? = some x := by rfl) (hx : Loc X.env.scope x := by first | exact .inl rfl | exact .inr rfl) (hs : swapsWith e (some (.Name x pos')) pos.line X.env = pure false := by rfl) (hf : X.fn x = true ∨ X.env.scope.names.lookup x = some .local := by first | exact .inl rfl | exact .inr rfl) :
    PS X (.Assign [.Name x pos'] e pos) (tS X.K W (sOwn i fs)) := PS.imp (ps_set hN hi hx he hs hf) fun _ _ _ h => own_in h
theorem sz_ret (he : PE X e (tP X.K W f)) : PS X (.Return (some e) pos) (tS X.K W (sRet f)) := PS.imp (ps_ret he) fun D σ H ⟨B, Z, ρ, E, h⟩ => by
  refine ⟨B, Z, ρ, E, ?_⟩
  unfold sRet at h
  cases e : f ρ with
  | ok d => rw [e] at h; exact fun v Z' H' gr r => h v Z' H' (E.grow gr).base r
  | exc x => rw [e] at h; exact xW E h
  | bad => rw [e] at h; exact h
theorem sz_retN : PS X (.Return none pos) (tS X.K W fun _ => .rt .none) := PS.imp ps_retN fun D σ H ⟨B, Z, ρ, E, h⟩ => h _ Z H E.base .non
theorem sz_if {as bs : List Stmt} (hc : PT X c (tT X.K W tA)) (ha : PSs X as (tS X.K W F)) (hb : PSs X bs (tS X.K W G)) : PS X (.If c as bs pos) (tS X.K W (sIf tA F G)) := PS.imp (ps_if hc ha hb) fun D σ H ⟨B, Z, ρ, E, h⟩ => by
  refine ⟨B, Z, ρ, E, ?_⟩
  unfold sIf at h
  cases e : tA ρ with
  | ok b =>
    rw [e] at h
    cases b with
    | true => exact fun Z' H' gr => iteT ⟨B, Z', ρ, E.grow gr, h⟩
    | false => exact fun Z' H' gr => iteF ⟨B, Z', ρ, E.grow gr, h⟩
  | exc x => rw [e] at h; exact xW E h
  | bad => rw [e] at h; exact h
theorem sz_do (he : PE X e (tP X.K W f)) (hs : swapsWith e none pos.line X.env = pure false := by rfl) : PS X (.Expr e pos) (tS X.K W (sDo f)) := PS.imp (ps_expr he hs) fun D σ H ⟨B, Z, ρ, E, h⟩ => by
  refine ⟨B, Z, ρ, E, ?_⟩
  unfold sDo at h
  cases e : f ρ with
  | ok d => rw [e] at h; exact fun v Z' H' gr r => h σ Z' H' (E.grow gr)
  | exc x => rw [e] at h; exact xW E h
  | bad => rw [e] at h; exact h
/-! ### ghosts: a name's own list is frozen, names are let go -/
def sFrz (i : Nat) (F : Fs) : Fs := fun ρ => match ρ[i]? with
  | some (.own ds) => F (ρ.set i (.dat (.list ds)))
  | some (.odi ds) => F (ρ.set i (.dat (.dict ds)))
  | _ => F ρ
theorem frz_in {i : Nat} {D : Ends} {σ : L2.St} {H : Hp} (h : tS X.K W (sFrz i F) D σ H) : tS X.K W F D σ H := by
  obtain ⟨B, Z, ρ, E, h⟩ := h
  unfold sFrz at h
  split at h
  · rename_i ds e
    obtain ⟨Z', E'⟩ := E.freeze e
    exact ⟨B, Z', _, E', h⟩
  · rename_i ds e
    obtain ⟨Z', E'⟩ := E.freezeD e
    exact ⟨B, Z', _, E', h⟩
  · exact ⟨B, Z, ρ, E, h⟩
theorem sz_frz (i : Nat) (h : PS X st (tS X.K W F)) : PS X st (tS X.K W (sFrz i F)) := PS.imp h fun _ _ _ h => frz_in h
end
/-! ### append, extend -/
def sApp (i : Nat) (f : Fx) : Fs := fun ρ => match ρ[i]? with
  | some (.own ds) => (match f ρ with
    | .ok d => if ds.length ≤ 1000000 then .nx (ρ.set i (.own (ds ++ [d]))) else .bad
    | .exc x => .exc x ρ
    | .bad => .bad)
  | _ => .bad
def sExt (i : Nat) (f : Fx) : Fs := fun ρ => match ρ[i]? with
  | some (.own ds) => (match f ρ with
    | .ok (.list es) => if ds.length + es.length ≤ 1000000 then .nx (ρ.set i (.own (ds ++ es))) else .bad
    | .exc x => .exc x ρ
    | _ => .bad)
  | _ => .bad
theorem tyV_list {K : PySem.W.Frag} {H : Hp} {a : Addr} {xs : List V} (h : H a = some (.lst xs)) : tyV K "list" (.ref a) H := Or.inl ⟨rfl, _, Or.inl (Or.inl h)⟩
section
variable {X : Cx} {W : WX} {a : Expr} {f : Fx} {pos pos2 pos3 : Pos} {x : Str}
theorem sz_app {i : Nat} {ap cp : Pos} (hp : PE X (.Call (.Attribute (.Name x pos) "append" ap) [a] [] cp) (tBM X.K "list" rAppend (tVar i) (tCons (tP X.K W f) tNil)))
    (hs : swapsWith (.Call (.Attribute (.Name x pos) "append" ap) [a] [] cp) none pos2.line X.env = pure false := by rfl) : PS X (.Expr (.Call (.Attribute (.Name x pos) "append" ap) [a] [] cp) pos2) (tS X.K W (sApp i f)) := PS.imp (ps_expr hp hs) fun D σ H ⟨B, Z, ρ, E, h⟩ => by
  unfold sApp at h
  split at h
  rotate_left
  · exact h.elim
  rename_i ds e
  obtain ⟨l, xs, el, z, hl, r⟩ := E.sl i _ e
  refine ⟨_, el, tyV_list hl, B, Z, ρ, E, ?_⟩
  cases ef : f ρ with
  | exc x => simp only [ef] at h; exact xW E h
  | bad => simp only [ef] at h; exact h
  | ok d =>
    simp only [ef] at h
    split at h
    rotate_left
    · exact h.elim
    rename_i hz
    intro v Z' H' g rv
    have E' := E.grow g
    have hl' := g.hs _ _ hl
    have z' : ¬ Z' l := fun q => (g.zn l q).elim z fun n => by rw [hl] at n; cases n
    refine ⟨l, xs, v, rfl, rfl, hl', by rw [r.length, sizeLine_eq]; omega, h σ Z' _ (E'.upd e el z' rfl ⟨_, hl', (fun _ q => by cases q), (fun _ _ q => by cases q)⟩ fun kp => ?_)⟩
    exact ⟨l, _, rfl, z', upd_same, ((r.grow g).keep kp).append (.cons (rv.keep kp) .nil)⟩
theorem sz_ext {i : Nat} {ap cp : Pos} (hp : PE X (.Call (.Attribute (.Name x pos) "extend" ap) [a] [] cp) (tBM X.K "list" rExtend (tVar i) (tCons (tP X.K W f) tNil)))
    (hs : swapsWith (.Call (.Attribute (.Name x pos) "extend" ap) [a] [] cp) none pos2.line X.env = pure false := by rfl) : PS X (.Expr (.Call (.Attribute (.Name x pos) "extend" ap) [a] [] cp) pos2) (tS X.K W (sExt i f)) := PS.imp (ps_expr hp hs) fun D σ H ⟨B, Z, ρ, E, h⟩ => by
  unfold sExt at h
  split at h
  rotate_left
  · exact h.elim
  rename_i ds e
  obtain ⟨l, xs, el, z, hl, r⟩ := E.sl i _ e
  refine ⟨_, el, tyV_list hl, B, Z, ρ, E, ?_⟩
  split at h
  · rename_i es ef
    rw [ef]
    split at h
    rotate_left
    · exact h.elim
    rename_i hz
    intro v Z' H' g rv
    have E' := E.grow g
    have hl' := g.hs _ _ hl
    have z' : ¬ Z' l := fun q => (g.zn l q).elim z fun n => by rw [hl] at n; cases n
    cases rv with
    | lst zb hb rb =>
      refine ⟨l, _, xs, _, rfl, rfl, hl', hb, by rw [r.length, rb.length, sizeLine_eq]; omega, h σ Z' _ (E'.upd e el z' rfl ⟨_, hl', (fun _ q => by cases q), (fun _ _ q => by cases q)⟩ fun kp => ?_)⟩
      exact ⟨l, _, rfl, z', upd_same, ((r.grow g).keep kp).append (rb.keep kp)⟩
  · rename_i x ef
    rw [ef]
    exact xW E h
  · exact h.elim
end
end Pz

set_option maxHeartbeats 1000000
/-! The plain layer: loops and comprehensions. -/
namespace Pz
open PySem PySem.Spec L2

section
variable {K : PySem.W.Frag} {B : Base} {Z Z' : Addr → Prop} {H H' : Hp} {σ : L2.St} {ρ : Env}
/-- what stands at a loop's start but the names' own lists -/
noncomputable def looseH (H : Hp) (σ : L2.St) (ρ : Env) : Hp := fun a => open Classical in if ∃ (i : Nat) (s : Slot), ρ[i]? = some s ∧ s.isOwn = true ∧ σ[i]? = some (some (.ref a)) then none else H a
theorem looseH_some {a : Addr} {o : HO} (h : looseH H σ ρ a = some o) : H a = some o := by
  unfold looseH at h; split at h
  · cases h
  · exact h
theorem EnvOk.rebase (E : EnvOk K B Z H σ ρ) : EnvOk K ⟨Z, looseH H σ ρ⟩ Z H σ ρ where
  len := E.len
  sl := E.sl
  ap := E.ap
  on := fun i s a h o e => by
    show looseH H σ ρ a = none
    unfold looseH
    rw [if_pos ⟨i, s, h, o, e⟩]
  zt := E.zt
  zs := fun _ h => h
  zn := fun _ h => .inl h
  hs := fun a o h => looseH_some h
theorem EnvOk.tight (E : EnvOk K B Z H σ ρ) {a : Addr} {o : HO} (h : B.H a = some o) : looseH H σ ρ a = some o := by
  unfold looseH
  rw [if_neg]
  · exact E.hs a o h
  · rintro ⟨i, s, h1, h2, h3⟩
    rw [E.on i s a h1 h2 h3] at h
    cases h
theorem EnvOk.tightN (E : EnvOk K B Z H σ ρ) {a : Addr} (h : looseH H σ ρ a = none) : B.H a = none := by
  cases e : B.H a with
  | none => rfl
  | some o => rw [E.tight e] at h; cases h
theorem EnvOk.tightZ (E : EnvOk K B Z H σ ρ) {a : Addr} (z : Z a) : looseH H σ ρ a = H a := by
  unfold looseH
  rw [if_neg]
  rintro ⟨i, s, h1, h2, h3⟩
  have q := E.sl i s h1
  cases s with
  | no => cases h2
  | raw v => cases h2
  | dat d => cases h2
  | own ds => obtain ⟨b, xs, e, nz, _⟩ := q; rw [h3] at e; cases e; exact nz z
  | odi ds => obtain ⟨b, xs, e, nz, _⟩ := q; rw [h3] at e; cases e; exact nz z
theorem EnvOk.back (E : EnvOk K B Z H σ ρ) {σ' : L2.St} {ρ' : Env} (E' : EnvOk K ⟨Z, looseH H σ ρ⟩ Z' H' σ' ρ') : EnvOk K B Z' H' σ' ρ' where
  len := E'.len
  sl := E'.sl
  ap := E'.ap
  on := fun i s a h o e => E.tightN (E'.on i s a h o e)
  zt := E'.zt
  zs := fun a h => E'.zs a (E.zs a h)
  zn := fun a h => by
    rcases E'.zn a h with h | h
    · exact E.zn a h
    · exact .inr (E.tightN h)
  hs := fun a o h => E'.hs a o (E.tight h)
theorem EnvOk.backB (E : EnvOk K B Z H σ ρ) (g : BaseOk ⟨Z, looseH H σ ρ⟩ Z' H') : BaseOk B Z' H' where
  zt := fun _ => g.zt fun a z => by
    show looseH H σ ρ a ≠ none
    rw [E.tightZ z]
    exact E.zt a z
  zs := fun a h => g.zs a (E.zs a h)
  zn := fun a h => by
    rcases g.zn a h with h | h
    · exact E.zn a h
    · exact .inr (E.tightN h)
  hs := fun a o h => g.hs a o (E.tight h)
theorem EnvOk.tupOld (E : EnvOk K B Z H σ ρ) {σ' : L2.St} {ρ' : Env} (E' : EnvOk K ⟨Z, looseH H σ ρ⟩ Z' H' σ' ρ') (a : Addr) (xs : List V) : ∀ o, H a = some o → (o = .tup xs ∨ ∃ u, o = .frz u (.tup xs)) → H' a = some o := fun o ho hk => by
  refine E'.hs a o ?_
  show looseH H σ ρ a = some o
  unfold looseH
  rw [if_neg]
  · exact ho
  · rintro ⟨i, s, h1, h2, h3⟩
    have q := E.sl i s h1
    cases s with
    | no => cases h2
    | raw v => cases h2
    | dat d => cases h2
    | own ds =>
      obtain ⟨b, ys, e, nz, hb, _⟩ := q
      rw [h3] at e
      cases e
      rw [ho] at hb
      cases hb
      rcases hk with hk | ⟨u, hk⟩ <;> cases hk
    | odi ds =>
      obtain ⟨b, ys, e, nz, hb, _⟩ := q
      rw [h3] at e
      cases e
      rw [ho] at hb
      cases hb
      rcases hk with hk | ⟨u, hk⟩ <;> cases hk
theorem EnvOk.held (E : EnvOk K B Z H σ ρ) {σ' : L2.St} {ρ' : Env} (E' : EnvOk K ⟨Z, looseH H σ ρ⟩ Z' H' σ' ρ') : Keeps K Z H Z' H' where
  zs := E'.zs
  di := fun a o z h => E'.hs a o (by
    show looseH H σ ρ a = some o
    rw [E.tightZ z]
    exact h)
  tp := fun a xs h => by
    rcases h with h | h
    rotate_left
    · exact .inr h
    refine .inl ?_
    have k := E.tupOld E' a xs
    rcases h with h | ⟨u, h⟩
    · exact .inl (k _ h (.inl rfl))
    · exact .inr ⟨u, k _ h (.inr ⟨u, rfl⟩)⟩
  tn := fun a xs ⟨u, h, nd⟩ => ⟨u, E.tupOld E' a xs _ h (.inr ⟨u, rfl⟩), nd⟩
end
/-! ### for -/
def forF (t : Tg) (F : Fs) (is : List Nat) : List D → Env → Fl
  | [], ρ => .nx ρ
  | d :: ds, ρ => match t d ρ with
    | none => .bad
    | some ρ1 => match F ρ1 with
      | .nx ρ2 => forF t F is ds (killL is ρ2)
      | .ct ρ2 => forF t F is ds (killL is ρ2)
      | .bk ρ2 => .nx (killL is ρ2)
      | r => r
/-- is: the names let go behind each turn -/
def sFor (it : Fxs) (t : Tg) (F : Fs) (is : List Nat) : Fs := fun ρ => match it ρ with
  | .ok ds => forF t F is ds ρ
  | .exc x => .exc x ρ
  | .bad => .bad
section
variable {wk : Bool} {X : Cx} {W : WX} {tg iter c : Expr} {body : List Stmt} {pos : Pos} {it : Fxs} {F : Fs} {t : Tg} {g : TG} {js is : List Nat} {tA : Env → R Bool}
theorem for_in (hg : GZ wk X.K g t js) {D : Ends} {σ : L2.St} {H : Hp} (h : tS X.K W (sFor it t F is) D σ H) : tFor (tIt wk X.K W it) g (tS X.K W F) D σ H := by
  obtain ⟨B, Z, ρ, E, h⟩ := h
  refine ⟨B, Z, ρ, E, ?_⟩
  unfold sFor at h
  cases e : it ρ with
  | exc x => rw [e] at h; exact xW E h
  | bad => rw [e] at h; exact h
  | ok ds =>
    rw [e] at h
    intro J Z1 H1 g1 hit
    have E1 := E.grow g1
    refine ⟨fun i m σ' H' => m = ds.length - i ∧ i ≤ ds.length ∧ ∃ Z' ρ', EnvOk X.K ⟨Z1, looseH H1 σ ρ⟩ Z' H' σ' ρ' ∧ postS X.K B W D (forF t F is (ds.drop i) ρ'), ⟨ds.length, by simp, Nat.zero_le _, Z1, ρ, E1.rebase, h⟩, ?_⟩
    rintro i m σ' H' ⟨rfl, hi, Z', ρ', E', h'⟩
    have kp := E1.held E'
    by_cases hlt : i < ds.length
    rotate_left
    · have ei : i = ds.length := by omega
      subst ei
      rw [List.drop_length] at h'
      exact .inl ⟨hit.stop Z' H' kp, h' σ' Z' H' (E1.back E')⟩
    · obtain ⟨d, ed⟩ : ∃ d, ds[i]? = some d := ⟨_, List.getElem?_eq_getElem hlt⟩
      have edr : ds.drop i = d :: ds.drop (i + 1) := by
        rw [List.drop_eq_getElem_cons hlt]
        rw [List.getElem?_eq_getElem hlt] at ed
        rw [Option.some.inj ed]
      obtain ⟨go, st⟩ := hit.step Z' H' kp i d ed
      rw [edr] at h'
      unfold forF at h'
      refine .inr ⟨go, fun σ3 H3 => ∃ Z3 ρ3, EnvOk X.K ⟨Z1, looseH H1 σ ρ⟩ Z3 H3 σ3 ρ3 ∧ postS X.K B W D (forF t F is (ds.drop (i + 1)) (killL is ρ3)), fun σ3 H3 ⟨Z3, ρ3, E3, h3⟩ => ⟨ds.length - (i + 1), by omega, rfl, hlt, Z3, _, E3.kill is, h3⟩, fun x H2 y => ?_⟩
      obtain ⟨g2, rx⟩ := st x H2 y
      have E2 := E'.grow g2
      cases et : t d ρ' with
      | none => simp only [et] at h'; exact h'.elim
      | some ρ1 =>
        simp only [et] at h'
        refine hg ⟨Z1, looseH H1 σ ρ⟩ Z' H2 σ' ρ' x d ρ1 E2 rx et _ fun σ4 E4 _ => ⟨_, Z', ρ1, E4, ?_⟩
        cases ef : F ρ1 with
        | nx ρ2 => simp only [ef] at h'; exact fun σ5 Z5 H5 E5 => ⟨Z5, ρ2, E5, h'⟩
        | ct ρ2 => simp only [ef] at h'; exact fun σ5 Z5 H5 E5 => ⟨Z5, ρ2, E5, h'⟩
        | bk ρ2 => simp only [ef] at h'; exact fun σ5 Z5 H5 E5 => h' σ5 Z5 H5 ((E1.back E5).kill is)
        | rt v => simp only [ef] at h'; exact fun v Z5 H5 b r => h' v Z5 H5 (E1.backB b) r
        | exc x ρ2 => simp only [ef] at h'; exact fun σ5 Z5 H5 E5 => h' σ5 Z5 H5 (E1.back E5)
        | bad => simp only [ef] at h'; exact h'
theorem sz_for (hp : PassesOwn (model X.prog X.w) X.A X.env X.xe) (hc : X.calm = true) (is : List Nat) (hi : PI X tg iter (tIt wk X.K W it)) (hg : PG X tg g) (hgz : GZ wk X.K g t js) (hb : PSs X body (tS X.K W F))
    (hs : ∀ x, foldedSetIterable iter X.env x = pure x := by intro _; rfl) : PS X (.For tg iter body [] pos) (tS X.K W (sFor it t F is)) := PS.imp (ps_for hp hc hi hg hb hs) fun _ _ _ h => for_in hgz h
end
/-! ### while -/
def whileF (c : Env → R Bool) (F : Fs) (is : List Nat) : Nat → Env → Fl
  | 0, _ => .bad
  | n + 1, ρ => match c ρ with
    | .ok true => (match F ρ with
      | .nx ρ2 => whileF c F is n (killL is ρ2)
      | .ct ρ2 => whileF c F is n (killL is ρ2)
      | .bk ρ2 => .nx (killL is ρ2)
      | r => r)
    | .ok false => .nx ρ
    | .exc x => .exc x ρ
    | .bad => .bad
section
variable {X : Cx} {W : WX} {tg iter c : Expr} {body : List Stmt} {pos : Pos} {F : Fs} {is : List Nat} {tA : Env → R Bool}
theorem while_in (n : Nat) {D : Ends} {σ : L2.St} {H : Hp} (h : tS X.K W (whileF tA F is n) D σ H) : tWhile (tT X.K W tA) (tS X.K W F) D σ H := by
  obtain ⟨B, Z, ρ, E, h⟩ := h
  refine ⟨fun m σ' H' => ∃ Z' ρ', EnvOk X.K B Z' H' σ' ρ' ∧ postS X.K B W D (whileF tA F is m ρ'), ⟨n, Z, ρ, E, h⟩, ?_⟩
  rintro m σ' H' ⟨Z', ρ', E', h'⟩
  cases m with
  | zero => exact h'.elim
  | succ m =>
    unfold whileF at h'
    refine ⟨B, Z', ρ', E', ?_⟩
    cases ec : tA ρ' with
    | exc x => simp only [ec] at h'; exact xW E' h'
    | bad => simp only [ec] at h'; exact h'
    | ok b =>
      simp only [ec] at h'
      intro Z2 H2 g2
      have E2 := E'.grow g2
      cases b with
      | false => exact iteF (h' σ' Z2 H2 E2)
      | true =>
        refine iteT ⟨fun σ3 H3 => ∃ Z3 ρ3, EnvOk X.K B Z3 H3 σ3 ρ3 ∧ postS X.K B W D (whileF tA F is m (killL is ρ3)), fun σ3 H3 ⟨Z3, ρ3, E3, h3⟩ => ⟨m, Nat.lt_succ_self _, Z3, _, E3.kill is, h3⟩, B, Z2, ρ', E2, ?_⟩
        cases ef : F ρ' with
        | nx ρ2 => simp only [ef] at h'; exact fun σ5 Z5 H5 E5 => ⟨Z5, ρ2, E5, h'⟩
        | ct ρ2 => simp only [ef] at h'; exact fun σ5 Z5 H5 E5 => ⟨Z5, ρ2, E5, h'⟩
        | bk ρ2 => simp only [ef] at h'; exact fun σ5 Z5 H5 E5 => h' σ5 Z5 H5 (E5.kill is)
        | rt v => simp only [ef] at h'; exact h'
        | exc x ρ2 => simp only [ef] at h'; exact h'
        | bad => simp only [ef] at h'; exact h'
theorem sz_while (hp : PassesOwn (model X.prog X.w) X.A X.env X.xe) (n : Nat) (is : List Nat) (hc : PT X c (tT X.K W tA)) (hb : PSs X body (tS X.K W F)) : PS X (.While c body [] pos) (tS X.K W (whileF tA F is n)) := PS.imp (ps_while hp hc hb) fun _ _ _ h => while_in n h
end
/-! ### comprehensions -/
def compF (t : Tg) (c : Env → R Bool) (f : Fx) : List D → Env → R (List D)
  | [], _ => .ok []
  | d :: ds, ρ => match t d ρ with
    | none => .bad
    | some ρ1 => match c ρ1 with
      | .ok true => (match f ρ1 with
        | .ok y => compF t c f ds ρ >>= fun ys => .ok (y :: ys)
        | _ => .bad)
      | .ok false => compF t c f ds ρ
      | _ => .bad
/-- vs: the block's own names -/
def fComp (it : Fxs) (t : Tg) (c : Env → R Bool) (f : Fx) (vs : List Nat) : Fxs := fun ρ => it ρ >>= fun ds => if ds.length ≤ 1000000 then compF t c f ds (killL vs ρ) else .bad
abbrev W0 : WX := fun _ _ _ _ => False
def cYes : Env → R Bool := fun _ => .ok true
section
variable {wk : Bool} {X : Cx} {W : WX} {tg iter elt : Expr} {ifs : List Expr} {pos : Pos} {it : Fxs} {t : Tg} {g : TG} {js vs : List Nat} {tA : Env → R Bool} {f : Fx}
theorem comp_in (hg : GZ wk X.K g t js) (hj : ∀ i ∈ js, i ∈ vs) {σ : L2.St} {H : Hp} {Q : VK} (h : tN X.K W (fComp it t tA f vs) σ H Q) : tLc (tIt wk X.K W it) g (tT X.K W0 tA) (tP X.K W0 f) vs σ H Q := by
  obtain ⟨B, Z, ρ, E, h⟩ := h
  refine ⟨B, Z, ρ, E, h.bind.mono (fun ds h1 J Z1 H1 g1 hit C hC => ?_) fun _ w => w⟩
  split at h1
  rotate_left
  · exact h1.elim
  rename_i hz
  have E1 := E.grow g1
  have CH : H C = none := by
    cases q : H C with
    | none => rfl
    | some o => rw [g1.hs C o q] at hC; cases hC
  refine ⟨fun i m H' => m = ds.length - i ∧ i ≤ ds.length ∧ ∃ Z' acc ys, Grow Z1 H1 Z' H' ∧ ¬ Z' C ∧ H' C = some (.lst acc) ∧ RpAll X.K Z' H' acc ys ∧ ys.length ≤ i ∧ post (fun r => KN X.K Z H (ys ++ r) Q) (xWish X.K Z H W σ) (compF t tA f (ds.drop i) (killL vs ρ)),
    ⟨ds.length, by simp, Nat.zero_le _, Z1, [], [], grow_upd hC, fun z => E1.zt C z hC, upd_same, .nil, Nat.le_refl _, h1⟩, ?_⟩
  rintro i m H' ⟨rfl, hi, Z', acc, ys, g', nz, hc, r, hl, h'⟩
  have kp := g'.keeps (K := X.K)
  by_cases hlt : i < ds.length
  rotate_left
  · have ei : i = ds.length := by omega
    subst ei
    rw [List.drop_length] at h'
    refine .inl ⟨hit.stop Z' H' kp, ?_⟩
    have k : KN X.K Z H (ys ++ []) Q := h'
    rw [List.append_nil] at k
    exact k C Z' H' acc (g1.trans g') CH nz hc r
  · obtain ⟨d, ed⟩ : ∃ d, ds[i]? = some d := ⟨_, List.getElem?_eq_getElem hlt⟩
    have edr : ds.drop i = d :: ds.drop (i + 1) := by
      rw [List.drop_eq_getElem_cons hlt]
      rw [List.getElem?_eq_getElem hlt] at ed
      rw [Option.some.inj ed]
    obtain ⟨go, st⟩ := hit.step Z' H' kp i d ed
    rw [edr] at h'
    unfold compF at h'
    refine .inr ⟨go, fun H3 => ∃ Z' acc ys, Grow Z1 H1 Z' H3 ∧ ¬ Z' C ∧ H3 C = some (.lst acc) ∧ RpAll X.K Z' H3 acc ys ∧ ys.length ≤ i + 1 ∧ post (fun r => KN X.K Z H (ys ++ r) Q) (xWish X.K Z H W σ) (compF t tA f (ds.drop (i + 1)) (killL vs ρ)),
      fun H3 h3 => ⟨ds.length - (i + 1), by omega, rfl, hlt, h3⟩, fun x H2 y => ?_⟩
    obtain ⟨g2, rx⟩ := st x H2 y
    have G2 := g'.trans g2
    have E2 : EnvOk X.K B Z' H2 (L2.wipe σ vs) (killL vs ρ) := (E1.grow G2).wipe vs
    cases et : t d (killL vs ρ) with
    | none => simp only [et] at h'; exact h'.elim
    | some ρ1 =>
      simp only [et] at h'
      refine hg B Z' H2 _ _ x d ρ1 E2 rx et _ fun σ4 E4 w4 => ⟨?_, B, Z', ρ1, E4, ?_⟩
      · rw [w4 vs hj]
        have idem : ∀ (l : List Nat), (∀ i ∈ l, i ∈ vs) → ∀ σ : L2.St, L2.wipe (L2.wipe σ l) vs = L2.wipe σ vs := by
          intro l
          induction l with
          | nil => intro _ σ; rfl
          | cons a l ih =>
            intro hl σ
            show L2.wipe ((L2.wipe σ l).set a none) vs = _
            rw [wipe_set (hl a List.mem_cons_self)]
            exact ih (fun i hi => hl i (List.mem_cons_of_mem _ hi)) σ
        exact idem vs (fun _ h => h) σ
      · cases ec : tA ρ1 with
        | exc x => simp only [ec] at h'; exact h'.elim
        | bad => simp only [ec] at h'; exact h'.elim
        | ok b =>
          simp only [ec] at h'
          intro Z3 H3 g3
          have nz3 : ¬ Z3 C := fun q => (g3.zn C q).elim nz fun n => by rw [g2.hs _ _ hc] at n; cases n
          cases b with
          | false => exact iteF ⟨Z3, acc, ys, G2.trans g3, nz3, g3.hs _ _ (g2.hs _ _ hc), (r.grow g2).grow g3, by omega, h'⟩
          | true =>
            refine iteT ⟨B, Z3, ρ1, E4.grow g3, ?_⟩
            cases ef : f ρ1 with
            | exc x => simp only [ef] at h'; exact h'.elim
            | bad => simp only [ef] at h'; exact h'.elim
            | ok y =>
              simp only [ef] at h'
              intro v Z4 H4 g4 rv
              have nz4 : ¬ Z4 C := fun q => (g4.zn C q).elim nz3 fun n => by rw [g3.hs _ _ (g2.hs _ _ hc)] at n; cases n
              have hc4 := g4.hs _ _ (g3.hs _ _ (g2.hs _ _ hc))
              have r4 := ((r.grow g2).grow g3).grow g4
              have kp4 : Keeps X.K Z4 H4 Z4 (L2.upd H4 C (.lst (acc ++ [v]))) := ⟨fun _ q => q, fun b o q hb => by rw [upd_ne (fun q' => nz4 (by rw [← q']; exact q))]; exact hb, fun b xs hb => by
                rcases hb with hb | hb
                · refine .inl ?_
                  rcases hb with hb | ⟨u, hb⟩
                  · exact .inl (by rw [upd_ne (fun q' => by subst q'; rw [hc4] at hb; cases hb)]; exact hb)
                  · exact .inr ⟨u, by rw [upd_ne (fun q' => by subst q'; rw [hc4] at hb; cases hb)]; exact hb⟩
                · exact .inr hb, fun b xs ⟨u, hb, nd⟩ => ⟨u, by rw [upd_ne (fun q' => by subst q'; rw [hc4] at hb; cases hb)]; exact hb, nd⟩⟩
              have G4 : Grow Z1 H1 Z4 H4 := (G2.trans g3).trans g4
              refine ⟨acc, hc4, by rw [r.length, sizeLine_eq]; omega, Z4, acc ++ [v], ys ++ [y], ⟨fun zt a za => ?_, G4.zs, G4.zn, fun a o ha => ?_⟩, nz4, upd_same, (r4.keep kp4).append (.cons (rv.keep kp4) .nil), by rw [List.length_append, List.length_singleton]; omega, ?_⟩
              · by_cases q : a = C
                · rw [q, upd_same]; exact fun q => nomatch q
                · rw [upd_ne q]; exact G4.zt zt a za
              · rw [upd_ne (fun q => by rw [q, hC] at ha; cases ha)]
                exact G4.hs a o ha
              · refine (post.bind h').mono (fun r k => ?_) fun _ w => w
                have k : KN X.K Z H (ys ++ (y :: r)) Q := k
                rw [List.append_assoc]
                exact k
theorem ptz_nil : PTs X [] (tT X.K W cYes) := ⟨fun pins s σ H Q I h => pts_nil.run pins s σ H Q I (by
  obtain ⟨B, Z, ρ, E, h⟩ := h
  exact h Z H .refl)⟩
theorem ptz_one {c : Expr} (h : PT X c (tT X.K W tA)) : PTs X [c] (tT X.K W tA) := pts_one h
theorem pn_comp {scope : Scope} (own : List (Str × Nat)) (hc : X.calm = true) (hN : X.N.Nodup) (hi : PI X tg iter (tIt wk X.K W it)) (ok : BlkOk X.N X.env.scope scope own) (hgz : GZ wk X.K g t js)
    (hg : ∀ (s : Shared) (H : Hp) (C : Addr) (cl : List (Str × Addr)) (fp : List Addr), PG (X.blk s H scope (compEnvC scope cl C X.env) fp) tg g) (ht : ∀ (s : Shared) (H : Hp) (C : Addr) (cl : List (Str × Addr)) (fp : List Addr), PTs (X.blk s H scope (compEnvC scope cl C X.env) fp) ifs (tT X.K W0 tA))
    (he : ∀ (s : Shared) (H : Hp) (C : Addr) (cl : List (Str × Addr)) (fp : List Addr), PE (X.blk s H scope (compEnvC scope cl C X.env) fp) elt (tP X.K W0 f)) (hj : ∀ i ∈ js, i ∈ own.map (·.2) := by decide) (hs : ∀ x, foldedSetIterable iter X.env x = pure x := by intro _; rfl) :
    PE X (.ListComp elt [⟨tg, iter, ifs, 0⟩] scope pos) (tN X.K W (fComp it t tA f (own.map (·.2)))) := PE.imp (pe_lc hc hN hi ok hg ht he hs) fun _ _ _ h => comp_in hgz hj h
theorem sz_comp {scope : Scope} (i : Nat) {y : Str} {py spos : Pos} (own : List (Str × Nat)) (hc : X.calm = true) (hN : X.N.Nodup) (hy : X.N[i]? = some y) (hyl : X.env.scope.names.lookup y = some .local)
    (hsw : swapsWith (.ListComp elt [⟨tg, iter, ifs, 0⟩] scope pos) (some (.Name y py)) spos.line X.env = pure true) (hi : PI X tg iter (tIt wk X.K W it)) (ok : BlkOk X.N X.env.scope scope own) (hgz : GZ wk X.K g t js)
    (hg : ∀ (s : Shared) (H : Hp) (C : Addr) (cl : List (Str × Addr)) (fp : List Addr), PG (X.blk s H scope (compEnvC scope cl C X.env) fp) tg g) (ht : ∀ (s : Shared) (H : Hp) (C : Addr) (cl : List (Str × Addr)) (fp : List Addr), PTs (X.blk s H scope (compEnvC scope cl C X.env) fp) ifs (tT X.K W0 tA))
    (he : ∀ (s : Shared) (H : Hp) (C : Addr) (cl : List (Str × Addr)) (fp : List Addr), PE (X.blk s H scope (compEnvC scope cl C X.env) fp) elt (tP X.K W0 f)) (hj : ∀ i ∈ js, i ∈ own.map (·.2) := by decide) (hs : ∀ x, foldedSetIterable iter X.env x = pure x := by intro _; rfl) :
    PS X (.Assign [.Name y py] (.ListComp elt [⟨tg, iter, ifs, 0⟩] scope pos) spos) (tS X.K W (sOwn i (fComp it t tA f (own.map (·.2))))) := PS.imp (ps_setLc hc hN hy hyl hsw hi ok hg ht he hs) fun D σ H h => by
  have q := own_in (X := X) h
  obtain ⟨B, Z, ρ, E, q⟩ := q
  exact comp_in hgz hj ⟨B, Z, ρ, E, q⟩
end
end Pz

set_option maxHeartbeats 1000000
/-! The plain layer: defs and their calls, raise, try. -/
namespace Pz
open PySem PySem.Spec L2

/-! ### what a def promises -/
abbrev Mf := List D → R D
def spP (K : PySem.W.Frag) (m : Mf) (n : Nat) : Sp := fun vs H Q E => vs.length = n ∧ ∃ Z ds, (∀ a, Z a → H a ≠ none) ∧ RpAll K Z H vs ds ∧ post (fun d => KP K Z H d Q) (fun x => ∀ Z' H', Grow Z H Z' H' → E (.ref (He.ga K x)) none H') (m ds)
/-- a body as a function of its arguments; n: how many names it has -/
def runF (F : Fs) (n : Nat) : Mf := fun ds => match F (ds.map .dat ++ List.replicate (n - ds.length) .no) with
  | .nx _ => .ok .none
  | .rt d => .ok d
  | .exc x _ => .exc x
  | _ => .bad
/-- what a def's body wishes of an exception -/
abbrev WD (E : XK) : WX := fun cls d _ H => E cls d H
/-- the def by the module's name x does m, with n arguments, by at most level k -/
structure Has (P : Program) (w : World) (K : PySem.W.Frag) (mg : Str → Option Value) (base : Heap) (x : Str) (k : Nat) (m : Mf) (n : Nat) : Prop where
  ex : ∃ (fd : FuncData) (ps : List Str), FnOk P w K mg base (L2.CX P w) k (He.ga K x) fd ps (spP K m n) ∧ Binds K fd ps [] ∧ ps.length = n
  mg : mg x = some (.ref (He.ga K x))
  kp : PySem.W.keepIn K (.ref (He.ga K x)) = true
theorem Has.mono {P : Program} {w : World} {K : PySem.W.Frag} {mg : Str → Option Value} {base : Heap} {x : Str} {k k' : Nat} {m : Mf} {n : Nat} (h : Has P w K mg base x k m n) (hk : k ≤ k') : Has P w K mg base x k' m n :=
  ⟨let ⟨fd, ps, a, b⟩ := h.ex; ⟨fd, ps, a.mono hk, b⟩, h.mg, h.kp⟩
section
variable {P : Program} {w : World} {K : PySem.W.Frag} {mg : Str → Option Value} {base : Heap} {x : Str} {k n : Nat} {m : Mf}
theorem start_ok {Z : Addr → Prop} {H : Hp} (zt : ∀ a, Z a → H a ≠ none) {N : List Str} {vs : List V} {ds : List D} (r : RpAll K Z H vs ds) (hl : vs.length ≤ N.length) : EnvOk K ⟨Z, H⟩ Z H (L2.start N vs) (ds.map .dat ++ List.replicate (N.length - ds.length) .no) where
  len := by unfold L2.start; simp [r.length]
  sl := fun i s h => by
    by_cases hi : i < ds.length
    · rw [List.getElem?_append_left (by simpa using hi), List.getElem?_map] at h
      cases ed : ds[i]? with
      | none => rw [ed] at h; cases h
      | some d =>
        rw [ed] at h
        cases h
        obtain ⟨v, ev, rv⟩ := r.get i d ed
        refine ⟨v, ?_, rv⟩
        unfold L2.start
        rw [List.getElem?_append_left (by rw [List.length_map, r.length]; exact hi), List.getElem?_map, ev]
        rfl
    · rw [List.getElem?_append_right (by simpa using hi), List.getElem?_replicate] at h
      split at h <;> cases h
      trivial
  ap := fun i j a s t _ h _ o => by
    have : s.isOwn = false := by
      rw [List.getElem?_append] at h
      split at h
      · rw [List.getElem?_map] at h
        cases ed : ds[i]? with
        | none => rw [ed] at h; cases h
        | some d => rw [ed] at h; cases h; rfl
      · rw [List.getElem?_replicate] at h
        split at h <;> cases h
        rfl
    rw [this] at o; cases o
  on := fun i s a h o => by
    have : s.isOwn = false := by
      rw [List.getElem?_append] at h
      split at h
      · rw [List.getElem?_map] at h
        cases ed : ds[i]? with
        | none => rw [ed] at h; cases h
        | some d => rw [ed] at h; cases h; rfl
      · rw [List.getElem?_replicate] at h
        split at h <;> cases h
        rfl
    rw [this] at o; cases o
  zt := zt
  zs := fun _ h => h
  zn := fun _ h => .inl h
  hs := fun _ _ h => h
theorem runF_post {B : Base} {Z : Addr → Prop} {H : Hp} {F : Fs} {N : List Str} {ds : List D} {Q : VK} {E : XK} (h : post (fun d => KP K Z H d Q) (fun x => ∀ Z' H', Grow Z H Z' H' → E (.ref (He.ga K x)) none H') (runF F N.length ds)) :
    postS K ⟨Z, H⟩ (WD E) { nx := fun _ H' => Q .non H', rt := Q } (F (ds.map .dat ++ List.replicate (N.length - ds.length) .no)) := by
  unfold runF at h
  cases e : F (ds.map .dat ++ List.replicate (N.length - ds.length) .no) with
  | nx ρ => rw [e] at h; exact fun σ' Z' H' E' => h .non Z' H' E'.base .non
  | rt d => rw [e] at h; exact fun v Z' H' b r => h v Z' H' b r
  | exc x ρ => rw [e] at h; exact fun σ' Z' H' E' => h Z' H' E'.base
  | bk ρ => rw [e] at h; exact h.elim
  | ct ρ => rw [e] at h; exact h.elim
  | bad => rw [e] at h; exact h.elim
/-- THE RULE for a def: its body as a plain function -/
theorem def_fn {qual : Str} {params : Arguments} {body : List Stmt} {scope : Scope} {fd : FuncData} {N ps : List Str} {F : Fs} (D : FunD K x qual params body scope [] [] (He.ga K x) fd) (gm : mg x = some (.ref (He.ga K x))) (S : FnScope N ps scope) (hl : ps.length ≤ N.length) (hn : ps.length = n)
    (hm : m = runF F N.length)
    (hb : ∀ (cdv : Value) (A : Around) (outer : List PySem.Env) (s : Shared) (H : Hp) (E : XK), Room k (A.deeper (PyProof.Rows.envOfC qual scope s.heap.objs.size (He.ga K x) cdv)) → Takes (cxOf (L2.CX P w) P w K mg base N qual scope (He.ga K x) cdv A outer s H E) (WD E) →
      PassesOwn (model P w) (A.deeper (PyProof.Rows.envOfC qual scope s.heap.objs.size (He.ga K x) cdv)) (PyProof.Rows.envOfC qual scope s.heap.objs.size (He.ga K x) cdv) (cxOf (L2.CX P w) P w K mg base N qual scope (He.ga K x) cdv A outer s H E).xe →
      PSs (cxOf (L2.CX P w) P w K mg base N qual scope (He.ga K x) cdv A outer s H E) body (tS K (WD E) F)) : FnOk P w K mg base (L2.CX P w) (k + 1) (He.ga K x) fd ps (spP K m n) := by
  refine D.ok S (fun vs H Q E h => h.1.trans hn.symm) fun cdv A outer s H vs Q E hr h => ?_
  obtain ⟨hv, Z, ds, zt, r, h⟩ := h
  refine ⟨_, hb cdv A outer s H E hr (takes_of rfl rfl rfl rfl) (passes_of rfl), ⟨Z, H⟩, Z, _, start_ok zt r (by rw [hv, ← hn]; exact hl), ?_⟩
  subst hm
  exact runF_post (B := ⟨Z, H⟩) h
theorem def_ok {qual : Str} {params : Arguments} {body : List Stmt} {scope : Scope} {fd : FuncData} {N ps : List Str} {F : Fs} (D : FunD K x qual params body scope [] [] (He.ga K x) fd) (gm : mg x = some (.ref (He.ga K x))) (S : FnScope N ps scope) (hl : ps.length ≤ N.length) (hn : ps.length = n)
    (hbd : ∀ (kV doc pm : Value) (an : Option Addr) (cdv ct : Value) (us : List Value), us.length = ps.length → bindArgs (PySem.W.fnOf x qual params body scope .none kV doc pm an cdv ct) ⟨us, []⟩ = pure (ps.zip us)) (hm : m = runF F N.length)
    (hb : ∀ (cdv : Value) (A : Around) (outer : List PySem.Env) (s : Shared) (H : Hp) (E : XK), Room k (A.deeper (PyProof.Rows.envOfC qual scope s.heap.objs.size (He.ga K x) cdv)) → Takes (cxOf (L2.CX P w) P w K mg base N qual scope (He.ga K x) cdv A outer s H E) (WD E) →
      PassesOwn (model P w) (A.deeper (PyProof.Rows.envOfC qual scope s.heap.objs.size (He.ga K x) cdv)) (PyProof.Rows.envOfC qual scope s.heap.objs.size (He.ga K x) cdv) (cxOf (L2.CX P w) P w K mg base N qual scope (He.ga K x) cdv A outer s H E).xe →
      PSs (cxOf (L2.CX P w) P w K mg base N qual scope (He.ga K x) cdv A outer s H E) body (tS K (WD E) F)) : Has P w K mg base x (k + 1) m n :=
  ⟨⟨fd, ps, def_fn D gm S hl hn hm hb, D.bindsN hbd, hn⟩, gm, D.kp⟩
/-- a def of which nothing is known -/
theorem has_bad {qual : Str} {params : Arguments} {body : List Stmt} {scope : Scope} {fd : FuncData} {ps : List Str} (k : Nat) (D : FunD K x qual params body scope [] [] (He.ga K x) fd) (gm : mg x = some (.ref (He.ga K x))) (hn : ps.length = n)
    (hbd : ∀ (kV doc pm : Value) (an : Option Addr) (cdv ct : Value) (us : List Value), us.length = ps.length → bindArgs (PySem.W.fnOf x qual params body scope .none kV doc pm an cdv ct) ⟨us, []⟩ = pure (ps.zip us)) : Has P w K mg base x k (fun _ => .bad) n :=
  ⟨⟨fd, ps, ⟨fun vs H Q E h => h.1.trans hn.symm, fun A outer s H args us vs Q E _ _ _ _ h => by obtain ⟨_, Z, ds, _, _, h⟩ := h; exact h.elim⟩, D.bindsN hbd, hn⟩, gm, D.kp⟩
end
/-! ### calls -/
def fCall (m : Mf) (fs : Fxs) : Fx := fun ρ => fs ρ >>= m
section
variable {X : Cx} {W : WX} {x : Str} {k n : Nat} {m : Mf} {e : Expr} {es : List Expr} {fs : Fxs} {p pos : Pos}
theorem pz_call (G : Has X.prog X.w X.K X.mg X.base x k m n) (hr : Room k X.A) (tk : Takes X W) (hg : Gl X x) (ha : PA X (e :: es) (tAs X.K W fs)) (hn : ∀ ρ ds, fs ρ = .ok ds → ds.length = n) (hdb : (x == ("__debug__" : Str)) = false := by decide)
    (he : starEach (e :: es) X.env = (false, eval e X.env) :: starEach es X.env := by rfl) (hpl : (backTo pos (starEach es X.env)).any (·.1) = false := by rfl) : PE X (.Call (.Name x p) (e :: es) [] pos) (tP X.K W (fCall m fs)) := by
  obtain ⟨fd, ps, F, hb, hp⟩ := G.ex
  refine PE.imp (pe_callSD (E := WE W) (dvs := []) F hr hg G.mg G.kp hb .nil (fun σ => passAt tk σ) ha hdb he hpl) fun σ H Q ⟨B, Z, ρ, E, h⟩ => ?_
  refine ⟨B, Z, ρ, E, ?_⟩
  unfold fCall at h
  cases ea : fs ρ with
  | exc x => rw [ea] at h; exact h
  | bad => rw [ea] at h; exact h
  | ok ds =>
    rw [ea] at h
    intro vs Z' H' g r
    refine ⟨by rw [List.append_nil, r.length]; exact hn ρ ds ea, Z', ds, g.zt E.zt, by rw [List.append_nil]; exact r, ?_⟩
    exact post.mono h (fun d k => k.grow g) fun x w => w.grow g
end
theorem num0 : ∀ (ρ : Env) (ds : List D), fNil ρ = .ok ds → ds.length = 0 := fun ρ ds e => by cases e; rfl
theorem numS {fa : Fx} {fs : Fxs} {n : Nat} (h : ∀ ρ ds, fs ρ = .ok ds → ds.length = n) : ∀ ρ ds, fCons fa fs ρ = .ok ds → ds.length = n + 1 := fun ρ ds e => by
  unfold fCons at e
  obtain ⟨x, _, e⟩ := R.bind_ok_iff.mp e
  obtain ⟨xs, e1, e⟩ := R.bind_ok_iff.mp e
  cases e
  rw [List.length_cons, h ρ xs e1]
/-! ### raise -/
structure Exc (K : PySem.W.Frag) (mg : Str → Option Value) (x : Str) : Prop where
  mg : mg x = some (.ref (He.ga K x))
  ex : PySem.W.excIn K (He.ga K x) He.veBase "ValueError.__new__" = true
  kp : PySem.W.keepIn K (.ref (He.ga K x)) = true
  sb : PySem.W.subIn K (.ref (He.ga K x)) (.type "BaseException") = some true
  ty : PySem.W.typeIn K (.ref (He.ga K x)) = some (.type "type")
def sRaise (x : Str) : Fs := fun ρ => .exc x ρ
section
variable {X : Cx} {W : WX} {x m : Str} {j : Nat} {p p2 pos pos2 : Pos}
theorem sz_raise (T : Exc X.K X.mg x) (hc : X.calm = true) (tk : Takes X W) (hg : Gl X x) (hdb : (x == ("__debug__" : Str)) = false := by decide) : PS X (.Raise (some (.Call (.Name x p) [.Constant (.str m) j p2] [] pos)) none pos2) (tS X.K W (sRaise x)) :=
  PS.imp (ps_raise hc tk (pmk_own PySem.F.excBase_ValueError T.ex T.mg T.kp (raises_own T.sb T.ty) hg hdb)) fun D σ H ⟨B, Z, ρ, E, h⟩ => h σ Z H E
end
end Pz

set_option maxHeartbeats 2000000
/-! The plain layer: products, dicts, lists turned about. -/
namespace Pz
open PySem PySem.Spec L2
open AutoSeq1 (wpAny_loadPart')

/-! ### tuple * int, at its edges -/
theorem tmul_same (l : Addr) (its : Array Value) (n : Nat) (dd : Option Addr) (sl : Array (Option Value)) (k : Int) (u : Tok) (h0 : (decide (k < -(2 ^ 63)) || decide (k ≥ 2 ^ 63)) = false) (h1 : (its.isEmpty || k == 1) = true) :
    Meets (Builtin.«tuple.__mul__» ⟨[.ref l, .int k u], []⟩) (fun _ R s => s.heap.get? l = some { cls := .type "tuple", dict := dd, data := .seq its n, slots := sl } ∧ R (.ok (.ret (Value.ref l))) s) :=
  .of_wp fun prog w A R st h => by
    obtain ⟨hp, g, d, tk, os⟩ := st
    obtain ⟨hl, h⟩ := h
    have f1 := AutoSeq1.idx_int
    wp_walk using wpAny_loadPart' hl
    repeat (first
      | (refine wpAny_ite_false (decide_eq_false (by rw [h0]; exact Bool.false_ne_true)) ?_; wp_walk using wpAny_loadPart' hl)
      | (refine wpAny_ite_true (decide_eq_true h1) ?_; wp_walk using wpAny_loadPart' hl))
    exact ⟨_, rfl, h⟩
theorem tmul_none (l : Addr) (its : Array Value) (n : Nat) (dd : Option Addr) (sl : Array (Option Value)) (k : Int) (u : Tok) (h0 : (decide (k < -(2 ^ 63)) || decide (k ≥ 2 ^ 63)) = false) (h1 : (its.isEmpty || k == 1) = false) (h2 : (decide (k ≤ 0) || its.isEmpty) = true) :
    Meets (Builtin.«tuple.__mul__» ⟨[.ref l, .int k u], []⟩) (fun _ R s => s.heap.get? l = some { cls := .type "tuple", dict := dd, data := .seq its n, slots := sl } ∧ R (.ok (.ret (Value.ref s.heap.objs.size))) { s with heap := s.heap.push { cls := Value.type "tuple", data := Data.seq #[] }, toks := s.toks }) :=
  .of_wp fun prog w A R st h => by
    obtain ⟨hp, g, d, tk, os⟩ := st
    obtain ⟨hl, h⟩ := h
    have f1 := AutoSeq1.idx_int
    wp_walk using wpAny_loadPart' hl
    repeat (first
      | (refine wpAny_ite_false (decide_eq_false (by rw [h0]; exact Bool.false_ne_true)) ?_; wp_walk using wpAny_loadPart' hl)
      | (refine wpAny_ite_false (decide_eq_false (by rw [h1]; exact Bool.false_ne_true)) ?_; wp_walk using wpAny_loadPart' hl)
      | (refine wpAny_ite_true (decide_eq_true h2) ?_; wp_walk using wpAny_loadPart' hl))
    exact ⟨_, rfl, h⟩
/-- tuple * int -/
def rRepA (K : PySem.W.Frag) : R2 := fun x y H Q => ∃ l k xs, x = .ref l ∧ y = .int k ∧ SqT K H l xs ∧ -1000 ≤ k ∧ k ≤ 1000 ∧ xs.length ≤ 1000 ∧ ((xs = [] ∨ k = 1) → Q (.ref l) H) ∧ (xs ≠ [] → k ≠ 1 → NewT H (List.replicate k.toNat xs).flatten Q)
section
variable {X : Cx}
theorem op_repA : OpR X (binaryOp .Mult) (rRepA X.K) := by
  intro pins s σ H x y v u Q I rx ry h
  obtain ⟨l, k, xs, rfl, rfl, hT, hk0, hk1, hz, q1, q2⟩ := h
  cases rx
  obtain ⟨t, rfl⟩ := ry
  obtain ⟨its, r, ⟨⟨cls, dd, data, sl⟩, ho, hc, n, hd⟩, hs⟩ := I.tuple hT
  simp only at hc hd
  subst hc hd
  have hle : its.length = xs.length := r.length.symm
  have c0 : (decide (k < -(2 ^ 63)) || decide (k ≥ 2 ^ 63)) = false := by
    rw [decide_eq_false (by omega), decide_eq_false (by omega)] <;> rfl
  have road : ∀ {Q' : Value → Shared → Prop}, codeAny (model X.prog X.w) X.A (.builtin "pz" ⟨[], []⟩) (fun _ _ => True) s → True := fun _ => trivial
  have emp : its.toArray.isEmpty = xs.isEmpty := by
    cases its with
    | nil => cases xs with
      | nil => rfl
      | cons a b => cases hle
    | cons a b => cases xs with
      | nil => cases hle
      | cons a b => rfl
  by_cases hbig : xs ≠ [] ∧ 2 ≤ k
  · have hn : its.toArray.isEmpty = false := by
      rw [emp]
      cases xs with
      | nil => exact absurd rfl hbig.1
      | cons a b => rfl
    have hsz : its.toArray.size = xs.length := by rw [List.size_toArray, hle]
    have hm : ((its.toArray.size : Nat) : Int) * k ≤ 1000000 := by
      rw [hsz]
      have := Int.mul_le_mul_of_nonneg_right (show ((xs.length : Nat) : Int) ≤ 1000 by omega) (show 0 ≤ k by omega)
      omega
    have flen : (List.replicate k.toNat its).flatten.length ≤ sizeLine := by
      rw [PyProof.Rows.lm_len_rep_flat, hle, sizeLine_eq]
      have := Nat.mul_le_mul (show k.toNat ≤ 1000 by omega) hz
      omega
    have c1 : (its.toArray.isEmpty || k == 1) = false := by
      rw [hn, Bool.false_or]
      exact beq_eq_false_iff_ne.mpr (by omega)
    have c2 : (decide (k ≤ 0) || its.toArray.isEmpty) = false := by
      rw [hn, Bool.or_false]
      exact decide_eq_false (by omega)
    have c4 : Builtin.Tuple.tupleTooMany (((its.toArray.size : Nat) : Int) * k) = false := by
      unfold Builtin.Tuple.tupleTooMany
      rw [sizeLine_eq]
      exact decide_eq_false (by omega)
    refine wpAny_binaryOp_repeat_ref (T := "tuple") (U := "int") (by decide) ⟨_, ho, rfl⟩ (fun s' => typeIs_int s' k t) noFill_tuple_mul F.fills_int_mul F.slot_int_rmul repeat_tuple F.slot_int_index.lookup
      (call_meets F.slot_int_rmul (typeIs_int s k t) F.entry_int_rmul (F.args_int_rmul_2 _ _) (int_rmul_tuple k t l its.toArray n dd sl)
        ⟨ho, rfl, ⟨_, ho, rfl⟩, call_meets F.slot_tuple_mul ⟨_, ho, rfl⟩ F.entry_tuple_mul (F.args_tuple_mul_2 _ _) (tuple_mulW l its.toArray n dd sl k t c0 c1 c2 (by omega) c4 (by rw [size_rep, List.size_toArray]; exact flen)) ⟨ho, ?_⟩⟩)
    rw [size_rep]
    have zl : (List.replicate k.toNat xs).flatten.length ≤ sizeLine := by
      rw [PyProof.Rows.lm_len_rep_flat, sizeLine_eq]
      have := Nat.mul_le_mul (show k.toNat ≤ 1000 by omega) hz
      omega
    exact lay_tup I zl (r.rep k.toNat) (q2 hbig.1 (by omega))
  by_cases hsame : xs = [] ∨ k = 1
  · have c1 : (its.toArray.isEmpty || k == 1) = true := by
      rw [emp]
      rcases hsame with rfl | rfl
      · rfl
      · cases xs.isEmpty <;> rfl
    refine wpAny_binaryOp_repeat_ref (T := "tuple") (U := "int") (by decide) ⟨_, ho, rfl⟩ (fun s' => typeIs_int s' k t) noFill_tuple_mul F.fills_int_mul F.slot_int_rmul repeat_tuple F.slot_int_index.lookup
      (call_meets F.slot_int_rmul (typeIs_int s k t) F.entry_int_rmul (F.args_int_rmul_2 _ _) (int_rmul_tuple k t l its.toArray n dd sl)
        ⟨ho, rfl, ⟨_, ho, rfl⟩, call_meets F.slot_tuple_mul ⟨_, ho, rfl⟩ F.entry_tuple_mul (F.args_tuple_mul_2 _ _) (tmul_same l its.toArray n dd sl k t c0 c1) ⟨ho, ?_⟩⟩)
    exact ⟨.ref l, H, I, rfl, q1 hsame⟩
  · rw [not_or] at hsame
    have c1 : (its.toArray.isEmpty || k == 1) = false := by
      rw [emp]
      cases xs with
      | nil => exact absurd rfl hsame.1
      | cons a b => exact beq_eq_false_iff_ne.mpr hsame.2
    have hk : k ≤ 0 := by
      have : ¬ 2 ≤ k := fun q => hbig ⟨hsame.1, q⟩
      omega
    have c2 : (decide (k ≤ 0) || its.toArray.isEmpty) = true := by rw [decide_eq_true hk]; rfl
    refine wpAny_binaryOp_repeat_ref (T := "tuple") (U := "int") (by decide) ⟨_, ho, rfl⟩ (fun s' => typeIs_int s' k t) noFill_tuple_mul F.fills_int_mul F.slot_int_rmul repeat_tuple F.slot_int_index.lookup
      (call_meets F.slot_int_rmul (typeIs_int s k t) F.entry_int_rmul (F.args_int_rmul_2 _ _) (int_rmul_tuple k t l its.toArray n dd sl)
        ⟨ho, rfl, ⟨_, ho, rfl⟩, call_meets F.slot_tuple_mul ⟨_, ho, rfl⟩ F.entry_tuple_mul (F.args_tuple_mul_2 _ _) (tmul_none l its.toArray n dd sl k t c0 c1 c2) ⟨ho, ?_⟩⟩)
    have ez : k.toNat = 0 := by omega
    have q := q2 hsame.1 hsame.2
    rw [ez] at q
    exact lay_tup (us := []) I (Nat.zero_le _) .nil q
end
/-! ### * -/
def repD {α : Type} (k : Int) (xs : List α) : List α := (List.replicate k.toNat xs).flatten
theorem RpAll.rep {K : PySem.W.Frag} {Z : Addr → Prop} {H : Hp} {xs : List V} {ds : List D} (r : RpAll K Z H xs ds) (k : Nat) : RpAll K Z H (List.replicate k xs).flatten (List.replicate k ds).flatten := by
  induction k with
  | zero => exact .nil
  | succ k ih => rw [List.replicate_succ, List.flatten_cons, List.replicate_succ, List.flatten_cons]; exact r.append ih
def dRepN : D → D → Option (List D)
  | .list xs, .int k => if -1000 ≤ k ∧ k ≤ 1000 ∧ xs.length ≤ 1000 then some (repD k xs) else none
  | _, _ => none
theorem op2_rep {K : PySem.W.Frag} : Op2N K rRep dRepN := fun Z H x y d e q zt rx ry hg Q k => by
  unfold dRepN at hg
  split at hg
  rotate_left
  · cases hg
  split at hg <;> cases hg
  rename_i ds j hl
  obtain ⟨a, xs, rfl, ha, r1⟩ := rpl rx
  cases rpi ry
  refine ⟨a, j, xs, rfl, rfl, ha, by omega, by omega, ?_, k.lst zt (r1.rep _)⟩
  rw [r1.length, sizeLine_eq]
  have h1 : j.toNat ≤ 1000 := by omega
  have h2 := Nat.mul_le_mul hl.2.2 h1
  omega
def dMul : D → D → Option D
  | .int i, .int j => if (-(2 ^ 64) < i ∧ i < 2 ^ 64) ∨ (-(2 ^ 64) < j ∧ j < 2 ^ 64) then some (.int (i * j)) else none
  | .tuple xs, .int k => if -1000 ≤ k ∧ k ≤ 1000 ∧ xs.length ≤ 1000 then some (.tuple (repD k xs)) else none
  | .list xs, .int k => if -1000 ≤ k ∧ k ≤ 1000 ∧ xs.length ≤ 1000 then some (.list (repD k xs)) else none
  | _, _ => none
def rMul0 (K : PySem.W.Frag) : R2 := fun x y H Q => (∃ i j, x = .int i ∧ y = .int j ∧ CMul i j ∧ Q (.int (i * j)) H) ∨ rRepA K x y H Q ∨ rRep x y H Q
theorem op_mul0 {X : Cx} : OpR X (binaryOp .Mult) (rMul0 X.K) := op_mul.or (op_repA.or op_rep)
theorem op2_mul {K : PySem.W.Frag} : Op2 K (rMul0 K) dMul := fun Z H x y d e q zt rx ry hg Q k => by
  unfold dMul at hg
  split at hg
  · split at hg <;> cases hg
    rename_i hc
    cases rpi rx; cases rpi ry
    exact .inl ⟨_, _, rfl, rfl, hc, k _ Z H .refl (.int _)⟩
  · split at hg <;> cases hg
    rename_i hl
    obtain ⟨a, xs, rfl, ha, r1⟩ := rptN rx
    cases rpi ry
    refine .inr (.inl ⟨a, _, xs, rfl, rfl, ha.sq, hl.1, hl.2.1, by rw [r1.length]; exact hl.2.2, fun hs => ?_, fun _ _ => k.tup (r1.rep _)⟩)
    rcases hs with rfl | rfl
    · cases r1
      have en : ∀ n : Nat, (List.replicate n ([] : List D)).flatten = [] := fun n => by simp
      unfold repD at k
      rw [en] at k
      exact k _ Z H .refl (.tup ha .nil)
    · unfold repD at k
      simp only [Int.toNat_one, List.replicate_one, List.flatten_cons, List.flatten_nil, List.append_nil] at k
      exact k _ Z H .refl (.tup ha r1)
  · split at hg <;> cases hg
    rename_i hl
    exact .inr (.inr (op2_rep Z H x y _ _ _ zt rx ry (if_pos hl) Q k.kn))
  · cases hg
/-! ### dicts -/
def f3 (g : D → D → D → Option D) (a b c : Fx) : Fx := fun ρ => a ρ >>= fun x => b ρ >>= fun y => c ρ >>= fun z => ofO (g x y z)
theorem dic_of {K : PySem.W.Frag} {Z : Addr → Prop} {H : Hp} {x : V} {es : List (D × D)} (h : RpT K Z H x (.dict es)) (hn : ∀ y, es ≠ [(.none, y)]) : ∃ a kvs, x = .ref a ∧ H a = some (.dK kvs) ∧ RpKV K Z H kvs es := by
  rcases h with h | ⟨a, o, xs, ds, rfl, _⟩
  · exact h
  · exact absurd rfl (hn _)
theorem look_rel {K : PySem.W.Frag} {Z : Addr → Prop} {H : Hp} {kvs : List (Key × V)} {es : List (D × D)} (r : RpKV K Z H kvs es) (k : Key) {v0 : V} {d0 : D} (r0 : Rp K Z H v0 d0) : Rp K Z H ((valV kvs k).getD v0) ((lookD es k).getD d0) := by
  have l := r.look k
  cases e1 : valV kvs k with
  | none =>
    cases e2 : lookD es k with
    | none => exact r0
    | some d => rw [e1, e2] at l; exact l.elim
  | some v =>
    cases e2 : lookD es k with
    | none => rw [e1, e2] at l; exact l.elim
    | some d => rw [e1, e2] at l; exact l
end Pz

set_option maxHeartbeats 4000000
/-! The plain layer: sets of ints and texts, made of a list, sorted or counted. -/
namespace Pz
open PySem PySem.Spec L2 PyProof.Rows

def memK (ks : List Key) (k : Key) : Bool := ks.any fun x => decide (x = k)
theorem memK_iff {ks : List Key} {k : Key} : memK ks k = true ↔ k ∈ ks := by
  unfold memK
  rw [List.any_eq_true]
  exact ⟨fun ⟨x, h1, h2⟩ => (of_decide_eq_true h2) ▸ h1, fun h => ⟨k, h, decide_eq_true rfl⟩⟩
def addK (ks : List Key) (k : Key) : List Key := if memK ks k = true then ks else ks ++ [k]
theorem addK_len (ks : List Key) (k : Key) : (addK ks k).length ≤ ks.length + 1 := by
  unfold addK; split
  · omega
  · simp
def ky (e : Int × Value) : Key := match e.2 with
  | .int i _ => .inl i
  | .str x _ => .inr x
  | _ => .inl 0
def Fine (w : World) (e : Int × Value) : Prop := ∃ k, keyIs k e.2 = true ∧ e.1 = keyH w k
theorem keyIs_ky {k : Key} {e : Int × Value} (h : keyIs k e.2 = true) : ky e = k := by
  rcases keyIs_shape h with ⟨i, t, rfl, q⟩ | ⟨x, t, rfl, q⟩ <;> unfold ky <;> rw [q]
theorem keyIs_scan {k : Key} {v : Value} (h : keyIs k v = true) : v.scannable = true := by
  rcases keyIs_shape h with ⟨i, t, rfl, rfl⟩ | ⟨x, t, rfl, rfl⟩ <;> rfl
theorem Fine.ky {w : World} {e : Int × Value} (f : Fine w e) : keyIs (Pz.ky e) e.2 = true := by
  obtain ⟨k, h, _⟩ := f; rw [keyIs_ky h]; exact h
theorem Fine.is {w : World} {e : Int × Value} (f : Fine w e) (k : Key) : keyIs k e.2 = true ↔ Pz.ky e = k :=
  ⟨keyIs_ky, fun q => q ▸ f.ky⟩
theorem fine_elems {P : Program} {w : World} {es : List (Int × Value)} (g : ∀ e ∈ es, Fine w e) : ElemsOf (mixKind P w) es := fun e he =>
  ⟨g e he, keyIs_scan (g e he).ky⟩
/-- the set at a has these members -/
def SetM (w : World) (h : Heap) (a : Addr) (ks : List Key) : Prop :=
  ∃ ob es ep tb, h.get? a = some ob ∧ ob.ExactSet ∧ ob.data = .set es ep tb ∧ ((∀ e ∈ es.toList, Fine w e) ∧ (es.toList.map ky).Perm ks ∧ ks.Nodup) ∧ (es.size < scanBound ∧ tb.fits es.size = true) ∧
    Ris tb.place.toList ∧ (w.params.followText "set-order" = true ∨ tb.led = true)
theorem SetM.keep {w : World} {h h' : Heap} {a : Addr} {ks : List Key} (m : SetM w h a ks) (k : ∀ ob, h.get? a = some ob → h'.get? a = some ob) : SetM w h' a ks :=
  let ⟨ob, es, ep, tb, q, r⟩ := m; ⟨ob, es, ep, tb, k ob q, r⟩
theorem SetM.type {w : World} {s : Shared} {a : Addr} {ks : List Key} (m : SetM w s.heap a ks) : s.TypeIs (.ref a) "set" :=
  let ⟨ob, _, _, _, q, x, _⟩ := m; ⟨ob, q, x.1⟩
section
variable {P : Program} {w : World} {A : Around} {E : Value → Shared → Prop} {s : Shared} {a : Addr} {ks : List Key}
theorem put_tail {give : Bool → Sem Unit} (hgive : ∀ (b : Bool) (st : Shared) (Q' : Unit → Shared → Prop), Q' () st → wpAny (model P w) A (give b) Q' E st)
    {ob : Obj} {es : Array (Int × Value)} {ep : Nat} {tb : SetTable} (hob : s.heap.get? a = some ob) (exact' : ob.ExactSet) (hdat : ob.data = .set es ep tb)
    {fs : Array (Int × Value)} {tc : SetTable} (fine : ∀ e ∈ fs.toList, Fine w e) (perm : (fs.toList.map ky).Perm ks) (nd : ks.Nodup)
    (few : fs.size < scanBound) (fit : tc.fits fs.size = true) (ris : Ris tc.place.toList) (led : w.params.followText "set-order" = true ∨ tc.led = true) {dummy : Bool} {G : Option Bool → Shared → Prop}
    (hG : ∀ hp', Heap.SameBut a s.heap hp' → SetM w hp' a ks → G (some true) { s with heap := hp' }) :
    wpAny (model P w) A (storeSet a fs tc >>= fun _ => if (!dummy && tc.tooFull) = true then
          give (relayAll tc fs (SetTable.grown fs.size)).2.2 >>= fun _ => storeSet a (relayAll tc fs (SetTable.grown fs.size)).1 (relayAll tc fs (SetTable.grown fs.size)).2.1 >>= fun _ => pure (some true)
        else pure (some true)) G E s := by
  refine wpAny_bind (wpAny_storeSet_of hob hdat ?_ (fits_of_scanBound few))
  have hob1 := store_at (es' := fs) (t' := tc) hob hdat
  have same1 := Heap.SameBut.update s.heap a (Obj.putSet fs tc)
  by_cases full : (!dummy && tc.tooFull) = true
  · rw [if_pos full]
    have pm := relayAll_perm tc fs (SetTable.grown fs.size)
    have f3 := relayAll_fits tc fs (SetTable.grown fs.size)
    have r3 := relayAll_ris tc fs (SetTable.grown fs.size)
    have l3 := relayAll_led tc fs (SetTable.grown fs.size)
    generalize relayAll tc fs (SetTable.grown fs.size) = Y at pm f3 r3 l3 ⊢
    obtain ⟨gs, td, gv⟩ := Y
    dsimp only at pm f3 r3 l3 ⊢
    have esz : gs.size = fs.size := by
      have := pm.length_eq
      rw [Array.length_toList, Array.length_toList] at this
      exact this
    have few2 : gs.size < scanBound := by rw [esz]; exact few
    refine wpAny_bind (hgive _ _ _ (wpAny_bind (wpAny_storeSet_of hob1 rfl ?_ (fits_of_scanBound few2))))
    have hob2 := store_at (es' := gs) (t' := td) hob1 rfl
    exact wpAny_pure (hG _ (same1.trans (Heap.SameBut.update _ a _)) ⟨_, gs, _, td, hob2, exact', rfl, ⟨fun e he => fine e (pm.mem_iff.mp he), (pm.map ky).trans perm, nd⟩, ⟨few2, f3⟩, r3, led.imp id fun z => by rw [l3]; exact z⟩)
  · rw [if_neg full]
    exact wpAny_pure (hG _ same1 ⟨_, fs, _, tc, hob1, exact', rfl, ⟨fine, perm, nd⟩, ⟨few, fit⟩, ris, led⟩)
theorem put_hashed {k : Key} {v : Value} {Q : Bool → Shared → Prop} (hv : keyIs k v = true) (m : SetM w s.heap a ks) (room : ks.length + 1 < scanBound)
    (hQ : ∀ hp', Heap.SameBut a s.heap hp' → SetM w hp' a (addK ks k) → ∀ b, Q b { s with heap := hp' }) :
    wpAny (model P w) A (setAddHashed a v (keyH w k)) Q E s := by
  obtain ⟨ob, es, ep, tb, hob, hex, hdat, ⟨fine, perm, nd⟩, ⟨few, fit⟩, ris, led⟩ := m
  have hv' : (mixKind P w).is k v = true := hv
  have scan := keyIs_scan hv
  have els : ElemsOf (mixKind P w) es.toList := fine_elems fine
  show wpAny (model P w) A (setAddHashed a v ((mixKind P w).hash k)) Q E s
  unfold setAddHashed setAddHashedIn
  refine wpAny_holding (wpAny_bind (wpAny_setState_of hob hdat fit ?_))
  dsimp only
  rw [byScan_of scan few els]
  simp only [↓reduceIte]
  unfold setAddByScan
  refine wpAny_bind (wpAny_bind (wpAny_rule (wpAny_bind (wpAny_setScan_of hv' hob hdat fit els ?_))))
  cases found : List.findIdx? (fun e => (mixKind P w).is k e.2) es.toList with
  | some j =>
    dsimp only
    obtain ⟨hj, pj, _⟩ := List.findIdx?_eq_some_iff_getElem.mp found
    have hk : k ∈ ks := perm.mem_iff.mp (List.mem_map.mpr ⟨es.toList[j], List.getElem_mem hj, keyIs_ky pj⟩)
    refine wpAny_pure (wpAny_pure (hQ s.heap (Heap.SameBut.refl a s.heap) ?_ _))
    rw [show addK ks k = ks from if_pos (memK_iff.mpr hk)]
    exact ⟨ob, es, ep, tb, hob, hex, hdat, ⟨fine, perm, nd⟩, ⟨few, fit⟩, ris, led⟩
  | none =>
    dsimp only
    have hk : k ∉ ks := fun z => by
      obtain ⟨e, he, q⟩ := List.mem_map.mp (perm.mem_iff.mpr z)
      have c := List.findIdx?_eq_none_iff.mp found e he
      exact absurd (((fine e he).is k).mpr q) (by
        show ¬ keyIs k e.2 = true
        intro c2
        exact absurd c (by show ¬ keyIs k e.2 = false; rw [c2]; decide))
    have pm := layNew_perm tb es ((mixKind P w).hash k) v
    have f1 := layNew_fits tb es ((mixKind P w).hash k) v
    have r1 := layNew_ris tb es ((mixKind P w).hash k) v ris
    have l1 := layNew_led tb es ((mixKind P w).hash k) v
    generalize layNew tb es ((mixKind P w).hash k) v = Y at pm f1 r1 l1 ⊢
    obtain ⟨fs, tc, dm, gv⟩ := Y
    dsimp only at pm f1 r1 l1 ⊢
    rw [Array.toList_push] at pm
    have fine1 : ∀ e ∈ fs.toList, Fine w e := fun e he => by
      rcases List.mem_append.mp (pm.mem_iff.mp he) with z | z
      · exact fine e z
      · rw [List.mem_singleton.mp z]; exact ⟨k, hv, rfl⟩
    have perm1 : (fs.toList.map ky).Perm (ks ++ [k]) := by
      have q := pm.map ky
      rw [List.map_append] at q
      exact q.trans (perm.append (by rw [show [((mixKind P w).hash k, v)].map ky = [k] from by show [ky _] = [k]; rw [keyIs_ky (e := ((mixKind P w).hash k, v)) hv]]))
    have nd1 : (ks ++ [k]).Nodup := List.nodup_append.mpr ⟨nd, by simp, fun x hx y hy e => hk (by rw [List.mem_singleton.mp hy] at e; exact e ▸ hx)⟩
    have esz : fs.size = ks.length + 1 := by
      have q := perm1.length_eq
      rw [List.length_map, Array.length_toList, List.length_append] at q
      exact q
    have few1 : fs.size < scanBound := by rw [esz]; exact room
    have led1 : w.params.followText "set-order" = true ∨ tc.led = true := led.imp id fun z => by rw [l1]; exact z
    have fin : ∀ hp', Heap.SameBut a s.heap hp' → SetM w hp' a (ks ++ [k]) → Q true { s with heap := hp' } := fun hp' sb r => hQ hp' sb (by rw [show addK ks k = ks ++ [k] from if_neg (fun q => hk (memK_iff.mp q))]; exact r) _
    refine wpAny_bind ?_
    have more : ∀ {st : Shared} {Q' : Unit → Shared → Prop}, Q' () st → wpAny (model P w) A (match gv with | true => rule "set.scan.the-table-gave-way" | false => pure ()) Q' E st :=
      fun q => by cases gv <;> first | exact wpAny_pure q | exact wpAny_rule q
    refine more ?_
    split
    · refine wpAny_bind ?_
      rw [hashByValue_scannable 8 scan]
      refine wpAny_pure ?_
      refine put_tail ?_ hob hex hdat fine1 perm1 nd1 few1 ?_ ?_ ?_ ?_
      · intro b st Q' q; cases b <;> first | exact wpAny_pure q | exact wpAny_rule q
      · first | (split <;> first | exact f1 | exact SetTable.fits_plain_off f1) | exact f1
      · first | (split <;> exact r1) | exact r1
      · first | (split <;> exact led1) | exact led1
      · intro hp' sb r; dsimp only; exact wpAny_pure (fin hp' sb r)
    · refine wpAny_bind (wpAny_pure ?_)
      simp only [↓reduceIte]
      refine put_tail ?_ hob hex hdat fine1 perm1 nd1 few1 f1 r1 led1 ?_
      · intro b st Q' q; cases b <;> first | exact wpAny_pure q | exact wpAny_rule q
      · intro hp' sb r; dsimp only; exact wpAny_pure (fin hp' sb r)
end
/-- the members met, in the order of meeting -/
def metK (ks : List Key) : List Key := ks.foldl addK []
section
variable {prog : Program} {w : World} {A : Around} {R : Result → Shared → Prop} {I : Addr} {fp wr : List Addr} {G : Array GenState → Array GenState → Prop} {n : Nat} {Pv : Nat → Value → Prop} {St : Nat → Shared → Prop}
theorem metK_take_succ (ks : List Key) (i : Nat) (k : Key) (h : ks[i]? = some k) : metK (ks.take (i + 1)) = addK (metK (ks.take i)) k := by
  rw [List.take_succ, h]
  unfold metK
  rw [List.foldl_append]
  rfl
theorem metK_len (ks : List Key) : (metK ks).length ≤ ks.length := by
  have go : ∀ (l acc : List Key), (l.foldl addK acc).length ≤ acc.length + l.length := fun l => by
    induction l with
    | nil => intro acc; simp
    | cons k l ih => intro acc; rw [List.foldl_cons]; have := ih (addK acc k); have := addK_len acc k; rw [List.length_cons]; omega
  unfold metK
  simpa using go ks []
theorem setLoop (W : WalksS prog w A.in1 I fp wr G n Pv St) (S : Addr) (hS : S ∉ fp) (ks : List Key) (hn : ks.length = n) (few : n + 1 < scanBound)
    (hval : ∀ i v, Pv i v → ∃ k, ks[i]? = some k ∧ keyIs k v = true) :
    ∀ (m i : Nat) (s : Shared), n - i = m → i ≤ n → St i s → SetM w s.heap S (metK (ks.take i)) →
      (∀ s', Moved (S :: wr) G s s' → SetM w s'.heap S (metK ks) → R (.ok (.ret .none)) s') →
      codeAny (model prog w) A (.builtin "set.update.loop" ⟨[.ref S, .ref I], []⟩) R s := by
  have hw : S ∉ wr := fun q => hS (W.sub _ q)
  have wider : ∀ b ∈ wr, b ∈ S :: wr := fun b q => List.mem_cons_of_mem _ q
  intro m
  induction m with
  | zero =>
    intro i s hm hi st sm fin
    have e : i = n := by omega
    subst e
    refine codeAny_builtin F.entry_set_update_loop ?_
    rw [Around.under_plainId F.plain_set_update_loop _]
    show wpAny _ A.in1 (pyNext (.ref I) >>= _) _ _ s
    refine wpAny_bind (W.done s _ _ st fun s' mv => ?_)
    show wpAny _ A.in1 (ret Value.none) _ _ s'
    rw [← hn, List.take_length] at sm
    exact wpAny_pure (fin s' (mv.mono wider) (sm.keep fun ob q => mv.heap S _ hw q))
  | succ m ih =>
    intro i s hm hi st sm fin
    have lt : i < n := by omega
    refine codeAny_builtin F.entry_set_update_loop ?_
    rw [Around.under_plainId F.plain_set_update_loop _]
    show wpAny _ A.in1 (pyNext (.ref I) >>= _) _ _ s
    refine wpAny_bind (W.item i s _ _ lt st fun v s' hP st' mv => ?_)
    obtain ⟨k, hk, hv⟩ := hval i v hP
    have sm' : SetM w s'.heap S (metK (ks.take i)) := sm.keep fun ob q => mv.heap S _ hw q
    show wpAny _ A.in1 (holding [v] (setAdd S v) >>= _) _ _ s'
    refine wpAny_bind (wpAny_holding ?_)
    unfold setAdd
    refine wpAny_holding (wpAny_bind ((mixKind prog w).pyHash (k := k) hv ?_))
    have room : (metK (ks.take i)).length + 1 < scanBound := by
      have h1 := metK_len (ks.take i)
      rw [List.length_take] at h1
      omega
    refine put_hashed (s := { s' with toks := s'.toks + 1 }) hv sm' room fun hp' sb r b => ?_
    rw [← metK_take_succ ks i k hk] at r
    refine wpAny_pure ⟨plainId_quiet F.plain_set_update_loop _, ih (i + 1) _ (by omega) lt (W.frame _ s' _ _ st' (Nat.le_succ _) fun c hc ob q => ?_) r fun s'' mv'' sm'' => ?_⟩
    · rw [sb.2 c (fun z : c = S => hS (z ▸ hc))]; exact q
    · refine fin s'' (Moved.trans W.gtrans ((mv.mono wider).then_heap (Nat.le_succ _) fun c ob hc q => ?_) mv'') sm''
      rw [sb.2 c (fun z : c = S => hc (by rw [z]; exact List.mem_cons_self))]; exact q
end
end Pz

set_option maxHeartbeats 4000000
/-! The plain layer: set(xs), sorted(set(xs)), len(set(xs)). -/
namespace Pz
open PySem PySem.Spec L2 PyProof.Rows PySem.W

section
variable {prog : Program} {w : World} {A : Around} {E : Value → Shared → Prop} {s : Shared}
/-- an empty set, as it is laid -/
abbrev bareSet (w : World) : Obj := { cls := .type "set", dict := none, data := .set #[] 0 (.fresh 0 0 (!w.params.followText "set-order")) }
theorem code_set1 (v : Value) {G : Value → Shared → Prop} (hG : G (.ref s.heap.objs.size) { s with heap := s.heap.push (bareSet w) }) :
    codeAny (model prog w) A (.call (.builtin "set.__new__") ⟨[.type "set", v], []⟩) (wants G E) s := by
  refine codeAny_of_tree ?_
  show wpAny _ A.in1 (checkBuiltinCall "set.__new__" ⟨[.type "set", v], []⟩ >>= fun _ => again (.builtin "set.__new__" ⟨[.type "set", v], []⟩)) _ _ s
  refine wpAny_bind (wpAny_of_eq (PySem.F.newCall_set_1 v) (wpAny_pure ⟨plainId_quiet PySem.F.plain_set_new _, codeAny_builtin PySem.F.entry_set_new ?_⟩))
  rw [Around.under_plainId PySem.F.plain_set_new _]
  unfold Builtin.«set.__new__» Builtin.Frozenset.newClass
  have self := sub_set_self
  obtain ⟨hp, gs, dr, tk, os⟩ := s
  dsimp only
  wp_walk
  refine wpAny_askSetting (wpAny_pure ?_)
  dsimp only
  simp only [newObj]
  exact wpAny_bind (wpAny_alloc (wpAny_pure (wpAny_pure hG)))
theorem setM_bare {h : Heap} (w : World) : SetM w (h.push (bareSet w)) h.objs.size [] :=
  ⟨_, #[], 0, _, Heap.get?_push_size _ rfl, ⟨rfl, rfl, rfl⟩, rfl, ⟨fun e q => by simp at q, by simp, by simp⟩, ⟨by decide, by rfl⟩, List.Pairwise.nil, by
    show _ ∨ (!w.params.followText "set-order") = true
    cases w.params.followText "set-order" <;> simp⟩
/-- values that are these keys -/
def AreK : List Value → List Key → Prop := EachIs fun v k => keyIs k v = true
theorem AreK.at : ∀ {vs : List Value} {ks : List Key}, AreK vs ks → ∀ (i : Nat) (v : Value), vs[i]? = some v → ∃ k, ks[i]? = some k ∧ keyIs k v = true
  | _, _, .nil, i, v, q => by simp at q
  | _, _, .cons h t, 0, v, q => by simp at q; subst q; exact ⟨_, rfl, h⟩
  | _, _, .cons h t, i + 1, v, q => by
    rw [List.getElem?_cons_succ] at q
    obtain ⟨k, h1, h2⟩ := AreK.at (show AreK _ _ from t) i v q
    exact ⟨k, by rw [List.getElem?_cons_succ]; exact h1, h2⟩
set_option maxHeartbeats 8000000 in
theorem call_set {l : Addr} {its : Array Value} {ks : List Key} {Q : Value → Shared → Prop} (calm : A.handled = none) (isl : s.heap.IsList l its) (are : AreK its.toList ks) (few : ks.length + 1 < scanBound)
    (hQ : ∀ (hp' : Heap) (tk : Nat), SetM w hp' s.heap.objs.size (metK ks) → (∀ b ob, b < s.heap.objs.size → s.heap.get? b = some ob → hp'.get? b = some ob) → Q (.ref s.heap.objs.size) { s with heap := hp', toks := tk }) :
    wpAny (model prog w) A (call (.type "set") [.ref l]) Q E s := by
  obtain ⟨mro1, mro2, mro⟩ := PySem.F.called_set.mro
  have made := PySem.F.called_set.made
  have sub := PySem.F.called_set.sub
  refine wpAny_call (codeAny_of_tree ?_)
  show wpAny _ _ (callAny (.type "set") _) _ _ _
  refine wpAny_pure ⟨Code.quiet_builtin _ (by decide +kernel), codeAny_builtin PySem.F.entry_type_call ?_⟩
  rw [Around.under_plain (weight_type_call_type "set" [.ref l] []) rfl]
  have notT := PySem.F.called_set.notType
  have canC := PySem.F.called_set.canCreate
  have chk := PySem.F.typeCall_set_1 (.ref l)
  repeat (any_goals (first | assumption | wp_step))
  refine codeAny_mono (code_set1 (.ref l) (E := E) (G := fun ob st => ob = .ref s.heap.objs.size ∧ st = { s with heap := s.heap.push (bareSet w) }) ⟨rfl, rfl⟩) fun res st hres => ?_
  match res, hres with
  | .error e, hres => exact hres
  | .ok (.ret ob), ⟨e1, e2⟩ =>
    subst e1 e2
    have got : (s.heap.push (bareSet w)).get? s.heap.objs.size = some (bareSet w) := Heap.get?_push_size _ rfl
    have ty : Shared.TypeIs { s with heap := s.heap.push (bareSet w) } (.ref s.heap.objs.size) "set" := ⟨_, got, rfl⟩
    have look := PySem.F.called_set.init.lookup
    have bnd := PySem.F.called_set.init.bind (.ref s.heap.objs.size)
    repeat (any_goals (first | assumption | wp_step))
    refine codeAny_mono (codeAny_call_builtin (R := wants (fun r st => r = .none ∧ ∃ hp' tk, st = { s with heap := hp', toks := tk } ∧ SetM w hp' s.heap.objs.size (metK ks) ∧
      (∀ b ob, b < s.heap.objs.size → s.heap.get? b = some ob → hp'.get? b = some ob)) E) PySem.F.called_set.init.plain PySem.F.entry_set_init (check_set_init_1 ty ?_)) fun res2 st2 hres2 => ?_
    · obtain ⟨lo, hlo, clo, nl, dlo⟩ := isl
      obtain ⟨lc, ld, ldat, lsl⟩ := lo
      simp only at clo dlo
      subst clo dlo
      have hlo' : (s.heap.push (bareSet w)).get? l = some { cls := .type "list", dict := ld, data := .seq its nl, slots := lsl } := Heap.get?_push_of_some _ hlo
      have sls := PySem.F.sub_list_set
      have slf := PySem.F.sub_list_frozenset
      have nd : (Value.type "list" == Value.type "dict") = false := by decide
      have isl1 : (s.heap.push (bareSet w)).IsList l its := ⟨_, hlo', rfl, nl, rfl⟩
      unfold Builtin.«set.__init__» noKeywords Builtin.Frozenset.updateFrom
      generalize eIt : pyIter = It
      wp_walk
      subst eIt
      refine wpAny_pyIter_list isl1 ?_
      refine wpAny_bind (wpAny_runValue ?_)
      have lt : l < s.heap.objs.size := Heap.lt_size hlo
      have calm3 : A.in1.in1.in1.handled = none := by simp [calm]
      have zp : (s.heap.push (bareSet w)).objs.size = s.heap.objs.size + 1 := size_push' _ _
      have neI : l ≠ (s.heap.push (bareSet w)).objs.size := by rw [zp]; exact Nat.ne_of_lt (Nat.lt_succ_of_lt lt)
      have outS : s.heap.objs.size ∉ [(s.heap.push (bareSet w)).objs.size, l] := by
        rw [zp]
        intro q
        rcases List.mem_cons.mp q with q | q
        · exact Nat.lt_irrefl _ (Nat.lt_of_lt_of_eq (Nat.lt_succ_self _) q.symm)
        · exact Nat.lt_irrefl _ (Nat.lt_of_lt_of_eq lt (List.mem_singleton.mp q))
      have len : ks.length = its.size := by rw [← Array.length_toList]; exact (EachIs.length are).symm
      refine setLoop ((Walks.list calm3 _ l neI its).toS) s.heap.objs.size outS ks len (by omega) (fun i v q => are.at i v (by rw [Array.getElem?_toList]; exact q)) (its.size - 0) 0 _ (by omega) (Nat.zero_le _)
        ⟨⟨_, Heap.get?_push_size _ rfl, rfl, rfl⟩, isl1.push _⟩ ?start ?stop
      case start => exact (setM_bare w).keep fun ob q => Heap.get?_push_of_some _ q
      case stop =>
        intro st3 mv sm
        obtain ⟨hp3, gs3, dr3, tk3, os3⟩ := st3
        obtain rfl : gs3 = s.gens := mv.gens
        obtain rfl : dr3 = s.drawn := mv.drawn
        obtain rfl : os3 = s.os := mv.os
        show wpAny _ _ _ _ _ _
        refine wpAny_pure ?_
        show wpAny _ _ (ret Value.none) _ _ _
        refine wpAny_pure ⟨rfl, hp3, tk3, rfl, sm, fun b ob lb q => ?_⟩
        refine mv.heap b ob (fun z => ?_) (Heap.get?_push_of_some _ (Heap.get?_push_of_some _ q))
        rcases List.mem_cons.mp z with z | z
        · exact Nat.lt_irrefl _ (Nat.lt_of_lt_of_eq lb z.symm)
        · have z := List.mem_singleton.mp z
          rw [zp] at z
          exact Nat.lt_irrefl _ (Nat.lt_trans lb (Nat.lt_of_lt_of_eq (Nat.lt_succ_self _) z.symm))
    · match res2, hres2 with
      | .error e, hres2 => exact hres2
      | .ok (.ret r), ⟨er, hp', tk, e2, sm, kp⟩ =>
        subst er e2
        repeat (any_goals (first | assumption | wp_step))
        exact hQ _ _ sm kp
end
end Pz

set_option maxHeartbeats 4000000
/-! The plain layer: set(t) of a tuple. -/
namespace Pz
open PySem PySem.Spec L2 PyProof.Rows PySem.W

section
variable {prog : Program} {w : World} {A : Around} {E : Value → Shared → Prop} {s : Shared}
set_option maxHeartbeats 8000000 in
theorem call_setT {l : Addr} {its : Array Value} {ks : List Key} {Q : Value → Shared → Prop} (calm : A.handled = none) (isl : s.heap.IsTuple l its) (are : AreK its.toList ks) (few : ks.length + 1 < scanBound)
    (hQ : ∀ (hp' : Heap) (tk : Nat), SetM w hp' s.heap.objs.size (metK ks) → (∀ b ob, b < s.heap.objs.size → s.heap.get? b = some ob → hp'.get? b = some ob) → Q (.ref s.heap.objs.size) { s with heap := hp', toks := tk }) :
    wpAny (model prog w) A (call (.type "set") [.ref l]) Q E s := by
  obtain ⟨mro1, mro2, mro⟩ := PySem.F.called_set.mro
  have made := PySem.F.called_set.made
  have sub := PySem.F.called_set.sub
  refine wpAny_call (codeAny_of_tree ?_)
  show wpAny _ _ (callAny (.type "set") _) _ _ _
  refine wpAny_pure ⟨Code.quiet_builtin _ (by decide +kernel), codeAny_builtin PySem.F.entry_type_call ?_⟩
  rw [Around.under_plain (weight_type_call_type "set" [.ref l] []) rfl]
  have notT := PySem.F.called_set.notType
  have canC := PySem.F.called_set.canCreate
  have chk := PySem.F.typeCall_set_1 (.ref l)
  repeat (any_goals (first | assumption | wp_step))
  refine codeAny_mono (code_set1 (.ref l) (E := E) (G := fun ob st => ob = .ref s.heap.objs.size ∧ st = { s with heap := s.heap.push (bareSet w) }) ⟨rfl, rfl⟩) fun res st hres => ?_
  match res, hres with
  | .error e, hres => exact hres
  | .ok (.ret ob), ⟨e1, e2⟩ =>
    subst e1 e2
    have got : (s.heap.push (bareSet w)).get? s.heap.objs.size = some (bareSet w) := Heap.get?_push_size _ rfl
    have ty : Shared.TypeIs { s with heap := s.heap.push (bareSet w) } (.ref s.heap.objs.size) "set" := ⟨_, got, rfl⟩
    have look := PySem.F.called_set.init.lookup
    have bnd := PySem.F.called_set.init.bind (.ref s.heap.objs.size)
    repeat (any_goals (first | assumption | wp_step))
    refine codeAny_mono (codeAny_call_builtin (R := wants (fun r st => r = .none ∧ ∃ hp' tk, st = { s with heap := hp', toks := tk } ∧ SetM w hp' s.heap.objs.size (metK ks) ∧
      (∀ b ob, b < s.heap.objs.size → s.heap.get? b = some ob → hp'.get? b = some ob)) E) PySem.F.called_set.init.plain PySem.F.entry_set_init (check_set_init_1 ty ?_)) fun res2 st2 hres2 => ?_
    · obtain ⟨lo, hlo, clo, nl, dlo⟩ := isl
      obtain ⟨lc, ld, ldat, lsl⟩ := lo
      simp only at clo dlo
      subst clo dlo
      have hlo' : (s.heap.push (bareSet w)).get? l = some { cls := .type "tuple", dict := ld, data := .seq its nl, slots := lsl } := Heap.get?_push_of_some _ hlo
      have sls := PySem.F.sub_tuple_set
      have slf := PySem.F.sub_tuple_frozenset
      have nd : (Value.type "tuple" == Value.type "dict") = false := by decide
      have isl1 : (s.heap.push (bareSet w)).IsTuple l its := ⟨_, hlo', rfl, nl, rfl⟩
      unfold Builtin.«set.__init__» noKeywords Builtin.Frozenset.updateFrom
      generalize eIt : pyIter = It
      wp_walk
      subst eIt
      refine wpAny_pyIter_tuple isl1 ?_
      refine wpAny_bind (wpAny_runValue ?_)
      have lt : l < s.heap.objs.size := Heap.lt_size hlo
      have calm3 : A.in1.in1.in1.handled = none := by simp [calm]
      have zp : (s.heap.push (bareSet w)).objs.size = s.heap.objs.size + 1 := size_push' _ _
      have neI : l ≠ (s.heap.push (bareSet w)).objs.size := by rw [zp]; exact Nat.ne_of_lt (Nat.lt_succ_of_lt lt)
      have outS : s.heap.objs.size ∉ [(s.heap.push (bareSet w)).objs.size, l] := by
        rw [zp]
        intro q
        rcases List.mem_cons.mp q with q | q
        · exact Nat.lt_irrefl _ (Nat.lt_of_lt_of_eq (Nat.lt_succ_self _) q.symm)
        · exact Nat.lt_irrefl _ (Nat.lt_of_lt_of_eq lt (List.mem_singleton.mp q))
      have len : ks.length = its.size := by rw [← Array.length_toList]; exact (EachIs.length are).symm
      refine setLoop ((Walks.tuple calm3 _ l neI its).toS) s.heap.objs.size outS ks len (by omega) (fun i v q => are.at i v (by rw [Array.getElem?_toList]; exact q)) (its.size - 0) 0 _ (by omega) (Nat.zero_le _)
        ⟨⟨_, Heap.get?_push_size _ rfl, rfl, rfl⟩, isl1.push _⟩ ?start ?stop
      case start => exact (setM_bare w).keep fun ob q => Heap.get?_push_of_some _ q
      case stop =>
        intro st3 mv sm
        obtain ⟨hp3, gs3, dr3, tk3, os3⟩ := st3
        obtain rfl : gs3 = s.gens := mv.gens
        obtain rfl : dr3 = s.drawn := mv.drawn
        obtain rfl : os3 = s.os := mv.os
        show wpAny _ _ _ _ _ _
        refine wpAny_pure ?_
        show wpAny _ _ (ret Value.none) _ _ _
        refine wpAny_pure ⟨rfl, hp3, tk3, rfl, sm, fun b ob lb q => ?_⟩
        refine mv.heap b ob (fun z => ?_) (Heap.get?_push_of_some _ (Heap.get?_push_of_some _ q))
        rcases List.mem_cons.mp z with z | z
        · exact Nat.lt_irrefl _ (Nat.lt_of_lt_of_eq lb z.symm)
        · have z := List.mem_singleton.mp z
          rw [zp] at z
          exact Nat.lt_irrefl _ (Nat.lt_trans lb (Nat.lt_of_lt_of_eq (Nat.lt_succ_self _) z.symm))
    · match res2, hres2 with
      | .error e, hres2 => exact hres2
      | .ok (.ret r), ⟨er, hp', tk, e2, sm, kp⟩ =>
        subst er e2
        repeat (any_goals (first | assumption | wp_step))
        exact hQ _ _ sm kp
end
end Pz

set_option maxHeartbeats 4000000
/-! The plain layer: sorted(set(xs)), len(set(xs)), sorted(xs). -/
namespace Pz
open PySem PySem.Spec L2 PyProof.Rows PySem.W

/-- Python's order of keys -/
def kLe : Key → Key → Bool := dataLe false Pz.keyD
def homK (ks : List Key) : Bool := ks.all (fun k => k.isLeft) || ks.all (fun k => k.isRight)
theorem homK_alike {ks : List Key} (h : homK ks = true) : AllAlike (ks.map Pz.keyD) := by
  intro d hd d' hd'
  obtain ⟨k, hk, rfl⟩ := List.mem_map.mp hd
  obtain ⟨k', hk', rfl⟩ := List.mem_map.mp hd'
  unfold homK at h
  rw [Bool.or_eq_true, List.all_eq_true, List.all_eq_true] at h
  rcases h with h | h <;> have h1 := h k hk <;> have h2 := h k' hk' <;> cases k <;> cases k' <;> first | (cases h1; done) | (cases h2; done) | simp [Pz.keyD, alike]
theorem keyD_sortable (ks : List Key) : Sortable (ks.map Pz.keyD) := Sortable.others fun k => by cases k <;> simp [Pz.keyD]
theorem kLe_total : TotalLe kLe := sortLe_total (listOrd itemOrd) false (fun k : Key => keyToks (Pz.keyD k))
theorem kLe_antisymm {a b : Key} (h1 : kLe a b = true) (h2 : kLe b a = true) : a = b := by
  have e := (listOrd itemOrd).total (keyToks (Pz.keyD a)) (keyToks (Pz.keyD b)) (by simpa [kLe, dataLe, sortLe] using h2) (by simpa [kLe, dataLe, sortLe] using h1)
  cases a <;> cases b <;> simp [Pz.keyD, keyToks] at e
  · rw [e]
  · exact congrArg Sum.inr (str_of_cps (congrArg Array.toList e))
/-- sorting as the kernel can reckon it -/
def insK (k : Key) : List Key → List Key
  | [] => [k]
  | x :: xs => if kLe k x = true then k :: x :: xs else x :: insK k xs
def isortK : List Key → List Key
  | [] => []
  | k :: ks => insK k (isortK ks)
theorem insK_mid (k : Key) (l2 : List Key) (h2 : ∀ b ∈ l2, kLe k b = true) : ∀ l1 : List Key, (∀ b ∈ l1, kLe k b = false) → insK k (l1 ++ l2) = l1 ++ k :: l2
  | [], _ => by
    cases l2 with
    | nil => rfl
    | cons b l2 =>
      show (if kLe k b = true then _ else _) = _
      rw [if_pos (h2 b List.mem_cons_self)]
      rfl
  | x :: l1, h => by
    show (if kLe k x = true then _ else _) = _
    rw [if_neg (by rw [h x List.mem_cons_self]; exact Bool.false_ne_true), List.cons_append]
    congr 1
    exact insK_mid k l2 h2 l1 fun b hb => h b (List.mem_cons_of_mem _ hb)
theorem isortK_eq : ∀ l : List Key, isortK l = l.mergeSort kLe
  | [] => by simp [isortK]
  | k :: ks => by
    have total : ∀ a b, (kLe a b || kLe b a) = true := fun a b => by rw [Bool.or_eq_true]; exact kLe_total.total a b
    obtain ⟨l1, l2, e1, e2, h⟩ := List.mergeSort_cons kLe_total.trans total k ks
    have p := List.pairwise_mergeSort kLe_total.trans total (k :: ks)
    rw [e1, List.pairwise_append] at p
    have p2 := (List.pairwise_cons.mp p.2.1).1
    show insK k (isortK ks) = _
    rw [isortK_eq ks, e2, e1]
    exact insK_mid k l2 p2 l1 fun b hb => by have := h b hb; simpa using this
theorem sort_same {ks ls : List Key} (h : ks.Perm ls) : ks.mergeSort kLe = ls.mergeSort kLe := by
  refine List.Perm.eq_of_pairwise (le := fun a b => kLe a b = true) (fun a b _ _ => kLe_antisymm) (sort_pairwise kLe_total ks) (sort_pairwise kLe_total ls) ?_
  exact (List.mergeSort_perm ks kLe).trans (h.trans (List.mergeSort_perm ls kLe).symm)
theorem AreK.reads {h : Heap} : ∀ {vs : List Value} {ks : List Key}, AreK vs ks → EachIs (fun v k => ∃ as, Reads h v (Pz.keyD k) as) vs ks := fun e => EachIs.mono (fun v k q => by
  rcases keyIs_shape q with ⟨i, t, rfl, rfl⟩ | ⟨x, t, rfl, rfl⟩
  · exact ⟨[], .int i t⟩
  · exact ⟨[], .str x t⟩) e
def kyv (v : Value) : Key := ky (0, v)
theorem areK_of : ∀ {vs : List Value}, (∀ v ∈ vs, ∃ k, keyIs k v = true) → AreK vs (vs.map kyv)
  | [], _ => .nil
  | v :: vs, h => .cons (by
      obtain ⟨k, q⟩ := h v List.mem_cons_self
      show keyIs (kyv v) v = true
      rw [show kyv v = k from keyIs_ky (e := (0, v)) q]
      exact q) (areK_of fun u hu => h u (List.mem_cons_of_mem _ hu))
theorem keyD_depth (k : Key) : (Pz.keyD k).depth = 0 := by cases k <;> simp [Pz.keyD, PyData.depth]
theorem keyIs_rel {k : Key} {v : Value} (h : keyIs k v = true) : RelV (kV k) v := by
  rcases keyIs_shape h with ⟨i, t, rfl, rfl⟩ | ⟨x, t, rfl, rfl⟩
  · exact ⟨t, rfl⟩
  · exact ⟨t, rfl⟩
theorem AreK.vals : ∀ {vs : List Value} {ks : List Key}, AreK vs ks → Vals (ks.map kV) vs
  | _, _, .nil => .nil
  | _, _, .cons h t => .cons (keyIs_rel h) (AreK.vals (show AreK _ _ from t))
section
variable {prog : Program} {w : World} {A : Around} {E : Value → Shared → Prop} {s : Shared} {a : Addr} {ks : List Key}
theorem sorted_setM {Q : Value → Shared → Prop} (m : SetM w s.heap a ks) (calm : A.handled = none) (hom : homK ks = true) (hu : A.units + 64 < cLine)
    (hQ : ∀ (st : Shared) (p : Addr) (out : Array Value) (c : Nat), (∀ b ob, s.heap.get? b = some ob → st.heap.get? b = some ob) → st.gens = s.gens → st.os = s.os → s.heap.objs.size ≤ p →
      st.heap.get? p = some (seqObj "list" out c) → AreK out.toList (ks.mergeSort kLe) → Q (.ref p) st) :
    wpAny (model prog w) A (call (.builtin "sorted") [.ref a]) Q E s := by
  obtain ⟨ob, es, ep, tb, hob, hex, hdat, ⟨fine, perm, nd⟩, ⟨few, fit⟩, ris, led⟩ := m
  refine Calls.call_function_entry kind_sorted plain_sorted entry_sorted (args_sorted1 _) ?_
  unfold Builtin.«sorted»
  refine wpAny_bind (m := checkCount "sorted" 1 1 _) (wpAny_pure ?_)
  refine wpAny_bind (collect_set (A := A.in1) calm ⟨ob, hob, hex.1, hdat⟩ fit few ris led fun s1 vs k1 z1 g1 o1 pm => ?_)
  have len : vs.length < scanBound := by rw [pm.length_eq, List.length_map, Array.length_toList]; exact few
  have small : vs.length ≤ sizeLine := Nat.le_trans (Nat.le_of_lt len) (by rw [sizeLine_eq]; unfold scanBound; omega)
  have are : AreK vs (vs.map kyv) := areK_of fun v hv => by
    obtain ⟨e, he, q⟩ := List.mem_map.mp (pm.mem_iff.mp hv)
    obtain ⟨k, h1, _⟩ := fine e he
    exact ⟨k, by rw [← q]; exact h1⟩
  have pk : (vs.map kyv).Perm ks := by
    have q := pm.map kyv
    rw [List.map_map] at q
    exact q.trans perm
  have hom1 : homK (vs.map kyv) = true := by
    unfold homK at hom ⊢
    rw [Bool.or_eq_true, List.all_eq_true, List.all_eq_true] at hom ⊢
    exact hom.imp (fun h x hx => h x (pk.mem_iff.mp hx)) fun h x hx => h x (pk.mem_iff.mp hx)
  refine wpAny_bind (wpAny_newList ?_ small)
  have hL : (s1.heap.push (seqObj "list" vs.toArray 0)).get? s1.heap.objs.size = some (seqObj "list" vs.toArray 0) := Heap.get?_push_size _ rfl
  refine wpAny_bind (wpAny_holding (list_sort_data (enc := Pz.keyD) (R := fun v k => keyIs k v = true) (bs := vs.map kyv) hL are (EachIs.mono (fun v k q => ?_) are) (homK_alike hom1) (keyD_sortable _) (by rw [List.length_map]; exact small) (fun b hb => ?_) fun out lo eo => ?_))
  · rcases keyIs_shape q with ⟨i, t, rfl, rfl⟩ | ⟨x, t, rfl, rfl⟩
    · exact ⟨[], .int i t, by simp⟩
    · exact ⟨[], .str x t, by simp⟩
  · rw [keyD_depth]
    show A.in1.units + 1 + 0 < cLine
    have : A.in1.units ≤ A.units + 1 := by first | exact Nat.le_refl _ | exact Nat.le_succ _
    omega
  · obtain ⟨c, hc⟩ := sortedHeap_at (vs := vs) (out := out.toArray) hL
    refine wpAny_pure ⟨_, rfl, hQ _ s1.heap.objs.size out.toArray c (fun b u q => ?_) g1 o1 z1 hc (by rw [← sort_same pk]; exact eo)⟩
    have q1 := k1 b u q
    have lt := Heap.lt_size q1
    show (sortedHeap (s1.heap.push (seqObj "list" vs.toArray 0)) s1.heap.objs.size vs out.toArray).get? b = some u
    rw [sortedHeap_old (Nat.ne_of_lt lt) (by rw [size_push']; exact Nat.lt_succ_of_lt lt)]
    exact Heap.get?_push_of_some _ q1
end
/-! ### read plainly -/
def keysOf : List D → Option (List Key)
  | [] => some []
  | d :: ds => (toKey d).bind fun k => (keysOf ds).map fun r => k :: r
theorem RpAll.areK {K : PySem.W.Frag} {Z : Addr → Prop} {H : Hp} : ∀ {xs : List V} {ds : List D} {ks : List Key}, RpAll K Z H xs ds → keysOf ds = some ks → xs = ks.map kV
  | _, _, ks, .nil, h => by cases h; rfl
  | _, _, ks, .cons (d := d) (ds := ds) r t, h => by
    unfold keysOf at h
    cases e1 : toKey d with
    | none => rw [e1] at h; cases h
    | some k =>
      cases e2 : keysOf ds with
      | none => rw [e1, e2] at h; cases h
      | some r2 =>
        rw [e1, e2] at h
        cases h
        rw [List.map_cons, ← RpAll.areK t e2, toKey_v e1 r.top]
theorem vals_areK : ∀ {ks : List Key} {vs : List Value}, Vals (ks.map kV) vs → AreK vs ks
  | [], _, .nil => .nil
  | k :: ks, _, .cons r t => .cons (by
      cases k with
      | inl i => obtain ⟨t, e⟩ := (show ∃ t, _ = Value.int i t from r); subst e; exact keyIs_int i t
      | inr x => obtain ⟨t, e⟩ := (show ∃ t, _ = Value.str x t from r); subst e; exact keyIs_str x t) (vals_areK t)
theorem rpAll_keys {K : PySem.W.Frag} {Z : Addr → Prop} {H : Hp} : ∀ ks : List Key, RpAll K Z H (ks.map kV) (ks.map Pz.keyD)
  | [] => .nil
  | .inl i :: ks => .cons (.int i) (rpAll_keys ks)
  | .inr x :: ks => .cons (.str x) (rpAll_keys ks)
def dSortSet : D → Option (List D)
  | .list ds => (keysOf ds).bind fun ks => if homK (metK ks) = true ∧ ks.length ≤ 4000 then some ((isortK (metK ks)).map Pz.keyD) else none
  | .tuple ds => (keysOf ds).bind fun ks => if homK (metK ks) = true ∧ ks.length ≤ 4000 then some ((isortK (metK ks)).map Pz.keyD) else none
  | _ => none
def dLenSet : D → Option D
  | .list ds => (keysOf ds).bind fun ks => if ks.length ≤ 4000 then some (.int (metK ks).length) else none
  | .tuple ds => (keysOf ds).bind fun ks => if ks.length ≤ 4000 then some (.int (metK ks).length) else none
  | _ => none
theorem call_setA {X : Cx} {pins : List (Addr × Obj)} {σ : L2.St} {H : Hp} {s : Shared} {l : Addr} {ks : List Key} {Q : Value → Shared → Prop} {E : Value → Shared → Prop} (hc : X.calm = true) (I : Inv X pins σ H s) (hq : SqL X.K H l (ks.map kV) ∨ SqT X.K H l (ks.map kV)) (few : ks.length + 1 < scanBound)
    (hQ : ∀ (hp' : Heap) (tk : Nat), SetM X.w hp' s.heap.objs.size (metK ks) → (∀ b ob, b < s.heap.objs.size → s.heap.get? b = some ob → hp'.get? b = some ob) → Q (.ref s.heap.objs.size) { s with heap := hp', toks := tk }) :
    wpAny (model X.prog X.w) X.A (call (.type "set") [.ref l]) Q E s := by
  rcases hq with hq | hq
  · obtain ⟨its, r, pl, hz⟩ := I.list hq
    exact call_set (I.ok.hd hc) pl.isList (by simpa using vals_areK r) few hQ
  · obtain ⟨its, r, pl, hz⟩ := I.tuple hq
    exact call_setT (I.ok.hd hc) pl (by simpa using vals_areK r) few hQ
def tSet1 (K : PySem.W.Frag) (ta : TE) (G : List Key → Hp → VK → Prop) : TE := fun σ H Q => ta σ H fun x H1 => ∃ l ks, x = .ref l ∧ (SqL K H1 l (ks.map kV) ∨ SqT K H1 l (ks.map kV)) ∧ ks.length ≤ 4000 ∧ G ks H1 Q
section
variable {X : Cx} {a : Expr} {ta : TE} {p p2 q pos : Pos}
theorem pe_sortSet (hu : X.A.units + 64 < cLine) (hc : X.calm = true) (hg : Gl X "sorted") (hm : X.mg "sorted" = none) (hg2 : Gl X "set") (hm2 : X.mg "set" = none) (ha : PE X a ta)
    (na : starEach [a] X.env = (false, eval a X.env) :: starEach [] X.env := by rfl) : PE X (.Call (.Name "sorted" p) [.Call (.Name "set" p2) [a] [] q] [] pos)
      (tSet1 X.K ta fun ks H Q => homK (metK ks) = true ∧ ∀ p, H p = none → Q (.ref p) (upd H p (.lst (((metK ks).mergeSort kLe).map kV)))) := by
  refine ⟨fun pins s σ H Q I h => ?_⟩
  refine Call_ (ld_blt I hg hm PyProof.Rows.boot_sorted ?_)
  refine PyProof.Rows.callWith_builtin1 (PyProof.Rows.args_cons ?_ rfl) rfl rfl
  refine Call_ (ld_blt I hg2 hm2 PyProof.Rows.boot_set ?_)
  refine PyProof.Rows.callWith_type1 (PyProof.Rows.args_cons (thn (ha.run pins s σ H _ I h) fun v s1 ⟨x, H1, I1, r1, q1⟩ => PyProof.Rows.args_nil ?_) na) na rfl
  obtain ⟨l, ks, rfl, hq, few, hom, q1⟩ := q1
  cases r1
  refine call_setA hc I1 hq (by unfold scanBound; omega) fun hp' tk sm kp => ?_
  have I2 : Inv X pins σ H1 { s1 with heap := hp', toks := tk } := I1.kept fun b ob e => kp b ob (Heap.lt_size e) e
  refine PyProof.Rows.args_nil ?_
  refine sorted_setM (s := { s1 with heap := hp', toks := tk }) sm (I1.ok.hd hc) hom hu fun st p' out c k g o hp hat eo => ?_
  have hn : H1 p' = none := I2.hok.fresh hp
  have hlen : (((metK ks).mergeSort kLe).map kV).length ≤ sizeLine := by
    rw [List.length_map, List.length_mergeSort, sizeLine_eq]
    have := metK_len ks
    omega
  have J := I2.call (H' := upd H1 p' (.lst (((metK ks).mergeSort kLe).map kV))) (h' := st.heap) (g' := st.gens) (d' := st.drawn) (t' := st.toks) (ch := []) (Un.laid k hp hn) (I2.hok.laid k hp ⟨hlen, out.toList, c, eo.vals, hat⟩) (by rw [g]; exact I2.bare) (fun _ z => nomatch z)
  have J : Inv X pins σ (upd H1 p' (.lst (((metK ks).mergeSort kLe).map kV))) { s1 with heap := st.heap, gens := st.gens, drawn := st.drawn, toks := st.toks } := J
  have e : st = { s1 with heap := st.heap, gens := st.gens, drawn := st.drawn, toks := st.toks } := by
    obtain ⟨b1, b2, b3, b4, b5⟩ := st
    obtain ⟨c1, c2, c3, c4, c5⟩ := s1
    simp only at o
    rw [o]
  rw [e]
  exact ⟨.ref p', _, J, rfl, q1 p' hn⟩
theorem pe_lenSetK (hc : X.calm = true) (hg : Gl X "len") (hm : X.mg "len" = none) (hg2 : Gl X "set") (hm2 : X.mg "set" = none) (ha : PE X a ta)
    (na : starEach [a] X.env = (false, eval a X.env) :: starEach [] X.env := by rfl) : PE X (.Call (.Name "len" p) [.Call (.Name "set" p2) [a] [] q] [] pos)
      (tSet1 X.K ta fun ks H Q => Q (.int (metK ks).length) H) := by
  refine ⟨fun pins s σ H Q I h => ?_⟩
  refine Call_ (ld_blt I hg hm PySem.boot_len ?_)
  refine PyProof.Rows.callWith_builtin1 (PyProof.Rows.args_cons ?_ rfl) rfl rfl
  refine Call_ (ld_blt I hg2 hm2 PyProof.Rows.boot_set ?_)
  refine PyProof.Rows.callWith_type1 (PyProof.Rows.args_cons (thn (ha.run pins s σ H _ I h) fun v s1 ⟨x, H1, I1, r1, q1⟩ => PyProof.Rows.args_nil ?_) na) na rfl
  obtain ⟨l, ks, rfl, hq, few, q1⟩ := q1
  cases r1
  refine call_setA hc I1 hq (by unfold scanBound; omega) fun hp' tk sm kp => ?_
  have I2 : Inv X pins σ H1 { s1 with heap := hp', toks := tk } := I1.kept fun b ob e => kp b ob (Heap.lt_size e) e
  refine PyProof.Rows.args_nil ?_
  obtain ⟨ob, es, ep, tb, hob, hex, hdat, ⟨fine, perm, nd⟩, ⟨few2, fit⟩, ris, led⟩ := sm
  have en : es.size = (metK ks).length := by
    have z := perm.length_eq
    rw [List.length_map, Array.length_toList] at z
    exact z
  refine call_len_set hob hex hdat fit (by unfold scanBound at few2; omega) ⟨.int (metK ks).length, H1, I2.tok _, ⟨_, by rw [en]⟩, q1⟩
variable {W : WX} {fa : Fx}
theorem set1_in {α : Type} {g : D → Option α} {KK : (Addr → Prop) → Hp → α → VK → Prop} {G : List Key → Hp → VK → Prop}
    (kg : ∀ {Z Z' H H' d Q}, KK Z H d Q → Grow Z H Z' H' → KK Z' H' d Q)
    (hG : ∀ Z H d ds ks q Q, (∀ a, Z a → H a ≠ none) → (d = .list ds ∨ d = .tuple ds) → keysOf ds = some ks → g d = some q → KK Z H q Q → ks.length ≤ 4000 ∧ G ks H Q)
    (hl : ∀ d q, g d = some q → ∃ ds ks, (d = .list ds ∨ d = .tuple ds) ∧ keysOf ds = some ks)
    {σ : L2.St} {H : Hp} {Q : VK} {f : Env → R α} (ef : f = fun ρ => fa ρ >>= fun x => ofO (g x))
    (h : ∃ B Z ρ, EnvOk X.K B Z H σ ρ ∧ post (fun d => KK Z H d Q) (xWish X.K Z H W σ) (f ρ)) : tSet1 X.K (tO X.K W fa) G σ H Q := by
  obtain ⟨B, Z, ρ, E, h⟩ := h
  subst ef
  refine ⟨B, Z, ρ, E, h.bind.mono (fun d h1 v Z1 H1 g1 r1 => ?_) fun _ w => w⟩
  obtain ⟨q, eq, k⟩ := h1.ofO
  obtain ⟨ds, ks, ed, ek⟩ := hl d q eq
  have c := hG Z1 H1 d ds ks q Q (E.grow g1).zt ed ek eq (kg k g1)
  rcases ed with rfl | rfl
  · obtain ⟨l, xs, rfl, hl, r⟩ := rpl r1
    have e := r.areK ek
    subst e
    exact ⟨l, ks, rfl, .inl (SqL.of hl), c.1, c.2⟩
  · obtain ⟨l, xs, rfl, hl, r⟩ := rpt r1
    have e := r.areK ek
    subst e
    exact ⟨l, ks, rfl, .inr hl, c.1, c.2⟩
theorem dSortSet_is {d : D} {q : List D} (h : dSortSet d = some q) : ∃ ds ks, (d = .list ds ∨ d = .tuple ds) ∧ keysOf ds = some ks ∧ homK (metK ks) = true ∧ ks.length ≤ 4000 ∧ q = ((metK ks).mergeSort kLe).map Pz.keyD := by
  unfold dSortSet at h
  split at h
  · rename_i ds
    cases e : keysOf ds with
    | none => rw [e] at h; cases h
    | some ks =>
      rw [e] at h
      simp only [Option.bind_some] at h
      split at h <;> cases h
      rename_i hh
      exact ⟨ds, ks, .inl rfl, e, hh.1, hh.2, by rw [isortK_eq]⟩
  · rename_i ds
    cases e : keysOf ds with
    | none => rw [e] at h; cases h
    | some ks =>
      rw [e] at h
      simp only [Option.bind_some] at h
      split at h <;> cases h
      rename_i hh
      exact ⟨ds, ks, .inr rfl, e, hh.1, hh.2, by rw [isortK_eq]⟩
  · cases h
theorem dLenSet_is {d : D} {q : D} (h : dLenSet d = some q) : ∃ ds ks, (d = .list ds ∨ d = .tuple ds) ∧ keysOf ds = some ks ∧ ks.length ≤ 4000 ∧ q = .int (metK ks).length := by
  unfold dLenSet at h
  split at h
  · rename_i ds
    cases e : keysOf ds with
    | none => rw [e] at h; cases h
    | some ks =>
      rw [e] at h
      simp only [Option.bind_some] at h
      split at h <;> cases h
      rename_i hh
      exact ⟨ds, ks, .inl rfl, e, hh, rfl⟩
  · rename_i ds
    cases e : keysOf ds with
    | none => rw [e] at h; cases h
    | some ks =>
      rw [e] at h
      simp only [Option.bind_some] at h
      split at h <;> cases h
      rename_i hh
      exact ⟨ds, ks, .inr rfl, e, hh, rfl⟩
  · cases h
theorem pn_sortSet (hu : X.A.units + 64 < cLine) (hc : X.calm = true) (hg : Gl X "sorted") (hm : X.mg "sorted" = none) (hg2 : Gl X "set") (hm2 : X.mg "set" = none) (ha : PE X a (tO X.K W fa))
    (na : starEach [a] X.env = (false, eval a X.env) :: starEach [] X.env := by rfl) : PE X (.Call (.Name "sorted" p) [.Call (.Name "set" p2) [a] [] q] [] pos) (tN X.K W (fN1 dSortSet fa)) :=
  PE.imp (pe_sortSet hu hc hg hm hg2 hm2 ha na) fun σ H Q h => set1_in (g := dSortSet) (KK := KN X.K) (fun k g => k.grow g) (fun Z H d ds ks q Q zt ed ek eq k => by
    obtain ⟨ds', ks', e1, e2, hom, few, rfl⟩ := dSortSet_is eq
    have : ds = ds' := by
      rcases ed with rfl | rfl <;> rcases e1 with e1 | e1 <;> cases e1 <;> rfl
    subst this
    rw [ek] at e2
    cases e2
    exact ⟨few, hom, k.lst zt (rpAll_keys _)⟩) (fun d q eq => by obtain ⟨ds, ks, e1, e2, _⟩ := dSortSet_is eq; exact ⟨ds, ks, e1, e2⟩) rfl h
theorem pz_lenSet (hc : X.calm = true) (hg : Gl X "len") (hm : X.mg "len" = none) (hg2 : Gl X "set") (hm2 : X.mg "set" = none) (ha : PE X a (tO X.K W fa))
    (na : starEach [a] X.env = (false, eval a X.env) :: starEach [] X.env := by rfl) : PE X (.Call (.Name "len" p) [.Call (.Name "set" p2) [a] [] q] [] pos) (tP X.K W (f1 dLenSet fa)) :=
  PE.imp (pe_lenSetK hc hg hm hg2 hm2 ha na) fun σ H Q h => set1_in (g := dLenSet) (KK := KP X.K) (fun k g => k.grow g) (fun Z H d ds ks q Q zt ed ek eq k => by
    obtain ⟨ds', ks', e1, e2, few, rfl⟩ := dLenSet_is eq
    have : ds = ds' := by
      rcases ed with rfl | rfl <;> rcases e1 with e1 | e1 <;> cases e1 <;> rfl
    subst this
    rw [ek] at e2
    cases e2
    exact ⟨few, k _ Z H .refl (.int _)⟩) (fun d q eq => by obtain ⟨ds, ks, e1, e2, _⟩ := dLenSet_is eq; exact ⟨ds, ks, e1, e2⟩) rfl h
end
end Pz

set_option maxHeartbeats 4000000
/-! The plain layer: sorted(xs), min(xs), min(xs, default=..). -/
namespace Pz
open PySem PySem.Spec L2 PyProof.Rows PySem.W

def tupNE : D → Bool
  | .tuple (_ :: _) => true
  | _ => false
def notTN : D → Bool
  | .tuple _ => false
  | .none => false
  | _ => true
def alikeB (ds : List D) : Bool := ds.all fun d => ds.all fun e => alike d e
def sortOk (ds : List D) : Bool := alikeB ds && (ds.all tupNE || ds.all notTN) && decide (ds.length ≤ 1000000) && ds.all (fun d => d.plain && decide (d.depth ≤ 50))
theorem alikeB_is {ds : List D} (h : alikeB ds = true) : AllAlike ds := fun d hd e he => List.all_eq_true.mp (List.all_eq_true.mp h d hd) e he
def dSort : D → Option (List D)
  | .list ds => if sortOk ds = true then some (ds.mergeSort (dataLe false id)) else none
  | _ => none
def rSortA (K : PySem.W.Frag) : RC := fun vs H Q => ∃ a xs ds, vs = [V.ref a] ∧ SqL K H a xs ∧ sortOk ds = true ∧ ∃ R0 : V → D → Prop, EachIs R0 xs ds ∧ (∀ x d, R0 x d → Dp K H x d) ∧
  ∀ ys p, EachIs R0 ys (ds.mergeSort (dataLe false id)) → H p = none → Q (.ref p) (upd H p (.lst ys))
theorem each_rel {R0 : V → D → Prop} : ∀ {xs : List V} {us : List Value} {ds : List D}, Vals xs us → EachIs R0 xs ds → EachIs (fun u d => ∃ x, RelV x u ∧ R0 x d) us ds
  | _, _, _, .nil, .nil => .nil
  | _, _, _, .cons r t, .cons h t' => .cons ⟨_, r, h⟩ (each_rel t t')
theorem rel_each {R0 : V → D → Prop} : ∀ {us : List Value} {ds : List D}, EachIs (fun u d => ∃ x, RelV x u ∧ R0 x d) us ds → ∃ ys, Vals ys us ∧ EachIs R0 ys ds
  | _, _, .nil => ⟨[], .nil, .nil⟩
  | _, _, .cons ⟨x, h1, h2⟩ t => by
    obtain ⟨ys, h3, h4⟩ := rel_each t
    exact ⟨x :: ys, .cons h1 h3, .cons h2 h4⟩
theorem cr_sort0 {X : Cx} (hu : X.A.units + 64 < cLine) : CallR X (.builtin "sorted") (rSortA X.K) := by
  intro pins s σ H vs us Q I r h
  obtain ⟨a, xs, ds, rfl, hs, ok, R0, each, good, q⟩ := h
  obtain ⟨its, rv, pl, small⟩ := I.list hs
  rw [Vals.ref1 r]
  unfold sortOk at ok
  simp only [Bool.and_eq_true, decide_eq_true_eq, Bool.or_eq_true, List.all_eq_true] at ok
  obtain ⟨⟨⟨al, shape⟩, len⟩, deep⟩ := ok
  have e1 : EachIs (fun u d => ∃ x, RelV x u ∧ R0 x d) its ds := each_rel rv each
  have hm : ds.map id = ds := List.map_id _
  refine sorted_data (enc := id) (R := fun u d => ∃ x, RelV x u ∧ R0 x d) (bs := ds) pl.isList e1 (EachIs.mono (fun u d ⟨x, h1, h2⟩ => Dp.reads I d x u (good x d h2) h1) e1) (by rw [hm]; exact alikeB_is al) (by
    rw [hm]
    rcases shape with h | h
    · refine .inl fun d hd => ?_
      have := h d hd
      unfold tupNE at this
      split at this
      · exact ⟨_, _, rfl⟩
      · cases this
    · refine .inr fun d hd => ?_
      have := h d hd
      unfold notTN at this
      split at this
      · cases this
      · cases this
      · rename_i n1 n2
        exact ⟨fun e => n2 e, fun ys e => n1 ys e⟩) (by rw [sizeLine_eq]; omega) (fun d hd => by
      have := (deep d hd).2
      show X.A.units + 2 + d.depth < cLine
      omega) fun out lo eo => ?_
  obtain ⟨ys, vy, ey⟩ := rel_each eo
  obtain ⟨c, at'⟩ := PyProof.Rows.sortedAll_at s.heap its out.toArray
  have hlen : ys.length ≤ sizeLine := by
    rw [EachIs.length ey, List.length_mergeSort, sizeLine_eq]; omega
  exact ⟨.ref _, upd H (s.heap.objs.size + 1) (.lst ys), I.laid (t' := s.toks) (fun _ _ => PyProof.Rows.sortedAll_old) (Nat.le_succ _) ⟨hlen, out, c, vy, at'⟩, rfl, q ys _ ey (I.hok.fresh (Nat.le_succ _))⟩
section
variable {K : PySem.W.Frag} {Z : Addr → Prop} {H : Hp}
theorem RpAll.each : ∀ {xs : List V} {ds : List D}, RpAll K Z H xs ds → (∀ d ∈ ds, d.plain = true) → EachIs (fun x d => Rp K Z H x d ∧ d.plain = true) xs ds
  | _, _, .nil, _ => .nil
  | _, _, .cons r t, h => .cons ⟨r, h _ List.mem_cons_self⟩ (RpAll.each t fun d q => h d (List.mem_cons_of_mem _ q))
theorem each_rp : ∀ {xs : List V} {ds : List D}, EachIs (fun x d => Rp K Z H x d ∧ d.plain = true) xs ds → RpAll K Z H xs ds
  | _, _, .nil => .nil
  | _, _, .cons r t => .cons r.1 (each_rp t)
theorem plainAll_of : ∀ {ds : List D}, (∀ d ∈ ds, d.plain = true) → PyData.plainAll ds = true
  | [], _ => rfl
  | d :: ds, h => by
    show (d.plain && PyData.plainAll ds) = true
    rw [h d List.mem_cons_self, plainAll_of fun e q => h e (List.mem_cons_of_mem _ q)]
    rfl
end
theorem op1_sort {K : PySem.W.Frag} : Op1N K (rSortA K) dSort := fun Z H x d q zt rx hg Q k => by
  unfold dSort at hg
  split at hg
  rotate_left
  · cases hg
  split at hg <;> cases hg
  rename_i ds ok
  obtain ⟨a, xs, rfl, ha, r⟩ := rpl rx
  have hp : ∀ d ∈ ds, d.plain = true := fun d hd => by
    unfold sortOk at ok
    simp only [Bool.and_eq_true, List.all_eq_true] at ok
    exact (ok.2 d hd).1
  refine ⟨a, xs, ds, rfl, SqL.of ha, ok, _, r.each hp, fun x d h => h.1.dp h.2, fun ys p ey n => ?_⟩
  exact k.lst zt (each_rp ey) p n
/-! ### min -/
def noneB : D → Bool
  | .none => true
  | _ => false
def minOk' (ds : List D) : Bool := alikeB ds && ds.all (fun d => !noneB d) && decide (PyData.depthAll ds ≤ 50) && ds.all (fun d => d.plain)
def dMin1 : D → Option D
  | .list (d :: ds) => if minOk' (d :: ds) = true then some (minD d ds) else none
  | _ => none
def dMinD (d e : D) : Option D := match d with
  | .list [] => some e
  | .list (x :: xs) => if minOk' (x :: xs) = true then some (minD x xs) else none
  | _ => none
theorem minD_mem (x : D) (xs : List D) : minD x xs ∈ x :: xs := by
  have go : ∀ (xs : List D) (x : D) (l : List D), x ∈ l → (∀ y ∈ xs, y ∈ l) → minD x xs ∈ l := fun xs => by
    induction xs with
    | nil => intro x l h _; exact h
    | cons y ys ih =>
      intro x l h hy
      show minD (if dataLt y x then y else x) ys ∈ l
      refine ih _ l ?_ fun z hz => hy z (List.mem_cons_of_mem _ hz)
      split
      · exact hy y List.mem_cons_self
      · exact h
  exact go xs x _ List.mem_cons_self fun y h => List.mem_cons_of_mem _ h
theorem minOk_is {ds : List D} (h : minOk' ds = true) : AlikeAll ds ∧ PyData.depthAll ds ≤ 50 ∧ ∀ d ∈ ds, d.plain = true := by
  unfold minOk' at h
  simp only [Bool.and_eq_true, decide_eq_true_eq, List.all_eq_true] at h
  obtain ⟨⟨⟨a, b⟩, c⟩, d⟩ := h
  exact ⟨⟨alikeB_is a, fun x hx e => by have := b x hx; rw [e] at this; cases this⟩, c, d⟩
def rMinA (K : PySem.W.Frag) : RC := fun vs H Q => ∃ a xs d ds, vs = [V.ref a] ∧ SqL K H a xs ∧ minOk' (d :: ds) = true ∧ DpAll K H xs (d :: ds) ∧ ∀ (i : Nat) (x : V), xs[i]? = some x → (d :: ds)[i]? = some (minD d ds) → Q x H
theorem vals_at : ∀ {xs : List V} {us : List Value}, Vals xs us → ∀ (i : Nat) (u : Value), us[i]? = some u → ∃ x, xs[i]? = some x ∧ RelV x u
  | _, _, .nil, i, u, h => by simp at h
  | _, _, .cons r t, 0, u, h => by simp at h; subst h; exact ⟨_, rfl, r⟩
  | _, _, .cons r t, i + 1, u, h => vals_at t i u (by simpa using h)
theorem dpAll_at {K : PySem.W.Frag} {H : Hp} : ∀ {xs : List V} {ds : List D}, DpAll K H xs ds → ∀ (i : Nat) (x : V), xs[i]? = some x → ∃ d, ds[i]? = some d ∧ Dp K H x d
  | _, _, .nil, i, x, h => by simp at h
  | _, _, .cons r t, 0, x, h => by simp at h; subst h; exact ⟨_, rfl, r⟩
  | _, _, .cons r t, i + 1, x, h => dpAll_at t i x (by simpa using h)
theorem min_pick {X : Cx} {pins : List (Addr × Obj)} {σ : L2.St} {H : Hp} {s : Shared} (I : L2.Inv X pins σ H s) {xs : List V} {us : List Value} {d : D} {ds : List D} (rv : Vals xs us) (dp : DpAll X.K H xs (d :: ds)) (al : AlikeAll (d :: ds))
    {i : Nat} {v : Value} {h' : Heap} {bs : List Addr} (hv : us[i]? = some v) (rd : Reads h' v (minD d ds) bs) (kp : ∀ b o, s.heap.get? b = some o → h'.get? b = some o) : ∃ x, xs[i]? = some x ∧ RelV x v ∧ (d :: ds)[i]? = some (minD d ds) := by
  obtain ⟨x, hx, rx⟩ := vals_at rv i v hv
  obtain ⟨e, he, de⟩ := dpAll_at dp i x hx
  obtain ⟨as, re⟩ := Dp.reads I e x v de rx
  have : e = minD d ds := alike_unique e (minD d ds) v as bs (al.1 e (List.mem_of_getElem? he) _ (minD_mem d ds)) (PyProof.Rows.Reads.keeps kp re) rd
  exact ⟨x, hx, rx, this ▸ he⟩
theorem cr_min0 {X : Cx} (hu : X.A.units + 64 < cLine) (hc : X.calm = true) : CallR X (.builtin "min") (rMinA X.K) := by
  intro pins s σ H vs us Q I r h
  obtain ⟨a, xs, d, ds, rfl, hs, ok, dp, q⟩ := h
  obtain ⟨its, rv, pl, small⟩ := I.list hs
  rw [Vals.ref1 r]
  obtain ⟨al, deep, pln⟩ := minOk_is ok
  obtain ⟨as, rs⟩ := Dp.readsAll I (d :: ds) xs its dp rv
  refine min_list_data (vs := its.toArray) (I.ok.hd hc) pl.isList (by simpa using rs) al (by omega) fun i v h' tk bs hv rd kp => ?_
  obtain ⟨x, hx, rx, hd⟩ := min_pick I rv dp al (by simpa using hv) rd kp
  exact ⟨x, H, I.kept kp, rx, q i x hx hd⟩
theorem RpAll.at2 {K : PySem.W.Frag} {Z : Addr → Prop} {H : Hp} : ∀ {xs : List V} {ds : List D}, RpAll K Z H xs ds → ∀ (i : Nat) (x : V) (d : D), xs[i]? = some x → ds[i]? = some d → Rp K Z H x d
  | _, _, .nil, i, x, d, h, _ => by simp at h
  | _, _, .cons r t, 0, x, d, h, h' => by simp at h h'; subst h; subst h'; exact r
  | _, _, .cons r t, i + 1, x, d, h, h' => RpAll.at2 t i x d (by simpa using h) (by simpa using h')
theorem op1_min {K : PySem.W.Frag} : Op1 K (rMinA K) dMin1 := fun Z H x d q zt rx hg Q k => by
  unfold dMin1 at hg
  split at hg
  rotate_left
  · cases hg
  split at hg <;> cases hg
  rename_i e es ok
  obtain ⟨a, xs, rfl, ha, r⟩ := rpl rx
  exact ⟨a, xs, e, es, rfl, SqL.of ha, ok, r.dp (plainAll_of (minOk_is ok).2.2), fun i x hx hd => k _ Z H .refl (r.at2 i x _ hx hd)⟩
def rMinDf (K : PySem.W.Frag) : List V → List V → Hp → VK → Prop := fun vs zs H Q => ∃ a xs z, vs = [V.ref a] ∧ zs = [z] ∧ SqL K H a xs ∧ ((xs = [] ∧ Q z H) ∨ ∃ d ds, minOk' (d :: ds) = true ∧ DpAll K H xs (d :: ds) ∧ ∀ (i : Nat) (x : V), xs[i]? = some x → (d :: ds)[i]? = some (minD d ds) → Q x H)
theorem cr_minDf {X : Cx} (hu : X.A.units + 64 < cLine) (hc : X.calm = true) : CallRK X (.builtin "min") ["default"] (rMinDf X.K) := by
  intro pins s σ H vs zs us ws Q I r r2 h
  obtain ⟨a, xs, z, rfl, rfl, hs, h⟩ := h
  obtain ⟨its, rv, pl, small⟩ := I.list hs
  rw [Vals.ref1 r]
  cases r2 with
  | @cons _ wv _ _ rz t =>
  cases t
  rcases h with ⟨rfl, q⟩ | ⟨d, ds, ok, dp, q⟩
  · cases rv
    refine min_list_default (xs := []) (as := []) (I.ok.hd hc) pl.isList .nil ⟨fun _ h => absurd h (by simp), fun _ h => absurd h (by simp)⟩ (by show X.A.units + 1 + 0 < cLine; omega) (fun _ h' tk kp => ⟨z, H, I.kept kp, rz, q⟩) fun y ys i v h' tk bs e => by cases e
  · obtain ⟨al, deep, pln⟩ := minOk_is ok
    obtain ⟨as, rs⟩ := Dp.readsAll I (d :: ds) xs its dp rv
    refine min_list_default (vs := its.toArray) (I.ok.hd hc) pl.isList (by simpa using rs) al (by omega) (fun e => by cases e) fun y ys i v h' tk bs e hv rd kp => ?_
    cases e
    obtain ⟨x, hx, rx, hd⟩ := min_pick I rv dp al (by simpa using hv) rd kp
    exact ⟨x, H, I.kept kp, rx, q i x hx hd⟩
section
variable {X : Cx} {W : WX} {a b : Expr} {p pos kpos : Pos} {fa fb : Fx}
theorem pz_minD (hu : X.A.units + 64 < cLine) (hc : X.calm = true) (hg : Gl X "min") (hm : X.mg "min" = none) (ha : PE X a (tO X.K W fa)) (hb : PE X b (tP X.K W fb))
    (he : backTo pos (starEach [a] X.env) = (false, eval a X.env) :: backTo pos (starEach [] X.env) := by rfl) (hpl : (backTo pos (starEach [a] X.env)).any (·.1) = false := by rfl)
    (hall : (backToKw pos (keywordEach [⟨some "default", b, kpos⟩] X.env)).all (·.1.isSome) = true := by rfl) (hnone : (backToKw pos (keywordEach [⟨some "default", b, kpos⟩] X.env)).any (·.1.isNone) = false := by rfl)
    (hks : (backToKw pos (keywordEach [⟨some "default", b, kpos⟩] X.env)).filterMap (·.1) = (["default"] : List Str) := by rfl) (na : starEach [a] X.env = (false, eval a X.env) :: starEach [] X.env := by rfl) :
    PE X (.Call (.Name "min" p) [a] [⟨some "default", b, kpos⟩] pos) (tP X.K W (f2 dMinD fa fb)) :=
  PE.imp (pe_callBK (cr_minDf hu hc) hg hm (by rfl) (pa_cons ha pa_nil na) (pk_cons hb pk_nil) (by decide) (by decide) he hpl hall hnone hks) fun σ H Q ⟨B, Z, ρ, E, h⟩ => by
    refine ⟨B, Z, ρ, E, h.bind.mono (fun d h1 v Z1 H1 g1 r1 => ⟨B, Z1, ρ, E.grow g1, h1.bind.mono (fun e h2 w Z2 H2 g2 r2 => ?_) fun _ w => w.grow g1⟩) fun _ w => w⟩
    obtain ⟨q, eq, k⟩ := h2.ofO
    have k2 := k.grow (g1.trans g2)
    have r1 := r1.grow g2
    unfold dMinD at eq
    split at eq
    · cases eq
      obtain ⟨l, xs, rfl, hl, r⟩ := rpl r1
      cases r
      exact ⟨l, [], w, rfl, rfl, SqL.of hl, .inl ⟨rfl, k2 w Z2 H2 .refl r2⟩⟩
    · split at eq <;> cases eq
      have ok := (by assumption : minOk' _ = true)
      obtain ⟨l, ys, rfl, hl, r⟩ := rpl r1
      exact ⟨l, ys, w, rfl, rfl, SqL.of hl, .inr ⟨_, _, ok, r.dp (plainAll_of (minOk_is ok).2.2), fun i y hy hd => k2 y Z2 H2 .refl (r.at2 i y _ hy hd)⟩⟩
    · cases eq
end
end Pz

set_option maxHeartbeats 4000000
/-! The plain layer: a frame's own dict, d.get, freezing behind a statement. -/
namespace Pz
open PySem PySem.Spec L2
def asDic : D → Option (List (D × D))
  | .dict [(.none, _)] => none
  | .dict es => some es
  | _ => none
theorem asDic_is {d : D} {es : List (D × D)} (h : asDic d = some es) : d = .dict es ∧ ∀ y, es ≠ [(.none, y)] := by
  unfold asDic at h
  split at h <;> cases h
  rename_i hn
  exact ⟨rfl, fun y e => hn y (by rw [e])⟩
def fGet1 (fa fb : Fx) : Fx := fun ρ => fa ρ >>= fun d => ofO (asDic d) >>= fun es => fb ρ >>= fun e => ofO ((toKey e).map fun k => (lookD es k).getD .none)
def fGet2 (fa fb fc : Fx) : Fx := fun ρ => fa ρ >>= fun d => ofO (asDic d) >>= fun es => fb ρ >>= fun e => fc ρ >>= fun z => ofO ((toKey e).map fun k => (lookD es k).getD z)
section
variable {X : Cx} {W : WX} {a b c : Expr} {apos cpos : Pos} {fa fb fc : Fx}
theorem pz_get1 (hu : X.A.units + 1 < cLine) (ha : PE X a (tO X.K W fa)) (hb : PE X b (tP X.K W fb)) (m : M1 X a "get" apos b cpos := by exact ⟨rfl, rfl, rfl, rfl⟩) : PE X (.Call (.Attribute a "get" apos) [b] [] cpos) (tP X.K W (fGet1 fa fb)) := PE.imp (pe_dget1 hu ha hb m) fun σ H Q ⟨B, Z, ρ, E, h⟩ => by
  refine ⟨B, Z, ρ, E, h.bind.mono (fun d h1 v Z1 H1 g1 r1 => ?_) fun _ w => w⟩
  obtain ⟨es, ed, h2⟩ := h1.bind.ofO
  obtain ⟨rfl, hn⟩ := asDic_is ed
  obtain ⟨l, kvs, rfl, hl, r⟩ := dic_of r1 hn
  refine ⟨l, rfl, .inl ⟨kvs, .inl hl⟩, B, Z1, ρ, E.grow g1, h2.bind.mono (fun e h3 w Z2 H2 g2 r2 => ?_) fun _ w => w.grow g1⟩
  obtain ⟨q, eq, k⟩ := h3.ofO
  cases ek : toKey e with
  | none => rw [ek] at eq; cases eq
  | some kk =>
    rw [ek] at eq
    cases eq
    cases toKey_v ek r2.top
    exact ⟨_, DGet.k (g2.hs _ _ hl), k.grow (g1.trans g2) _ Z2 H2 .refl (look_rel (r.grow g2) kk .non)⟩
theorem pz_get2 (hu : X.A.units + 1 < cLine) (ha : PE X a (tO X.K W fa)) (hb : PE X b (tP X.K W fb)) (hc : PE X c (tP X.K W fc)) (m : M2 X a "get" apos b c cpos := by exact ⟨rfl, rfl, rfl, rfl⟩) : PE X (.Call (.Attribute a "get" apos) [b, c] [] cpos) (tP X.K W (fGet2 fa fb fc)) := PE.imp (pe_dget2 hu ha hb hc m) fun σ H Q ⟨B, Z, ρ, E, h⟩ => by
  refine ⟨B, Z, ρ, E, h.bind.mono (fun d h1 v Z1 H1 g1 r1 => ?_) fun _ w => w⟩
  obtain ⟨es, ed, h2⟩ := h1.bind.ofO
  obtain ⟨rfl, hn⟩ := asDic_is ed
  obtain ⟨l, kvs, rfl, hl, r⟩ := dic_of r1 hn
  refine ⟨l, rfl, .inl ⟨kvs, .inl hl⟩, B, Z1, ρ, E.grow g1, h2.bind.mono (fun e h3 w Z2 H2 g2 r2 => ⟨B, Z2, ρ, (E.grow g1).grow g2, h3.bind.mono (fun z h4 u Z3 H3 g3 r3 => ?_) fun _ w => (w.grow g1).grow g2⟩) fun _ w => w.grow g1⟩
  obtain ⟨q, eq, k⟩ := h4.ofO
  cases ek : toKey e with
  | none => rw [ek] at eq; cases eq
  | some kk =>
    rw [ek] at eq
    cases eq
    cases toKey_v ek r2.top
    exact ⟨_, DGet.k (g3.hs _ _ (g2.hs _ _ hl)), k.grow ((g1.trans g2).trans g3) _ Z3 H3 .refl (look_rel ((r.grow g2).grow g3) kk r3)⟩
end
/-! ### d = {}, d[k] = v -/
def putD (es : List (D × D)) (k : Key) (d : D) : List (D × D) := if (es.any fun p => keyIsD p.1 k) = true then es.map (fun p => if keyIsD p.1 k = true then (p.1, d) else p) else es ++ [(Pz.keyD k, d)]
section
variable {K : PySem.W.Frag} {Z : Addr → Prop} {H : Hp}
theorem RpKV.any (k : Key) : ∀ {kvs : List (Key × V)} {es : List (D × D)}, RpKV K Z H kvs es → (kvs.any fun kv => decide (kv.1 = k)) = es.any fun p => keyIsD p.1 k
  | _, _, .nil => rfl
  | _, _, .cons r t => by rw [List.any_cons, List.any_cons, RpKV.any k t, keyIsD_keyD]
theorem RpKV.over {k : Key} {v : V} {d : D} (rv : Rp K Z H v d) : ∀ {kvs : List (Key × V)} {es : List (D × D)}, RpKV K Z H kvs es → RpKV K Z H (kvs.map fun kv => if kv.1 = k then (kv.1, v) else kv) (es.map fun p => if keyIsD p.1 k = true then (p.1, d) else p)
  | _, _, .nil => .nil
  | _, _, .cons (k := k') r t => by
    rw [List.map_cons, List.map_cons, keyIsD_keyD]
    by_cases e : k' = k
    · rw [if_pos e, if_pos (decide_eq_true e)]; exact .cons rv (RpKV.over rv t)
    · rw [if_neg e, if_neg (by simpa using e)]; exact .cons r (RpKV.over rv t)
theorem RpKV.snoc {k : Key} {v : V} {d : D} (rv : Rp K Z H v d) : ∀ {kvs : List (Key × V)} {es : List (D × D)}, RpKV K Z H kvs es → RpKV K Z H (kvs ++ [(k, v)]) (es ++ [(Pz.keyD k, d)])
  | _, _, .nil => .cons rv .nil
  | _, _, .cons r t => .cons r (RpKV.snoc rv t)
theorem RpKV.put {k : Key} {v : V} {d : D} (rv : Rp K Z H v d) {kvs : List (Key × V)} {es : List (D × D)} (r : RpKV K Z H kvs es) : RpKV K Z H (putK kvs k v) (putD es k d) := by
  unfold putK putD
  rw [r.any k]
  split
  · exact r.over rv
  · exact r.snoc rv
end
def sOdi (i : Nat) : Fs := fun ρ => .nx (ρ.set i (.odi []))
def sDput (i : Nat) (fk fv : Fx) : Fs := fun ρ => match ρ[i]? with
  | some (.odi es) => (match fv ρ with
    | .ok d => (match fk ρ with
      | .ok k => (match toKey k with
        | some kk => if es.length < 1000000 then .nx (ρ.set i (.odi (putD es kk d))) else .bad
        | none => .bad)
      | .exc x => .exc x ρ
      | .bad => .bad)
    | .exc x => .exc x ρ
    | .bad => .bad)
  | _ => .bad
def frzE (i : Nat) (ρ : Env) : Env := match ρ[i]? with
  | some (.own ds) => ρ.set i (.dat (.list ds))
  | some (.odi ds) => ρ.set i (.dat (.dict ds))
  | _ => ρ
def sFrzA (i : Nat) (F : Fs) : Fs := fun ρ => match F ρ with
  | .nx ρ' => .nx (frzE i ρ')
  | r => r
section
variable {X : Cx} {W : WX} {st : Stmt} {F : Fs} {key value : Expr} {fk fv : Fx} {pos pos' ppos dpos : Pos} {x : Str}
theorem EnvOk.frz {K : PySem.W.Frag} {B : Base} {Z : Addr → Prop} {H : Hp} {σ : L2.St} {ρ : Env} (E : EnvOk K B Z H σ ρ) (i : Nat) : ∃ Z', EnvOk K B Z' H σ (frzE i ρ) := by
  unfold frzE
  split
  · rename_i ds e; exact E.freeze e
  · rename_i ds e; exact E.freezeD e
  · exact ⟨Z, E⟩
theorem sz_frzA (i : Nat) (h : PS X st (tS X.K W F)) : PS X st (tS X.K W (sFrzA i F)) := PS.imp h fun D σ H ⟨B, Z, ρ, E, q⟩ => by
  refine ⟨B, Z, ρ, E, ?_⟩
  unfold sFrzA at q
  cases e : F ρ with
  | nx ρ' =>
    rw [e] at q
    intro σ' Z' H' E'
    obtain ⟨Z2, E2⟩ := E'.frz i
    exact q σ' Z2 H' E2
  | rt d => rw [e] at q; exact q
  | bk d => rw [e] at q; exact q
  | ct d => rw [e] at q; exact q
  | exc x d => rw [e] at q; exact q
  | bad => rw [e] at q; exact q
theorem sz_odi (i : Nat) (hN : X.N.Nodup) (hi : X.N[i]? = some x := by rfl) (hx : Loc X.env.scope x := by first | exact .inl rfl | exact .inr rfl) (hs : swapsWith (.Dict [] [] dpos) (some (.Name x pos')) pos.line X.env = pure false := by rfl) (hf : X.fn x = true ∨ X.env.scope.names.lookup x = some .local := by first | exact .inl rfl | exact .inr rfl) :
    PS X (.Assign [.Name x pos'] (.Dict [] [] dpos) pos) (tS X.K W (sOdi i)) := PS.imp (ps_set hN hi hx pe_dnewK hs hf) fun D σ H ⟨B, Z, ρ, E, h⟩ => fun p n =>
  h _ Z _ (E.newOdi i (grow_upd n) n (fun z => E.zt p z n) upd_same .nil)
theorem sz_dput (hu : X.A.units + 1 < cLine) (i : Nat) (ho : PE X (.Name x pos') (tVar i)) (hk : PE X key (tP X.K W fk)) (hv : PE X value (tP X.K W fv)) (hs : swapsWith value (some (.Subscript (.Name x pos') key ppos)) pos.line X.env = pure false := by rfl) :
    PS X (.Assign [.Subscript (.Name x pos') key ppos] value pos) (tS X.K W (sDput i fk fv)) := PS.imp (ps_dput hu ho hk hv hs) fun D σ H ⟨B, Z, ρ, E, h⟩ => by
  refine ⟨B, Z, ρ, E, ?_⟩
  unfold sDput at h
  split at h
  rotate_left
  · exact h.elim
  rename_i es e0
  obtain ⟨l, kvs, el, z, hl, r⟩ := E.sl i _ e0
  cases e1 : fv ρ with
  | exc x => simp only [e1] at h; exact xW E h
  | bad => simp only [e1] at h; exact h
  | ok d =>
    simp only [e1] at h
    intro v Z1 H1 g1 r1
    have E1 := E.grow g1
    refine ⟨_, el, B, Z1, ρ, E1, ?_⟩
    cases e2 : fk ρ with
    | exc x => simp only [e2] at h; exact xW E1 h
    | bad => simp only [e2] at h; exact h
    | ok k =>
      simp only [e2] at h
      intro u Z2 H2 g2 r2
      have E2 := E1.grow g2
      cases ek : toKey k with
      | none => simp only [ek] at h; exact h.elim
      | some kk =>
        simp only [ek] at h
        split at h
        rotate_left
        · exact h.elim
        rename_i hz
        cases toKey_v ek r2.top
        have hl2 := g2.hs _ _ (g1.hs _ _ hl)
        have z2 : ¬ Z2 l := fun q => (g2.zn l q).elim (fun q => (g1.zn l q).elim z fun n => by rw [hl] at n; cases n) fun n => by rw [g1.hs _ _ hl] at n; cases n
        refine ⟨l, _, rfl, DPut.k hl2 (by rw [r.length, sizeLine_eq]; omega), h σ Z2 _ (E2.upd e0 el z2 rfl ⟨_, hl2, (fun _ q => by cases q), (fun _ _ q => by cases q)⟩ fun kp => ?_)⟩
        exact ⟨l, _, rfl, z2, upd_same, RpKV.put ((r1.grow g2).keep kp) (((r.grow g1).grow g2).keep kp)⟩
end
end Pz

set_option maxHeartbeats 4000000
/-! The plain layer: dict of a tuple of pairs. -/
namespace Pz
open PySem PySem.Spec L2 PyProof.Rows
theorem tup_no_keys : typeLookup (.type "tuple") "keys" = pure none := am_miss_of_fast (by first | decide +kernel | rfl)
section
variable {prog : Program} {w : World} {A : Around} {E : Value → Shared → Prop}
/-- a tuple without a __dict__ has no attribute keys -/
theorem miss_tup {st : Shared} {a : Addr} {ob : Obj} {its : Array Value} {n : Nat} {G : Option Value → Shared → Prop} (ha : st.heap.get? a = some ob) (cls : ob.cls = .type "tuple") (dat : ob.data = .seq its n) (bare : ob.dict = none) (calm : A.handled = none)
    (hG : ∀ hp' tk', (∀ b u, st.heap.get? b = some u → hp'.get? b = some u) → G none { st with heap := hp', toks := tk' }) : wpAny (model prog w) A (getAttr? (.ref a) "keys") G E st := by
  obtain ⟨oc, od, odat, osl⟩ := ob
  simp only at cls dat bare
  subst cls dat bare
  obtain ⟨hh, gs, dr, tk, os⟩ := st
  have ty : ∀ tk', (⟨hh, gs, dr, tk', os⟩ : Shared).TypeIs (.ref a) "tuple" := fun _ => ⟨_, ha, rfl⟩
  have none1 := tup_no_keys
  have usual : (["__module__", "__name__", "__qualname__", "__doc__", "__annotations__"] : List Str).contains "keys" = false := by decide +kernel
  have short : ("keys" : Str).length + 100 ≤ sizeLine := by first | size_fits | decide +kernel
  have s1 := sub_AttributeError
  have s2 := PySem.F.slot_tuple_getattribute.lookup
  have s3 := PySem.F.slot_tuple_getattribute.bind (.ref a)
  have s4 := am_tuple_getattr_none
  unfold getAttr? getAttrBy? getAttrBy
  repeat (any_goals (first | assumption | exact ty _ | ((with_reducible show wpAny _ _ (call (Value.builtin "tuple.__getattribute__") _ _) _ _ _); refine call_meets PySem.F.slot_tuple_getattribute (ty _) am_entry_tuple_getattribute (PySem.F.args_tuple_getattribute_2 _ _) (meets_getattribute_miss_tuple a its n osl "keys" _ none1 usual short) ⟨ha, calm, fun hp' tk' ex raised => ?_⟩) | wp_step))
  obtain ⟨t', u', he⟩ := raised.there
  show wpAny _ _ (getattributeRaised _ _ _ _ _ _ _) _ _ _
  unfold getattributeRaised
  repeat (any_goals (first | assumption | wp_step))
  all_goals first | exact hG _ _ raised.keeps | (dsimp only; repeat (any_goals (first | assumption | exact hG _ _ raised.keeps | wp_step)))
theorem tup_at {h h' : Heap} {a : Addr} {its : Array Value} (t : IsTup h a its) (k : ∀ o, h.get? a = some o → h'.get? a = some o) : IsTup h' a its := let ⟨o, ho, r⟩ := t; ⟨o, k o ho, r⟩
/-- the pairs of a tuple, one behind another -/
theorem pairs_loop {R : Result → Shared → Prop} {S I l : Addr} {its : Array Value} {res : Value} (calm : A.handled = none) (hlI : l ≠ I) (hSI : S ≠ I) (hSl : S ≠ l) :
    ∀ (left : List (Key × Value)) (i : Nat) (acc : List (Key × Value)) (ix : Int) (t : Tok) (st : Shared), its.size = i + left.length → acc.length + left.length ≤ sizeLine →
      (∀ (j : Nat) (q : Key × Value), left[j]? = some q → ∃ (b : Addr) (u : Value), its[i + j]? = some (.ref b) ∧ b ≠ S ∧ b ≠ I ∧ IsTup st.heap b #[u, q.2] ∧ keyIs q.1 u = true) →
      st.heap.IsTupleIter I l i → IsTup st.heap l its → st.heap.DictOf (mixKind prog w) S acc →
      (∀ hp' tk', hp'.DictOf (mixKind prog w) S (merged acc left) → (∀ b o, b ≠ S → b ≠ I → st.heap.get? b = some o → hp'.get? b = some o) → R (.ok (.ret res)) { st with heap := hp', toks := tk' }) →
      codeAny (model prog w) A (.builtin "dict.update.loop" ⟨[.ref S, .ref I, .int ix t, res], []⟩) R st
  | [], i, acc, ix, t, st, hsz, hln, ht, hit, hl, hm, hR => by
    refine codeAny_builtin ud_entry ?_
    rw [Around.under_plainId ud_plain _]
    show wpAny _ A.in1 (pyNext (.ref I) >>= _) _ _ st
    refine wpAny_bind (wpAny_pyNext_tuple_end (A := A.in1) calm hit hl (by first | exact Array.getElem?_eq_none (Nat.le_of_eq hsz) | (simp at hsz; simp; omega)) fun hp' ext => ?_)
    show wpAny _ A.in1 (Builtin.Dict.addKeywords S [] >>= _) _ _ _
    refine wpAny_bind (wpAny_pure (wpAny_pure ?_))
    exact hR hp' st.toks (hm.extBut ext hSI) fun b o _ hb e => ext b o hb e
  | q :: left, i, acc, ix, t, st, hsz, hln, ht, hit, hl, hm, hR => by
    obtain ⟨b, u, hb, hbS, hbI, htup, hk⟩ := ht 0 q rfl
    rw [List.length_cons] at hsz hln
    refine codeAny_builtin ud_entry ?_
    rw [Around.under_plainId ud_plain _]
    show wpAny _ A.in1 (pyNext (.ref I) >>= _) _ _ st
    refine wpAny_bind (wpAny_pyNext_tuple_item (x := .ref b) hit hl (by simpa using hb) fun h1 hit1 same1 => ?_)
    have t1 : IsTup h1 b #[u, q.2] := htup.extBut same1.extBut hbI
    have l1 : IsTup h1 l its := hl.extBut same1.extBut hlI
    have m1 : h1.DictOf (mixKind prog w) S acc := hm.extBut same1.extBut hSI
    obtain ⟨o, ho, hc, n, hd⟩ := id t1
    show wpAny _ A.in1 (holding [Value.ref b] _ >>= _) _ _ _
    refine wpAny_bind (wpAny_holding (wpAny_bind (wpAny_tryCatch ?_)))
    unfold Builtin.Dict.pairItems
    refine wpAny_bind (wpAny_typeOf (T := "tuple") ⟨o, ho, hc⟩ ?_)
    rw [if_pos (by first | decide | rfl | simp)]
    refine wpAny_bind (wpAny_seqItems ho hd (wpAny_pure ?_))
    show wpAny _ A.in1 (holding [u, q.2] (dictSet S u q.2)) _ _ _
    refine wpAny_holding (wpAny_dictSet_pairs (knd := mixKind prog w) (k := q.1) hk m1 (fun h2 m2 same2 => ?_) (by omega))
    refine wpAny_pure ⟨plainId_quiet ud_plain _, pairs_loop (its := its) calm hlI hSI hSl left (i + 1) (stored acc q.1 q.2) (ix + 1) 0 _ (show its.size = i + 1 + left.length by omega) ?_ (fun j q' e => ?_) ?_ ?_ m2 fun hp' tk' hd' k => ?_⟩
    · have z := stored_length_le acc q.1 q.2
      omega
    · obtain ⟨b', u', hb', hbS', hbI', htup', hk'⟩ := ht (j + 1) q' (by simpa using e)
      refine ⟨b', u', ?_, hbS', hbI', (htup'.extBut same1.extBut hbI').extBut same2.extBut hbS', hk'⟩
      rw [show i + 1 + j = i + (j + 1) by omega]
      exact hb'
    · exact hit1.at fun o' e => same2.extBut I o' (Ne.symm hSI) e
    · exact l1.extBut same2.extBut (Ne.symm hSl)
    · exact hR hp' tk' hd' fun c oc h3 h4 e => k c oc h3 h4 (same2.extBut c oc h3 (same1.extBut c oc h4 e))
theorem call_dictT {st : Shared} {l : Addr} {ob : Obj} {its : Array Value} {n : Nat} {prs : List (Key × Value)} {G : Value → Shared → Prop} (calm : A.handled = none) (hl : st.heap.get? l = some ob) (cls : ob.cls = .type "tuple") (bare : ob.dict = none)
    (dat : ob.data = .seq its n) (hsz : its.size = prs.length) (hln : prs.length ≤ sizeLine)
    (ht : ∀ (j : Nat) (q : Key × Value), prs[j]? = some q → ∃ (b : Addr) (u : Value), its[j]? = some (.ref b) ∧ IsTup st.heap b #[u, q.2] ∧ keyIs q.1 u = true)
    (hG : ∀ hp' tk', hp'.DictOf (mixKind prog w) st.heap.objs.size (merged [] prs) → (∀ b o, st.heap.get? b = some o → hp'.get? b = some o) → G (.ref st.heap.objs.size) { st with heap := hp', toks := tk' }) :
    wpAny (model prog w) A (call (.type "dict") [.ref l]) G E st := by
  refine callType_codes (Q₁ := fun obj s₁ => obj = .ref st.heap.objs.size ∧ s₁ = { st with heap := st.heap.push { cls := .type "dict", data := .dict #[] } }) PySem.F.kt_called_dict (PySem.F.kt_typeCall_dict_1 _) PySem.F.entry_dict_init (kt_code_dict_new _ ⟨rfl, rfl⟩) ?_
  rintro obj s₁ ⟨rfl, rfl⟩
  have new : (st.heap.push { cls := .type "dict", data := .dict #[] }).DictOf (mixKind prog w) st.heap.objs.size [] := Heap.DictOf.new st.heap
  have k0 : ∀ b o, st.heap.get? b = some o → (st.heap.push { cls := .type "dict", data := .dict #[] }).get? b = some o := fun b o e => Heap.get?_push_of_some _ e
  refine ⟨new.typeIs, PySem.F.args_dict_init_2 _ _, ?_⟩
  unfold Builtin.«dict.__init__»
  refine wpAny_bind ?_
  unfold Builtin.Dict.selfAndRest
  refine wpAny_bind (wpAny_notOrdered_dict new.typeIs ?_)
  show wpAny _ _ (pure (st.heap.objs.size, [Value.ref l])) _ _ _
  refine wpAny_pure ?_
  show wpAny _ _ (Builtin.Dict.updateFrom "dict.__init__" st.heap.objs.size (.ref l) [] .none) _ _ _
  unfold Builtin.Dict.updateFrom
  refine wpAny_bind (wpAny_typeOf (T := "tuple") ⟨ob, k0 _ _ hl, cls⟩ ?_)
  rw [if_pos (by first | decide | rfl | simp)]
  refine wpAny_bind (miss_tup (k0 _ _ hl) cls dat bare calm fun h1 tk1 hk1 => ?_)
  rw [if_pos (show (none : Option Value).isNone = true from rfl)]
  refine wpAny_bind (wpAny_rule ?_)
  have l1 : IsTup h1 l its := ⟨ob, hk1 _ _ (k0 _ _ hl), cls, n, dat⟩
  have lt1 : st.heap.objs.size < h1.objs.size := by
    have e : (st.heap.push { cls := .type "dict", data := .dict #[] }).get? st.heap.objs.size = some { cls := .type "dict", data := .dict #[] } := Heap.get?_push_size _ rfl
    exact Heap.lt_size (hk1 _ _ e)
  refine wpAny_bind (wpAny_pyIter_tuple (show h1.IsTuple l its from l1) ?_)
  have k2 : ∀ b o, h1.get? b = some o → (h1.push { cls := .type "tuple_iterator", data := .fields #[.ref l, .int 0 0] }).get? b = some o := fun b o e => Heap.get?_push_of_some _ e
  have lt : l < st.heap.objs.size := Heap.lt_size hl
  have go := pairs_loop (prog := prog) (w := w) (A := A.in1) (R := wants (fun r s₂ => r = .none ∧ G (.ref st.heap.objs.size) s₂) E) (S := st.heap.objs.size) (I := h1.objs.size) (l := l) (its := its) (res := Value.none) calm
    (Nat.ne_of_lt (Nat.lt_trans lt lt1)) (Nat.ne_of_lt lt1) (Nat.ne_of_gt lt) prs 0 [] 0 0
    { st with heap := h1.push { cls := .type "tuple_iterator", data := .fields #[.ref l, .int 0 0] }, toks := tk1 } (by rw [hsz, Nat.zero_add]) (by rw [List.length_nil, Nat.zero_add]; exact hln)
    (fun j q e => by
      obtain ⟨b, u, e1, e2, e3⟩ := ht j q e
      have hb : b < st.heap.objs.size := e2.lt
      exact ⟨b, u, by rw [Nat.zero_add]; exact e1, Nat.ne_of_lt hb, Nat.ne_of_lt (Nat.lt_trans hb lt1), e2.keeps fun c o z => k2 _ _ (hk1 _ _ (k0 _ _ z)), e3⟩)
    ⟨_, Heap.get?_push_size _ rfl, rfl, rfl⟩ (tup_at l1 fun o e => k2 _ _ e) ((new.at fun o e => hk1 _ _ e).at fun o e => k2 _ _ e)
    (fun hp' tk' hd' k => ⟨rfl, hG hp' tk' hd' fun b o e => k b o (Nat.ne_of_lt (Heap.lt_size e)) (Nat.ne_of_lt (Nat.lt_trans (Heap.lt_size e) lt1)) (k2 _ _ (hk1 _ _ (k0 _ _ e)))⟩)
  first
    | exact wpAny_pure ⟨plainId_quiet ud_plain _, go⟩
    | exact wpAny_bind (wpAny_pure (wpAny_pure ⟨plainId_quiet ud_plain _, go⟩))
end
end Pz

set_option maxHeartbeats 4000000
/-! The plain layer: dict(pairs), x[::-1] of tuples. -/
namespace Pz
open PySem PySem.Spec L2 PyProof.Rows
/-! ### dict -/
def pairKV : D → Option (Key × D)
  | .tuple [k, v] => (toKey k).map fun k => (k, v)
  | _ => none
def pairsKV : List D → Option (List (Key × D))
  | [] => some []
  | d :: ds => (pairKV d).bind fun p => (pairsKV ds).map fun r => p :: r
def mergeD (es : List (D × D)) (kvs : List (Key × D)) : List (D × D) := kvs.foldl (fun acc kv => putD acc kv.1 kv.2) es
def dDict : D → Option D
  | .tuple ds => (pairsKV ds).bind fun kvs => if kvs.length ≤ 1000000 then some (.dict (mergeD [] kvs)) else none
  | .list ds => (pairsKV ds).bind fun kvs => if kvs.length ≤ 1000000 then some (.dict (mergeD [] kvs)) else none
  | _ => none
section
variable {K : PySem.W.Frag} {Z : Addr → Prop} {H : Hp}
theorem RpAll.pairs : ∀ {xs : List V} {ds : List D} {kvd : List (Key × D)}, RpAll K Z H xs ds → pairsKV ds = some kvd →
    ∃ (ps : List Addr) (kvs : List (Key × V)), xs = ps.map V.ref ∧ Paired (fun p kv => SqT K H p [kV kv.1, kv.2]) ps kvs ∧ Paired (fun (kv : Key × V) (kd : Key × D) => kv.1 = kd.1 ∧ Rp K Z H kv.2 kd.2) kvs kvd
  | _, _, kvd, .nil, h => by cases h; exact ⟨[], [], rfl, .nil, .nil⟩
  | _, _, kvd, .cons (v := v) (d := d) (ds := ds) r t, h => by
    unfold pairsKV at h
    cases e1 : pairKV d with
    | none => rw [e1] at h; cases h
    | some kd =>
      cases e2 : pairsKV ds with
      | none => rw [e1, e2] at h; cases h
      | some r2 =>
        rw [e1, e2] at h
        cases h
        obtain ⟨ps, kvs, rfl, h1, h2⟩ := RpAll.pairs t e2
        unfold pairKV at e1
        split at e1
        rotate_left
        · cases e1
        rename_i kx dx
        cases ek : toKey kx with
        | none => rw [ek] at e1; cases e1
        | some kk =>
          rw [ek] at e1
          cases e1
          cases r with
          | tup hT r =>
            cases r with
            | cons ra rb =>
              cases rb with
              | cons rb rc =>
                cases rc
                cases toKey_v ek ra.top
                exact ⟨_ :: ps, (kk, _) :: kvs, rfl, .cons hT.sq h1, .cons ⟨rfl, rb⟩ h2⟩
theorem RpKV.merge {kvs : List (Key × V)} {kvd : List (Key × D)} (p : Paired (fun (kv : Key × V) (kd : Key × D) => kv.1 = kd.1 ∧ Rp K Z H kv.2 kd.2) kvs kvd) : ∀ {acc : List (Key × V)} {es : List (D × D)}, RpKV K Z H acc es → RpKV K Z H (mergeK acc kvs) (mergeD es kvd) := by
  induction p with
  | nil => intro acc es r; exact r
  | @cons a b l1 l2 h t ih =>
    intro acc es r
    obtain ⟨k, v⟩ := a
    obtain ⟨k', d⟩ := b
    obtain ⟨h1, h2⟩ := h
    cases (show k = k' from h1)
    exact ih (RpKV.put h2 r)
theorem paired_len {α β : Type} {F : α → β → Prop} {as : List α} {bs : List β} (p : Paired F as bs) : as.length = bs.length := by
  induction p with
  | nil => rfl
  | cons _ _ ih => rw [List.length_cons, List.length_cons, ih]
/-- a new dict is frozen -/
theorem KP.dic {es : List (D × D)} {kvs : List (Key × V)} {Q : VK} (h : KP K Z H (.dict es) Q) (r : RpKV K Z H kvs es) : ∀ p, H p = none → Q (.ref p) (upd H p (.dK kvs)) := fun p n =>
  h (.ref p) _ _ ((grow_upd (o := .dK kvs) n).addZ n (by rw [upd_same]; exact fun q => nomatch q)) (.dic (.inr rfl) upd_same ((r.grow (grow_upd n)).keep .addZ))
end
section
variable {X : Cx}
def rDict (K : PySem.W.Frag) : RC := fun xs H Q => ∃ (a : Addr) (ps : List Addr) (kvs : List (Key × V)), xs = [.ref a] ∧ (SqL K H a (ps.map V.ref) ∨ TpN H a (ps.map V.ref)) ∧ Paired (fun p kv => SqT K H p [kV kv.1, kv.2]) ps kvs ∧
  ∀ p, H p = none → Q (.ref p) (upd H p (.dK (mergeK [] kvs)))
theorem cr_dict (hcalm : X.calm = true) : CallR X (.type "dict") (rDict X.K) := by
  intro pins s σ H xs us Q I r q
  obtain ⟨a, ps, kvs, ex, hq, hp, q⟩ := q
  rcases hq with hq | hq
  · exact call_dictP hcalm pins s σ H xs us Q I r ⟨a, ps, kvs, ex, hq, hp, q⟩
  subst ex
  obtain ⟨u, eu, rx⟩ := vals1 r
  subst eu
  cases rx
  obtain ⟨o, ho, bare⟩ := hq
  obtain ⟨og, ok⟩ := I.hok a _ ho
  obtain ⟨hz, its, rv, ob, hob, cls, n, dat⟩ := ok
  cases og.symm.trans hob
  cases refs_at rv
  rw [List.length_map] at hz
  obtain ⟨prs, rel, hl, hpr⟩ := pairs_of I hp
  refine call_dictT (prs := prs) (I.ok.hd hcalm) og cls bare dat (by simp [hl]) (by rw [hl]; exact hz) (fun j q' e => ?_) fun h' tk hd' k => ?_
  · obtain ⟨b, u, e1, e2, e3⟩ := hpr j q' e
    exact ⟨b, u, by simp [e1], e2, e3⟩
  · have hm : (s.heap.objs.size == sysModules) = false := beq_eq_false_iff_ne.mpr (Nat.ne_of_gt I.big)
    have hlen : (mergeK [] kvs).length ≤ sizeLine := by
      refine Nat.le_trans (length_mergeK kvs []) ?_
      rw [List.length_nil, Nat.zero_add, rel.length, hl]
      exact hz
    exact ⟨.ref s.heap.objs.size, upd H s.heap.objs.size (.dK (mergeK [] kvs)), I.laid (t' := tk) k (Nat.le_refl _) (show ObjOk X.prog X.w _ _ _ (.dK (mergeK [] kvs)) from ⟨hlen, hm, merged [] prs, KV.merge rel .nil, hd'⟩), rfl, q _ (I.hok.fresh (Nat.le_refl _))⟩
end
theorem op1_dict {K : PySem.W.Frag} : Op1 K (rDict K) dDict := fun Z H x d q zt rx hg Q k => by
  unfold dDict at hg
  split at hg
  · rename_i ds
    cases e : pairsKV ds with
    | none => rw [e] at hg; cases hg
    | some kvd =>
      rw [e] at hg
      simp only [Option.bind_some] at hg
      split at hg <;> cases hg
      obtain ⟨a, xs, rfl, ha, r⟩ := rptN rx
      obtain ⟨ps, kvs, rfl, h1, h2⟩ := r.pairs e
      exact ⟨a, ps, kvs, rfl, .inr ha, h1, k.dic (RpKV.merge h2 .nil)⟩
  · rename_i ds
    cases e : pairsKV ds with
    | none => rw [e] at hg; cases hg
    | some kvd =>
      rw [e] at hg
      simp only [Option.bind_some] at hg
      split at hg <;> cases hg
      obtain ⟨a, xs, rfl, ha, r⟩ := rpl rx
      obtain ⟨ps, kvs, rfl, h1, h2⟩ := r.pairs e
      exact ⟨a, ps, kvs, rfl, .inl (SqL.of ha), h1, k.dic (RpKV.merge h2 .nil)⟩
  · cases hg
section
variable {X : Cx} {W : WX} {a : Expr} {p pos : Pos} {fa : Fx}
theorem pz_dict (hc : X.calm = true) (hg : Gl X "dict") (hm : X.mg "dict" = none) (ha : PE X a (tO X.K W fa)) (he : starEach [a] X.env = (false, eval a X.env) :: starEach [] X.env := by rfl) (hpl : (backTo pos (starEach [] X.env)).any (·.1) = false := by rfl) :
    PE X (.Call (.Name "dict" p) [a] [] pos) (tP X.K W (f1 dDict fa)) := pz_t1 (cr_dict hc) op1_dict hg hm (by decide +kernel) ha (by decide) (by decide) he hpl
end
/-! ### x[::-1] -/
section
variable {prog : Program} {w : World} {A : Around} {E : Value → Shared → Prop} {s : Shared}
theorem back_applied {sl : Addr} {vs : Value} {n : Nat} {G : Int × Int × Nat → Shared → Prop} (hs : s.heap.IsSliceOf sl .none .none vs) (ps : IsPart vs (some (-1))) (h : G ((n : Int) - 1, -1, n) s) :
    wpAny (model prog w) A (Builtin.Slice.sliceApplied (.ref sl) (pure (n : Int))) G E s := by
  obtain ⟨os, hos, hcs, hds⟩ := id hs
  unfold Builtin.Slice.sliceApplied Builtin.Slice.sliceFields
  refine wpAny_bind (wpAny_bind (wpAny_field hos hds (x := .none) rfl (wpAny_bind (wpAny_field hos hds (x := .none) rfl (wpAny_bind (wpAny_field hos hds (x := vs) rfl (wpAny_pure ?_)))))))
  refine wpAny_bind (HT.slicePart_ ps ?_)
  show wpAny _ _ (if ((-1 : Int) == 0) = true then _ else _) _ _ s
  rw [if_neg (by decide)]
  refine wpAny_bind (slicePart_none (wpAny_bind (slicePart_none (wpAny_bind (wpAny_pure ?_)))))
  show wpAny _ _ (pure ((n : Int) - 1, (-1 : Int), Builtin.Slice.slicePlaces ((n : Int) - 1) (-1) (-1))) _ _ s
  have e : Builtin.Slice.slicePlaces ((n : Int) - 1) (-1) (-1) = n := by
    unfold Builtin.Slice.slicePlaces
    have h1 : ¬ ((-1 : Int) > 0) := by decide
    simp only [h1, if_false]
    split
    · rw [show (- -1 : Int) = 1 by decide, Int.ediv_one]; omega
    · omega
  rw [e]
  exact wpAny_pure h
theorem back_pick (xs : Array Value) : ((List.range xs.size).filterMap fun (k : Nat) => xs[(((xs.size : Int) - 1) + (k : Int) * -1).toNat]?).toArray = xs.toList.reverse.toArray := by
  have e : ((List.range xs.size).filterMap fun (k : Nat) => xs[(((xs.size : Int) - 1) + (k : Int) * -1).toNat]?) = ((List.range xs.size).map fun k => xs.size - 1 - k).filterMap (xs[·]?) := by
    have m : ((List.range xs.size).map fun k => xs.size - 1 - k) = (List.range xs.size).map fun (k : Nat) => (((xs.size : Int) - 1) + (k : Int) * -1).toNat :=
      List.map_congr_left fun k hk => by
        have := List.mem_range.mp hk
        omega
    rw [m, List.filterMap_map]
    rfl
  rw [e, PySem.W.krv_range, List.filterMap_reverse, PySem.W.krv_all]
theorem getItem_back {t sl : Addr} {its : Array Value} {vs : Value} {G : Value → Shared → Prop} (ht : IsTup s.heap t its) (hs : s.heap.IsSliceOf sl .none .none vs) (ps : IsPart vs (some (-1)))
    (h : G (.ref s.heap.objs.size) { s with heap := s.heap.push { cls := .type "tuple", data := .seq its.toList.reverse.toArray } }) (hsz : its.size ≤ sizeLine) : wpAny (model prog w) A (getItem (.ref t) (.ref sl)) G E s := by
  obtain ⟨os, hos, hcs, hds⟩ := id hs
  have ty : s.TypeIs (.ref sl) "slice" := ⟨os, hos, hcs⟩
  have zr : sizeOk (.seq its.toList.reverse.toArray) := by
    show its.toList.reverse.toArray.size ≤ sizeLine
    rw [List.size_toArray, List.length_reverse, Array.length_toList]
    exact hsz
  unfold getItem
  try with_reducible refine wpAny_holding ?_
  first | refine wpAny_bind (wpAny_pure ?_) | skip
  refine wpAny_bind (wpAny_sequenceKey ht.typeIs (by decide) ?_)
  refine wpAny_bind (wpAny_callSpecial?_slot (name := Str.ofString "__getitem__") ht.typeIs PyProof.Rows.slot_tuple_getitem
    (wpAny_call_entry PyProof.Rows.slot_tuple_getitem ht.typeIs entry_tuple_getitem ?_ (args_tuple_getitem _ _)))
  show wpAny _ _ (Builtin.Tuple.tupleItemsOf (.ref t) >>= _) _ _ s
  refine wpAny_bind (tupleItemsOf_ ht (wpAny_bind (wpAny_typeOf ty ?_)))
  rw [if_pos (by decide)]
  refine wpAny_bind (back_applied hs ps ?_)
  have no : ¬ ((((its.size : Int) - 1) == 0 && (-1 : Int) == 1 && its.size == its.size) = true) := by simp
  show wpAny _ _ (if (((its.size : Int) - 1) == 0 && (-1 : Int) == 1 && its.size == its.size) = true then _ else _) _ _ s
  rw [if_neg no, back_pick]
  first
    | exact wpAny_bind (m := Builtin.Tuple.tupleExact _) (wpAny_newObj_type (wpAny_pure ⟨_, rfl, wpAny_pure h⟩) zr)
    | exact wpAny_bind (m := Builtin.Tuple.tupleExact _) (wpAny_newObj_type (wpAny_bind (wpAny_pure (wpAny_pure ⟨_, rfl, wpAny_pure h⟩))) zr)
    | exact wpAny_bind (wpAny_bind (m := Builtin.Tuple.tupleExact _) (wpAny_newObj_type (wpAny_pure (wpAny_pure ⟨_, rfl, wpAny_pure h⟩)) zr))
    | exact wpAny_bind (wpAny_bind (m := Builtin.Tuple.tupleExact _) (wpAny_newObj_type (wpAny_pure ⟨_, rfl, wpAny_pure h⟩) zr))
end
def tRevT (K : PySem.W.Frag) (te : TE) : TE := fun σ H Q => te σ H fun x H1 => ∃ a xs, x = .ref a ∧ ((SqT K H1 a xs ∧ NewT H1 xs.reverse Q) ∨ (SqL K H1 a xs ∧ ∀ p, H1 p = none → Q (.ref p) (upd H1 p (.lst xs.reverse))))
section
variable {X : Cx} {e : Expr} {te : TE} {k : Nat} {p1 p2 p3 pos : Pos}
theorem pe_revT (he : PE X e te) : PE X (.Subscript e (.Slice none none (some (.UnaryOp .USub (.Constant (.int 1) k p1) p2)) p3) pos) (tRevT X.K te) := by
  refine ⟨fun pins s σ H Q I h => ?_⟩
  refine Subscript_ (thn (he.run pins s σ H _ I h) fun v s1 ⟨x, H1, I1, r1, q1⟩ => ?_)
  obtain ⟨a, xs, ex, q⟩ := q1
  subst ex
  cases r1
  have hst : PO X (some (.UnaryOp .USub (.Constant (.int 1) k p1) p2)) (tPart (tUn (rU fun i => .int (-i)) (tC (.int 1)))) := po_some (pe_un un_neg pe_int)
  refine wpAny_Slice (thn (po_none.run pins s1 σ H1 (fun o H2 => o = none ∧ H2 = H1) I1 ⟨rfl, rfl⟩) fun vl s2 ⟨l, H2, I2, pl, el, e2⟩ => ?_)
  subst el e2
  refine thn (po_none.run pins s2 σ H2 (fun o H3 => o = none ∧ H3 = H2) I2 ⟨rfl, rfl⟩) fun vu s3 ⟨u, H3, I3, pu, eu, e3⟩ => ?_
  subst eu e3
  refine thn (hst.run pins s3 σ H3 (fun o H4 => o = some (-1) ∧ H4 = H3) I3 ⟨1, rfl, -1, rfl, rfl, rfl⟩) fun vs s4 ⟨o, H4, I4, ps, eo, e4⟩ => ?_
  subst eo e4
  have I5 : Inv X pins σ H4 { s4 with heap := s4.heap.push { cls := .type "slice", data := .fields #[vl, vu, vs] } } := I4.kept (t' := s4.toks) fun b ob q => Heap.get?_push_of_some _ q
  cases pl
  cases pu
  rcases q with ⟨hx, q⟩ | ⟨hx, q⟩
  · obtain ⟨its, r, ht, hz⟩ := I5.tuple hx
    have hlen := r.length
    show wpAny (model X.prog X.w) X.A (subscriptTail e (.Slice none none (some (.UnaryOp .USub (.Constant (.int 1) k p1) p2)) p3) (.ref a) (.ref s4.heap.objs.size)) (EP X pins σ Q) X.xe { s4 with heap := s4.heap.push { cls := .type "slice", data := .fields #[.none, .none, vs] } }
    refine tail_any (ops := [.ref a, .ref s4.heap.objs.size]) ht.typeIs (PyProof.Rows.slot_tuple_getitem.lookup) ?_ (by with_unfolding_all rfl)
    refine getItem_back ht (Heap.IsSliceOf.new _ .none .none vs) ps ?_ (by rw [List.size_toArray]; omega)
    exact lay_tup I5 (by rw [List.length_reverse]; exact hz) r.reverse q
  · obtain ⟨its, r, ht, hz⟩ := I5.list hx
    have hlen := r.length
    show wpAny (model X.prog X.w) X.A (subscriptTail e (.Slice none none (some (.UnaryOp .USub (.Constant (.int 1) k p1) p2)) p3) (.ref a) (.ref s4.heap.objs.size)) (EP X pins σ Q) X.xe { s4 with heap := s4.heap.push { cls := .type "slice", data := .fields #[.none, .none, vs] } }
    refine tail_any (ops := [.ref a, .ref s4.heap.objs.size]) ht.isList.typeIs (PySem.slot_list_getitem.lookup) ?_ (by with_unfolding_all rfl)
    refine wpAny_getItem_list_slice ht.isList (Heap.IsSliceOf.new _ .none .none vs) .none .none ps (by decide) ?_ (by rw [List.size_toArray]; omega)
    rw [PySem.W.krv_pick]
    refine ⟨.ref _, _, I5.laid (t' := s4.toks) (o := .lst xs.reverse) (fun b ob q => Heap.get?_push_of_some _ q) (Nat.le_refl _) ?_, rfl, q _ (I5.hok.fresh (Nat.le_refl _))⟩
    exact ⟨by rw [List.length_reverse]; exact hz, _, 0, r.reverse, Heap.get?_push_size _ rfl⟩
def dRev : D → Option D
  | .tuple ds => some (.tuple ds.reverse)
  | .list ds => some (.list ds.reverse)
  | _ => none
theorem pz_rev {W : WX} {fa : Fx} (he : PE X e (tO X.K W fa)) : PE X (.Subscript e (.Slice none none (some (.UnaryOp .USub (.Constant (.int 1) k p1) p2)) p3) pos) (tP X.K W (f1 dRev fa)) := PE.imp (pe_revT he) fun σ H Q ⟨B, Z, ρ, E, h⟩ => by
  refine ⟨B, Z, ρ, E, h.bind.mono (fun d h1 v Z' H' g r => ?_) fun _ w => w⟩
  obtain ⟨q, eq, kk⟩ := h1.ofO
  have kk := kk.grow g
  unfold dRev at eq
  split at eq <;> cases eq
  · obtain ⟨a, xs, rfl, ha, rr⟩ := rptN r
    exact ⟨a, xs, rfl, .inl ⟨ha.sq, kk.tup rr.reverse⟩⟩
  · obtain ⟨a, xs, rfl, ha, rr⟩ := rpl r
    exact ⟨a, xs, rfl, .inr ⟨SqL.of ha, kk.kn.lst (E.grow g).zt rr.reverse⟩⟩
end
/-! ### x = [..] if c else [..], kept as an own list -/
def fIfN (t : Env → R Bool) (f u : Fxs) : Fxs := fun ρ => t ρ >>= fun b => match b with | true => f ρ | false => u ρ
theorem pn_if {X : Cx} {W : WX} {c a b : Expr} {pos : Pos} {tA : Env → R Bool} {fa fb : Fxs} (hc : PT X c (tT X.K W tA)) (ha : PE X a (tN X.K W fa)) (hb : PE X b (tN X.K W fb)) : PE X (.IfExp c a b pos) (tN X.K W (fIfN tA fa fb)) := PE.imp (pe_ifExp hc ha hb) fun σ H Q ⟨B, Z, ρ, E, h⟩ => by
  refine ⟨B, Z, ρ, E, h.bind.mono (fun b k Z' H' g => ?_) fun _ w => w⟩
  cases b with
  | true => exact iteT ⟨B, Z', ρ, E.grow g, post.mono k (fun b k => k.grow g) fun _ w => w.grow g⟩
  | false => exact iteF ⟨B, Z', ρ, E.grow g, post.mono k (fun b k => k.grow g) fun _ w => w.grow g⟩
end Pz

set_option maxHeartbeats 1000000
/-! The plain layer, all of it, and small words for the printed terms and the end. -/
namespace Pz
open PySem PySem.Spec L2
theorem hu_of {k : Nat} {A : Around} (r : Room k A) : A.units + 1 < cLine := by have := r.un; omega
theorem exc_of {K : PySem.W.Frag} {mg : Str → Option Value} {x : Str} (g : mg x = some (.ref (He.ga K x))) (h : PySem.W.excIn K (He.ga K x) He.veBase "ValueError.__new__" = true ∧ PySem.W.keepIn K (.ref (He.ga K x)) = true ∧ PySem.W.subIn K (.ref (He.ga K x)) (.type "BaseException") = some true ∧
    PySem.W.typeIn K (.ref (He.ga K x)) = some (.type "type")) : Exc K mg x := ⟨g, h.1, h.2.1, h.2.2.1, h.2.2.2⟩
/-! ### a name's own list or dict is lent to a call that gives a flat value -/
def flatD : D → Bool
  | .none => true
  | .bool _ => true
  | .int _ => true
  | .str _ => true
  | _ => false
def fBor (i : Nat) (f : Fx) : Fx := fun ρ => f (frzE i ρ) >>= fun d => if flatD d = true then .ok d else .bad
theorem rp_flat {K : PySem.W.Frag} {Z Z' : Addr → Prop} {H H' : Hp} {v : V} {d : D} (h : flatD d = true) (r : Rp K Z H v d) : Rp K Z' H' v d := by
  cases r with
  | non => exact .non
  | bl b => exact .bl b
  | int i => exact .int i
  | str s => exact .str s
  | lst _ _ _ => cases h
  | scr _ _ => cases h
  | tup _ _ => cases h
  | dic _ _ _ => cases h
theorem grow_back {Z Z' Z1 : Addr → Prop} {H H1 : Hp} (g : Grow Z' H Z1 H1) : Grow Z H Z H1 where
  zt := fun h a z => by
    cases e : H a with
    | none => exact absurd e (h a z)
    | some o => rw [g.hs a o e]; simp
  zs := fun _ z => z
  zn := fun _ z => .inl z
  hs := g.hs
theorem pz_bor {X : Cx} {W : WX} {e : Expr} {f : Fx} (i : Nat) (h : PE X e (tP X.K W f)) : PE X e (tP X.K W (fBor i f)) := PE.imp h fun σ H Q ⟨B, Z, ρ, E, q⟩ => by
  obtain ⟨Z', E'⟩ := E.frz i
  refine ⟨B, Z', _, E', post.mono q.bind (fun d k v Z1 H1 g r => ?_) fun x w Z1 H1 g => w Z H1 (grow_back g)⟩
  split at k
  · rename_i hf
    exact k v Z H1 (grow_back g) (rp_flat hf r)
  · exact k.elim
/-- the script's list at its place -/
theorem scr_at {K : PySem.W.Frag} {H : Hp} {a : Addr} {ns : List Int} (only : Only H) (h : SqL K H a (ns.map V.int)) : ∃ Z : Addr → Prop, (∀ b, Z b → H b ≠ none) ∧ RpAll K Z H [.ref a] [scrD (ns.map .int)] := by
  have each : ∀ (Z : Addr → Prop) (ns : List Int), RpAll K Z H (ns.map V.int) (ns.map .int) := fun Z ns => by
    induction ns with
    | nil => exact .nil
    | cons n ns ih => exact .cons (.int n) ih
  refine ⟨fun b => b = a ∧ H a ≠ none, fun b e => e.1 ▸ e.2, .cons (.scr ?_ (each _ ns)) .nil⟩
  rcases h with h | h
  · rcases h with h | ⟨o, h⟩
    · rcases only a with n | ⟨o, xs, n⟩
      · rw [n] at h; cases h
      · rw [n] at h; cases h
    · exact .inl ⟨⟨rfl, by rw [h]; simp⟩, o, h⟩
  · exact .inr (.inr h)
/-- THE END: a law's def is a plain function that answers True -/
theorem end_of {l : PySem.W.OpenLaw} {top k : Nat} {q : Program} {loose : List Str} {XP : (Str → Option Value) → Heap → Prop} {YP : World → Heap → Prop} {d : DefRec} {x : Str}
    (few : l.most = some top) (fit : top ≤ sizeLine) (plain : d.params.defaults = []) (room : Room k callerA)
    (F : ∀ (w : World) (mg : Str → Option Value) (fa : Addr) (hp : Heap), YP w hp → hp.Ns mainGlobals mg → mg d.name = some (.ref fa) →
      ∃ (K : PySem.W.Frag) (fd : FuncData) (m : Mf), K.In hp ∧ (∀ (s : Shared) (u : Value), BindsTo s fd ⟨[u], []⟩ [(x, u)]) ∧ (∀ ns : List Int, ns.length ≤ top → m [scrD (ns.map .int)] = .ok (.bool true)) ∧
        ∀ base : Heap, K.In base → base.Ns mainGlobals mg → FnOk l.prog w K mg base (L2.CX l.prog w) k fa fd [x] (spP K m 1)) :
    PySem.W.WalkO q loose XP YP l.row.toRowW d [] (fun f vs => PySem.call f vs) := by
  refine Att.attach_call few plain fun w sA sB mg mb fa ob pm cd doc a vs ns G Y h1 h2 h3 h4 h5 h6 h7 h8 => ?_
  obtain ⟨K, fd, m, X, bnd, math, ok⟩ := F w mg fa _ Y G.T.g h4
  refine law_call X G.T.g G.T.b G.T.builtins G.T.nolimit h8 h5 h6 (Nat.le_trans h7 fit) room ok bnd (fun H only sq => ?_) fun H e s' z => ?_
  · obtain ⟨Z, zt, r⟩ := scr_at only sq
    refine ⟨rfl, Z, _, zt, r, ?_⟩
    rw [math ns h7]
    exact fun v Z' H' g r => rpb r
  · obtain ⟨_, _, _, _, _, _, _, _, _, _, _, _, z⟩ := z
    exact z
end Pz

set_option maxHeartbeats 1000000
/-! The plain layer: caught exceptions, the def that tells them apart, a function picked out of a list. -/
namespace Pz
open PySem PySem.Spec PyProof.Rows L2 L2H

theorem rhu {k : Nat} {A : Around} (r : RoomH k A) : A.units + 64 < cLine := by have := r.un; omega
/-! ### count, index of a truth in an own list of truths -/
def rCntB (K : PySem.W.Frag) : V → List V → Hp → VK → Prop := fun x xs H Q => ∃ (p : Addr) (bs : List Bool), x = .ref p ∧ xs = [.bl true] ∧ SqL K H p (bs.map V.bl) ∧ Q (.int (bs.count true : Nat)) H
def rIndB (K : PySem.W.Frag) : V → List V → Hp → VK → Prop := fun x xs H Q => ∃ (p : Addr) (bs : List Bool) (j : Nat), x = .ref p ∧ xs = [.bl true] ∧ SqL K H p (bs.map V.bl) ∧ bs.findIdx? id = some j ∧ bs.length ≤ 1000 ∧ Q (.int (j : Nat)) H
theorem dp_bools {K : PySem.W.Frag} {H : Hp} : ∀ bs : List Bool, DpAll K H (bs.map V.bl) (bs.map .bool)
  | [] => .nil
  | b :: bs => .cons (.bl b) (dp_bools bs)
theorem plain_bools : ∀ bs : List Bool, PyData.plainAll (bs.map .bool) = true
  | [] => rfl
  | b :: bs => by rw [List.map_cons, PyData.plainAll, plain_bools bs]; rfl
theorem depth_bools : ∀ bs : List Bool, PyData.depthAll (bs.map .bool) = 0
  | [] => rfl
  | b :: bs => by rw [List.map_cons, PyData.depthAll, depth_bools bs]; rfl
theorem eqv_bool (y b : Bool) : PyData.eqv (.bool y) (.bool b) = (y == b) := by cases y <;> cases b <;> rfl
theorem mt_countB {X : Cx} (hu : X.A.units + 1 < cLine) : MtR X "list.count" (rCntB X.K) := by
  intro pins s σ H x xs v us Q I rx rxs h
  obtain ⟨p, bs, rfl, rfl, hs, q⟩ := h
  have dl : Dp X.K H (.ref p) (.list (bs.map .bool)) := .lst hs (dp_bools bs)
  obtain ⟨u, rfl, ru⟩ := rxs.one
  obtain ⟨as, rd⟩ := Dp.reads I _ _ _ dl rx
  obtain ⟨bs', rb⟩ := Dp.reads I (.bool true) _ _ (.bl true) ru
  cases rx
  cases rd with
  | list h1 h2 h3 h4 =>
    refine PySem.SeqAt.count_list_data ⟨_, h1, h2, _, h3⟩ h4 rb (plain_bools bs) rfl (by rw [depth_bools]; omega) ?_
    have e : (bs.map PyData.bool).countP (fun y => PyData.eqv y (.bool true)) = bs.count true := by
      rw [List.countP_map]
      rfl
    rw [e]
    exact ⟨.int (bs.count true : Nat), H, I.tok _, ⟨s.toks, rfl⟩, q⟩
theorem mt_indexB {X : Cx} (hu : X.A.units + 1 < cLine) : MtR X "list.index" (rIndB X.K) := by
  intro pins s σ H x xs v us Q I rx rxs h
  obtain ⟨p, bs, j, rfl, rfl, hs, ej, lim, q⟩ := h
  have dl : Dp X.K H (.ref p) (.list (bs.map .bool)) := .lst hs (dp_bools bs)
  obtain ⟨u, rfl, ru⟩ := rxs.one
  obtain ⟨as, rd⟩ := Dp.reads I _ _ _ dl rx
  obtain ⟨bs', rb⟩ := Dp.reads I (.bool true) _ _ (.bl true) ru
  cases rx
  cases rd with
  | list h1 h2 h3 h4 =>
    have e : PySem.SeqAt.dataPlace (bs.map PyData.bool) (.bool true) = some j := by
      unfold PySem.SeqAt.dataPlace
      rw [List.findIdx?_map, ← ej]
      congr 1
      funext y
      cases y <;> rfl
    obtain ⟨hj, hit, hno⟩ := PySem.SeqAt.hit_at h4 (plain_bools bs) e
    have hl := PySem.SeqAt.len_at h4
    rw [List.length_map] at hl
    have isl : s.heap.IsList p _ := ⟨_, h1, h2, _, h3⟩
    obtain ⟨⟨cls, dd, data, sl⟩, ho, hc, n, hd'⟩ := id isl
    simp only at hc hd'
    subst hc hd'
    exact call_meets PySem.F.slot_list_index ⟨_, ho, rfl⟩ PySem.F.entry_list_index (PySem.F.args_list_index_2 _ _) (PySem.SeqAt.list_indexAt p _ n dd sl _ _ j hj (by omega) hit hno)
      ⟨ho, PySem.SeqAt.items_plain h4 rb (plain_bools bs) rfl (by rw [depth_bools]; omega), ⟨.int (j : Nat), H, I.tok _, ⟨s.toks, rfl⟩, q⟩⟩
def fCount (i : Nat) : Fx := fun ρ => match ρ[i]? with
  | some (.own ds) => ofO (ds.mapM asB) >>= fun bs => .ok (.int (bs.count true : Nat))
  | _ => .bad
def fIndex (i : Nat) : Fx := fun ρ => match ρ[i]? with
  | some (.own ds) => ofO (ds.mapM asB) >>= fun bs => if bs.length ≤ 1000 then (ofO (bs.findIdx? id)) >>= fun j => .ok (.int (j : Nat)) else .bad
  | _ => .bad
section
variable {X : Cx} {W : WX} {e : Expr}
theorem pz_count {i : Nat} (h : PE X e (tBM X.K "list" (rCntB X.K) (tVar i) (tCons (tC (.bl true)) tNil))) : PE X e (tP X.K W (fCount i)) := PE.imp h fun σ H Q ⟨B, Z, ρ, E, h⟩ => by
  unfold fCount at h
  split at h
  rotate_left
  · exact h.elim
  rename_i ds e
  obtain ⟨l, xs, el, z, hl, r⟩ := E.sl i _ e
  obtain ⟨bs, eb, k⟩ := h.bind.ofO
  cases r.bls eb
  exact ⟨_, el, tyV_list hl, l, bs, rfl, rfl, SqL.of hl, k _ Z H .refl (.int _)⟩
theorem pz_index {i : Nat} (h : PE X e (tBM X.K "list" (rIndB X.K) (tVar i) (tCons (tC (.bl true)) tNil))) : PE X e (tP X.K W (fIndex i)) := PE.imp h fun σ H Q ⟨B, Z, ρ, E, h⟩ => by
  unfold fIndex at h
  split at h
  rotate_left
  · exact h.elim
  rename_i ds e
  obtain ⟨l, xs, el, z, hl, r⟩ := E.sl i _ e
  obtain ⟨bs, eb, k⟩ := h.bind.ofO
  split at k
  rotate_left
  · exact k.elim
  rename_i lim
  obtain ⟨j, ej, k⟩ := k.bind.ofO
  cases r.bls eb
  exact ⟨_, el, tyV_list hl, l, bs, j, rfl, rfl, SqL.of hl, ej, lim, k _ Z H .refl (.int _)⟩
end
/-! ### isinstance of a caught exception -/
def PinE (X : Cx) (a D : Addr) : Prop := ∃ oe : Obj, (a, oe) ∈ X.pn ∧ Zc (.ref D) none oe ∧ ∃ vs, oe.data = .fields vs
theorem cr_isE {X : Cx} {a D : Addr} (P : PinE X a D) (C : ExcC X.K D) : CallR X (.builtin "isinstance") (rIsE X.K D a) := by
  intro pins s σ H xs us Q I r h
  obtain ⟨c, cv, b, rfl, hcv, e, q⟩ := h
  obtain ⟨oe, hp, hz, hf⟩ := P
  cases r with
  | cons rx rr =>
    cases rr with
    | cons rt rr =>
      cases rr
      cases rx
      have ec := hcv _ rt
      subst ec
      obtain ⟨hget, _⟩ := I.pin (a, oe) (List.mem_append.mpr (.inl hp))
      obtain ⟨vs, hv⟩ := hf
      have J : PySem.W.InstAt s.heap a oe D none := by
        obtain ⟨oc, od, oda, osl⟩ := oe
        obtain ⟨h1, h2⟩ := hz
        dsimp only at h1 h2 hv
        subst h1 h2 hv
        exact ⟨hget, rfl, rfl, trivial⟩
      exact PySem.W.kia_one (PySem.W.handS_kitx_exc C.hg C.hk C.hs C.hd C.ha C.hn C.ht C.hm) I.kIn J e (fun z => nomatch z) fun tk => ⟨.bl b, H, I.kept (t' := tk) fun _ _ z => z, rfl, q⟩
def fIsE (i : Nat) (a : Addr) (b : Bool) : Fx := fun ρ => match ρ[i]? with
  | some (.raw (.ref a')) => if a' = a then .ok (.bool b) else .bad
  | _ => .bad
section
variable {X : Cx} {W : WX} {pos p p1 p2 : Pos} {x n : Str} {c : V} {cv : Value} {a D : Addr} {b : Bool}
theorem pz_isE (i : Nat) (P : PinE X a D) (C : ExcC X.K D) (hc : PE X (.Name n p2) (tC c)) (hcv : ∀ u, RelV c u → u = cv) (hk : PySem.W.kitOne X.K (.ref D) cv = some b) (hg : Gl X "isinstance") (hm : X.mg "isinstance" = none)
    (hN : X.N[i]? = some x := by rfl) (hv : Vis X.env.scope x := by first | exact Or.inl rfl | exact Or.inr (Or.inl rfl) | exact Or.inr (Or.inr rfl)) (hd : (x == ("__debug__" : Str)) = false := by decide) (hcd : (x == ("__classdict__" : Str)) = false := by decide)
    (he : starEach [.Name x p1, .Name n p2] X.env = (false, eval (.Name x p1) X.env) :: starEach [.Name n p2] X.env := by rfl) (he2 : starEach [.Name n p2] X.env = (false, eval (.Name n p2) X.env) :: starEach [] X.env := by rfl) (hpl : (backTo pos (starEach [.Name n p2] X.env)).any (·.1) = false := by rfl) :
    PE X (.Call (.Name "isinstance" p) [.Name x p1, .Name n p2] [] pos) (tP X.K W (fIsE i a b)) := by
  refine PE.imp (pe_callB (cr_isE P C) hg hm PyProof.Rows.boot_isinstance (pa_cons (pe_var hN hv hd hcd) (pa_cons hc pa_nil he2) he) (by decide) (by decide) he hpl) fun σ H Q ⟨B, Z, ρ, E, h⟩ => ?_
  unfold fIsE at h
  split at h
  · rename_i a' e
    split at h
    · rename_i e2
      subst e2
      have q : σ[i]? = some (some (.ref a')) := E.sl i _ e
      exact ⟨_, q, c, cv, b, rfl, hcv, hk, h _ Z H .refl (.bl b)⟩
    · exact h.elim
  · exact h.elim
end
/-! ### a def called within an except suite, with the exception -/
structure FnZ (P : Program) (w : World) (K : PySem.W.Frag) (mg : Str → Option Value) (base : Heap) (k : Nat) (f : Addr) (fd : FuncData) (ps : List Str) (sp : Addr × Obj → Sp) : Prop where
  len : ∀ p vs H Q E, sp p vs H Q E → vs.length = ps.length
  run : ∀ (A : Around) (outer : List PySem.Env) (s : Shared) (H : Hp) (args : Args) (us : List Value) (vs : List V) (Q : VK) (E : XK) (p : Addr × Obj), RoomH k A → PinOk outer H s p → Env0 P w K mg base A outer s H → BindsTo s fd args (ps.zip us) → Vals vs us → sp p vs H Q E →
    codeAny (model P w) A (.call (.ref f) args) (CR (L2.CX P w) outer P w H s Q E) s
theorem fn_ofZ {P : Program} {w : World} {K : PySem.W.Frag} {mg : Str → Option Value} {base : Heap} {k : Nat} {f : Addr} {name qual : Str} {params : Arguments} {body : List Stmt} {scope : Scope} {dV kV doc pm cdv ct oc : Value} {an od : Option Addr}
    {osl : Array (Option Value)} {N ps : List Str} {sp : Addr × Obj → Sp} (lk : K.lookup f = some ⟨oc, od, .func (PySem.W.fnOf name qual params body scope dV kV doc pm an cdv ct), osl⟩) (hcd : PySem.W.codeIn K cdv qual = true) (S : FnScope N ps scope)
    (len : ∀ p vs H Q E, sp p vs H Q E → vs.length = ps.length)
    (hbody : ∀ (A : Around) (outer : List PySem.Env) (s : Shared) (H : Hp) (vs : List V) (Q : VK) (E : XK) (p : Addr × Obj), RoomH k (A.deeper (envOfC qual scope s.heap.objs.size f cdv)) → sp p vs H Q E →
      ∃ t, PSs (cxH (L2.CX P w) P w K mg base N qual scope f cdv A outer s H E p) body t ∧ t { nx := fun _ H' => Q .non H', rt := Q } (L2.start N vs) H) :
    FnZ P w K mg base (k + 1) f (PySem.W.fnOf name qual params body scope dV kV doc pm an cdv ct) ps sp := by
  refine ⟨len, fun A outer s H args us vs Q E p hr hpin e0 hb r hsp => ?_⟩
  have hl := len _ _ _ _ _ hsp
  have KX : K.In s.heap := e0.mod.kin.keeps fun b o e => (e0.bs b o e).1
  have lim : s.heap.NoLimit := e0.mod.nolimit.keeps fun b o e => (e0.bs b o e).1
  have hkind : ∀ y ∈ ps.zip us, scope.names.lookup y.1 = some .local ∨ (scope.names.lookup y.1 = some .cell ∧ ((cellsFrom (s.heap.objs.size + 1) scope.names []).lookup y.1).isSome = true) := fun ⟨n, v⟩ hy => by
    rcases S.par n (List.of_mem_zip hy).1 with q | q
    · exact .inl q
    · exact .inr ⟨q, PySem.W.cellsFrom_some _ _ _ (.inl q)⟩
  refine codeAny_call_function hr.depth (KX _ _ lk) rfl S.co S.gen rfl (PySem.W.codeRec_of KX hcd) (hb _ _ _ _ ?_)
  refine wpAny_newFunctionEnv_cells S.kind hkind fun env he s1 x => ?_
  subst he
  refine ⟨lim.keeps x.toInCall.keep, codeAny_func ?_⟩
  obtain ⟨t, ht, hq⟩ := hbody A outer s H vs Q E p (hr.deeper _) hsp
  have I : Inv (cxH (L2.CX P w) P w K mg base N qual scope f cdv A outer s H E p) [] (L2.start N vs) H s1 := inv_startH S hpin e0 hl r x
  refine wpAny_mono (ht.run [] s1 (L2.start N vs) H _ I hq) (fun fl s' hs => ?_) fun e s' hs => hs
  have fin : ∀ {σ' : L2.St} {H' : Hp} {v : V} {u : Value}, Inv (cxH (L2.CX P w) P w K mg base N qual scope f cdv A outer s H E p) [] σ' H' s' → RelV v u → Q v H' → CE outer P w H s Q u s' :=
    fun {σ' H' v u} J rv q => ⟨v, H', J.os, J.bare, J.base, J.hok, rv, q⟩
  cases fl with
  | ret u =>
    obtain ⟨v, σ', H', J, rv, q⟩ := hs
    exact fin J rv q
  | next =>
    obtain ⟨σ', H', J, q⟩ := hs
    exact fin (v := V.non) (u := Value.none) J rfl q
  | brk =>
    obtain ⟨_, _, _, q⟩ := hs
    exact False.elim q
  | cont =>
    obtain ⟨_, _, _, q⟩ := hs
    exact False.elim q
theorem run_fnZ {X : Cx} {k : Nat} {f : Addr} {fd : FuncData} {ps : List Str} {sp : Addr × Obj → Sp} {p : Addr × Obj} {pins : List (Addr × Obj)} {σ : L2.St} {H : Hp} {s : Shared} {Q : VK} {us : List Value} {vs : List V} (F : FnZ X.prog X.w X.K X.mg X.base k f fd ps sp) (hr : RoomH k X.A) (hp : p ∈ X.pn) (hb : Binds X.K fd ps [])
    (I : Inv X pins σ H s) (r : Vals vs us) (h : sp p vs H Q (fun _ _ _ => False)) : wpAny (model X.prog X.w) X.A (call (.ref f) us) (EP X pins σ Q) X.xe s := by
  have hl : us.length = ps.length := by rw [← r.length]; exact F.len _ _ _ _ _ h
  have b := hb s us I.kIn (by rw [List.append_nil]; exact hl)
  rw [List.append_nil] at b
  have P1 := I.pin p (List.mem_append_left _ hp)
  have hpin : PinOk X.stack H s p := ⟨P1.1, P1.2.1, fun hm => (List.mem_cons.mp (I.stkSub p.1 hm)).elim P1.2.2.1 P1.2.2.2.1, P1.2.2.2.2⟩
  refine wpAny_call (codeAny_mono (F.run X.A X.stack s H ⟨us, []⟩ us vs Q _ p hr hpin I.env0 b r h) fun r s' hq => ?_)
  cases r with
  | error e =>
    obtain ⟨_, _, _, _, _, _, _, _, _, _, _, _, z⟩ := (show L2.CX X.prog X.w X.stack H s (fun _ _ _ => False) e s' from hq)
    exact z.elim
  | ok fl =>
    cases fl with
    | ret u => exact I.after hq
    | next => exact False.elim hq
    | brk => exact False.elim hq
    | cont => exact False.elim hq
/-- what the def answers by the exception's class's name -/
abbrev Rf := Str → Option D
def spZ (K : PySem.W.Frag) (r : Rf) (p : Addr × Obj) : Sp := fun vs H Q _ => vs = [.ref p.1] ∧ ∃ (y : Str) (dd : D) (Z : Addr → Prop), Zc (.ref (He.ga K y)) none p.2 ∧ (∃ fs, p.2.data = .fields fs) ∧ (∀ a, Z a → H a ≠ none) ∧ r y = some dd ∧ KP K Z H dd Q
structure RefOk (P : Program) (w : World) (K : PySem.W.Frag) (mg : Str → Option Value) (base : Heap) (x : Str) (k : Nat) (r : Rf) : Prop where
  ex : ∃ (fd : FuncData) (ps : List Str), FnZ P w K mg base k (He.ga K x) fd ps (spZ K r) ∧ Binds K fd ps [] ∧ ps.length = 1
  mg : mg x = some (.ref (He.ga K x))
  kp : PySem.W.keepIn K (.ref (He.ga K x)) = true
theorem start_raw {K : PySem.W.Frag} {Z : Addr → Prop} {H : Hp} (zt : ∀ a, Z a → H a ≠ none) {N : List Str} (hl : 1 ≤ N.length) (v : V) : EnvOk K ⟨Z, H⟩ Z H (L2.start N [v]) (.raw v :: List.replicate (N.length - 1) .no) where
  len := by unfold L2.start; simp
  sl := fun i s h => by
    cases i with
    | zero => cases h; rfl
    | succ i =>
      rw [List.getElem?_cons_succ, List.getElem?_replicate] at h
      split at h <;> cases h
      trivial
  ap := fun i j a s t _ h _ o => by
    have : s.isOwn = false := by
      cases i with
      | zero => cases h; rfl
      | succ i =>
        rw [List.getElem?_cons_succ, List.getElem?_replicate] at h
        split at h <;> cases h
        rfl
    rw [this] at o; cases o
  on := fun i s a h o => by
    have : s.isOwn = false := by
      cases i with
      | zero => cases h; rfl
      | succ i =>
        rw [List.getElem?_cons_succ, List.getElem?_replicate] at h
        split at h <;> cases h
        rfl
    rw [this] at o; cases o
  zt := zt
  zs := fun _ h => h
  zn := fun _ h => .inl h
  hs := fun _ _ h => h
theorem ref_ok {P : Program} {w : World} {K : PySem.W.Frag} {mg : Str → Option Value} {base : Heap} {x : Str} {k : Nat} {qual : Str} {params : Arguments} {body : List Stmt} {scope : Scope} {fd : FuncData} {N ps : List Str} {F : Addr → Str → Fs} {r : Rf} (D : FunD K x qual params body scope [] [] (He.ga K x) fd) (gm : mg x = some (.ref (He.ga K x))) (S : FnScope N ps scope) (hl : 1 ≤ N.length) (hn : ps.length = 1)
    (hbd : ∀ (kV doc pm : Value) (an : Option Addr) (cdv ct : Value) (us : List Value), us.length = ps.length → bindArgs (PySem.W.fnOf x qual params body scope .none kV doc pm an cdv ct) ⟨us, []⟩ = pure (ps.zip us))
    (hm : ∀ y dd, r y = some dd → ∀ a, F a y (.raw (.ref a) :: List.replicate (N.length - 1) .no) = .rt dd)
    (hb : ∀ (cdv : Value) (A : Around) (outer : List PySem.Env) (s : Shared) (H : Hp) (E : XK) (p : Addr × Obj) (y : Str) (dd : Pz.D), r y = some dd → RoomH k (A.deeper (PyProof.Rows.envOfC qual scope s.heap.objs.size (He.ga K x) cdv)) → PinE (cxH (L2.CX P w) P w K mg base N qual scope (He.ga K x) cdv A outer s H E p) p.1 (He.ga K y) →
      PSs (cxH (L2.CX P w) P w K mg base N qual scope (He.ga K x) cdv A outer s H E p) body (tS K W0 (F p.1 y))) : RefOk P w K mg base x (k + 1) r := by
  obtain ⟨oc, od, dV, kV, doc, pm, an, cdv, ct, osl, rfl, lk, hcd, _, _⟩ := id D.ex
  refine ⟨⟨_, ps, fn_ofZ (sp := spZ K r) lk hcd S (fun p vs H Q E h => by rw [h.1, hn]; rfl) (fun A outer s H vs Q E p hr h => ?_), D.bindsN hbd, hn⟩, gm, D.kp⟩
  obtain ⟨rfl, y, dd, Z, hz, hf, zt, ey, k⟩ := h
  refine ⟨_, hb cdv A outer s H E p y dd ey hr ⟨p.2, List.mem_singleton.mpr rfl, hz, hf⟩, ⟨Z, H⟩, Z, _, start_raw zt hl _, ?_⟩
  rw [hm y dd ey p.1]
  exact fun v Z' H' b r => k v Z' H' b r
/-! ### try: .. except X as e: return f(e) -/
def sTry (i : Nat) (F : Fs) (r : Rf) : Fs := fun ρ => match F ρ with
  | .exc x ρ' => if i < ρ'.length then (match r x with
    | some d => .rt d
    | none => .bad) else .bad
  | fl => fl
section
variable {X : Cx} {W : WX} {x n h : Str} {c : Value} {k i : Nat} {body : List Stmt} {np p1 p2 p3 p4 pos pos' : Pos} {F : Fs} {r : Rf}
theorem pe_callZ {a : Addr} {oe : Obj} {cls : Value} {d : Option Addr} {pn : List (Addr × Obj)} (hz : Zc cls d oe) (hf : ∃ vs, oe.data = .fields vs) (G : RefOk X.prog X.w X.K X.mg X.base h k r) (hr : Room k X.A) (hg : Gl X h) (hi : X.N[i]? = some n) (hln : X.env.kindOf n = some .local)
    (hdb : (h == ("__debug__" : Str)) = false) (hd : (n == ("__debug__" : Str)) = false) (hcd : (n == ("__classdict__" : Str)) = false)
    (he : starEach [.Name n p2] X.env = (false, eval (.Name n p2) X.env) :: starEach [] X.env) (hpl : (backTo p3 (starEach [] X.env)).any (·.1) = false) :
    PE (X.suite a ((a, oe) :: pn)) (.Call (.Name h p1) [.Name n p2] [] p3) (fun σ H Q => σ[i]? = some (some (.ref a)) ∧ d = none ∧ ∃ (y : Str) (dd : D) (Z : Addr → Prop), cls = .ref (He.ga X.K y) ∧ (∀ b, Z b → H b ≠ none) ∧ r y = some dd ∧ KP X.K Z H dd Q) := by
  obtain ⟨fd, ps, F, hb, hp⟩ := G.ex
  refine ⟨fun pins s σ H Q I q => ?_⟩
  obtain ⟨hσ, hdn, y, dd, Z, hcls, zt, hr2, kk⟩ := q
  subst hdn hcls
  refine wpAny_Call_Name_kw (ld_glob I hg G.mg ?_ hdb)
  refine PySem.W.callWith_K (h₀ := X.base) I.ok.mod.kin G.kp (thn ((pa_cons (X := X.suite a ((a, oe) :: pn)) (pe_var hi (.inl hln) hd hcd) pa_nil he).run p3 pins s σ H (fun vs H2 => vs = [.ref a] ∧ H2 = H) I ⟨_, hσ, rfl, rfl⟩) fun us s1 ⟨vs, H1, I1, r1, e1, e2⟩ => ⟨I1.kIn, ?_⟩) he hpl
  subst e1 e2
  exact run_fnZ (X := X.suite a ((a, oe) :: pn)) (p := (a, oe)) F ⟨hr.dp, hr.un⟩ List.mem_cons_self hb I1 r1 ⟨rfl, y, dd, Z, hz, hf, zt, hr2, kk⟩
theorem sz_try (hs : X.stack = X.env :: X.outer) (hfr : X.env.frame = some X.env.locals) (hN : X.N.Nodup) (hi : X.N[i]? = some n) (hln : X.env.kindOf n = some .local) (hc : Names X x c) (tk : Takes X W)
    (hcat : ∀ y d, r y = some d → PySem.W.exmOne X.K (.ref (He.ga X.K y)) c = some true)
    (hb : ∀ (W : WX) (pn : List (Addr × Obj)) (xe : Value → Shared → Prop), Takes (X.tr pn xe) W → PassesOwn (model X.prog X.w) X.A X.env xe → PSs (X.tr pn xe) body (tS X.K W F))
    (G : RefOk X.prog X.w X.K X.mg X.base h k r) (hr : Room k X.A) (hg : Gl X h) (hdb : (h == ("__debug__" : Str)) = false := by decide) (hd : (n == ("__debug__" : Str)) = false := by decide) (hcd : (n == ("__classdict__" : Str)) = false := by decide)
    (he : starEach [.Name n p2] X.env = (false, eval (.Name n p2) X.env) :: starEach [] X.env := by rfl) (hpl : (backTo p3 (starEach [] X.env)).any (·.1) = false := by rfl) :
    PS X (.Try body [.ExceptHandler (some (.Name x np)) (some n) [.Return (some (.Call (.Name h p1) [.Name n p2] [] p3)) p4] pos'] [] [] pos) (tS X.K W (sTry i F r)) := by
  refine PS.imp (ps_try_as (Wout := W) (tb := fun W => tS X.K W F) (ts := fun a cls d D σ H => σ[i]? = some (some (.ref a)) ∧ d = none ∧ ∃ (y : Str) (dd : Pz.D) (Z : Addr → Prop), cls = .ref (He.ga X.K y) ∧ (∀ b, Z b → H b ≠ none) ∧ r y = some dd ∧ KP X.K Z H dd D.rt)
    hs hfr hN hi hln hc tk hb (fun a oe cls d pn hz hf => ?_)) fun D σ H ⟨B, Z, ρ, E, q⟩ => ⟨B, Z, ρ, E, ?_⟩
  · exact PSs.imp (pss_one (ps_ret (pe_callZ hz hf G hr hg hi hln hdb hd hcd he hpl))) fun D σ H q => q
  · unfold sTry at q
    cases e : F ρ with
    | nx ρ' => rw [e] at q; exact q
    | rt d => rw [e] at q; exact q
    | bk ρ' => rw [e] at q; exact q
    | ct ρ' => rw [e] at q; exact q
    | bad => rw [e] at q; exact q
    | exc y ρ' =>
      simp only [e] at q
      split at q
      rotate_left
      · exact q.elim
      rename_i hlt
      cases er : r y with
      | none => simp only [er] at q; exact q.elim
      | some dd =>
        simp only [er] at q
        exact fun σ' Z' H' E' => ⟨true, hcat y dd er, fun _ a na => ⟨by rw [List.getElem?_set_self (by rw [E'.len]; exact hlt)], rfl, y, dd, Z', rfl, E'.zt, er, fun v Z2 H2 g rr => q v Z2 H2 (E'.base.trans g) rr⟩, fun z => nomatch z⟩
end
/-! ### [f, g, ..][i](..) -/
inductive Picks (X : Cx) (k n : Nat) : List Expr → List Mf → List Addr → Prop
  | nil : Picks X k n [] [] []
  | cons {x : Str} {p : Pos} {m : Mf} {es : List Expr} {ms : List Mf} {as : List Addr} (G : Has X.prog X.w X.K X.mg X.base x k m n) (hg : Gl X x) (hd : (x == ("__debug__" : Str)) = false) (t : Picks X k n es ms as) : Picks X k n (.Name x p :: es) (m :: ms) (He.ga X.K x :: as)
theorem Picks.pa {X : Cx} {k n : Nat} : ∀ {es : List Expr} {ms : List Mf} {as : List Addr}, Picks X k n es ms as → PA X es (fun σ H Q => Q (as.map V.ref) H)
  | _, _, _, .nil => pa_nil
  | _, _, _, .cons G hg hd t => pa_cons (pe_glob (v := .ref _) hg G.mg rfl hd) t.pa rfl
theorem Picks.at {X : Cx} {k n : Nat} : ∀ {es : List Expr} {ms : List Mf} {as : List Addr}, Picks X k n es ms as → ∀ (j : Nat) (m : Mf), ms[j]? = some m → ∃ x, as[j]? = some (He.ga X.K x) ∧ Has X.prog X.w X.K X.mg X.base x k m n
  | _, _, _, .nil, j, m, h => by cases h
  | _, _, _, .cons G hg hd t, 0, m, h => by cases h; exact ⟨_, rfl, G⟩
  | _, _, _, .cons G hg hd t, j + 1, m, h => t.at j m h
theorem Picks.len {X : Cx} {k n : Nat} : ∀ {es : List Expr} {ms : List Mf} {as : List Addr}, Picks X k n es ms as → as.length = ms.length
  | _, _, _, .nil => rfl
  | _, _, _, .cons G hg hd t => by rw [List.length_cons, List.length_cons, t.len]
/-- few0: the list of names is short -/
def fPick (ms : List Mf) (f : Fx) (fs : Fxs) : Fx := fun ρ => if ms.length ≤ 1000 then f ρ >>= fun d => match d with
  | .int j => if 0 ≤ j then (match ms[j.toNat]? with
    | some m => fs ρ >>= m
    | none => .bad) else .bad
  | _ => .bad else .bad
section
variable {X : Cx} {W : WX} {k n : Nat} {ls : List Expr} {ms : List Mf} {as : List Addr} {e ie : Expr} {es : List Expr} {fi : Fx} {fs : Fxs} {lp sp pos : Pos}
theorem pz_pick (G : Picks X k n ls ms as) (hr : Room k X.A) (tk : Takes X W) (hi : PE X ie (tP X.K W fi)) (ha : PA X (e :: es) (tAs X.K W fs)) (hn : ∀ ρ ds, fs ρ = .ok ds → ds.length = n) (hs : PlainIx ie := by exact fun _ _ => rfl)
    (ht : eval (.Call (.Subscript (.List ls lp) ie sp) (e :: es) [] pos) X.env = (do callWith pos (← eval (.Subscript (.List ls lp) ie sp) X.env) [] (backTo pos (starEach (e :: es) X.env)) (backToKw pos (keywordEach [] X.env))) := by rfl)
    (he : starEach (e :: es) X.env = (false, eval e X.env) :: starEach es X.env := by rfl) (hpl : (backTo pos (starEach es X.env)).any (·.1) = false := by rfl) :
    PE X (.Call (.Subscript (.List ls lp) ie sp) (e :: es) [] pos) (tP X.K W (fPick ms fi fs)) := by
  have hf := pe_ix (b := ie) (pos := sp) ix_list (pe_lst (pos := lp) G.pa) hi hs
  refine ⟨fun pins s σ H Q I ⟨B, Z, ρ, E, h⟩ => ?_⟩
  unfold fPick at h
  split at h
  rotate_left
  · exact h.elim
  rename_i lim
  refine Call_ (thn (hf.run pins s σ H (fun y H1 => ∃ (m : Mf) (x : Str) (Z' : Addr → Prop), y = .ref (He.ga X.K x) ∧ Has X.prog X.w X.K X.mg X.base x k m n ∧ EnvOk X.K B Z' H1 σ ρ ∧ Grow Z H Z' H1 ∧ post (fun d => KP X.K Z H d Q) (xWish X.K Z H W σ) (fs ρ >>= m)) I ?_) fun u s1 ⟨y, H1, I1, ry, m, x, Z', ey, G2, E1, g1, h1⟩ => ?_) ht
  · refine ⟨by rw [List.length_map, G.len]; exact lim_line (by omega), fun p hp => ?_⟩
    have g0 : Grow Z H Z (upd H p (.lst (as.map V.ref))) := grow_upd hp
    refine ⟨B, Z, ρ, E.grow g0, h.bind.mono (fun d h1 v Z1 H1 g1 r1 => ?_) fun x w => w.grow g0⟩
    split at h1
    rotate_left
    · exact h1.elim
    rename_i j
    split at h1
    rotate_left
    · exact h1.elim
    rename_i hj
    split at h1
    rotate_left
    · exact h1.elim
    rename_i m em
    cases r1
    obtain ⟨x, ex, G2⟩ := G.at _ m em
    refine ⟨p, as.map V.ref, j, .ref (He.ga X.K x), rfl, rfl, SqL.of (g1.hs _ _ upd_same), ?_, m, x, Z1, rfl, G2, (E.grow g0).grow g1, g0.trans g1, h1⟩
    have ej : j = ((j.toNat : Nat) : Int) := by omega
    rw [ej]
    exact atI_nat (by rw [List.getElem?_map, ex]; rfl)
  · subst ey
    cases ry
    obtain ⟨fd, ps, F, hb, hp⟩ := G2.ex
    refine PySem.W.callWith_K (h₀ := X.base) I1.ok.mod.kin G2.kp (thn (ha.run pos pins s1 σ H1 (fun vs H2 => spP X.K m n (vs ++ []) H2 Q (WE W σ)) I1 ⟨B, Z', ρ, E1, ?_⟩) fun us s2 ⟨vs, H2, I2, r, q⟩ => ⟨I2.kIn, ?_⟩) he hpl
    · cases ea : fs ρ with
      | exc x => rw [ea] at h1; exact xWish.grow h1 g1
      | bad => rw [ea] at h1; exact h1
      | ok ds =>
        rw [ea] at h1
        intro vs Z2 H2 g2 r
        refine ⟨by rw [List.append_nil, r.length]; exact hn ρ ds ea, Z2, ds, g2.zt E1.zt, by rw [List.append_nil]; exact r, ?_⟩
        exact post.mono h1 (fun d k => k.grow (g1.trans g2)) fun x w => w.grow (g1.trans g2)
    · exact run_fnSD F hr hb .nil (passAt tk σ) I2 r q
end
end Pz

set_option maxHeartbeats 1000000
/-! The plain layer: what the head says of exception classes. -/
namespace Pz
open PySem PySem.Spec L2
/-- all own exceptions stand right below FormError -/
def exSub (y c : Str) : Bool := decide (y = c) || decide (c = "FormError")
def tabR (l : List (Str × D)) : Rf := fun y => (l.find? fun p => decide (p.1 = y)).map (·.2)
theorem tabR_mem {l : List (Str × D)} {y : Str} {d : D} (h : tabR l y = some d) : (y, d) ∈ l := by
  unfold tabR at h
  cases e : l.find? fun p => decide (p.1 = y) with
  | none => rw [e] at h; cases h
  | some p =>
    rw [e] at h
    have h1 := List.mem_of_find?_eq_some e
    have h2 : p.1 = y := of_decide_eq_true (List.find?_some (p := fun p : Str × D => decide (p.1 = y)) e)
    cases h
    rw [← h2]
    exact h1
def excCB (K : PySem.W.Frag) (D : Addr) : Bool :=
  decide (PySem.W.findIn K (.ref D) "__getattribute__" = some (some (.builtin "BaseException.__getattribute__"))) && (decide (PySem.W.findIn K (.ref D) "__getattr__" = some none) && (decide (PySem.W.subIn K (.ref D) (.type "BaseException") = some true) && (PySem.W.hasDictIn K D && (
  decide (PySem.W.findIn K (.ref D) "__class__" = some (some (.builtin "object.__class__"))) && (decide (PySem.W.specialIn K (.builtin "object.__class__") "__get__" = some (some (.builtin "getset_descriptor.__get__"))) && (decide (PySem.W.takesIn K (.builtin "object.__class__") = some true) && decide (PySem.W.mroIn K D (.type "object") = some true)))))))
theorem excCB_ok {K : PySem.W.Frag} {D : Addr} (h : excCB K D = true) : ExcC K D := by
  unfold excCB at h
  simp only [Bool.and_eq_true, decide_eq_true_eq] at h
  obtain ⟨h1, h2, h3, h4, h5, h6, h7, h8⟩ := h
  exact ⟨h1, h2, h3, h4, h5, h6, h7, h8⟩
def exB (ns : List Str) (K : PySem.W.Frag) : Bool := ns.all fun y => excCB K (He.ga K y) && ((ns.all fun c => decide (PySem.W.kitOne K (.ref (He.ga K y)) (.ref (He.ga K c)) = some (exSub y c))) && (decide (PySem.W.kitOne K (.ref (He.ga K y)) (.type "ValueError") = some true) && decide (PySem.W.exmOne K (.ref (He.ga K y)) (.ref (He.ga K "FormError")) = some true)))
structure ExF (ns : List Str) (K : PySem.W.Frag) : Prop where
  ec : ∀ y ∈ ns, ExcC K (He.ga K y)
  kit : ∀ y ∈ ns, ∀ c ∈ ns, PySem.W.kitOne K (.ref (He.ga K y)) (.ref (He.ga K c)) = some (exSub y c)
  kitT : ∀ y ∈ ns, PySem.W.kitOne K (.ref (He.ga K y)) (.type "ValueError") = some true
  cat : ∀ y ∈ ns, PySem.W.exmOne K (.ref (He.ga K y)) (.ref (He.ga K "FormError")) = some true
theorem exB_ok {ns : List Str} {K : PySem.W.Frag} (h : exB ns K = true) : ExF ns K := by
  have q : ∀ y ∈ ns, _ := List.all_eq_true.mp h
  simp only [Bool.and_eq_true, decide_eq_true_eq, List.all_eq_true] at q
  exact ⟨fun y hy => excCB_ok (q y hy).1, fun y hy => (q y hy).2.1, fun y hy => (q y hy).2.2.1, fun y hy => (q y hy).2.2.2⟩
theorem hu2 {n : Nat} (h : n + 64 < cLine) : n + 1 < cLine := by omega
/-! ### the hook -/
abbrev AlE : Type := Bool × He.AlD
def obsE (ex : PySem.W.Frag → Bool) (fa : List He.Fa) (fn : List He.DefD) (K : PySem.W.Frag) : AlE := (ex K, He.obsD fa fn K)
def SaysE (ex : PySem.W.Frag → Bool) (fa : List He.Fa) (fn : List He.DefD) (K : PySem.W.Frag) : Prop := ex K = true ∧ He.SaysD fa fn K
def obsEG (n : Nat) (ex : PySem.W.Frag → Bool) (fa : List He.Fa) (fn : List He.DefD) (g : Addr → Option Obj) : AlE := obsE ex fa fn (He.frG g (He.asD g n))
def hookE (n : Nat) (ex : PySem.W.Frag → Bool) (fa : List He.Fa) (fn : List He.DefD) : PySem.W.Hook where
  α := AlE
  obs := fun s => obsEG n ex fa fn s.heap.get?
  val := fun _ => (true, He.valD fn)
  says := fun _ h => ∃ K : PySem.W.Frag, K.In h ∧ SaysE ex fa fn K
  of := fun _ _ e => ⟨_, He.frG_in, congrArg (fun z : AlE => z.1) e, congrArg (fun z : AlE => z.2) e⟩
  keeps := fun _ _ _ ⟨K, hK, c⟩ k => ⟨K, PySem.W.Frag.In.keeps hK k, c⟩
theorem obsEG_eq {n : Nat} {ex : PySem.W.Frag → Bool} {fa : List He.Fa} {fn : List He.DefD} {g : Addr → Option Obj} {s : Shared} (h : ∀ a, g a = s.heap.get? a) : obsEG n ex fa fn g = (hookE n ex fa fn).obs s := by
  have e : g = s.heap.get? := funext h
  rw [e] <;> rfl
@[simp] theorem u_fIsE (i : Nat) (a : Addr) (b : Bool) (ρ : Env) : fIsE i a b ρ = (match ρ[i]? with | some (.raw (.ref a')) => if a' = a then .ok (.bool b) else .bad | _ => .bad) := rfl
@[simp] theorem u_fCount (i : Nat) (ρ : Env) : fCount i ρ = (match ρ[i]? with | some (.own ds) => ofO (ds.mapM asB) >>= fun bs => .ok (.int (bs.count true : Nat)) | _ => .bad) := rfl
@[simp] theorem u_fIndex (i : Nat) (ρ : Env) : fIndex i ρ = (match ρ[i]? with | some (.own ds) => ofO (ds.mapM asB) >>= fun bs => if bs.length ≤ 1000 then (ofO (bs.findIdx? id)) >>= fun j => .ok (.int (j : Nat)) else .bad | _ => .bad) := rfl
@[simp] theorem u_sTry (i : Nat) (F : Fs) (r : Rf) (ρ : Env) : sTry i F r ρ = (match F ρ with | .exc x ρ' => if i < ρ'.length then (match r x with | some d => .rt d | none => .bad) else .bad | fl => fl) := rfl
@[simp] theorem u_fPick (ms : List Mf) (f : Fx) (fs : Fxs) (ρ : Env) : fPick ms f fs ρ = (if ms.length ≤ 1000 then f ρ >>= fun d => match d with | .int j => if 0 ≤ j then (match ms[j.toNat]? with | some m => fs ρ >>= m | none => .bad) else .bad | _ => .bad else .bad) := rfl
end Pz

set_option maxHeartbeats 4000000
/-! The plain layer: x[a::3] of lists. -/
namespace Pz
open PySem PySem.Spec L2 PyProof.Rows
def pickD {α : Type} (lo : Int) (xs : List α) : List α := (sliceRange (sliceBounds (some lo) none (some 3) xs.length).1 (sliceBounds (some lo) none (some 3) xs.length).2.1 (sliceBounds (some lo) none (some 3) xs.length).2.2).filterMap (xs[·]?)
theorem pickD_mem {α : Type} {lo : Int} {xs : List α} {x : α} (h : x ∈ pickD lo xs) : x ∈ xs := by
  unfold pickD at h
  obtain ⟨i, _, e⟩ := List.mem_filterMap.mp h
  exact List.mem_of_getElem? e
theorem pickD_len {α : Type} (lo : Int) (xs : List α) : (pickD lo xs).length ≤ xs.length := by
  unfold pickD
  refine Nat.le_trans (List.length_filterMap_le _ _) (sliceRange_length_le _ _ _ _ (fun hc => ?_) fun hc => ?_)
  · simp only [sliceBounds] at hc ⊢
    simp only [hc, if_true]
    constructor <;> omega
  · simp [sliceBounds] at hc
theorem pickD_map {α β : Type} (f : α → β) (lo : Int) (xs : List α) : pickD lo (xs.map f) = (pickD lo xs).map f := by
  unfold pickD
  rw [List.length_map, List.map_filterMap]
  congr 1
  funext i
  rw [List.getElem?_map]
theorem RpAll.pick {K : PySem.W.Frag} {Z : Addr → Prop} {H : Hp} {xs : List V} {ds : List D} (r : RpAll K Z H xs ds) (is : List Nat) : RpAll K Z H (is.filterMap (xs[·]?)) (is.filterMap (ds[·]?)) := by
  induction is with
  | nil => exact .nil
  | cons i is ih =>
    rw [List.filterMap_cons, List.filterMap_cons]
    cases ed : ds[i]? with
    | none =>
      have : xs[i]? = none := by
        rw [List.getElem?_eq_none_iff] at ed ⊢
        rw [r.length]
        exact ed
      rw [this]
      exact ih
    | some d =>
      obtain ⟨v, ev, rv⟩ := r.get i d ed
      rw [ev]
      exact .cons rv ih
theorem vals_pick {xs : List V} {us : List Value} (r : Vals xs us) (is : List Nat) : Vals (is.filterMap (xs[·]?)) (is.filterMap (us[·]?)) := by
  induction is with
  | nil => exact .nil
  | cons i is ih =>
    rw [List.filterMap_cons, List.filterMap_cons]
    cases ed : xs[i]? with
    | none =>
      have : us[i]? = none := by
        rw [List.getElem?_eq_none_iff] at ed ⊢
        rw [← r.length]
        exact ed
      rw [this]
      exact ih
    | some d =>
      obtain ⟨v, ev, rv⟩ := r.get ed
      rw [ev]
      exact .cons rv ih
def dStep (d : D) (lo : Option Int) : Option D := match d, lo with
  | .list ds, some lo => if ds.length ≤ 1000000 then some (.list (pickD lo ds)) else none
  | _, _ => none
theorem dStep_is {d q : D} {o : Option Int} (h : dStep d o = some q) : ∃ ds l0, d = .list ds ∧ o = some l0 ∧ ds.length ≤ 1000000 ∧ q = .list (pickD l0 ds) := by
  unfold dStep at h
  split at h
  · rename_i ds lo
    split at h <;> cases h
    rename_i hz
    exact ⟨ds, lo, rfl, rfl, hz, rfl⟩
  · cases h
def fStep (a : Fx) (l : Fo) : Fx := fun ρ => a ρ >>= fun x => l ρ >>= fun l => ofO (dStep x l)
@[simp] theorem u_fStep (a : Fx) (l : Fo) (ρ : Env) : fStep a l ρ = (a ρ >>= fun x => l ρ >>= fun l => ofO (dStep x l)) := rfl
section
variable {X : Cx} {W : WX} {a : Expr} {lo : Option Expr} {fa : Fx} {fl : Fo} {j : Option Str} {p1 p2 pos : Pos}
theorem pz_step {k} (ha : PE X a (tO X.K W fa)) (hl : PO X lo (tPo X.K W fl)) : PE X (.Subscript a (.Slice lo none (some (.Constant (.int 3) k p1)) p2) pos) (tP X.K W (fStep fa fl)) := by
  refine ⟨fun pins s σ H Q I ⟨B, Z, ρ, E, h⟩ => ?_⟩
  refine Subscript_ (thn (ha.run pins s σ H (fun x H1 => ∃ d Z1, Grow Z H Z1 H1 ∧ RpT X.K Z1 H1 x d ∧ post (fun q => KP X.K Z H q Q) (xWish X.K Z H W σ) (fl ρ >>= fun l => ofO (dStep d l))) I ⟨B, Z, ρ, E, h.bind.mono (fun d h1 v Z1 H1 g1 r1 => ⟨d, Z1, g1, r1, h1⟩) fun _ w => w⟩) fun v s1 ⟨x, H1, I1, r1, d, Z1, g1, rt, h1⟩ => ?_)
  refine wpAny_Slice (thn (hl.run pins s1 σ H1 (fun o H2 => ∃ Z2, Grow Z1 H1 Z2 H2 ∧ post (fun q => KP X.K Z H q Q) (xWish X.K Z H W σ) (ofO (dStep d o))) I1 ⟨B, Z1, ρ, E.grow g1, h1.bind.mono (fun o h2 Z2 H2 g2 => ⟨Z2, g2, h2⟩) fun _ w => w.grow g1⟩) fun vl s2 ⟨l, H2, I2, pl, Z2, g2, h2⟩ => ?_)
  refine thn (po_none.run pins s2 σ H2 (fun o H3 => o = none ∧ H3 = H2) I2 ⟨rfl, rfl⟩) fun vu s3 ⟨u, H3, I3, pu, eu, e3⟩ => ?_
  subst eu e3
  have hst : PO X (some (.Constant (.int 3) k p1)) (tPart (tC (.int 3))) := po_some pe_int
  refine thn (hst.run pins s3 σ H3 (fun o H4 => o = some 3 ∧ H4 = H3) I3 ⟨3, rfl, rfl, rfl⟩) fun vs s4 ⟨o, H4, I4, ps, eo, e4⟩ => ?_
  subst eo e4
  obtain ⟨q, eq, kq⟩ := h2.ofO
  obtain ⟨ds, l0, e1, e2, hz0, e3⟩ := dStep_is eq
  subst e1 e2 e3
  obtain ⟨p, xs, ex, hp, rr⟩ := rpl (rt.grow g2)
  subst ex
  cases r1
  have I5 : Inv X pins σ H4 { s4 with heap := s4.heap.push { cls := .type "slice", data := .fields #[vl, vu, vs] } } := I4.kept (t' := s4.toks) fun b ob q => Heap.get?_push_of_some _ q
  obtain ⟨its, r, ht, hz⟩ := I5.list (SqL.of hp)
  have hlen := r.length
  show wpAny (model X.prog X.w) X.A (subscriptTail a (.Slice lo none (some (.Constant (.int 3) k p1)) p2) (.ref p) (.ref s4.heap.objs.size)) (EP X pins σ Q) X.xe { s4 with heap := s4.heap.push { cls := .type "slice", data := .fields #[vl, vu, vs] } }
  refine tail_any (ops := [.ref p, .ref s4.heap.objs.size]) ht.isList.typeIs (PySem.slot_list_getitem.lookup) ?_ (by with_unfolding_all rfl)
  refine wpAny_getItem_list_slice ht.isList (Heap.IsSliceOf.new _ vl vu vs) pl pu ps (by decide) ?_ (by rw [List.size_toArray]; omega)
  have pk : slicePick its.toArray (some l0) none (some 3) = (pickD l0 its).toArray := by
    unfold slicePick pickD
    rw [List.size_toArray]
    congr 2
    funext i
    simp
  rw [pk]
  have rv : Vals (pickD l0 xs) (pickD l0 its) := by
    unfold pickD
    rw [hlen]
    exact vals_pick r _
  have rd : RpAll X.K Z2 H4 (pickD l0 xs) (pickD l0 ds) := by
    unfold pickD
    rw [rr.length]
    exact rr.pick _
  have lz : (pickD l0 xs).length ≤ sizeLine := Nat.le_trans (pickD_len l0 xs) hz
  have Gz := g1.trans g2
  have kn : KN X.K Z2 H4 (pickD l0 ds) Q := (kq.grow Gz).kn
  exact ⟨.ref _, _, I5.laid (t' := s4.toks) (o := .lst (pickD l0 xs)) (fun b ob q => Heap.get?_push_of_some _ q) (Nat.le_refl _) ⟨lz, _, 0, rv, Heap.get?_push_size _ rfl⟩, rfl, kn.lst (E.grow Gz).zt rd _ (I5.hok.fresh (Nat.le_refl _))⟩
end
end Pz

set_option maxHeartbeats 4000000
/-! The plain layer: a list extended by a tuple. -/
namespace Pz
open PySem PySem.Spec L2 PyProof.Rows
section
open PySem.AutoSeq1 (wpAny_loadPart')
open PySem.MeetsSeq PySem.MeetsSeq2 PySem.MeetsSeq3
theorem list_extend_tup (l : Addr) (items : Array Value) (n : Nat) (b : Addr) (items2 : Array Value) (n2 : Nat) (dd : Option Addr) (sl : Array (Option Value)) (hs0 : ¬(!items.isEmpty && Builtin.List.listTooLong (items.size + items2.size)) = true) (hs1 : items.size ≤ sizeLine) (hs2 : items.size + items2.size ≤ sizeLine + 1) :
    Meets (Builtin.«list.extend» ⟨[.ref l, .ref b], []⟩) (fun _ R s => s.heap.get? l = some { cls := .type "list", dict := none, data := .seq items n, slots := #[] } ∧ s.heap.get? b = some { cls := .type "tuple", dict := dd, data := .seq items2 n2, slots := sl } ∧ R (.ok (.ret Value.none)) { s with heap := s.heap.update l (Obj.mapSeq fun x => x ++ items2), toks := s.toks }) :=
  .of_wp fun prog w A R s h => by
    obtain ⟨hp, g, d, tk, os⟩ := s; obtain ⟨hl, hb, h⟩ := h; have f1 := AutoSeq1.idx_int; have f2 := AutoSeq1.sub_tuple_tuple; have f3 := AutoSeq1.sub_list_list; have f4 := AutoSeq1.sub_tuple_list; have f5 := AutoSeq1.sub_list_tuple
    have hz' : (items ++ items2).size ≤ sizeLine + 1 := by rw [Array.size_append]; exact hs2
    wp_walk using (wpAny_updateSeq hl rfl (hz := hs1) (_hz' := hz')), wpAny_loadPart' hl, wpAny_loadPart' hb; exact ⟨_, rfl, h⟩
end
section
variable {X : Cx}
def rExtT (K : PySem.W.Frag) : V → List V → Hp → VK → Prop := fun x vs H Q => ∃ l b xs zs, x = .ref l ∧ vs = [.ref b] ∧ H l = some (.lst xs) ∧ SqT K H b zs ∧ xs.length + zs.length ≤ sizeLine ∧ Q .non (upd H l (.lst (xs ++ zs)))
theorem mt_extT : MtM X "list.extend" (rExtT X.K) := by
  intro pins s σ H x vs v us Q I rx rv h
  obtain ⟨l, b, xs, zs, rfl, rfl, hH, hB, hz, q⟩ := h
  cases rx
  obtain ⟨u, rfl, ru⟩ := rv.one
  cases ru
  obtain ⟨z, its, n, r, hl, e⟩ := I.lstM hH
  obtain ⟨its2, r2, ⟨⟨c2, dd, d2, sl⟩, e2, hc, n2, hd⟩, z2⟩ := I.tuple hB
  have hc' : c2 = .type "tuple" := hc
  have hd' : d2 = .seq its2.toArray n2 := hd
  subst hc' hd'
  have hl2 : zs.length = its2.length := r2.length
  have hsz : its.toArray.size + its2.toArray.size ≤ sizeLine := by rw [List.size_toArray, List.size_toArray]; omega
  have hlong : ¬ (!its.toArray.isEmpty && Builtin.List.listTooLong (its.toArray.size + its2.toArray.size)) = true := by
    rw [notLongL hsz, Bool.and_false]
    exact Bool.false_ne_true
  refine call_meets F.slot_list_extend ⟨_, e, rfl⟩ F.entry_list_extend (F.args_list_extend_2 _ _)
    (list_extend_tup l its.toArray n b its2.toArray n2 dd sl hlong (by rw [List.size_toArray]; omega) (by omega)) ⟨e, e2, ?_⟩
  refine ⟨.non, _, I.lset (its' := its ++ its2) hH e (by simp) (r.append r2) ?_, rfl, q⟩
  rw [List.length_append]
  omega
end
/-- x.extend(t) of a tuple t -/
def sExtT (i : Nat) (f : Fx) : Fs := fun ρ => match ρ[i]? with
  | some (.own ds) => (match f ρ with
    | .ok (.tuple es) => if ds.length + es.length ≤ 1000000 then .nx (ρ.set i (.own (ds ++ es))) else .bad
    | .exc x => .exc x ρ
    | _ => .bad)
  | _ => .bad
section
variable {X : Cx} {W : WX} {a : Expr} {f : Fx} {pos pos2 pos3 : Pos} {x : Str}
theorem sz_extT {i : Nat} {ap cp : Pos} (hp : PE X (.Call (.Attribute (.Name x pos) "extend" ap) [a] [] cp) (tBM X.K "list" (rExtT X.K) (tVar i) (tCons (tP X.K W f) tNil)))
    (hs : swapsWith (.Call (.Attribute (.Name x pos) "extend" ap) [a] [] cp) none pos2.line X.env = pure false := by rfl) : PS X (.Expr (.Call (.Attribute (.Name x pos) "extend" ap) [a] [] cp) pos2) (tS X.K W (sExtT i f)) := PS.imp (ps_expr hp hs) fun D σ H ⟨B, Z, ρ, E, h⟩ => by
  unfold sExtT at h
  split at h
  rotate_left
  · exact h.elim
  rename_i ds e
  obtain ⟨l, xs, el, z, hl, r⟩ := E.sl i _ e
  refine ⟨_, el, tyV_list hl, B, Z, ρ, E, ?_⟩
  split at h
  · rename_i es ef
    rw [ef]
    split at h
    rotate_left
    · exact h.elim
    rename_i hz
    intro v Z' H' g rv
    have E' := E.grow g
    have hl' := g.hs _ _ hl
    have z' : ¬ Z' l := fun q => (g.zn l q).elim z fun n => by rw [hl] at n; cases n
    cases rv with
    | tup tn rb =>
      refine ⟨l, _, xs, _, rfl, rfl, hl', tn.sq, by rw [r.length, rb.length, sizeLine_eq]; omega, h σ Z' _ (E'.upd e el z' rfl ⟨_, hl', (fun _ q => by cases q), (fun _ _ q => by cases q)⟩ fun kp => ?_)⟩
      exact ⟨l, _, rfl, z', upd_same, ((r.grow g).keep kp).append (rb.keep kp)⟩
  · rename_i x ef
    rw [ef]
    exact xW E h
  · exact h.elim
end
@[simp] theorem u_sExtT (i : Nat) (f : Fx) (ρ : Env) : sExtT i f ρ = (match ρ[i]? with | some (.own ds) => (match f ρ with | .ok (.tuple es) => if ds.length + es.length ≤ 1000000 then .nx (ρ.set i (.own (ds ++ es))) else .bad | .exc x => .exc x ρ | _ => .bad) | _ => .bad) := rfl
theorem extT_go {i : Nat} {f : Fx} {ρ : Env} {ds : List D} (es : List D) (h : ρ[i]? = some (.own ds)) (hf : f ρ = .ok (.tuple es)) (few : ds.length + es.length ≤ 1000000) : sExtT i f ρ = .nx (ρ.set i (.own (ds ++ es))) := by
  unfold sExtT
  rw [h]
  simp only [hf, if_pos few]
end Pz

set_option maxHeartbeats 4000000
/-! The plain layer: [k for k in d if d[k] == c] of a dict d. -/
namespace Pz
open PySem PySem.Spec L2 PyProof.Rows
/-- what stands at the pair's key: c? -/
def valIs (c : Int) (es : List (D × D)) (p : D × D) : Option Bool := match toKey p.1 with
  | some k => (match lookD es k with
    | some (.int j) => some (decide (j = c))
    | _ => none)
  | none => none
/-- i: the dict's slot, j: the slot of the walked name -/
def fKeysEq (i j : Nat) (c : Int) : Fxs := fun ρ => match ρ[i]? with
  | some (.dat (.dict es)) => if es.length ≤ 1000000 ∧ (j < ρ.length ∧ i ≠ j) ∧ es.all (fun p => (valIs c es p).isSome) = true then .ok ((es.filter fun p => valIs c es p == some true).map (·.1)) else .bad
  | _ => .bad
def selV (c : Int) (all : List (Key × V)) (l : List (Key × V)) : List V := (l.filter fun kv => decide (valV all kv.1 = some (.int c))).map fun kv => kV kv.1
theorem toKey_keyD (k : Key) : toKey (keyD k) = some k := by cases k <;> rfl
section
variable {K : PySem.W.Frag} {Z : Addr → Prop} {H : Hp}
theorem val_rel {c : Int} {kvs : List (Key × V)} {es : List (D × D)} (r : RpKV K Z H kvs es) {k : Key} {d : D} {b : Bool} (h : valIs c es (keyD k, d) = some b) : ∃ j : Int, valV kvs k = some (.int j) ∧ b = decide (j = c) := by
  unfold valIs at h
  simp only [toKey_keyD] at h
  have lk := r.look k
  cases e : lookD es k with
  | none => simp [e] at h
  | some dd =>
    cases e2 : valV kvs k with
    | none => rw [e, e2] at lk; exact lk.elim
    | some v =>
      rw [e, e2] at lk
      have lk : Rp K Z H v dd := lk
      cases dd with
      | int j =>
        simp only [e] at h
        cases lk
        exact ⟨j, rfl, (Option.some.inj h).symm⟩
      | _ => simp [e] at h
theorem sel_rel {c : Int} {all : List (Key × V)} {alld : List (D × D)} (ra : RpKV K Z H all alld) : ∀ {kvs : List (Key × V)} {es : List (D × D)}, RpKV K Z H kvs es → es.all (fun p => (valIs c alld p).isSome) = true → RpAll K Z H (selV c all kvs) ((es.filter fun p => valIs c alld p == some true).map (·.1))
  | _, _, .nil, _ => .nil
  | _, _, @RpKV.cons _ _ _ k v r d es rv t, h => by
    rw [List.all_cons, Bool.and_eq_true] at h
    have ih := sel_rel ra t h.2
    obtain ⟨b, hb⟩ := Option.isSome_iff_exists.mp h.1
    obtain ⟨j, e1, e2⟩ := val_rel ra hb
    unfold selV
    rw [List.filter_cons, List.filter_cons, hb]
    by_cases c1 : j = c
    · have cv : decide (valV all k = some (V.int c)) = true := decide_eq_true (by rw [e1, c1])
      have eb : b = true := by rw [e2]; exact decide_eq_true c1
      subst eb
      rw [if_pos cv, if_pos (by rfl)]
      refine .cons ?_ ih
      cases k with
      | inl i => exact .int i
      | inr s => exact .str s
    · have cv : ¬ decide (valV all k = some (V.int c)) = true := fun q => by
        have q := of_decide_eq_true q
        rw [e1] at q
        injection q with q
        injection q with q
        exact c1 q
      have eb : b = false := by rw [e2]; exact decide_eq_false c1
      subst eb
      rw [if_neg cv, if_neg (by decide)]
      exact ih
theorem kv_nth : ∀ {kvs : List (Key × V)} {es : List (D × D)}, RpKV K Z H kvs es → ∀ (n : Nat) (k : Key) (v : V), kvs[n]? = some (k, v) → ∃ d, (keyD k, d) ∈ es
  | _, _, .nil, n, k, v, h => by simp at h
  | _, _, .cons rv t, 0, k, v, h => by
    simp at h
    obtain ⟨rfl, rfl⟩ := h
    exact ⟨_, List.mem_cons_self⟩
  | _, _, .cons rv t, n + 1, k, v, h => by
    obtain ⟨d, hd⟩ := kv_nth t n k v (by simpa using h)
    exact ⟨d, List.mem_cons_of_mem _ hd⟩
end
section
variable {X : Cx} {W : WX} {tg iter elt : Expr} {ifs : List Expr} {pos : Pos}
theorem pn_keysEq {scope : Scope} {x : Str} (i j : Nat) (c : Int) (hc : X.calm = true) (hN : X.N.Nodup) (hi : PE X iter (tVar i)) (ok : BlkOk X.N X.env.scope scope [(x, j)])
    (hg : ∀ (s : Shared) (H : Hp) (C : Addr) (cl : List (Str × Addr)) (fp : List Addr), PG (X.blk s H scope (compEnvC scope cl C X.env) fp) tg (gName j))
    (ht : ∀ (s : Shared) (H : Hp) (C : Addr) (cl : List (Str × Addr)) (fp : List Addr), PTs (X.blk s H scope (compEnvC scope cl C X.env) fp) ifs (tTest (tOp rEq (tOp rIxD (tVar i) (tVar j)) (tC (.int c)))))
    (he : ∀ (s : Shared) (H : Hp) (C : Addr) (cl : List (Str × Addr)) (fp : List Addr), PE (X.blk s H scope (compEnvC scope cl C X.env) fp) elt (tVar j)) (hs : ∀ x, foldedSetIterable iter X.env x = pure x := by intro _; rfl) :
    PE X (.ListComp elt [⟨tg, iter, ifs, 0⟩] scope pos) (tN X.K W (fKeysEq i j c)) := PE.imp (pe_lock (pe_lc (own := [(x, j)]) hc hN (pi_keys hi) ok hg ht he hs)) fun σ H Q ⟨B, Z, ρ, E, h⟩ => by
  unfold fKeysEq at h
  split at h
  rotate_left
  · exact h.elim
  rename_i es eρ
  split at h
  rotate_left
  · exact h.elim
  rename_i hcond
  obtain ⟨hz, ⟨hj, hij⟩, hall⟩ := hcond
  obtain ⟨v, ev, rv⟩ := E.sl i _ eρ
  cases rv with
  | scr _ _ => exact absurd hall (by simp [valIs, toKey])
  | @dic a kvs _ za ha rkv =>
  have hlen : kvs.length = es.length := rkv.length
  refine ⟨a, .dK kvs, ha, trivial, fun od => ⟨.ref a, ev, a, od, rfl, .inl ⟨kvs, upd_same, ?_⟩⟩⟩
  intro C hC
  have ca : C ≠ a := fun q => by rw [q, upd_same] at hC; cases hC
  have CH : H C = none := by rw [upd_ne ca] at hC; exact hC
  have σj : j < σ.length := by rw [E.len]; exact hj
  refine ⟨fun n m H' => m = kvs.length - n ∧ n ≤ kvs.length ∧ H' = upd (upd H a (.frz od (.dK kvs))) C (.lst (selV c kvs (kvs.take n))), ⟨kvs.length, by simp, Nat.zero_le _, rfl⟩, ?_⟩
  rintro n m H' ⟨rfl, hn, rfl⟩
  have Ha : ∀ acc : List V, upd (upd H a (.frz od (.dK kvs))) C (.lst acc) a = some (.frz od (.dK kvs)) := fun acc => by rw [upd_ne (fun q => ca q.symm), upd_same]
  by_cases hlt : n < kvs.length
  · refine .inr ⟨⟨Ha _, hlt⟩, fun H3 => H3 = upd (upd H a (.frz od (.dK kvs))) C (.lst (selV c kvs (kvs.take (n + 1)))), fun H3 h3 => ⟨kvs.length - (n + 1), by omega, rfl, hlt, h3⟩, fun x2 H2 y => ?_⟩
    obtain ⟨rfl, k, w, ek, rfl⟩ := y
    obtain ⟨d, hd⟩ := kv_nth rkv n k w ek
    obtain ⟨b, hb⟩ := Option.isSome_iff_exists.mp (List.all_eq_true.mp hall _ hd)
    obtain ⟨jj, e1, e2⟩ := val_rel rkv hb
    have tk : kvs.take (n + 1) = kvs.take n ++ [(k, w)] := by
      rw [List.take_add_one, ek]
      rfl
    have sel : selV c kvs (kvs.take (n + 1)) = selV c kvs (kvs.take n) ++ if jj = c then [kV k] else [] := by
      rw [tk]
      unfold selV
      rw [List.filter_append, List.map_append, List.filter_cons, List.filter_nil]
      by_cases cc : jj = c
      · rw [if_pos (decide_eq_true (by rw [e1, cc])), if_pos cc]
        rfl
      · rw [if_neg (fun q => cc (by have q := of_decide_eq_true q; rw [e1] at q; injection q with q; injection q)), if_neg cc]
        rfl
    have wl : (wipe σ [j]).length = σ.length := wipe_length _ _
    have gi : ((wipe σ [j]).set j (some (kV k)))[i]? = some (some (V.ref a)) := by
      show ((σ.set j none).set j (some (kV k)))[i]? = _
      rw [List.getElem?_set_ne (fun q => hij q.symm), List.getElem?_set_ne (fun q => hij q.symm)]
      exact ev
    have gj : ((wipe σ [j]).set j (some (kV k)))[j]? = some (some (kV k)) := by
      rw [List.getElem?_set_self (by rw [wl]; exact σj)]
    refine ⟨?_, .ref a, gi, kV k, gj, a, .int jj, rfl, .inl ⟨kvs, k, .inr ⟨od, Ha _⟩, rfl, e1.symm⟩, rfl, decide (V.int jj = V.int c), rfl, ?_⟩
    · show wipe ((wipe σ [j]).set j (some (kV k))) [j] = wipe σ [j]
      rw [wipe_set (List.mem_singleton.mpr rfl)]
      show wipe (σ.set j none) [j] = wipe σ [j]
      rw [wipe_set (List.mem_singleton.mpr rfl)]
    by_cases cc : jj = c
    · rw [decide_eq_true (by rw [cc])]
      refine iteT ⟨kV k, gj, selV c kvs (kvs.take n), upd_same, ?_, ?_⟩
      · have l1 : (selV c kvs (kvs.take n)).length ≤ (kvs.take n).length := by
          unfold selV
          rw [List.length_map]
          exact List.length_filter_le _ _
        rw [List.length_take] at l1
        rw [sizeLine_eq]
        omega
      · rw [upd_upd, sel, if_pos cc]
    · rw [decide_eq_false (fun q => cc (by injection q))]
      refine iteF ?_
      rw [sel, if_neg cc, List.append_nil]
  · refine .inl ⟨⟨Ha _, by omega⟩, Ha _, ?_⟩
    have tk : kvs.take n = kvs := List.take_of_length_le (by omega)
    rw [tk]
    have back : upd (upd (upd H a (.frz od (.dK kvs))) C (.lst (selV c kvs kvs))) a (.dK kvs) = upd H C (.lst (selV c kvs kvs)) := by
      funext q
      by_cases q1 : q = a
      · rw [q1, upd_same, upd_ne (fun z => ca z.symm), ha]
      · rw [upd_ne q1]
        by_cases q2 : q = C
        · rw [q2, upd_same, upd_same]
        · rw [upd_ne q2, upd_ne q1, upd_ne q2]
    rw [back]
    have nz : ¬ Z C := fun z => E.zt C z CH
    have g := grow_upd (Z := Z) (o := .lst (selV c kvs kvs)) CH
    exact h C Z _ _ g CH nz upd_same ((sel_rel rkv rkv hall).grow g)
end
@[simp] theorem u_fKeysEq (i j : Nat) (c : Int) (ρ : Env) : fKeysEq i j c ρ = (match ρ[i]? with | some (.dat (.dict es)) => if es.length ≤ 1000000 ∧ (j < ρ.length ∧ i ≠ j) ∧ es.all (fun p => (valIs c es p).isSome) = true then .ok ((es.filter fun p => valIs c es p == some true).map (·.1)) else .bad | _ => .bad) := rfl
end Pz

set_option maxHeartbeats 4000000
/-! The plain layer: sorted(set(pairs)), pairs of ints from 0 to 63. -/
namespace Pz
open PySem PySem.Spec L2 PyProof.Rows
def insI (x : Int) : List Int → List Int
  | [] => [x]
  | y :: ys => if x ≤ y then x :: y :: ys else y :: insI x ys
def isortI : List Int → List Int
  | [] => []
  | x :: xs => insI x (isortI xs)
def dedI : List Int → List Int
  | [] => []
  | x :: xs => if x ∈ xs then dedI xs else x :: dedI xs
theorem dedI_mem (xs : List Int) (y : Int) : y ∈ dedI xs ↔ y ∈ xs := by
  induction xs with
  | nil => rfl
  | cons x xs ih =>
    unfold dedI
    by_cases c : x ∈ xs
    · rw [if_pos c, ih, List.mem_cons]
      exact ⟨.inr, fun h => h.elim (fun e => e ▸ c) id⟩
    · rw [if_neg c, List.mem_cons, List.mem_cons, ih]
theorem dedI_nodup (xs : List Int) : (dedI xs).Nodup := by
  induction xs with
  | nil => exact List.nodup_nil
  | cons x xs ih =>
    unfold dedI
    by_cases c : x ∈ xs
    · rw [if_pos c]; exact ih
    · rw [if_neg c]; exact List.nodup_cons.mpr ⟨fun q => c ((dedI_mem xs x).mp q), ih⟩
theorem insI_perm (x : Int) (ys : List Int) : (insI x ys).Perm (x :: ys) := by
  induction ys with
  | nil => exact .refl _
  | cons y ys ih =>
    unfold insI
    by_cases c : x ≤ y
    · rw [if_pos c]
    · rw [if_neg c]
      exact (List.Perm.cons y ih).trans (List.Perm.swap x y ys)
theorem isortI_perm (xs : List Int) : (isortI xs).Perm xs := by
  induction xs with
  | nil => exact .refl _
  | cons x xs ih => exact (insI_perm x _).trans (List.Perm.cons x ih)
theorem insI_inc (x : Int) (ys : List Int) (h : ys.Pairwise (· ≤ ·)) : (insI x ys).Pairwise (· ≤ ·) := by
  induction ys with
  | nil => exact List.pairwise_singleton _ _
  | cons y ys ih =>
    rw [List.pairwise_cons] at h
    unfold insI
    by_cases c : x ≤ y
    · rw [if_pos c, List.pairwise_cons]
      refine ⟨fun z hz => ?_, List.pairwise_cons.mpr h⟩
      rcases List.mem_cons.mp hz with e | hz
      · omega
      · have := h.1 z hz; omega
    · rw [if_neg c, List.pairwise_cons]
      refine ⟨fun z hz => ?_, ih h.2⟩
      rcases List.mem_cons.mp ((insI_perm x ys).mem_iff.mp hz) with e | hz
      · omega
      · exact h.1 z hz
theorem isortI_inc (xs : List Int) : (isortI xs).Pairwise (· ≤ ·) := by
  induction xs with
  | nil => exact .nil
  | cons x xs ih => exact insI_inc x _ ih
def pairOf : D → Option (Int × Int)
  | .tuple [.int x, .int y] => if (0 ≤ x ∧ x < 64) ∧ 0 ≤ y ∧ y < 64 then some (x, y) else none
  | _ => none
def pairsOf : List D → Option (List (Int × Int))
  | [] => some []
  | d :: ds => (pairOf d).bind fun p => (pairsOf ds).map fun r => p :: r
def codeP (p : Int × Int) : Int := p.1 * 64 + p.2
def unP (c : Int) : D := .tuple [.int (c / 64), .int (c % 64)]
def dSortPairs : D → Option (List D)
  | .list ds => (pairsOf ds).bind fun ps => if ps.length < 64 then some ((isortI (dedI (ps.map codeP))).map unP) else none
  | _ => none
theorem pairOf_is {d : D} {p : Int × Int} (h : pairOf d = some p) : d = .tuple [.int p.1, .int p.2] ∧ (0 ≤ p.1 ∧ p.1 < 64) ∧ 0 ≤ p.2 ∧ p.2 < 64 := by
  unfold pairOf at h
  split at h
  · split at h <;> cases h
    exact ⟨rfl, by assumption⟩
  · cases h
section
variable {K : PySem.W.Frag} {Z : Addr → Prop} {H : Hp}
theorem pairs_rel : ∀ {xs : List V} {ds : List D} {ps : List (Int × Int)}, RpAll K Z H xs ds → pairsOf ds = some ps →
    ∃ ks : List (Addr × List Int), xs = ks.map (fun q => V.ref q.1) ∧ ks.map (·.2) = ps.map (fun p => [p.1, p.2]) ∧ ∀ q ∈ ks, TpN H q.1 (q.2.map V.int) ∧ ∃ p ∈ ps, q.2 = [p.1, p.2] ∧ (0 ≤ p.1 ∧ p.1 < 64) ∧ 0 ≤ p.2 ∧ p.2 < 64
  | _, _, ps, .nil, h => by
    cases h
    exact ⟨[], rfl, rfl, fun q hq => by cases hq⟩
  | _, _, ps, .cons (d := d) (ds := ds) r t, h => by
    unfold pairsOf at h
    cases e1 : pairOf d with
    | none => rw [e1] at h; cases h
    | some p =>
      cases e2 : pairsOf ds with
      | none => rw [e1, e2] at h; cases h
      | some r2 =>
        rw [e1, e2] at h
        cases h
        obtain ⟨rfl, b1, b2⟩ := pairOf_is e1
        obtain ⟨ks, k1, k2, k3⟩ := pairs_rel t e2
        cases r with
        | @tup a xs _ tn ra =>
          cases ra with
          | cons ra1 ra =>
            cases ra with
            | cons ra2 ra =>
              cases ra
              cases ra1
              cases ra2
              refine ⟨(a, [p.1, p.2]) :: ks, by rw [k1]; rfl, by rw [List.map_cons, List.map_cons, k2], fun q hq => ?_⟩
              rcases List.mem_cons.mp hq with rfl | hq
              · exact ⟨tn, p, List.mem_cons_self, rfl, b1, b2⟩
              · obtain ⟨h1, p', hp', h2⟩ := k3 q hq
                exact ⟨h1, p', List.mem_cons_of_mem _ hp', h2⟩
end
section
variable {X : Cx} {W : WX} {a : Expr} {fa : Fx} {p p2 q pos : Pos}
def rSP (K : PySem.W.Frag) (P : Program) (w : World) : List V → Hp → VK → Prop := fun xs H Q => rSetOfT K P w xs H fun y H2 => rSortedT K P w [y] H2 Q
theorem code_is (x y : Int) : TS.code 64 [x, y] = codeP (x, y) := code_pair x y
theorem rel_un {K : PySem.W.Frag} {Z : Addr → Prop} {H : Hp} : ∀ (L : List (Addr × List Int)), (∀ q ∈ L, TpN H q.1 (q.2.map V.int) ∧ ∃ p : Int × Int, q.2 = [p.1, p.2] ∧ (0 ≤ p.1 ∧ p.1 < 64) ∧ 0 ≤ p.2 ∧ p.2 < 64) → RpAll K Z H (L.map fun q => V.ref q.1) ((L.map fun q => TS.code 64 q.2).map unP)
  | [], _ => .nil
  | (b, ns) :: L, h => by
    obtain ⟨tn, p, e, b1, b2⟩ := h _ List.mem_cons_self
    have e : ns = [p.1, p.2] := e
    subst e
    refine .cons ?_ (rel_un L fun q hq => h q (List.mem_cons_of_mem _ hq))
    have : unP (TS.code 64 [p.1, p.2]) = .tuple [.int p.1, .int p.2] := by
      rw [code_is]
      unfold unP codeP
      rw [show (p.1 * 64 + p.2) / 64 = p.1 by omega, show (p.1 * 64 + p.2) % 64 = p.2 by omega]
    show Rp K Z H (V.ref b) (unP (TS.code 64 [p.1, p.2]))
    rw [this]
    exact .tup tn (.cons (.int _) (.cons (.int _) .nil))
theorem op1_sortPairs {K : PySem.W.Frag} {P : Program} {w : World} : Op1N K (rSP K P w) dSortPairs := fun Z H x d res zt rx hg Q k => by
  unfold dSortPairs at hg
  split at hg
  rotate_left
  · cases hg
  rename_i ds
  cases ep : pairsOf ds with
  | none => rw [ep] at hg; cases hg
  | some ps =>
  rw [ep] at hg
  simp only [Option.bind_some] at hg
  split at hg <;> cases hg
  rename_i few
  obtain ⟨l, xs, rfl, hl, r⟩ := rpl rx
  obtain ⟨ks, k1, k2, k3⟩ := pairs_rel r ep
  have hlen : ks.length = ps.length := by
    have := congrArg List.length k2
    simpa using this
  refine ⟨l, ks, rfl, ?_, fun q hq => (k3 q hq).1.sq, by omega, fun a L hn sub all => ?_⟩
  · rw [← k1]
    exact SqL.of hl
  have g1 : Grow Z H Z (upd H a (SetTO P w a L)) := grow_upd hn
  have tnL : ∀ q ∈ L, TpN (upd H a (SetTO P w a L)) q.1 (q.2.map V.int) := fun q hq => g1.keeps (K := K).tn _ _ (k3 q (sub q hq)).1
  refine ⟨a, L, 2, 64, rfl, upd_same, fun q hq => (tnL q hq).sq, by omega, fun q hq => ?_, fun L' c pm nd lf pw hc => ?_⟩
  · obtain ⟨_, p, _, e, b1, b2⟩ := k3 q (sub q hq)
    rw [e]
    refine ⟨rfl, fun m hm => ?_⟩
    simp only [List.mem_cons, List.not_mem_nil, or_false] at hm
    rcases hm with rfl | rfl
    · exact b1
    · exact b2
  have inL : ∀ q ∈ L', q ∈ ks := fun q hq => sub q (pm.mem_iff.mp hq)
  have g2 : Grow Z (upd H a (SetTO P w a L)) Z (upd (upd H a (SetTO P w a L)) c (.lst (L'.map fun q => V.ref q.1))) := grow_upd hc
  have ca : c ≠ a := fun e => by rw [e, upd_same] at hc; cases hc
  have cH : H c = none := by rw [upd_ne ca] at hc; exact hc
  -- the codes
  have pr : ∀ q ∈ L', ∃ p : Int × Int, q.2 = [p.1, p.2] ∧ (0 ≤ p.1 ∧ p.1 < 64) ∧ 0 ≤ p.2 ∧ p.2 < 64 := fun q hq => by
    obtain ⟨_, p, _, h⟩ := k3 q (inL q hq)
    exact ⟨p, h⟩
  have ndc : (L'.map fun q => TS.code 64 q.2).Nodup := by
    have e : (L'.map fun q => TS.code 64 q.2) = (L'.map (·.2)).map (TS.code 64) := by rw [List.map_map]; rfl
    rw [e]
    refine (List.pairwise_map).mpr (List.Pairwise.imp_of_mem (fun {u v} hu hv ne ec => ?_) nd)
    obtain ⟨q1, hq1, rfl⟩ := List.mem_map.mp hu
    obtain ⟨q2, hq2, rfl⟩ := List.mem_map.mp hv
    obtain ⟨p1, e1, b1, b2⟩ := pr q1 hq1
    obtain ⟨p2, e2, b3, b4⟩ := pr q2 hq2
    rw [e1, e2, code_is, code_is] at ec
    unfold codeP at ec
    refine ne ?_
    rw [e1, e2]
    have : p1.1 = p2.1 := by omega
    have : p1.2 = p2.2 := by omega
    simp [*]
  have mem : ∀ y, y ∈ (L'.map fun q => TS.code 64 q.2) ↔ y ∈ isortI (dedI (ps.map codeP)) := fun y => by
    rw [(isortI_perm _).mem_iff, dedI_mem, List.mem_map, List.mem_map]
    constructor
    · rintro ⟨q, hq, rfl⟩
      obtain ⟨_, p, hp, e, _⟩ := k3 q (inL q hq)
      exact ⟨p, hp, by rw [e, code_is]⟩
    · rintro ⟨p, hp, rfl⟩
      have : [p.1, p.2] ∈ ks.map (·.2) := by rw [k2]; exact List.mem_map.mpr ⟨p, hp, rfl⟩
      obtain ⟨q, hq, e⟩ := List.mem_map.mp this
      obtain ⟨q', hq', e'⟩ := List.mem_map.mp (all q hq)
      exact ⟨q', pm.mem_iff.mpr hq', by rw [e', e, code_is]⟩
  have ec : (L'.map fun q => TS.code 64 q.2) = isortI (dedI (ps.map codeP)) := by
    have nd2 : (isortI (dedI (ps.map codeP))).Nodup := (isortI_perm _).nodup_iff.mpr (dedI_nodup _)
    refine List.Perm.eq_of_pairwise (le := (· ≤ ·)) (fun a b _ _ h1 h2 => Int.le_antisymm h1 h2) ?_ (isortI_inc _) ((List.perm_ext_iff_of_nodup ndc nd2).mpr mem)
    exact List.pairwise_map.mpr pw
  rw [← ec] at k
  have nz : ¬ Z c := fun z => zt c z cH
  refine k c Z _ _ (g1.trans g2) cH nz upd_same (rel_un L' fun q hq => ⟨g2.keeps (K := K).tn _ _ (tnL q (pm.mem_iff.mp hq)), pr q hq⟩)
theorem pn_sortPairs (hu : X.A.units + 64 < cLine) (hc : X.calm = true) (hg : Gl X "sorted") (hm : X.mg "sorted" = none) (hb : bootBuiltins "sorted" = some (.builtin "sorted")) (hg2 : Gl X "set") (hm2 : X.mg "set" = none) (hb2 : bootBuiltins "set" = some (.type "set")) (ha : PE X a (tO X.K W fa))
    (na : starEach [a] X.env = (false, eval a X.env) :: starEach [] X.env := by rfl) : PE X (.Call (.Name "sorted" p) [.Call (.Name "set" p2) [a] [] q] [] pos) (tN X.K W (fN1 dSortPairs fa)) :=
  PE.imp (pe_callB (cr_sortedT hc) hg hm hb (pa_cons (pe_callTy (cr_setOfT hc hu) hg2 hm2 hb2 (pa_cons ha pa_nil na) (he := na)) pa_nil)) fun σ H Q h => c1_inN (r := rSP X.K X.prog X.w) op1_sortPairs h
end
end Pz

set_option maxHeartbeats 1000000
/-! The plain layer: x or y of an int. -/
namespace Pz
open PySem PySem.Spec L2 PySem.W
def truD : D → Option Bool
  | .bool b => some b
  | .int i => some (i != 0)
  | _ => none
def fOrT (f u : Fx) : Fx := fun ρ => f ρ >>= fun d => ofO (truD d) >>= fun b => if b = true then .ok d else u ρ
@[simp] theorem u_fOrT (f u : Fx) (ρ : Env) : fOrT f u ρ = (f ρ >>= fun d => ofO (truD d) >>= fun b => if b = true then .ok d else u ρ) := rfl
section
variable {X : Cx} {W : WX} {a b : Expr} {rest : List Expr} {pos : Pos} {fa fb : Fx}
theorem vz_orT (ha : PE X a (tP X.K W fa)) (hb : PE X (.BoolOp .Or (b :: rest) pos) (tP X.K W fb)) : PE X (.BoolOp .Or (a :: b :: rest) pos) (tP X.K W (fOrT fa fb)) := PE.imp (pe_orT ha hb) fun σ H Q ⟨B, Z, ρ, E, h⟩ => by
  refine ⟨B, Z, ρ, E, h.bind.mono (fun d h1 v Z' H' g r => ?_) fun _ w => w⟩
  obtain ⟨b, eb, k⟩ := h1.bind.ofO
  have tr : TruV X.K v H' b := by
    cases d with
    | bool c =>
      cases eb
      rw [rpb r]
      exact rfl
    | int i =>
      cases eb
      cases r
      exact rfl
    | _ => cases eb
  refine ⟨b, tr, ?_⟩
  cases b with
  | true => exact iteT (k v Z' H' g r)
  | false => exact iteF ⟨B, Z', ρ, E.grow g, post.mono k (fun b k => k.grow g) fun _ w => w.grow g⟩
end
end Pz

set_option maxHeartbeats 4000000
/-! Plain mathematics of the mirrors: how their words are reckoned. -/
namespace Pz
open PySem PySem.Spec L2

@[simp] theorem u_runF (F : Fs) (n : Nat) (ds : List D) : runF F n ds = (match F (ds.map .dat ++ List.replicate (n - ds.length) .no) with | .nx _ => .ok .none | .rt d => .ok d | .exc x _ => .exc x | _ => .bad) := rfl
@[simp] theorem u_sSeq (F G : Fs) (ρ : Env) : sSeq F G ρ = (match F ρ with | .nx ρ' => G ρ' | r => r) := rfl
@[simp] theorem u_sAsg (f : Fx) (t : Tg) (ρ : Env) : sAsg f t ρ = (match f ρ with | .ok d => (match t d ρ with | some ρ' => .nx ρ' | none => .bad) | .exc x => .exc x ρ | .bad => .bad) := rfl
@[simp] theorem u_sRet (f : Fx) (ρ : Env) : sRet f ρ = (match f ρ with | .ok d => .rt d | .exc x => .exc x ρ | .bad => .bad) := rfl
@[simp] theorem u_sIf (c : Env → R Bool) (F G : Fs) (ρ : Env) : sIf c F G ρ = (match c ρ with | .ok true => F ρ | .ok false => G ρ | .exc x => .exc x ρ | .bad => .bad) := rfl
@[simp] theorem u_sDo (f : Fx) (ρ : Env) : sDo f ρ = (match f ρ with | .ok _ => .nx ρ | .exc x => .exc x ρ | .bad => .bad) := rfl
@[simp] theorem u_sOwn (i : Nat) (f : Fxs) (ρ : Env) : sOwn i f ρ = (match f ρ with | .ok ds => .nx (ρ.set i (.own ds)) | .exc x => .exc x ρ | .bad => .bad) := rfl
@[simp] theorem u_sSkip (ρ : Env) : sSkip ρ = (.nx ρ) := rfl
@[simp] theorem u_sFrz (i : Nat) (F : Fs) (ρ : Env) : sFrz i F ρ = (match ρ[i]? with | some (.own ds) => F (ρ.set i (.dat (.list ds))) | some (.odi ds) => F (ρ.set i (.dat (.dict ds))) | _ => F ρ) := rfl
@[simp] theorem u_sFrzA (i : Nat) (F : Fs) (ρ : Env) : sFrzA i F ρ = (match F ρ with | .nx ρ' => .nx (frzE i ρ') | r => r) := rfl
@[simp] theorem u_frzE (i : Nat) (ρ : Env) : frzE i ρ = (match ρ[i]? with | some (.own ds) => ρ.set i (.dat (.list ds)) | some (.odi ds) => ρ.set i (.dat (.dict ds)) | _ => ρ) := rfl
@[simp] theorem u_sApp (i : Nat) (f : Fx) (ρ : Env) : sApp i f ρ = (match ρ[i]? with | some (.own ds) => (match f ρ with | .ok d => if ds.length ≤ 1000000 then .nx (ρ.set i (.own (ds ++ [d]))) else .bad | .exc x => .exc x ρ | .bad => .bad) | _ => .bad) := rfl
@[simp] theorem u_sExt (i : Nat) (f : Fx) (ρ : Env) : sExt i f ρ = (match ρ[i]? with | some (.own ds) => (match f ρ with | .ok (.list es) => if ds.length + es.length ≤ 1000000 then .nx (ρ.set i (.own (ds ++ es))) else .bad | .exc x => .exc x ρ | _ => .bad) | _ => .bad) := rfl
@[simp] theorem u_sOdi (i : Nat) (ρ : Env) : sOdi i ρ = (.nx (ρ.set i (.odi []))) := rfl
@[simp] theorem u_sRaise (x : Str) (ρ : Env) : sRaise x ρ = (.exc x ρ) := rfl
@[simp] theorem u_fVar (i : Nat) (ρ : Env) : fVar i ρ = (match ρ[i]? with | some (.dat d) => .ok d | _ => .bad) := rfl
@[simp] theorem u_fOwn (i : Nat) (ρ : Env) : fOwn i ρ = (match ρ[i]? with | some (.dat d) => .ok d | some (.own ds) => .ok (.list ds) | some (.odi es) => .ok (.dict es) | _ => .bad) := rfl
@[simp] theorem u_fC (d : D) (ρ : Env) : fC d ρ = (.ok d) := rfl
@[simp] theorem u_f1 (g : D → Option D) (a : Fx) (ρ : Env) : f1 g a ρ = (a ρ >>= fun x => ofO (g x)) := rfl
@[simp] theorem u_f2 (g : D → D → Option D) (a b : Fx) (ρ : Env) : f2 g a b ρ = (a ρ >>= fun x => b ρ >>= fun y => ofO (g x y)) := rfl
@[simp] theorem u_fN1 (g : D → Option (List D)) (a : Fx) (ρ : Env) : fN1 g a ρ = (a ρ >>= fun x => ofO (g x)) := rfl
@[simp] theorem u_fN2 (g : D → D → Option (List D)) (a b : Fx) (ρ : Env) : fN2 g a b ρ = (a ρ >>= fun x => b ρ >>= fun y => ofO (g x y)) := rfl
@[simp] theorem u_fLst (f : Fxs) (ρ : Env) : fLst f ρ = (f ρ >>= fun ds => .ok (.list ds)) := rfl
@[simp] theorem u_fTup (f : Fxs) (ρ : Env) : fTup f ρ = (f ρ >>= fun ds => .ok (.tuple ds)) := rfl
@[simp] theorem u_fCons (a : Fx) (b : Fxs) (ρ : Env) : fCons a b ρ = (a ρ >>= fun x => b ρ >>= fun xs => .ok (x :: xs)) := rfl
@[simp] theorem u_fNil (ρ : Env) : fNil ρ = (.ok []) := rfl
@[simp] theorem u_fCall (m : Mf) (fs : Fxs) (ρ : Env) : fCall m fs ρ = (fs ρ >>= m) := rfl
@[simp] theorem u_fB (f : Fx) (ρ : Env) : fB f ρ = (f ρ >>= fun d => ofO (asB d)) := rfl
@[simp] theorem u_fSl (a : Fx) (l u : Fo) (ρ : Env) : fSl a l u ρ = (a ρ >>= fun x => l ρ >>= fun l => u ρ >>= fun u => ofO (dSl x l u)) := rfl
@[simp] theorem u_fNo (ρ : Env) : fNo ρ = (.ok none) := rfl
@[simp] theorem u_fSo (a : Fx) (ρ : Env) : fSo a ρ = (a ρ >>= fun d => match d with | .int i => .ok (some i) | _ => .bad) := rfl
@[simp] theorem u_fIter (a : Fx) (ρ : Env) : fIter a ρ = (a ρ >>= fun d => ofO (dIter d)) := rfl
@[simp] theorem u_fRng1 (a : Fx) (ρ : Env) : fRng1 a ρ = (a ρ >>= fun d => match d with | .int n => if -1000000 ≤ n ∧ n ≤ 1000000 then .ok (rngD 0 n) else .bad | _ => .bad) := rfl
@[simp] theorem u_fEnum (a : Fx) (ρ : Env) : fEnum a ρ = (a ρ >>= fun d => ofO (dItems d) >>= fun ds => .ok (enumD ds)) := rfl
@[simp] theorem u_tgN (i : Nat) (d : D) (ρ : Env) : tgN i d ρ = (some (ρ.set i (.dat d))) := rfl
@[simp] theorem u_tgTup (u : Tgs) (ds : List D) (ρ : Env) : tgTup u (.tuple ds) ρ = (u ds ρ) := rfl
@[simp] theorem u_tgCons (t : Tg) (u : Tgs) (d : D) (r : List D) (ρ : Env) : tgCons t u (d :: r) ρ = ((t d ρ).bind (u r)) := rfl
@[simp] theorem u_tgNil (ρ : Env) : tgNil [] ρ = (some ρ) := rfl
@[simp] theorem u_killL0 (ρ : Env) : killL [] ρ = (ρ) := rfl
@[simp] theorem u_killL1 (i : Nat) (is : List Nat) (ρ : Env) : killL (i :: is) ρ = ((killL is ρ).set i .no) := rfl
@[simp] theorem u_asB (b : Bool) : asB (.bool b) = (some b) := rfl
@[simp] theorem u_sFor (it : Fxs) (t : Tg) (F : Fs) (is : List Nat) (ρ : Env) : sFor it t F is ρ = (match it ρ with | .ok ds => forF t F is ds ρ | .exc x => .exc x ρ | .bad => .bad) := rfl
@[simp] theorem u_fNot (f : Env → R Bool) (ρ : Env) : fNot f ρ = (f ρ >>= fun b => .ok (!b)) := rfl
@[simp] theorem u_fAnd (f u : Env → R Bool) (ρ : Env) : fAnd f u ρ = (f ρ >>= fun b => if b = true then u ρ else .ok false) := by
  unfold fAnd; congr; funext b; cases b <;> rfl
@[simp] theorem u_fOr (f u : Env → R Bool) (ρ : Env) : fOr f u ρ = (f ρ >>= fun b => if b = true then .ok true else u ρ) := by
  unfold fOr; congr; funext b; cases b <;> rfl
@[simp] theorem u_fIfN (t : Env → R Bool) (f u : Fxs) (ρ : Env) : fIfN t f u ρ = (t ρ >>= fun b => if b = true then f ρ else u ρ) := by
  unfold fIfN; congr; funext b; cases b <;> rfl
@[simp] theorem u_fIf (t : Env → R Bool) (f u : Fx) (ρ : Env) : fIf t f u ρ = (t ρ >>= fun b => if b = true then f ρ else u ρ) := by
  unfold fIf; congr; funext b; cases b <;> rfl
@[simp] theorem u_fAndV (f u : Fx) (ρ : Env) : fAndV f u ρ = (f ρ >>= fun d => ofO (asB d) >>= fun b => if b = true then u ρ else .ok (.bool false)) := by
  unfold fAndV; congr; funext d; congr; funext b; cases b <;> rfl
@[simp] theorem u_fOrV (f u : Fx) (ρ : Env) : fOrV f u ρ = (f ρ >>= fun d => ofO (asB d) >>= fun b => if b = true then .ok (.bool true) else u ρ) := by
  unfold fOrV; congr; funext d; congr; funext b; cases b <;> rfl
@[simp] theorem u_fNotV (f : Fx) (ρ : Env) : fNotV f ρ = (f ρ >>= fun d => ofO (asB d) >>= fun b => .ok (.bool (!b))) := rfl
@[simp] theorem u_fChain (g g' : D → D → Option D) (fa fb fc : Fx) (ρ : Env) : fChain g g' fa fb fc ρ = (fa ρ >>= fun x => fb ρ >>= fun y => ofO (g x y) >>= fun d => ofO (asB d) >>= fun b => if b = true then fc ρ >>= fun z => ofO (g' y z) else .ok (.bool false)) := by
  unfold fChain; congr; funext x; congr; funext y; congr; funext d; congr; funext b; cases b <;> rfl
theorem comp_of {α : Type} {it : Fxs} {t : Tg} {c : Env → R Bool} {f : Fx} {vs : List Nat} {ρ : Env} (xs : List α) (enc : α → D) (p : α → Bool) (g : α → D) (hi : it ρ = .ok (xs.map enc)) (few : xs.length ≤ 1000000)
    (h : ∀ x ∈ xs, ∃ ρ1, t (enc x) (killL vs ρ) = some ρ1 ∧ c ρ1 = .ok (p x) ∧ (p x = true → f ρ1 = .ok (g x))) : fComp it t c f vs ρ = .ok ((xs.filter p).map g) := by
  unfold fComp
  rw [hi, R.bind_ok, if_pos (by rw [List.length_map]; exact few)]
  clear hi few
  induction xs with
  | nil => rfl
  | cons x xs ih =>
    obtain ⟨ρ1, h1, h2, h3⟩ := h x List.mem_cons_self
    have q := ih fun y hy => h y (List.mem_cons_of_mem _ hy)
    rw [List.map_cons, compF, h1]
    simp only [h2]
    cases e : p x with
    | true => simp only [h3 e, q, R.bind_ok, List.filter_cons, e, if_true, List.map_cons]
    | false => simp only [q, List.filter_cons, e, if_false, Bool.false_eq_true]
theorem comp_all {α : Type} {it : Fxs} {t : Tg} {f : Fx} {vs : List Nat} {ρ : Env} (xs : List α) (enc g : α → D) (hi : it ρ = .ok (xs.map enc)) (few : xs.length ≤ 1000000)
    (h : ∀ x ∈ xs, ∃ ρ1, t (enc x) (killL vs ρ) = some ρ1 ∧ f ρ1 = .ok (g x)) : fComp it t cYes f vs ρ = .ok (xs.map g) := by
  rw [comp_of (c := cYes) xs enc (fun _ => true) g hi few fun x hx => let ⟨ρ1, h1, h2⟩ := h x hx; ⟨ρ1, h1, rfl, fun _ => h2⟩]
  rw [List.filter_eq_self.mpr fun _ _ => rfl]
/-- a loop that goes on to its end -/
theorem for_of {α β : Type} {t : Tg} {F : Fs} {is : List Nat} (enc : α → D) (st : β → Env) (step : β → α → β) : ∀ (xs : List α) (b : β),
    (∀ b x, x ∈ xs → ∃ ρ1 ρ2, t (enc x) (st b) = some ρ1 ∧ F ρ1 = .nx ρ2 ∧ killL is ρ2 = st (step b x)) → forF t F is (xs.map enc) (st b) = .nx (st (xs.foldl step b))
  | [], b, _ => rfl
  | x :: xs, b, h => by
    obtain ⟨ρ1, ρ2, h1, h2, h3⟩ := h b x List.mem_cons_self
    rw [List.map_cons, forF, h1]
    simp only [h2, h3]
    exact for_of enc st step xs _ fun b y hy => h b y (List.mem_cons_of_mem _ hy)
/-- the same with a property that goes along -/
theorem for_inv {α β : Type} {t : Tg} {F : Fs} {is : List Nat} (enc : α → D) (st : β → Env) (step : β → α → β) (I : β → Prop) : ∀ (xs : List α) (b : β), I b →
    (∀ b x, x ∈ xs → I b → I (step b x) ∧ ∃ ρ1 ρ2, t (enc x) (st b) = some ρ1 ∧ F ρ1 = .nx ρ2 ∧ killL is ρ2 = st (step b x)) → forF t F is (xs.map enc) (st b) = .nx (st (xs.foldl step b)) ∧ I (xs.foldl step b)
  | [], b, i, _ => ⟨rfl, i⟩
  | x :: xs, b, i, h => by
    obtain ⟨i2, ρ1, ρ2, h1, h2, h3⟩ := h b x List.mem_cons_self i
    rw [List.map_cons, forF, h1]
    simp only [h2, h3]
    exact for_inv enc st step I xs _ i2 fun b y hy => h b y (List.mem_cons_of_mem _ hy)
/-! ### == -/
mutual
/-- no truth values, no dicts in it -/
def purD : D → Bool
  | .none => true
  | .int _ => true
  | .str _ => true
  | .list xs => purAll xs
  | .tuple xs => purAll xs
  | .bool _ => false
  | .dict _ => false
def purAll : List D → Bool
  | [] => true
  | x :: xs => purD x && purAll xs
end
mutual
theorem pur_plain : ∀ d : D, purD d = true → d.plain = true
  | .none, _ => rfl
  | .int _, _ => rfl
  | .str _, _ => rfl
  | .list xs, h => by rw [purD] at h; rw [PyData.plain]; exact purAll_plain xs h
  | .tuple xs, h => by rw [purD] at h; rw [PyData.plain]; exact purAll_plain xs h
  | .bool _, h => by simp [purD] at h
  | .dict _, h => by simp [purD] at h
theorem purAll_plain : ∀ ds : List D, purAll ds = true → PyData.plainAll ds = true
  | [], _ => rfl
  | x :: xs, h => by
    rw [purAll, Bool.and_eq_true] at h
    rw [PyData.plainAll, pur_plain x h.1, purAll_plain xs h.2]; rfl
end
mutual
theorem eqv_eq : ∀ d e : D, purD d = true → purD e = true → PyData.eqv d e = true → d = e
  | .none, e, _, _, h => by cases e <;> simp [PyData.eqv] at h <;> rfl
  | .int i, e, _, p, h => by cases e <;> simp [PyData.eqv, purD] at h p <;> rw [h]
  | .str i, e, _, p, h => by cases e <;> simp [PyData.eqv, purD] at h p <;> rw [h]
  | .list xs, e, q, p, h => by
    cases e with
    | list ys => rw [purD] at q p; rw [PyData.eqv] at h; rw [eqvAll_eq xs ys q p h]
    | _ => simp [PyData.eqv] at h
  | .tuple xs, e, q, p, h => by
    cases e with
    | tuple ys => rw [purD] at q p; rw [PyData.eqv] at h; rw [eqvAll_eq xs ys q p h]
    | _ => simp [PyData.eqv] at h
  | .bool _, _, q, _, _ => by simp [purD] at q
  | .dict _, _, q, _, _ => by simp [purD] at q
theorem eqvAll_eq : ∀ ds es : List D, purAll ds = true → purAll es = true → PyData.eqvAll ds es = true → ds = es
  | [], [], _, _, _ => rfl
  | [], _ :: _, _, _, h => by simp [PyData.eqvAll] at h
  | _ :: _, [], _, _, h => by simp [PyData.eqvAll] at h
  | x :: xs, y :: ys, q, p, h => by
    rw [purAll, Bool.and_eq_true] at q p
    rw [PyData.eqvAll, Bool.and_eq_true] at h
    rw [eqv_eq x y q.1 p.1 h.1, eqvAll_eq xs ys q.2 p.2 h.2]
end
theorem unscr_plain {d : D} (h : d.plain = true) : unscr d = d := by
  cases d <;> first | rfl | cases h
theorem eqG_val {s : Bool → Bool} {d e : D} (hd : d.plain = true) (he : e.plain = true) (dep : min d.depth e.depth ≤ 60) : eqG s d e = some (.bool (s (PyData.eqv d e))) := by
  unfold eqG eqOk
  rw [unscr_plain hd, unscr_plain he, hd, he, decide_eq_true dep]
  rfl
theorem eq_self {s : Bool → Bool} {d : D} (hd : d.plain = true) (dep : d.depth ≤ 60) : eqG s d d = some (.bool (s true)) := by
  rw [eqG_val hd hd (by omega), PySem.SeqAt.eqv_refl_plain d hd]
theorem eq_str {s : Bool → Bool} (x y : Str) : eqG s (.str x) (.str y) = some (.bool (s (decide (x = y)))) := by
  rw [eqG_val rfl rfl (by simp [PyData.depth])]
  simp only [PyData.eqv, PySem.W.beq_decide]
theorem eq_int {s : Bool → Bool} (x y : Int) : eqG s (.int x) (.int y) = some (.bool (s (decide (x = y)))) := by
  rw [eqG_val rfl rfl (by simp [PyData.depth])]
  simp only [PyData.eqv, PySem.W.beq_decide]
theorem in_strs (x : Str) (ys : List Str) : dInB (.str x) (.list (ys.map .str)) = some (decide (x ∈ ys)) := by
  have pl : ∀ ys : List Str, PyData.plainAll (ys.map .str) = true := fun ys => by
    induction ys with
    | nil => rfl
    | cons y ys ih => rw [List.map_cons, PyData.plainAll, ih]; rfl
  show (if _ then _ else _) = _
  rw [if_pos (by rw [pl ys]; simp [PyData.plain, PyData.depth])]
  congr 1
  rw [List.any_map]
  induction ys with
  | nil => simp
  | cons y ys ih =>
    rw [List.any_cons, ih]
    simp only [Function.comp, PyData.eqv, List.mem_cons]
    by_cases h : y = x
    · subst h; simp
    · have h' : ¬ x = y := fun q => h q.symm
      simp [h, h']
end Pz

set_option maxHeartbeats 4000000
/-! Plain mathematics: texts in order, sets of texts. -/
namespace Pz
open PySem PySem.Spec L2 PySem.W
def sLe (a b : Str) : Bool := !strLt b a
theorem kLe_str (a b : Str) : kLe (.inr a) (.inr b) = sLe a b := by
  unfold kLe dataLe sortLe
  show (!dataLt (.str b) (.str a)) = sLe a b
  rw [dataLt_str]
  rfl
def sortS (ms : List Str) : List Str := ms.mergeSort sLe
def dedS (ms : List Str) : List Str := ms.foldl (fun acc m => if m ∈ acc then acc else acc ++ [m]) []
def setS (ms : List Str) : List Str := sortS (dedS ms)
theorem keysOf_strs : ∀ ms : List Str, keysOf (ms.map PyData.str) = some (ms.map Sum.inr)
  | [] => rfl
  | m :: ms => by
    rw [List.map_cons, keysOf, keysOf_strs ms]
    rfl
theorem memK_inr (acc : List Str) (m : Str) : memK (acc.map Sum.inr) (.inr m) = decide (m ∈ acc) := by
  rw [Bool.eq_iff_iff, memK_iff, decide_eq_true_eq]
  simp
theorem metK_inr (ms : List Str) : metK (ms.map Sum.inr) = (dedS ms).map Sum.inr := by
  have go : ∀ (ms acc : List Str), (ms.map (Sum.inr : Str → Key)).foldl addK (acc.map Sum.inr) = (ms.foldl (fun acc m => if m ∈ acc then acc else acc ++ [m]) acc).map Sum.inr := fun ms => by
    induction ms with
    | nil => intro acc; rfl
    | cons m ms ih =>
      intro acc
      rw [List.map_cons, List.foldl_cons, List.foldl_cons, ← ih]
      congr 1
      unfold addK
      rw [memK_inr]
      by_cases h : m ∈ acc
      · simp [h]
      · simp [h]
  exact go ms []
theorem ded_go (ms acc : List Str) : (acc.Nodup → (ms.foldl (fun acc m => if m ∈ acc then acc else acc ++ [m]) acc).Nodup) ∧ ∀ x, x ∈ ms.foldl (fun acc m => if m ∈ acc then acc else acc ++ [m]) acc ↔ x ∈ acc ∨ x ∈ ms := by
  induction ms generalizing acc with
  | nil => exact ⟨id, fun x => by simp⟩
  | cons m ms ih =>
    rw [List.foldl_cons]
    by_cases h : m ∈ acc
    · rw [if_pos h]
      obtain ⟨i1, i2⟩ := ih acc
      refine ⟨i1, fun x => ?_⟩
      rw [i2, List.mem_cons]
      constructor
      · rintro (q | q)
        · exact .inl q
        · exact .inr (.inr q)
      · rintro (q | q | q)
        · exact .inl q
        · rw [q]; exact .inl h
        · exact .inr q
    · rw [if_neg h]
      obtain ⟨i1, i2⟩ := ih (acc ++ [m])
      refine ⟨fun nd => i1 (List.nodup_append.mpr ⟨nd, by simp, fun a ha b hb e => h (by rw [List.mem_singleton.mp hb] at e; exact e ▸ ha)⟩), fun x => ?_⟩
      rw [i2, List.mem_append, List.mem_singleton, List.mem_cons]
      exact or_assoc
theorem ded_nodup (ms : List Str) : (dedS ms).Nodup := (ded_go ms []).1 List.nodup_nil
theorem ded_mem (ms : List Str) (x : Str) : x ∈ dedS ms ↔ x ∈ ms := by
  have := (ded_go ms []).2 x
  unfold dedS
  rw [this]
  simp
theorem ded_self {ms : List Str} (h : ms.Nodup) : dedS ms = ms := by
  have go : ∀ (ms acc : List Str), (acc ++ ms).Nodup → ms.foldl (fun acc m => if m ∈ acc then acc else acc ++ [m]) acc = acc ++ ms := fun ms => by
    induction ms with
    | nil => intro acc _; simp
    | cons m ms ih =>
      intro acc nd
      have hm : m ∉ acc := fun q => by
        have := List.nodup_append.mp nd
        exact this.2.2 m q m List.mem_cons_self rfl
      rw [List.foldl_cons, if_neg hm, ih (acc ++ [m]) (by rw [List.append_assoc]; exact nd), List.append_assoc]
      rfl
  exact go ms [] h
theorem kmap_sort (l : List Str) : (l.map (Sum.inr : Str → Key)).mergeSort kLe = (sortS l).map Sum.inr := by
  unfold sortS
  exact (sort_maps (r := sLe) (s := kLe) (fun m : Str => (Sum.inr m : Key)) fun a _ b _ => (kLe_str a b).symm).symm
theorem ded_len (ms : List Str) : (dedS ms).length ≤ ms.length := by
  have := metK_len (ms.map Sum.inr)
  rw [metK_inr, List.length_map, List.length_map] at this
  exact this
theorem sortSet_strs (ms : List Str) (few : ms.length ≤ 1000) : dSortSet (.list (ms.map .str)) = some ((setS ms).map .str) := by
  have hh : homK (metK (ms.map Sum.inr)) = true := by
    rw [metK_inr]
    unfold homK
    rw [Bool.or_eq_true]
    refine .inr (List.all_eq_true.mpr fun k hk => ?_)
    obtain ⟨m, _, rfl⟩ := List.mem_map.mp hk
    rfl
  unfold dSortSet
  simp only [keysOf_strs, Option.bind_some]
  rw [if_pos ⟨hh, by rw [List.length_map]; exact Nat.le_trans few (by decide)⟩, isortK_eq, metK_inr, kmap_sort, List.map_map]
  rfl
theorem lenSet_strs (ms : List Str) (few : ms.length ≤ 1000) : dLenSet (.list (ms.map .str)) = some (.int (dedS ms).length) := by
  unfold dLenSet
  simp only [keysOf_strs, Option.bind_some]
  rw [if_pos (by rw [List.length_map]; exact Nat.le_trans few (by decide)), metK_inr, List.length_map]
theorem sLe_total : TotalLe sLe := by
  have h := kLe_total
  refine ⟨fun a b c h1 h2 => ?_, fun a b => ?_⟩
  · rw [← kLe_str] at h1 h2 ⊢; exact h.trans _ _ _ h1 h2
  · rw [← kLe_str, ← kLe_str]; exact h.total _ _
theorem sLe_antisymm {a b : Str} (h1 : sLe a b = true) (h2 : sLe b a = true) : a = b := by
  rw [← kLe_str] at h1 h2
  exact Sum.inr.inj (kLe_antisymm h1 h2)
theorem sort_mem (ms : List Str) (x : Str) : x ∈ sortS ms ↔ x ∈ ms := (List.mergeSort_perm ms sLe).mem_iff
theorem sort_len (ms : List Str) : (sortS ms).length = ms.length := List.length_mergeSort ms
theorem sort_inc {ms : List Str} (h : ms.Nodup) : (sortS ms).Pairwise fun x y => strLt x y = true := by
  have p := sort_pairwise sLe_total ms
  have nd : (sortS ms).Nodup := (List.mergeSort_perm ms sLe).nodup_iff.mpr h
  refine (List.Pairwise.and p nd).imp fun {a b} q => ?_
  obtain ⟨q1, q2⟩ := q
  cases e : strLt a b with
  | true => rfl
  | false => exact absurd (sLe_antisymm q1 (by unfold sLe; rw [e]; rfl)) q2
theorem sort_perm {ms ls : List Str} (h : ms.Perm ls) : sortS ms = sortS ls :=
  List.Perm.eq_of_pairwise (le := fun a b => sLe a b = true) (fun a b _ _ => sLe_antisymm) (sort_pairwise sLe_total ms) (sort_pairwise sLe_total ls) ((List.mergeSort_perm ms sLe).trans (h.trans (List.mergeSort_perm ls sLe).symm))
theorem sort_strs (ms : List Str) (few : ms.length ≤ 1000000) : dSort (.list (ms.map .str)) = some ((sortS ms).map .str) := by
  have ok : sortOk (ms.map PyData.str) = true := by
    unfold sortOk alikeB
    simp only [Bool.and_eq_true, Bool.or_eq_true, List.all_eq_true, decide_eq_true_eq, List.length_map]
    refine ⟨⟨⟨fun d hd e he => ?_, .inr fun d hd => ?_⟩, few⟩, fun d hd => ?_⟩
    · obtain ⟨m, _, rfl⟩ := List.mem_map.mp hd
      obtain ⟨m', _, rfl⟩ := List.mem_map.mp he
      simp [alike]
    · obtain ⟨m, _, rfl⟩ := List.mem_map.mp hd
      rfl
    · obtain ⟨m, _, rfl⟩ := List.mem_map.mp hd
      exact ⟨rfl, by simp [PyData.depth]⟩
  unfold dSort
  simp only [ok, if_true]
  congr 1
  unfold sortS
  refine (sort_maps (r := sLe) (s := dataLe false id) (fun m : Str => PyData.str m) fun a _ b _ => ?_).symm
  show sLe a b = !dataLt (.str b) (.str a)
  rw [dataLt_str]
  rfl
end Pz

set_option maxHeartbeats 4000000
/-! The plain layer: tuple(zip(xs, ys)) of two lists. -/
namespace Pz
open PySem PySem.Spec L2 PyProof.Rows
theorem zip_no_len : typeLookup (.type "zip") "__len__" = pure none := by rw [typeLookup_type, builtinLookup_eq_fast]; kernel_rfl
theorem zip_no_hint : typeLookup (.type "zip") "__length_hint__" = pure none := by rw [typeLookup_type, builtinLookup_eq_fast]; kernel_rfl
/-- the zip behind i pairs; S is the list that is filled -/
structure ZNow (S z TI TO i1 i2 l1 l2 : Addr) (xs ys : Array Value) (i : Nat) (h : Heap) : Prop where
  zip : (∃ a b, IsZip h z TI TO .none ∧ IsPair h TO a b) ∨ (∃ T f oT, IsZipHeld h z TI TO T f ∧ h.get? T = some oT ∧ T ≠ S ∧ T ≠ z ∧ T ≠ i1 ∧ T ≠ i2)
  ti : IsPair h TI (.ref i1) (.ref i2)
  to : ∃ o, h.get? TO = some o
  it1 : h.IsListIter i1 l1 i
  it2 : h.IsListIter i2 l2 i
  ls1 : h.IsList l1 xs
  ls2 : h.IsList l2 ys
/-- the pairs made so far -/
structure Made (base S z TO i1 i2 : Addr) (xs ys : Array Value) (bs : List Addr) (h : Heap) : Prop where
  nd : bs.Nodup
  apart : ∀ b ∈ bs, base ≤ b ∧ b ≠ S ∧ b ≠ z ∧ b ≠ TO ∧ b ≠ i1 ∧ b ≠ i2
  pair : ∀ (j : Nat) (b : Addr), bs[j]? = some b → ∃ x y, xs[j]? = some x ∧ ys[j]? = some y ∧ IsPair h b x y
structure Off (S z TI TO i1 i2 l1 l2 : Addr) : Prop where
  z : z ≠ S
  ti : TI ≠ S
  to : TO ≠ S
  i1 : i1 ≠ S
  i2 : i2 ≠ S
  l1 : l1 ≠ S
  l2 : l2 ≠ S
section
variable {prog : Program} {w : World} {A : Around} {E : Value → Shared → Prop} {s : Shared} {base S z TI TO i1 i2 l1 l2 : Addr} {xs ys : Array Value}
theorem ZNow.frame {i : Nat} {h h' : Heap} (Z : ZNow S z TI TO i1 i2 l1 l2 xs ys i h) (O : Off S z TI TO i1 i2 l1 l2) (k : ∀ c o, c ≠ S → h.get? c = some o → h'.get? c = some o) : ZNow S z TI TO i1 i2 l1 l2 xs ys i h' := by
  obtain ⟨zp, ti, ⟨oo, to⟩, it1, it2, ls1, ls2⟩ := Z
  refine ⟨?_, k _ _ O.ti ti, ⟨oo, k _ _ O.to to⟩, it1.at fun o e => k _ o O.i1 e, it2.at fun o e => k _ o O.i2 e, ls1.at fun o e => k _ o O.l1 e, ls2.at fun o e => k _ o O.l2 e⟩
  rcases zp with ⟨a, b, h1, h2⟩ | ⟨T, f, oT, h1, h2, h3, h4⟩
  · exact .inl ⟨a, b, k _ _ O.z h1, k _ _ O.to h2⟩
  · exact .inr ⟨T, f, oT, k _ _ O.z h1, k _ _ h3 h2, h3, h4⟩
theorem Made.frame {bs : List Addr} {h h' : Heap} (M : Made base S z TO i1 i2 xs ys bs h) (k : ∀ c o, c ≠ S → c ≠ z → c ≠ TO → c ≠ i1 → c ≠ i2 → h.get? c = some o → h'.get? c = some o) : Made base S z TO i1 i2 xs ys bs h' :=
  ⟨M.nd, M.apart, fun j b e => by
    obtain ⟨x, y, h1, h2, h3⟩ := M.pair j b e
    obtain ⟨_, a1, a2, a3, a4, a5⟩ := M.apart b (List.mem_of_getElem? e)
    exact ⟨x, y, h1, h2, k _ _ a1 a2 a3 a4 a5 h3⟩⟩
theorem ZNow.next {i : Nat} {x y : Value} {Q : Option Value → Shared → Prop} (D : ZipApart z TI TO i1 i2 l1 l2) (Z : ZNow S z TI TO i1 i2 l1 l2 xs ys i s.heap) (hS : S < s.heap.objs.size) (hx : xs[i]? = some x) (hy : ys[i]? = some y)
    (hQ : ∀ h', ZNow S z TI TO i1 i2 l1 l2 xs ys (i + 1) h' → IsPair h' s.heap.objs.size x y → h'.objs.size = s.heap.objs.size + 1 → (∀ c o, c ≠ z → c ≠ TO → c ≠ i1 → c ≠ i2 → s.heap.get? c = some o → h'.get? c = some o) → Q (some (.ref s.heap.objs.size)) { s with heap := h' }) :
    wpAny (model prog w) A (pyNext (.ref z)) Q E s := by
  obtain ⟨zp, ti, ⟨oo, to⟩, it1, it2, ls1, ls2⟩ := Z
  rcases zp with ⟨a, b, hz, hTO⟩ | ⟨T, f, oT, hz, hT, t1, t2, t3, t4⟩
  · refine wpAny_pyNext_zip_item D hz ti hTO it1 it2 ls1 ls2 hx hy fun h' a1 a2 a3 a4 a5 a6 hk => hQ h' ⟨.inr ⟨s.heap.objs.size, false, _, a1, a5, ?_, ?_, ?_, ?_⟩, hk _ _ D.TIz D.TITO D.TIi1 D.TIi2 ti, ⟨_, a2⟩, a3, a4, ls1.at fun o e => hk _ o D.l1z D.l1TO D.l1i1 D.l1i2 e, ls2.at fun o e => hk _ o D.l2z D.l2TO D.l2i1 D.l2i2 e⟩ a5 a6 hk
    · exact Nat.ne_of_gt hS
    · exact Nat.ne_of_gt (Heap.lt_size hz)
    · obtain ⟨_, e, _⟩ := it1; exact Nat.ne_of_gt (Heap.lt_size e)
    · obtain ⟨_, e, _⟩ := it2; exact Nat.ne_of_gt (Heap.lt_size e)
  · refine wpAny_pyNext_zip_item_held D hz hT ti it1 it2 ls1 ls2 hx hy fun h' a1 a3 a4 a5 a6 hk => hQ h' ⟨.inr ⟨T, true, oT, a1, hk _ _ t2 t3 t4 hT, t1, t2, t3, t4⟩, hk _ _ D.TIz D.TIi1 D.TIi2 ti, ⟨oo, hk _ _ D.TOz D.TOi1 D.TOi2 to⟩, a3, a4, ls1.at fun o e => hk _ o D.l1z D.l1i1 D.l1i2 e, ls2.at fun o e => hk _ o D.l2z D.l2i1 D.l2i2 e⟩ a5 a6 fun c o c1 _ c3 c4 e => hk c o c1 c3 c4 e
theorem ZNow.stop {i : Nat} {Q : Option Value → Shared → Prop} (hh : A.handled = none) (D : ZipApart z TI TO i1 i2 l1 l2) (Z : ZNow S z TI TO i1 i2 l1 l2 xs ys i s.heap) (hend : xs[i]? = none ∨ ys[i]? = none)
    (hQ : ∀ h', (∀ c o, c ≠ z → c ≠ TO → c ≠ i1 → c ≠ i2 → s.heap.get? c = some o → h'.get? c = some o) → Q none { s with heap := h' }) : wpAny (model prog w) A (pyNext (.ref z)) Q E s := by
  obtain ⟨zp, ti, ⟨oo, to⟩, it1, it2, ls1, ls2⟩ := Z
  rcases zp with ⟨a, b, hz, hTO⟩ | ⟨T, f, oT, hz, hT, t1, t2, t3, t4⟩
  · exact wpAny_pyNext_zip_end hh D hz ti hTO it1 it2 ls1 ls2 hend hQ
  · exact wpAny_pyNext_zip_end_held hh D hz hT ti it1 it2 ls1 ls2 hend fun h' hk => hQ h' fun c o c1 _ c3 c4 e => hk c o c1 c3 c4 e
theorem grown {bs : List Addr} {c : Nat} (b : Addr) : ∃ c', Obj.mapSeq (·.push (.ref b)) { cls := .type "list", dict := none, data := .seq (bs.map Value.ref).toArray c, slots := #[] } = { cls := .type "list", dict := none, data := .seq ((bs ++ [b]).map Value.ref).toArray c', slots := #[] } := by
  simp only [Obj.mapSeq, List.map_append, List.map_cons, List.map_nil, List.push_toArray]
  exact ⟨_, rfl⟩
theorem extend_zip {R : Result → Shared → Prop} (hh : A.handled = none) (D : ZipApart z TI TO i1 i2 l1 l2) (O : Off S z TI TO i1 i2 l1 l2) (res : Value) (n : Nat) (hn : n = min xs.size ys.size) (few : n ≤ sizeLine) :
    ∀ (k i : Nat) (s : Shared) (bs : List Addr), n - i = k → i ≤ n → ZNow S z TI TO i1 i2 l1 l2 xs ys i s.heap → (∃ c, s.heap.get? S = some { cls := .type "list", dict := none, data := .seq (bs.map Value.ref).toArray c, slots := #[] }) → bs.length = i → base ≤ s.heap.objs.size → Made base S z TO i1 i2 xs ys bs s.heap →
    (∀ h' t' bs' c', h'.get? S = some { cls := .type "list", dict := none, data := .seq (bs'.map Value.ref).toArray c', slots := #[] } → bs'.length = n → Made base S z TO i1 i2 xs ys bs' h' → (∀ c o, c ≠ S → c ≠ z → c ≠ TO → c ≠ i1 → c ≠ i2 → s.heap.get? c = some o → h'.get? c = some o) → R (.ok (.ret res)) { s with heap := h', toks := t' }) →
    codeAny (model prog w) A (.builtin "list.extend.loop" ⟨[.ref S, .ref z, res], []⟩) R s := by
  intro k
  induction k with
  | zero =>
    intro i s bs hk hi Z ⟨c, hS⟩ hb hB M hR
    have hin : i = n := by omega
    subst hin
    refine codeAny_builtin F.entry_extend_loop ?_
    rw [Around.under_plainId F.plain_extend_loop _]
    show wpAny _ A.in1 (pyNext (.ref z) >>= _) _ _ s
    refine wpAny_bind (Z.stop (A := A.in1) hh D (by
      rcases Nat.le_total xs.size ys.size with h | h
      · exact .inl (Array.getElem?_eq_none (by omega))
      · exact .inr (Array.getElem?_eq_none (by omega))) fun h' hkp => ?_)
    refine wpAny_pure ?_
    have hS' := hkp S _ O.z.symm O.to.symm O.i1.symm O.i2.symm hS
    exact hR h' s.toks bs c hS' hb (M.frame fun c o _ c1 c2 c3 c4 e => hkp c o c1 c2 c3 c4 e) fun c o _ c1 c2 c3 c4 e => hkp c o c1 c2 c3 c4 e
  | succ k ih =>
    intro i s bs hk hi Z ⟨c, hS⟩ hb hB M hR
    have hlt : i < n := by omega
    have hix : i < xs.size := by omega
    have hiy : i < ys.size := by omega
    have hSl : S < s.heap.objs.size := Heap.lt_size hS
    refine codeAny_builtin F.entry_extend_loop ?_
    rw [Around.under_plainId F.plain_extend_loop _]
    show wpAny _ A.in1 (pyNext (.ref z) >>= _) _ _ s
    refine wpAny_bind (Z.next (A := A.in1) D hSl (Array.getElem?_eq_getElem hix) (Array.getElem?_eq_getElem hiy) fun h' Z' hp hsz hkp => ?_)
    have hS' := hkp S _ O.z.symm O.to.symm O.i1.symm O.i2.symm hS
    show wpAny _ A.in1 (updateSeq S (·.push (.ref s.heap.objs.size)) >>= _) _ _ _
    refine wpAny_bind ?_
    have hsz2 : ((bs.map Value.ref).toArray).size = i := by simp [hb]
    refine wpAny_updateSeq hS' rfl (wpAny_pure ⟨plainId_quiet F.plain_extend_loop _, ih (i + 1) _ (bs ++ [s.heap.objs.size]) (by omega) hlt (Z'.frame O fun c o hc e => (Heap.get?_update_other _ _ (Ne.symm hc)).trans e) ?_ (by rw [List.length_append, hb]; rfl) ?_ ?_ fun h'' t'' bs' c' h1 h2 h3 h4 => ?_⟩) (by rw [hsz2]; omega) (by show (Array.push _ _).size ≤ sizeLine + 1; rw [Array.size_push, hsz2]; omega)
    · obtain ⟨c', hc'⟩ := grown (bs := bs) (c := c) s.heap.objs.size
      exact ⟨c', (Heap.get?_update_self _ hS' rfl).trans (congrArg some hc')⟩
    · show base ≤ (h'.update S _).objs.size
      rw [Heap.size_update, hsz]
      exact Nat.le_succ_of_le hB
    · have M' : Made base S z TO i1 i2 xs ys bs h' := M.frame fun c o _ c1 c2 c3 c4 e => hkp c o c1 c2 c3 c4 e
      have hfresh : ∀ b ∈ bs, b < s.heap.objs.size := fun b hb => by
        obtain ⟨j, hj⟩ := List.getElem?_of_mem hb
        obtain ⟨_, _, _, _, e⟩ := M.pair j b hj
        exact Heap.lt_size e
      refine ⟨?_, ?_, ?_⟩
      · refine List.nodup_append.mpr ⟨M.nd, by simp, fun a ha b hb => ?_⟩
        rw [List.mem_singleton] at hb
        subst hb
        exact Nat.ne_of_lt (hfresh a ha)
      · intro b hb'
        rcases List.mem_append.mp hb' with hm | hm
        · exact M.apart b hm
        rw [List.mem_singleton] at hm
        subst hm
        obtain ⟨zp, ti, ⟨_, to⟩, it1, it2, _, _⟩ := Z
        have e1 : i1 < s.heap.objs.size := by obtain ⟨_, e, _⟩ := it1; exact Heap.lt_size e
        have e2 : i2 < s.heap.objs.size := by obtain ⟨_, e, _⟩ := it2; exact Heap.lt_size e
        have e3 : z < s.heap.objs.size := by
          rcases zp with ⟨_, _, h, _⟩ | ⟨_, _, _, h, _⟩
          · exact Heap.lt_size h
          · exact Heap.lt_size h
        exact ⟨hB, Nat.ne_of_gt hSl, Nat.ne_of_gt e3, Nat.ne_of_gt (Heap.lt_size to), Nat.ne_of_gt e1, Nat.ne_of_gt e2⟩
      · intro j b hj
        have up : ∀ c o, c ≠ S → h'.get? c = some o → (h'.update S (Obj.mapSeq (·.push (.ref s.heap.objs.size)))).get? c = some o := fun c o hc e => (Heap.get?_update_other _ _ (Ne.symm hc)).trans e
        rw [List.getElem?_append] at hj
        split at hj
        · obtain ⟨x, y, h1, h2, h3⟩ := M'.pair j b hj
          exact ⟨x, y, h1, h2, up _ _ (M.apart b (List.mem_of_getElem? hj)).2.1 h3⟩
        · rename_i hj2
          have hj3 : j = i ∧ b = s.heap.objs.size := by
            rcases Nat.lt_or_ge (j - bs.length) 1 with h | h
            · have h0 : j - bs.length = 0 := by omega
              rw [h0] at hj
              cases hj
              exact ⟨by omega, rfl⟩
            · rw [List.getElem?_eq_none (by simpa using h)] at hj
              cases hj
          obtain ⟨rfl, rfl⟩ := hj3
          exact ⟨_, _, Array.getElem?_eq_getElem hix, Array.getElem?_eq_getElem hiy, up _ _ (Nat.ne_of_gt hSl) hp⟩
    · refine hR h'' t'' bs' c' h1 h2 h3 fun c o c0 c1 c2 c3 c4 e => h4 c o c0 c1 c2 c3 c4 ?_
      exact (Heap.get?_update_other _ _ (Ne.symm c0)).trans (hkp c o c1 c2 c3 c4 e)

/-- what tuple(zip(..)) makes: the pairs, and the row of them -/
def PairsOf (base : Addr) (xs ys : Array Value) (bs : List Addr) (h : Heap) : Prop :=
  bs.Nodup ∧ bs.length = min xs.size ys.size ∧ (∀ b ∈ bs, base ≤ b) ∧ ∀ (j : Nat) (b : Addr), bs[j]? = some b → ∃ x y, xs[j]? = some x ∧ ys[j]? = some y ∧ IsPair h b x y
theorem wpAny_collect_zip {Q : List Value → Shared → Prop} (hh : A.handled = none) (D : ZipApart z TI TO i1 i2 l1 l2) (hz : IsZip s.heap z TI TO .none) (hTI : IsPair s.heap TI (.ref i1) (.ref i2)) {a b : Value} (hTO : IsPair s.heap TO a b)
    (h1 : s.heap.IsListIter i1 l1 0) (h2 : s.heap.IsListIter i2 l2 0) (hl1 : s.heap.IsList l1 xs) (hl2 : s.heap.IsList l2 ys) (few : min xs.size ys.size ≤ sizeLine) (hB : base ≤ s.heap.objs.size)
    (hQ : ∀ h' t' bs, PairsOf base xs ys bs h' → (∀ c o, c ≠ z → c ≠ TO → c ≠ i1 → c ≠ i2 → s.heap.get? c = some o → h'.get? c = some o) → Q (bs.map Value.ref) { s with heap := h', toks := t' }) : wpAny (model prog w) A (collect (.ref z)) Q E s := by
  have lt : ∀ {c o}, s.heap.get? c = some o → c ≠ s.heap.objs.size := fun e => Nat.ne_of_lt (Heap.lt_size e)
  have O : Off s.heap.objs.size z TI TO i1 i2 l1 l2 := ⟨lt hz, lt hTI, lt hTO, by obtain ⟨_, e, _⟩ := h1; exact lt e, by obtain ⟨_, e, _⟩ := h2; exact lt e, by obtain ⟨_, e, _⟩ := hl1; exact lt e, by obtain ⟨_, e, _⟩ := hl2; exact lt e⟩
  have Z0 : ZNow s.heap.objs.size z TI TO i1 i2 l1 l2 xs ys 0 s.heap := ⟨.inl ⟨a, b, hz, hTO⟩, hTI, ⟨_, hTO⟩, h1, h2, hl1, hl2⟩
  have hT : ∀ hp tk, (∀ c o, c ≠ s.heap.objs.size → s.heap.get? c = some o → hp.get? c = some o) → ({ s with heap := hp, toks := tk } : Shared).TypeIs (.ref z) "zip" := fun hp tk k => ⟨_, k _ _ O.z hz, rfl⟩
  have k1 : ∀ c o, c ≠ s.heap.objs.size → s.heap.get? c = some o → (s.heap.push { cls := .type "list", data := .seq ([] : List Value).toArray }).get? c = some o := fun c o _ e => Heap.get?_push_of_some _ e
  unfold collect
  refine wpAny_bind (wpAny_runValue (codeAny_builtin F.entry_proto_collect ?_))
  rw [Around.under_plainId F.plain_proto_collect _]
  show wpAny _ A.in1 (newList [] >>= fun l => again (.builtin "list.__iadd__" ⟨[l, .ref z], []⟩)) _ _ s
  refine wpAny_bind (wpAny_newObj_type ?_)
  refine wpAny_pure ⟨plainId_quiet F.plain_list_iadd _, codeAny_builtin F.entry_list_iadd ?_⟩
  rw [Around.under_plainId F.plain_list_iadd _]
  show wpAny _ A.in1 (Builtin.List.listExtendWith (.ref s.heap.objs.size) (.ref z) (.ref s.heap.objs.size)) _ _ _
  unfold Builtin.List.listExtendWith
  refine wpAny_bind (wpAny_typeOf (hT _ s.toks k1) ?_)
  have e1 : Builtin.List.listSameRef (.ref s.heap.objs.size) (.ref z) = false := by simp [Builtin.List.listSameRef, Ne.symm O.z]
  have e2 : (Value.type "zip" == Value.type "list") = false := by decide
  have e3 : (Value.type "zip" == Value.type "tuple") = false := by decide
  simp only [e1, e2, e3, Bool.or_false, Bool.false_eq_true, if_false]
  refine wpAny_bind (wpAny_pyIter_zip (k1 _ _ O.z hz) ?_)
  refine wpAny_bind (wpAny_holding ?_)
  unfold Builtin.List.listLengthHint
  refine wpAny_bind (wpAny_specialOf (hT _ s.toks k1) zip_no_len ?_)
  show wpAny _ A.in1 (specialOf (Value.ref z) (Str.ofString "__length_hint__") >>= _) _ _ _
  refine wpAny_bind (wpAny_specialOf (hT _ s.toks k1) zip_no_hint ?_)
  refine wpAny_pure ?_
  show wpAny _ A.in1 (rule "list.extend.makes-room" >>= fun _ => Builtin.List.listTouch (.ref s.heap.objs.size) >>= fun _ =>
    again (.builtin "list.extend.loop" ⟨[.ref s.heap.objs.size, .ref z, .ref s.heap.objs.size], []⟩)) _ _ _
  refine wpAny_bind (wpAny_rule ?_)
  have hS₁ : (s.heap.push { cls := .type "list", data := .seq ([] : List Value).toArray }).get? s.heap.objs.size = some { cls := .type "list", data := .seq ([] : List Value).toArray } := Heap.get?_push_size _ rfl
  refine wpAny_bind ?_
  show wpAny _ A.in1 (updateSeq s.heap.objs.size (·.push .none) >>= fun _ => updateSeq s.heap.objs.size (·.pop)) _ _ _
  refine wpAny_bind (wpAny_updateSeq hS₁ rfl ?_)
  have hS₂ := Heap.get?_update_self (Obj.mapSeq (·.push Value.none)) hS₁ rfl
  refine wpAny_updateSeq hS₂ rfl ?_
  have hS₃ := Heap.get?_update_self (Obj.mapSeq (·.pop)) hS₂ rfl
  have oth : ∀ b o, b ≠ s.heap.objs.size → s.heap.get? b = some o →
      (((s.heap.push { cls := .type "list", data := .seq ([] : List Value).toArray }).update s.heap.objs.size (Obj.mapSeq (·.push Value.none))).update s.heap.objs.size (Obj.mapSeq (·.pop))).get? b = some o :=
    fun b o hb e => (Heap.get?_update_other _ _ (Ne.symm hb)).trans ((Heap.get?_update_other _ _ (Ne.symm hb)).trans (k1 b o hb e))
  refine wpAny_pure ⟨plainId_quiet F.plain_extend_loop _, extend_zip (A := A) (base := base) hh D O _ (min xs.size ys.size) rfl few _ 0 _ [] rfl (Nat.zero_le _) (Z0.frame O oth) ⟨_, hS₃⟩ rfl ?_ ⟨List.nodup_nil, (fun b hb => by cases hb), fun j b hb => by cases hb⟩ fun h' t' bs' c' hS' hlen M k => ?_⟩
  · show base ≤ (Heap.update _ _ _).objs.size
    rw [Heap.size_update, Heap.size_update, Heap.size_push]
    exact Nat.le_succ_of_le hB
  show wpAny _ A (load s.heap.objs.size >>= _) _ _ _
  refine wpAny_bind (wpAny_load hS' ?_)
  refine wpAny_pure (hQ h' t' bs' ⟨M.nd, hlen, fun b hb => (M.apart b hb).1, M.pair⟩ fun c o c1 c2 c3 c4 e => k c o (lt e) c1 c2 c3 c4 (oth c o (lt e) e))

theorem code_tuple_zip {Q₁ : Value → Shared → Prop} (hh : A.handled = none) (D : ZipApart z TI TO i1 i2 l1 l2) (hz : IsZip s.heap z TI TO .none) (hTI : IsPair s.heap TI (.ref i1) (.ref i2)) {a b : Value} (hTO : IsPair s.heap TO a b)
    (h1 : s.heap.IsListIter i1 l1 0) (h2 : s.heap.IsListIter i2 l2 0) (hl1 : s.heap.IsList l1 xs) (hl2 : s.heap.IsList l2 ys) (few : min xs.size ys.size ≤ sizeLine) (hB : base ≤ s.heap.objs.size)
    (h : ∀ h' t' bs, PairsOf base xs ys bs h' → (∀ c o, c ≠ z → c ≠ TO → c ≠ i1 → c ≠ i2 → s.heap.get? c = some o → h'.get? c = some o) → Q₁ (.ref h'.objs.size) { s with heap := h'.push { cls := .type "tuple", data := .seq (bs.map Value.ref).toArray }, toks := t' }) :
    codeAny (model prog w) A (.call (.builtin "tuple.__new__") ⟨[.type "tuple", .ref z], []⟩) (wants Q₁ E) s := by
  refine codeAny_of_tree ?_
  show wpAny _ A.in1 (do checkBuiltinCall "tuple.__new__" ⟨[.type "tuple", .ref z], []⟩; again (.builtin "tuple.__new__" ⟨[.type "tuple", .ref z], []⟩)) _ _ s
  refine wpAny_bind (wpAny_of_eq (F.newCall_tuple_1 _) (wpAny_pure ⟨plainId_quiet F.plain_tuple_new _, codeAny_builtin F.entry_tuple_new ?_⟩))
  rw [Around.under_plainId F.plain_tuple_new _]
  have hsub := sub_tuple_self
  have hinit := init_tuple_lookup
  have hmh := madeHere_tuple
  have hTI' : s.TypeIs (.ref z) "zip" := ⟨_, hz, rfl⟩
  wp_walk using wpAny_typeOf hTI', wpAny_collect_zip (A := A.in1) (base := base) hh D hz hTI hTO h1 h2 hl1 hl2 few hB
  intro h' t' bs hp k
  show wpAny _ _ (Builtin.Tuple.tupleExact (bs.map Value.ref).toArray >>= fun v => ret v) _ _ _
  unfold Builtin.Tuple.tupleExact
  refine wpAny_bind (wpAny_newObj_type ?_ (by show (bs.map Value.ref).toArray.size ≤ sizeLine; simp only [List.size_toArray, List.length_map]; rw [hp.2.1]; exact few))
  refine wpAny_pure ?_
  exact h h' t' bs hp k
theorem call_tuple_zip {Q : Value → Shared → Prop} (hh : A.handled = none) (D : ZipApart z TI TO i1 i2 l1 l2) (hz : IsZip s.heap z TI TO .none) (hTI : IsPair s.heap TI (.ref i1) (.ref i2)) {a b : Value} (hTO : IsPair s.heap TO a b)
    (h1 : s.heap.IsListIter i1 l1 0) (h2 : s.heap.IsListIter i2 l2 0) (hl1 : s.heap.IsList l1 xs) (hl2 : s.heap.IsList l2 ys) (few : min xs.size ys.size ≤ sizeLine) (hB : base ≤ s.heap.objs.size)
    (hQ : ∀ h' t' bs, PairsOf base xs ys bs h' → (∀ c o, c ≠ z → c ≠ TO → c ≠ i1 → c ≠ i2 → s.heap.get? c = some o → h'.get? c = some o) → Q (.ref h'.objs.size) { s with heap := h'.push { cls := .type "tuple", data := .seq (bs.map Value.ref).toArray }, toks := t' }) :
    wpAny (model prog w) A (call (.type "tuple") [.ref z]) Q E s := by
  refine callType_codes (Q₁ := fun obj s₁ => s₁.TypeIs obj "tuple" ∧ Q obj s₁) F.called_tuple (F.typeCall_tuple_1 _) F.entry_object_init
    (code_tuple_zip (base := base) hh D hz hTI hTO h1 h2 hl1 hl2 few hB fun h' t' bs hp k => ⟨⟨_, Heap.get?_push_size _ rfl, rfl⟩, hQ h' t' bs hp k⟩) fun obj s₁ h₁ => ?_
  exact ⟨h₁.1, F.args_object_init_2 obj _, object_init_meets F.called_tuple.init.lookup F.called_tuple.made (by decide) prog w A.in1 _ s₁ ⟨h₁.1, rfl, h₁.2⟩⟩
end

section
variable {K : PySem.W.Frag} {P : Program} {w : World} {fs ex : List Addr} {H H' : Hp} {h h' : Heap} {a : Addr} {o : HO}
theorem un_more (u : Un fs ex H H' h h') (hp : h.get? a = none) (hn : H' a = none) : Un fs ex H (upd H' a o) h h' where
  keep := u.keep
  slot := u.slot
  free := fun b ob q n x => by rw [upd_ne (fun z => by rw [z, hp] at q; cases q)]; exact u.free b ob q n x
  there := u.there
  tups := fun b xs q => by rw [upd_ne (ne_of_none (u.tups b xs q) hn)]; exact u.tups b xs q
  frzs := fun b ob xs q => by rw [upd_ne (ne_of_none (u.frzs b ob xs q) hn)]; exact u.frzs b ob xs q
  tbls := fun b ps q => by
    obtain ⟨m, e⟩ := u.tbls b ps q
    exact ⟨m, by rw [upd_ne (ne_of_none e hn)]; exact e⟩
/-- pairs that lie in the heap are tracked -/
theorem track_pairs {xs ys : List V} {us vs : List Value} (rx : Vals xs us) (ry : Vals ys vs) :
    ∀ (bs : List Addr) (k : Nat) (Hk : Hp), Un fs ex H Hk h h' → HOk P w Hk h' → bs.Nodup → (∀ b ∈ bs, h.get? b = none ∧ Hk b = none) →
      (∀ (j : Nat) (b : Addr), bs[j]? = some b → ∃ x y, us[k + j]? = some x ∧ vs[k + j]? = some y ∧ IsPair h' b x y) →
      ∃ Hn : Hp, Un fs ex H Hn h h' ∧ HOk P w Hn h' ∧ (∀ a o, Hk a = some o → Hn a = some o) ∧ (∀ a, Hk a = none → a ∉ bs → Hn a = none) ∧
        ∀ (j : Nat) (b : Addr), bs[j]? = some b → ∃ x y, xs[k + j]? = some x ∧ ys[k + j]? = some y ∧ TpN Hn b [x, y]
  | [], k, Hk, u, ok, _, _, _ => ⟨Hk, u, ok, fun _ _ e => e, fun _ e _ => e, fun j b e => by cases e⟩
  | b :: bs, k, Hk, u, ok, nd, fr, pr => by
    obtain ⟨f1, f2⟩ := fr b List.mem_cons_self
    obtain ⟨ux, uy, e1, e2, hp⟩ := pr 0 b rfl
    have l1 := rx.length
    have l2 := ry.length
    have b1 : k + 0 < us.length := lt_of_get e1
    have b2 : k + 0 < vs.length := lt_of_get e2
    have g1 : xs[k + 0]? = some xs[k + 0] := List.getElem?_eq_getElem (by omega)
    have g2 : ys[k + 0]? = some ys[k + 0] := List.getElem?_eq_getElem (by omega)
    obtain ⟨u1, e1', r1⟩ := rx.get g1
    obtain ⟨u2, e2', r2⟩ := ry.get g2
    rw [e1] at e1'
    rw [e2] at e2'
    cases e1'
    cases e2'
    have nd' := List.nodup_cons.mp nd
    have new : ObjOk P w (upd Hk b (.frz { cls := .type "tuple", data := .seq #[ux, uy] } (.tup [xs[k + 0], ys[k + 0]]))) h' b (.frz { cls := .type "tuple", data := .seq #[ux, uy] } (.tup [xs[k + 0], ys[k + 0]])) :=
      ⟨hp, by show 2 ≤ sizeLine; decide, [ux, uy], .cons r1 (.cons r2 .nil), ⟨_, hp, rfl, _, rfl⟩⟩
    obtain ⟨Hn, a1, a2, a3, a4, a5⟩ := track_pairs rx ry bs (k + 1) _ (un_more u f1 f2) (HOk.laidN ok (fun _ _ e => e) f2 new) nd'.2 (fun c hc => ⟨(fr c (List.mem_cons_of_mem _ hc)).1, by
      rw [upd_ne (fun e => nd'.1 (by rw [← e]; exact hc))]
      exact (fr c (List.mem_cons_of_mem _ hc)).2⟩) (fun j c e => by
        rw [show k + 1 + j = k + (j + 1) by omega]
        exact pr (j + 1) c e)
    refine ⟨Hn, a1, a2, fun c oc e => a3 c oc (by rw [upd_ne (ne_of_none e f2)]; exact e), fun c e hc => a4 c (by
      rw [upd_ne (fun z => hc (by rw [z]; exact List.mem_cons_self))]
      exact e) (fun z => hc (List.mem_cons_of_mem _ z)), fun j c e => ?_⟩
    cases j with
    | zero =>
      cases e
      have tn : TpN (upd Hk b (.frz { cls := .type "tuple", data := .seq #[ux, uy] } (.tup [xs[k + 0], ys[k + 0]]))) b [xs[k + 0], ys[k + 0]] := ⟨_, upd_same, rfl⟩
      obtain ⟨ob, e, d⟩ := tn
      exact ⟨_, _, g1, g2, ob, a3 _ _ e, d⟩
    | succ j =>
      obtain ⟨x, y, c1, c2, c3⟩ := a5 j c e
      rw [show k + 1 + j = k + (j + 1) by omega] at c1 c2
      exact ⟨x, y, c1, c2, c3⟩
theorem rp_pairs {Z : Addr → Prop} : ∀ {xs ys : List V} {ds es : List D} {bs : List Addr}, RpAll K Z H xs ds → RpAll K Z H ys es → bs.length = min xs.length ys.length →
    (∀ (j : Nat) (b : Addr), bs[j]? = some b → ∃ x y, xs[j]? = some x ∧ ys[j]? = some y ∧ TpN H b [x, y]) → RpAll K Z H (bs.map V.ref) (zipD ds es)
  | [], _, _, _, [], .nil, _, _, _ => .nil
  | _ :: _, [], _, _, [], .cons _ _, .nil, _, _ => .nil
  | [], _, _, _, b :: bs, .nil, _, hl, _ => by simp at hl
  | _ :: _, [], _, _, b :: bs, .cons _ _, .nil, hl, _ => by simp at hl
  | x :: xs, y :: ys, _, _, [], _, _, hl, _ => by simp only [List.length_cons, List.length_nil] at hl; omega
  | x :: xs, y :: ys, _, _, b :: bs, .cons r1 t1, .cons r2 t2, hl, h => by
    obtain ⟨x', y', e1, e2, tn⟩ := h 0 b rfl
    cases e1
    cases e2
    exact .cons (.tup tn (.cons r1 (.cons r2 .nil))) (rp_pairs t1 t2 (by simp only [List.length_cons] at hl; omega) fun j c e => h (j + 1) c e)
end
theorem vals_ref : ∀ bs : List Addr, Vals (bs.map V.ref) (bs.map Value.ref)
  | [] => .nil
  | b :: bs => .cons rfl (vals_ref bs)
/-- tuple(zip(a, b)) of two lists -/
def fTupZip (a b : Fx) : Fx := fun ρ => a ρ >>= fun d => b ρ >>= fun e => match d, e with
  | .list ds, .list es => .ok (.tuple (zipD ds es))
  | _, _ => .bad
section
variable {X : Cx} {W : WX} {a b : Expr} {fa fb : Fx} {pos p p2 q : Pos}
theorem pz_tupzip (hg : Gl X "tuple") (hm : X.mg "tuple" = none) (hg2 : Gl X "zip") (hm2 : X.mg "zip" = none) (hc : X.calm = true) (ha : PE X a (tP X.K W fa)) (hb : PE X b (tP X.K W fb))
    (hs : starEach [a, b] X.env = (false, eval a X.env) :: starEach [b] X.env := by rfl) (hs0 : starEach [b] X.env = (false, eval b X.env) :: starEach [] X.env := by rfl)
    (hpl : (backTo q (starEach [b] X.env)).any (·.1) = false := by rfl)
    (hs2 : starEach [.Call (.Name "zip" p2) [a, b] [] q] X.env = (false, eval (.Call (.Name "zip" p2) [a, b] [] q) X.env) :: starEach [] X.env := by rfl) :
    PE X (.Call (.Name "tuple" p) [.Call (.Name "zip" p2) [a, b] [] q] [] pos) (tP X.K W (fTupZip fa fb)) := by
  refine ⟨fun pins s σ H Q I h => ?_⟩
  have hab := pa_cons ha (pa_cons hb pa_nil hs0) hs
  obtain ⟨B, Z, ρ, E, h⟩ := h
  have h' : tCons (tP X.K W fa) (tCons (tP X.K W fb) tNil) σ H fun vs H1 => ∃ a b xs ys ds es Z1, vs = [.ref a, .ref b] ∧ SqL X.K H1 a xs ∧ SqL X.K H1 b ys ∧ RpAll X.K Z1 H1 xs ds ∧ RpAll X.K Z1 H1 ys es ∧ KP X.K Z1 H1 (.tuple (zipD ds es)) Q := by
    refine ⟨B, Z, ρ, E, h.bind.mono (fun d h1 v Z1 H1 g1 r1 => ⟨B, Z1, ρ, E.grow g1, h1.bind.mono (fun d2 h2 v2 Z2 H2 g2 r2 => ?_) fun _ w => w.grow g1⟩) fun _ w => w⟩
    have r1 := r1.grow g2
    split at h2
    · cases r1 with
      | lst z hl r =>
        cases r2 with
        | lst z2 hl2 r' => exact ⟨_, _, _, _, _, _, Z2, rfl, SqL.of hl, SqL.of hl2, r, r', KP.grow h2 (g1.trans g2)⟩
    · exact h2.elim
  refine Call_ (ld_blt I hg hm boot_tuple (PyProof.Rows.callWith_type1 (args_cons (Call_ (ld_blt I hg2 hm2 PyProof.Rows.boot_zip (PyProof.Rows.callWith_type1 (thn (hab.run q pins s σ H _ I h') fun us s1 ⟨vs, H1, I1, r1, q1⟩ => ?_) hs hpl))) hs2) hs2 rfl))
  obtain ⟨l1, l2, xs, ys, ds, es, Z1, ex, hqx, hqy, rx, ry, q1⟩ := q1
  subst ex
  cases r1 with
  | cons r rr =>
    cases rr with
    | cons r' rr =>
      cases rr
      cases r
      cases r'
      obtain ⟨its, rv, p1, z1⟩ := I1.list hqx
      obtain ⟨its2, rv2, p2, z2⟩ := I1.list hqy
      have len1 := rv.length
      have len2 := rv2.length
      refine call_zip_2 p1.isList p2.isList fun h1 hz hTI hTO i1 i2 hsz hk => args_nil ?_
      refine call_tuple_zip (s := { s1 with heap := h1 }) (base := s1.heap.objs.size) (I1.ok.hd hc) (PySem.W.ktu_apart s1.heap.objs.size l1 l2 p1.lt p2.lt) hz hTI hTO i1 i2 (p1.isList.at fun o e => hk _ _ e) (p2.isList.at fun o e => hk _ _ e) (by simp only [List.size_toArray]; omega) (by show s1.heap.objs.size ≤ h1.objs.size; rw [hsz]; omega) fun h2 t2 bs hpr kp => ?_
      obtain ⟨nd, hlen, hbase, hpair⟩ := hpr
      have kk : ∀ c o, s1.heap.get? c = some o → h2.get? c = some o := fun c o e => by
        have lt : c < s1.heap.objs.size := Heap.lt_size e
        exact kp c o (Nat.ne_of_lt (Nat.lt_of_lt_of_le lt (Nat.le_add_right _ _))) (Nat.ne_of_lt (Nat.lt_of_lt_of_le lt (Nat.le_add_right _ _))) (Nat.ne_of_lt lt) (Nat.ne_of_lt (Nat.lt_of_lt_of_le lt (Nat.le_add_right _ _))) (hk c o e)
      have fresh : ∀ b ∈ bs, s1.heap.get? b = none ∧ H1 b = none := fun b hb => by
        have hle := hbase b hb
        refine ⟨?_, I1.hok.fresh hle⟩
        cases e : s1.heap.get? b with
        | none => rfl
        | some o => exact absurd (Heap.lt_size e) (Nat.not_lt.mpr hle)
      obtain ⟨Hn, u1, ok1, k1, k2, k3⟩ := track_pairs (P := X.prog) (w := X.w) (fs := X.fs) (ex := []) (H := H1) (h := s1.heap) (h' := h2) rv rv2 bs 0 H1 (Un.kept kk) (I1.hok.kept kk) nd fresh (fun j b e => by
        obtain ⟨x, y, e1, e2, e3⟩ := hpair j b e
        exact ⟨x, y, by simpa using e1, by simpa using e2, e3⟩)
      have I2 : L2.Inv X _ σ Hn { s1 with heap := h2, toks := t2 } := I1.un u1 ok1
      have g : Grow Z1 H1 Z1 Hn := {
        zt := fun hz a za e => by
          cases q : H1 a with
          | none => exact hz a za q
          | some o => rw [k1 a o q] at e; cases e
        zs := fun _ z => z
        zn := fun _ z => .inl z
        hs := k1 }
      have hbl : bs.length ≤ sizeLine := by
        rw [hlen]
        simp only [List.size_toArray]
        omega
      refine lay_tup I2 (by rw [List.length_map]; exact hbl) (vals_ref bs) fun c oc hn hd => ?_
      have gc : Grow Z1 Hn Z1 (upd Hn c (.frz oc (.tup (bs.map V.ref)))) := grow_upd hn
      refine q1 _ Z1 _ (g.trans gc) (.tup ⟨oc, upd_same, hd⟩ ?_)
      refine rp_pairs (rx.grow (g.trans gc)) (ry.grow (g.trans gc)) ?_ fun j b e => ?_
      · rw [hlen]
        simp only [List.size_toArray]
        omega
      · obtain ⟨x, y, e1, e2, tn⟩ := k3 j b e
        rw [Nat.zero_add] at e1 e2
        exact ⟨x, y, e1, e2, gc.keeps (K := X.K).tn _ _ tn⟩
end
@[simp] theorem u_fTupZip (a b : Fx) (ρ : Env) : fTupZip a b ρ = (a ρ >>= fun d => b ρ >>= fun e => match d, e with | .list ds, .list es => .ok (.tuple (zipD ds es)) | _, _ => .bad) := rfl
end Pz

set_option maxHeartbeats 4000000
/-! The mirrors of treeforms_k85_renamed. -/
namespace Pz
open PySem PySem.Spec L2
/-- _law_cell: 0 _law_script, 1 _law_k -/
def F_law_cell : Fs :=
  (sSeq (sIf (fB (f2 dEq' (fVar 0) (fLst fNil))) (sRet (f2 dMul (fC (.int 7)) (fVar 1))) sSkip)
    (sRet (f2 dAdd (f2 dIx (fVar 0) (f2 dMod (fVar 1) (f1 dLen (fVar 0)))) (f2 dMul (fC (.int 6553)) (f2 dDiv (fVar 1) (f1 dLen (fVar 0)))))))
def m_law_cell : Mf := runF F_law_cell 2
/-- _law_new: 0 _law_pairs, 1 _law_mark, 2 _law_some, 3 _law_new_here, 4 _law_old -/
def F_law_new : Fs :=
  (sSeq (sFrzA 2 (sOwn 2 (fComp (fIter (fVar 0)) (tgTup (tgCons (tgN 4) (tgCons (tgN 3) tgNil))) (fB (f2 dEq' (fVar 4) (fVar 1))) (fVar 3) [4, 3])))
    (sRet (fIf (fB (f2 dNe' (fVar 2) (fLst fNil))) (f2 dIx (fVar 2) (fC (.int 0))) (fVar 1))))
def m_law_new : Mf := runF F_law_new 5
/-- _law_refused: 0 _law_e, 1 _law_flags -/
def F_law_refused (a : Addr) (y : Str) : Fs :=
  (sSeq (sOwn 1 (fCons (fIsE 0 a (exSub y "NoBook")) (fCons (fIsE 0 a (exSub y "NoTree")) (fCons (fIsE 0 a (exSub y "NoPairs")) fNil))))
    (sSeq (sIf (fOr (fB (f2 dNe' (fCount 1) (fC (.int 1)))) (fNot (fB (fIsE 0 a true)))) (sRet (fTup (fCons (fC (.str "refused")) (fCons (f1 dNeg (fC (.int 1))) fNil)))) sSkip)
    (sRet (fTup (fCons (fC (.str "refused")) (fCons (fIndex 1) fNil))))))
def tab_law_refused : List (Str × D) := [("NoBook", .tuple [.str "refused", .int 0]), ("NoPairs", .tuple [.str "refused", .int 2]), ("NoTree", .tuple [.str "refused", .int 1])]
def rf_law_refused : Rf := tabR tab_law_refused
def exNames : List Str := ["NoBook", "NoPairs", "NoTree"]
theorem rm_law_refused {y : Str} {d : D} (h : rf_law_refused y = some d) : y ∈ exNames := by
  have m := tabR_mem h
  simp only [tab_law_refused, List.mem_cons, Prod.mk.injEq, List.not_mem_nil, or_false] at m
  rcases m with ⟨rfl, rfl⟩ | ⟨rfl, rfl⟩ | ⟨rfl, rfl⟩ <;> decide
theorem rk_law_refused : ∀ y dd, rf_law_refused y = some dd → ∀ a, F_law_refused a y (.raw (.ref a) :: List.replicate 1 .no) = .rt dd := fun y dd h a => by
  have m := tabR_mem h
  simp only [tab_law_refused, List.mem_cons, Prod.mk.injEq, List.not_mem_nil, or_false] at m
  rcases m with ⟨rfl, rfl⟩ | ⟨rfl, rfl⟩ | ⟨rfl, rfl⟩ <;> (simp [F_law_refused, exSub, dNe', eqG, eqOk, unscr, PyData.plain, PyData.depth, PyData.eqv, dNeg, List.findIdx?, List.findIdx?.go, List.count, List.countP, List.countP.go]; try rfl)
/-- are_rising: 0 marks, 1 one, 2 other -/
def F_are_rising : Fs :=
  (sRet (f1 dAll (fLst (fComp (fZip (fVar 0) (fSl (fVar 0) (fSo (fC (.int 1))) fNo)) (tgTup (tgCons (tgN 1) (tgCons (tgN 2) tgNil))) cYes (f2 dLt (fVar 1) (fVar 2)) [1, 2]))))
def m_are_rising : Mf := runF F_are_rising 3
/-- has_mark: 0 book, 1 mark, 2 one -/
def F_has_mark : Fs :=
  (sRet (fAndV (f1 (dIsi "str") (fVar 1)) (f2 dIn (fVar 1) (fLst (fComp (fIter (f2 dIx (fVar 0) (fC (.int 1)))) (tgN 2) cYes (f2 dIx (fVar 2) (fC (.int 0))) [2])))))
def m_has_mark : Mf := runF F_has_mark 3
/-- is_mark: 0 thing, 1 sign -/
def F_is_mark : Fs :=
  (sSeq (sIf (fOr (fNot (fB (f1 (dIsi "str") (fVar 0)))) (fNot (fB (fChain dLe dLe (fC (.int 1)) (f1 dLen (fVar 0)) (fC (.int 2)))))) (sRet (fC (.bool false))) sSkip)
    (sRet (f1 dAll (fLst (fComp (fIter (fVar 0)) (tgN 1) cYes (fChain dLe dLe (fC (.str "a")) (fVar 1) (fC (.str "z"))) [1])))))
def m_is_mark : Mf := runF F_is_mark 2
/-- is_number: 0 thing, 1 low, 2 high -/
def F_is_number : Fs :=
  (sRet (fAndV (f1 (dIsi "int") (fVar 0)) (fAndV (fNotV (f1 (dIsi "bool") (fVar 0))) (fChain dLe dLe (fVar 1) (fVar 0) (fVar 2)))))
def m_is_number : Mf := runF F_is_number 3
/-- part_with: 0 part, 1 names, 2 mark -/
def F_part_with : Fs :=
  (sRet (f2 dAdd (fTup (fCons (f1 dTuple (fLst (fN1 dSort (fLst (fComp (fIter (f2 dIx (fVar 0) (fC (.int 0)))) (tgN 2) cYes (fGet2 (fVar 1) (fVar 2) (fVar 2)) [2]))))) fNil)) (fSl (fVar 0) (fSo (fC (.int 1))) fNo)))
def m_part_with : Mf := runF F_part_with 3
/-- _law_drawn: 0 _law_script, 1 _law_k, 2 _law_many, 3 _law_cell_here -/
def F_law_drawn : Fs :=
  (sSeq (sAsg (f2 dMod (f2 dAdd (f2 dMul (f2 dMod (fCall m_law_cell (fCons (fVar 0) (fCons (fVar 1) fNil))) (fC (.int 2147483563))) (fC (.int 69069))) (f2 dMul (fC (.int 104723)) (f2 dAdd (fVar 1) (fC (.int 1))))) (fC (.int 2147483563))) (tgN 3))
    (sSeq (sAsg (f2 dMod (f2 dAdd (f2 dMul (fVar 3) (fVar 3)) (f2 dDiv (fVar 3) (fC (.int 3)))) (fC (.int 2147483399))) (tgN 3))
    (sRet (f2 dMod (f2 dDiv (f2 dMod (f2 dAdd (f2 dMul (fVar 3) (fVar 3)) (f2 dDiv (fVar 3) (fC (.int 7)))) (fC (.int 2147483647))) (fC (.int 11))) (fVar 2)))))
def m_law_drawn : Mf := runF F_law_drawn 4
/-- is_pair: 0 thing, 1 one -/
def F_is_pair : Fs :=
  (sRet (fAndV (f1 (dIsi "tuple") (fVar 0)) (fAndV (f2 dEq' (f1 dLen (fVar 0)) (fC (.int 2))) (f1 dAll (fLst (fComp (fIter (fVar 0)) (tgN 1) cYes (fCall m_is_mark (fCons (fVar 1) fNil)) [1]))))))
def m_is_pair : Mf := runF F_is_pair 2
/-- is_part: 0 thing, 1 one -/
def F_is_part : Fs :=
  (sSeq (sIf (fOr (fNot (fB (f1 (dIsi "tuple") (fVar 0)))) (fOr (fB (f2 dNe' (f1 dLen (fVar 0)) (fC (.int 3)))) (fNot (fB (f1 (dIsi "tuple") (f2 dIx (fVar 0) (fC (.int 0)))))))) (sRet (fC (.bool false))) sSkip)
    (sSeq (sIf (fOr (fNot (fB (fChain dLe dLe (fC (.int 1)) (f1 dLen (f2 dIx (fVar 0) (fC (.int 0)))) (fC (.int 3))))) (fOr (fNot (fB (f1 dAll (fLst (fComp (fIter (f2 dIx (fVar 0) (fC (.int 0)))) (tgN 1) cYes (fCall m_is_mark (fCons (fVar 1) fNil)) [1]))))) (fNot (fB (fCall m_are_rising (fCons (f2 dIx (fVar 0) (fC (.int 0))) fNil)))))) (sRet (fC (.bool false))) sSkip)
    (sSeq (sIf (fNot (fB (fCall m_is_number (fCons (f2 dIx (fVar 0) (fC (.int 1))) (fCons (fC (.int 0)) (fCons (fC (.int 2)) fNil)))))) (sRet (fC (.bool false))) sSkip)
    (sRet (fOrV (f2 dIsN (f2 dIx (fVar 0) (fC (.int 2))) (fC .none)) (fCall m_is_number (fCons (f2 dIx (fVar 0) (fC (.int 2))) (fCons (f2 dMax (fC (.int 1)) (f2 dIx (fVar 0) (fC (.int 1)))) (fCons (fC (.int 4)) fNil)))))))))
def m_is_part : Mf := runF F_is_part 2
/-- _law_book: 0 _law_script, 1 _law_at, 2 _law_many, 3 _law_turn, 4 _law_k, 5 _law_marks, 6 _law_rules, 7 _law_mark, 8 _law_parts, 9 _law_j, 10 _law_here, 11 _law_some, 12 _law_least, 13 _law_most, 14 _law_n -/
def F_law_book : Fs :=
  (sSeq (sAsg (f2 dAdd (fC (.int 1)) (fCall m_law_drawn (fCons (fVar 0) (fCons (fVar 1) (fCons (fC (.int 4)) fNil))))) (tgN 2))
    (sSeq (sAsg (fCall m_law_drawn (fCons (fVar 0) (fCons (f2 dAdd (fVar 1) (fC (.int 1))) (fCons (fC (.int 4)) fNil)))) (tgN 3))
    (sSeq (sAsg (fLst (fComp (fRng1 (fVar 2)) (tgN 4) cYes (f2 dIx (fLst (fCons (fC (.str "ba")) (fCons (fC (.str "c")) (fCons (fC (.str "a")) (fCons (fC (.str "d")) fNil))))) (f2 dMod (f2 dAdd (fVar 4) (fVar 3)) (fC (.int 4)))) [4])) (tgN 5))
    (sSeq (sAsg (fTup fNil) (tgN 6))
    (sSeq (sFor (fEnum (fVar 5)) (tgTup (tgCons (tgN 4) (tgCons (tgN 7) tgNil))) (sSeq (sAsg (fTup fNil) (tgN 8))
    (sSeq (sFor (fRng1 (f2 dIx (fLst (fCons (fC (.int 0)) (fCons (fC (.int 1)) (fCons (fC (.int 1)) (fCons (fC (.int 2)) (fCons (fC (.int 2)) (fCons (fC (.int 3)) fNil))))))) (fCall m_law_drawn (fCons (fVar 0) (fCons (f2 dAdd (f2 dAdd (fVar 1) (fC (.int 2))) (fVar 4)) (fCons (fC (.int 6)) fNil)))))) (tgN 9) (sSeq (sAsg (f2 dAdd (f2 dAdd (f2 dAdd (fVar 1) (fC (.int 10))) (f2 dMul (fC (.int 40)) (fVar 4))) (f2 dMul (fC (.int 10)) (fVar 9))) (tgN 10))
    (sSeq (sFrzA 11 (sOwn 11 (fComp (fRng1 (f2 dAdd (fC (.int 1)) (fCall m_law_drawn (fCons (fVar 0) (fCons (f2 dAdd (fVar 10) (fC (.int 3))) (fCons (fC (.int 2)) fNil)))))) (tgN 14) cYes (f2 dIx (fVar 5) (fCall m_law_drawn (fCons (fVar 0) (fCons (f2 dAdd (fVar 10) (fVar 14)) (fCons (fVar 2) fNil))))) [14])))
    (sSeq (sAsg (f2 dIx (fLst (fCons (fC (.int 0)) (fCons (fC (.int 0)) (fCons (fC (.int 0)) (fCons (fC (.int 1)) (fCons (fC (.int 1)) (fCons (fC (.int 2)) fNil))))))) (fCall m_law_drawn (fCons (fVar 0) (fCons (f2 dAdd (fVar 10) (fC (.int 4))) (fCons (fC (.int 6)) fNil))))) (tgN 12))
    (sSeq (sAsg (f2 dIx (fLst (fCons (fC .none) (fCons (fC (.int 1)) (fCons (fC (.int 2)) (fCons (fC (.int 3)) fNil))))) (fCall m_law_drawn (fCons (fVar 0) (fCons (f2 dAdd (fVar 10) (fC (.int 5))) (fCons (fC (.int 4)) fNil))))) (tgN 13))
    (sSeq (sAsg (fIf (fB (f2 dIsN (fVar 13) (fC .none))) (fVar 13) (f2 dMax (fVar 13) (fVar 12))) (tgN 13))
    (sAsg (f2 dAdd (fVar 8) (fTup (fCons (fTup (fCons (f1 dTuple (fLst (fN1 dSortSet (fVar 11)))) (fCons (fVar 12) (fCons (fVar 13) fNil)))) fNil))) (tgN 8))))))) [9, 10, 11, 12, 13])
    (sAsg (f2 dAdd (fVar 6) (fTup (fCons (fTup (fCons (fVar 7) (fCons (fVar 8) fNil))) fNil))) (tgN 6)))) [4, 7, 8, 9, 10, 11, 12, 13])
    (sRet (fTup (fCons (f2 dIx (fVar 5) (fCall m_law_drawn (fCons (fVar 0) (fCons (f2 dAdd (fVar 1) (fC (.int 6))) (fCons (fVar 2) fNil))))) (fCons (fVar 6) fNil)))))))))
def m_law_book : Mf := runF F_law_book 15
/-- is_rule: 0 thing, 1 one -/
def F_is_rule : Fs :=
  (sSeq (sIf (fOr (fNot (fB (f1 (dIsi "tuple") (fVar 0)))) (fOr (fB (f2 dNe' (f1 dLen (fVar 0)) (fC (.int 2)))) (fOr (fNot (fB (fCall m_is_mark (fCons (f2 dIx (fVar 0) (fC (.int 0))) fNil)))) (fNot (fB (f1 (dIsi "tuple") (f2 dIx (fVar 0) (fC (.int 1))))))))) (sRet (fC (.bool false))) sSkip)
    (sRet (fAndV (f2 dLe (f1 dLen (f2 dIx (fVar 0) (fC (.int 1)))) (fC (.int 3))) (f1 dAll (fLst (fComp (fIter (f2 dIx (fVar 0) (fC (.int 1)))) (tgN 1) cYes (fCall m_is_part (fCons (fVar 1) fNil)) [1]))))))
def m_is_rule : Mf := runF F_is_rule 2
/-- need_pairs: 0 pairs, 1 side, 2 one -/
def F_need_pairs : Fs :=
  (sSeq (sIf (fOr (fNot (fB (f1 (dIsi "tuple") (fVar 0)))) (fOr (fB (f2 dGt (f1 dLen (fVar 0)) (fC (.int 5)))) (fNot (fB (f1 dAll (fLst (fComp (fIter (fVar 0)) (tgN 2) cYes (fCall m_is_pair (fCons (fVar 2) fNil)) [2]))))))) (sRaise "NoPairs") sSkip)
    (sFor (fIter (fTup (fCons (fC (.int 0)) (fCons (fC (.int 1)) fNil)))) (tgN 1) (sIf (fB (f2 dNe' (f1 dLenSet (fLst (fComp (fIter (fVar 0)) (tgN 2) cYes (f2 dIx (fVar 2) (fVar 1)) [2]))) (f1 dLen (fVar 0)))) (sRaise "NoPairs") sSkip) [1]))
def m_need_pairs : Mf := runF F_need_pairs 3
/-- is_book: 0 thing, 1 marks, 2 mark, 3 one, 4 part -/
def F_is_book : Fs :=
  (sSeq (sIf (fOr (fNot (fB (f1 (dIsi "tuple") (fVar 0)))) (fOr (fB (f2 dNe' (f1 dLen (fVar 0)) (fC (.int 2)))) (fOr (fNot (fB (fCall m_is_mark (fCons (f2 dIx (fVar 0) (fC (.int 0))) fNil)))) (fNot (fB (f1 (dIsi "tuple") (f2 dIx (fVar 0) (fC (.int 1))))))))) (sRet (fC (.bool false))) sSkip)
    (sSeq (sIf (fOr (fNot (fB (fChain dLe dLe (fC (.int 1)) (f1 dLen (f2 dIx (fVar 0) (fC (.int 1)))) (fC (.int 5))))) (fNot (fB (f1 dAll (fLst (fComp (fIter (f2 dIx (fVar 0) (fC (.int 1)))) (tgN 3) cYes (fCall m_is_rule (fCons (fVar 3) fNil)) [3])))))) (sRet (fC (.bool false))) sSkip)
    (sSeq (sAsg (fLst (fComp (fIter (f2 dIx (fVar 0) (fC (.int 1)))) (tgN 3) cYes (f2 dIx (fVar 3) (fC (.int 0))) [3])) (tgN 1))
    (sSeq (sIf (fOr (fB (f2 dNe' (f1 dLenSet (fVar 1)) (f1 dLen (fVar 1)))) (fB (f2 dNotIn (f2 dIx (fVar 0) (fC (.int 0))) (fVar 1)))) (sRet (fC (.bool false))) sSkip)
    (sRet (f1 dAll (fLst (fComp (fIter (f2 dIx (fVar 0) (fC (.int 1)))) (tgN 3) cYes (f1 dAll (fLst (fComp (fIter (f2 dIx (fVar 3) (fC (.int 1)))) (tgN 4) cYes (f1 dAll (fLst (fComp (fIter (f2 dIx (fVar 4) (fC (.int 0)))) (tgN 2) cYes (f2 dIn (fVar 2) (fVar 1)) [2]))) [4]))) [3]))))))))
def m_is_book : Mf := runF F_is_book 5
/-- need_book: 0 book -/
def F_need_book : Fs :=
  (sIf (fNot (fB (fCall m_is_book (fCons (fVar 0) fNil)))) (sRaise "NoBook") sSkip)
def m_need_book : Mf := runF F_need_book 1
/-- renamed: 0 book, 1 pairs, 2 names, 3 old, 4 new, 5 rules, 6 mark, 7 parts, 8 part -/
def F_renamed : Fs :=
  (sSeq (sDo (fCall m_need_book (fCons (fVar 0) fNil)))
    (sSeq (sDo (fCall m_need_pairs (fCons (fVar 1) fNil)))
    (sSeq (sAsg (f1 dDict (fVar 1)) (tgN 2))
    (sSeq (sFor (fIter (fVar 1)) (tgTup (tgCons (tgN 3) (tgCons (tgN 4) tgNil))) (sIf (fOr (fNot (fB (fCall m_has_mark (fCons (fVar 0) (fCons (fVar 3) fNil))))) (fAnd (fB (fCall m_has_mark (fCons (fVar 0) (fCons (fVar 4) fNil)))) (fB (f2 dNotIn (fVar 4) (fVar 2))))) (sRaise "NoPairs") sSkip) [3, 4])
    (sSeq (sOwn 5 fNil)
    (sSeq (sFor (fIter (f2 dIx (fVar 0) (fC (.int 1)))) (tgTup (tgCons (tgN 6) (tgCons (tgN 7) tgNil))) (sApp 5 (fTup (fCons (fGet2 (fVar 2) (fVar 6) (fVar 6)) (fCons (f1 dTuple (fLst (fComp (fIter (fVar 7)) (tgN 8) cYes (fCall m_part_with (fCons (fVar 8) (fCons (fVar 2) fNil))) [8]))) fNil)))) [6, 7])
    (sRet (fTup (fCons (fGet2 (fVar 2) (f2 dIx (fVar 0) (fC (.int 0))) (f2 dIx (fVar 0) (fC (.int 0)))) (fCons (f1 dTuple (fOwn 5)) fNil))))))))))
def m_renamed : Mf := runF F_renamed 9
/-- tree_with: 0 tree, 1 names, 2 one -/
def F_tree_with (rec : Mf) : Fs :=
  (sRet (fTup (fCons (fGet2 (fVar 1) (f2 dIx (fVar 0) (fC (.int 0))) (f2 dIx (fVar 0) (fC (.int 0)))) (fCons (f1 dTuple (fLst (fComp (fIter (f2 dIx (fVar 0) (fC (.int 1)))) (tgN 2) cYes (fCall rec (fCons (fVar 2) (fCons (fVar 1) fNil))) [2]))) fNil))))
def mR_tree_with : Nat → Mf
  | 0 => fun _ => .bad
  | n + 1 => runF (F_tree_with (mR_tree_with n)) 3
/-- _law_new_tree: 0 _law_pairs, 1 _law_tree_here, 2 _law_one -/
def F_law_new_tree (rec : Mf) : Fs :=
  (sRet (fTup (fCons (fCall m_law_new (fCons (fVar 0) (fCons (f2 dIx (fVar 1) (fC (.int 0))) fNil))) (fCons (f1 dTuple (fLst (fComp (fIter (f2 dIx (fVar 1) (fC (.int 1)))) (tgN 2) cYes (fCall rec (fCons (fVar 0) (fCons (fVar 2) fNil))) [2]))) fNil))))
def mR_law_new_tree : Nat → Mf
  | 0 => fun _ => .bad
  | n + 1 => runF (F_law_new_tree (mR_law_new_tree n)) 3
/-- is_tree_in: 0 thing, 1 deep, 2 one -/
def F_is_tree_in (rec : Mf) : Fs :=
  (sSeq (sIf (fOr (fB (f2 dEq' (fVar 1) (fC (.int 0)))) (fOr (fNot (fB (f1 (dIsi "tuple") (fVar 0)))) (fOr (fB (f2 dNe' (f1 dLen (fVar 0)) (fC (.int 2)))) (fNot (fB (fCall m_is_mark (fCons (f2 dIx (fVar 0) (fC (.int 0))) fNil))))))) (sRet (fC (.bool false))) sSkip)
    (sSeq (sIf (fOr (fNot (fB (f1 (dIsi "tuple") (f2 dIx (fVar 0) (fC (.int 1)))))) (fB (f2 dGt (f1 dLen (f2 dIx (fVar 0) (fC (.int 1)))) (fC (.int 40))))) (sRet (fC (.bool false))) sSkip)
    (sRet (f1 dAll (fLst (fComp (fIter (f2 dIx (fVar 0) (fC (.int 1)))) (tgN 2) cYes (fCall rec (fCons (fVar 2) (fCons (f2 dSub (fVar 1) (fC (.int 1))) fNil))) [2]))))))
def mR_is_tree_in : Nat → Mf
  | 0 => fun _ => .bad
  | n + 1 => runF (F_is_tree_in (mR_is_tree_in n)) 3
/-- _law_spoilt: 0 _law_script, 1 _law_at, 2 _law_tree_here, 3 _law_way, 4 _law_mark, 5 _law_children, 6 _law_here -/
def F_law_spoilt (rec : Mf) : Fs :=
  (sSeq (sAsg (fCall m_law_drawn (fCons (fVar 0) (fCons (fVar 1) (fCons (fC (.int 7)) fNil)))) (tgN 3))
    (sSeq (sAsg (fVar 2) (tgTup (tgCons (tgN 4) (tgCons (tgN 5) tgNil))))
    (sSeq (sIf (fB (f2 dEq' (fVar 3) (fC (.int 0)))) (sRet (fTup (fCons (f2 dIx (fLst (fCons (fC (.str "ba")) (fCons (fC (.str "c")) (fCons (fC (.str "a")) (fCons (fC (.str "d")) (fCons (fC (.str "zz")) fNil)))))) (fCall m_law_drawn (fCons (fVar 0) (fCons (f2 dAdd (fVar 1) (fC (.int 1))) (fCons (fC (.int 5)) fNil))))) (fCons (fVar 5) fNil)))) sSkip)
    (sSeq (sIf (fOr (fB (f2 dEq' (fVar 3) (fC (.int 1)))) (fB (f2 dEq' (fVar 5) (fTup fNil)))) (sRet (fTup (fCons (fVar 4) (fCons (f2 dAdd (fVar 5) (f2 dMul (fTup (fCons (fTup (fCons (f2 dIx (fLst (fCons (fC (.str "ba")) (fCons (fC (.str "c")) (fCons (fC (.str "a")) (fCons (fC (.str "d")) fNil))))) (fCall m_law_drawn (fCons (fVar 0) (fCons (f2 dAdd (fVar 1) (fC (.int 1))) (fCons (fC (.int 4)) fNil))))) (fCons (fTup fNil) fNil))) fNil)) (f1 dInt (f2 dLt (fVar 3) (fC (.int 4)))))) fNil)))) sSkip)
    (sSeq (sAsg (fCall m_law_drawn (fCons (fVar 0) (fCons (f2 dAdd (fVar 1) (fC (.int 2))) (fCons (f1 dLen (fVar 5)) fNil)))) (tgN 6))
    (sSeq (sIf (fB (f2 dEq' (fVar 3) (fC (.int 2)))) (sRet (fTup (fCons (fVar 4) (fCons (f2 dAdd (fSl (fVar 5) fNo (fSo (fVar 6))) (fSl (fVar 5) (fSo (f2 dAdd (fVar 6) (fC (.int 1)))) fNo)) fNil)))) sSkip)
    (sSeq (sIf (fB (f2 dEq' (fVar 3) (fC (.int 3)))) (sRet (fTup (fCons (fVar 4) (fCons (f1 dRev (fVar 5)) fNil)))) sSkip)
    (sRet (fTup (fCons (fVar 4) (fCons (f2 dAdd (f2 dAdd (fSl (fVar 5) fNo (fSo (fVar 6))) (fTup (fCons (fCall rec (fCons (fVar 0) (fCons (f2 dAdd (fVar 1) (fC (.int 7))) (fCons (f2 dIx (fVar 5) (fVar 6)) fNil)))) fNil))) (fSl (fVar 5) (fSo (f2 dAdd (fVar 6) (fC (.int 1)))) fNo)) fNil)))))))))))
def mR_law_spoilt : Nat → Mf
  | 0 => fun _ => .bad
  | n + 1 => runF (F_law_spoilt (mR_law_spoilt n)) 7
/-- _law_tree: 0 _law_script, 1 _law_at, 2 _law_book_here, 3 _law_mark, 4 _law_deep, 5 _law_found, 6 _law_j, 7 _law_part, 8 _law_marks, 9 _law_least, 10 _law_most, 11 _law_many, 12 _law_n, 13 _law_one, 14 _law_here -/
def F_law_tree (rec : Mf) : Fs :=
  (sSeq (sAsg (fTup fNil) (tgN 5))
    (sSeq (sIf (fB (f2 dGt (fVar 4) (fC (.int 0)))) (sFor (fEnum (f2 dIx (f1 dDict (f2 dIx (fVar 2) (fC (.int 1)))) (fVar 3))) (tgTup (tgCons (tgN 6) (tgCons (tgN 7) tgNil))) (sSeq (sAsg (fVar 7) (tgTup (tgCons (tgN 8) (tgCons (tgN 9) (tgCons (tgN 10) tgNil)))))
    (sSeq (sAsg (f2 dAdd (fVar 9) (f2 dMul (fCall m_law_drawn (fCons (fVar 0) (fCons (f2 dAdd (fVar 1) (f2 dMul (fC (.int 3)) (fVar 6))) (fCons (fC (.int 2)) fNil)))) (f1 dInt (fOrV (f2 dIsN (fVar 10) (fC .none)) (f2 dGt (fVar 10) (fVar 9)))))) (tgN 11))
    (sFor (fRng1 (fVar 11)) (tgN 12) (sSeq (sAsg (f2 dIx (fVar 8) (fCall m_law_drawn (fCons (fVar 0) (fCons (f2 dAdd (f2 dAdd (f2 dAdd (fVar 1) (fC (.int 20))) (f2 dMul (fC (.int 3)) (fVar 6))) (fVar 12)) (fCons (f1 dLen (fVar 8)) fNil))))) (tgN 13))
    (sSeq (sAsg (f2 dAdd (f2 dAdd (fVar 1) (f2 dMul (fC (.int 97)) (f2 dAdd (fVar 6) (fC (.int 1))))) (f2 dMul (fC (.int 31)) (fVar 12))) (tgN 14))
    (sAsg (f2 dAdd (fVar 5) (fTup (fCons (fCall rec (fCons (fVar 0) (fCons (fVar 14) (fCons (fVar 2) (fCons (fVar 13) (fCons (f2 dSub (fVar 4) (fC (.int 1))) fNil)))))) fNil))) (tgN 5)))) [12, 13, 14]))) [6, 7, 8, 9, 10, 11, 12, 13, 14]) sSkip)
    (sRet (fTup (fCons (fVar 3) (fCons (fSl (fVar 5) fNo (fSo (fC (.int 3)))) fNil))))))
def mR_law_tree : Nat → Mf
  | 0 => fun _ => .bad
  | n + 1 => runF (F_law_tree (mR_law_tree n)) 15
/-- is_tree: 0 thing -/
def F_is_tree : Fs :=
  (sRet (fCall (mR_is_tree_in 20) (fCons (fVar 0) (fCons (fC (.int 12)) fNil))))
def m_is_tree : Mf := runF F_is_tree 1
/-- need_tree: 0 tree -/
def F_need_tree : Fs :=
  (sIf (fNot (fB (fCall m_is_tree (fCons (fVar 0) fNil)))) (sRaise "NoTree") sSkip)
def m_need_tree : Mf := runF F_need_tree 1
/-- tree_renamed: 0 tree, 1 pairs -/
def F_tree_renamed : Fs :=
  (sSeq (sDo (fCall m_need_tree (fCons (fVar 0) fNil)))
    (sSeq (sDo (fCall m_need_pairs (fCons (fVar 1) fNil)))
    (sRet (fCall (mR_tree_with 20) (fCons (fVar 0) (fCons (f1 dDict (fVar 1)) fNil))))))
def m_tree_renamed : Mf := runF F_tree_renamed 2
/-- _law_told: 0 _law_way, 1 _law_thing, 2 _law_pairs, 3 _law_e -/
def F_law_told : Fs :=
  (sTry 3 (sRet (fIf (fB (f2 dEq' (fVar 0) (fC (.int 0)))) (fCall m_renamed (fCons (fVar 1) (fCons (fVar 2) fNil))) (fCall m_tree_renamed (fCons (fVar 1) (fCons (fVar 2) fNil))))) rf_law_refused)
def m_law_told : Mf := runF F_law_told 4
/-- law: 0 _law_script, 1 _law_book_here, 2 _law_mark, 3 _law_parts, 4 _law_marks, 5 _law_tree_here, 6 _law_turn, 7 _law_names, 8 _law_many, 9 _law_pairs, 10 _law_rules, 11 _law_some, 12 _law_bads, 13 _law_way, 14 _law_thing, 15 _law_more, 16 _law_bad, 17 _law_one, 18 _law_part -/
def F_law : Fs :=
  (sSeq (sAsg (fCall m_law_book (fCons (fVar 0) (fCons (fC (.int 0)) fNil))) (tgN 1))
    (sSeq (sFrzA 4 (sOwn 4 (fComp (fIter (f2 dIx (fVar 1) (fC (.int 1)))) (tgTup (tgCons (tgN 2) (tgCons (tgN 3) tgNil))) cYes (fVar 2) [2, 3])))
    (sSeq (sAsg (fCall (mR_law_spoilt 20) (fCons (fVar 0) (fCons (fC (.int 5000)) (fCons (fCall (mR_law_tree 20) (fCons (fVar 0) (fCons (fC (.int 200)) (fCons (fVar 1) (fCons (f2 dIx (fVar 1) (fC (.int 0))) (fCons (fC (.int 2)) fNil)))))) fNil)))) (tgN 5))
    (sSeq (sAsg (fCall m_law_drawn (fCons (fVar 0) (fCons (fC (.int 190)) (fCons (f1 dLen (fVar 4)) fNil)))) (tgN 6))
    (sSeq (sAsg (f2 dIx (fTup (fCons (f2 dAdd (fSl (fVar 4) (fSo (fVar 6)) fNo) (fSl (fVar 4) fNo (fSo (fVar 6)))) (fCons (fSl (fLst (fCons (fC (.str "zb")) (fCons (fC (.str "q")) (fCons (fC (.str "e")) (fCons (fC (.str "ab")) fNil))))) fNo (fSo (f1 dLen (fVar 4)))) fNil))) (fCall m_law_drawn (fCons (fVar 0) (fCons (fC (.int 191)) (fCons (fC (.int 2)) fNil))))) (tgN 7))
    (sSeq (sAsg (fIf (fB (f2 dIn (f2 dIx (fVar 7) (fC (.int 0))) (fVar 4))) (f1 dLen (fVar 4)) (fCall m_law_drawn (fCons (fVar 0) (fCons (fC (.int 192)) (fCons (f2 dAdd (f1 dLen (fVar 4)) (fC (.int 1))) fNil))))) (tgN 8))
    (sSeq (sAsg (fSl (fTupZip (fVar 4) (fVar 7)) fNo (fSo (fVar 8))) (tgN 9))
    (sSeq (sOwn 10 fNil)
    (sSeq (sFor (fIter (f2 dIx (fVar 1) (fC (.int 1)))) (tgTup (tgCons (tgN 2) (tgCons (tgN 3) tgNil))) (sSeq (sFrzA 11 (sOwn 11 (fComp (fIter (fVar 3)) (tgN 18) cYes (f2 dAdd (fTup (fCons (f1 dTuple (fLst (fN1 dSort (fLst (fComp (fIter (f2 dIx (fVar 18) (fC (.int 0)))) (tgN 17) cYes (fCall m_law_new (fCons (fVar 9) (fCons (fVar 17) fNil))) [17]))))) fNil)) (fSl (fVar 18) (fSo (fC (.int 1))) fNo)) [18])))
    (sApp 10 (fTup (fCons (fCall m_law_new (fCons (fVar 9) (fCons (fVar 2) fNil))) (fCons (f1 dTuple (fVar 11)) fNil))))) [2, 3, 11])
    (sSeq (sIf (fB (f2 dNe' (fCall m_law_told (fCons (fC (.int 0)) (fCons (fVar 1) (fCons (fVar 9) fNil)))) (fTup (fCons (fCall m_law_new (fCons (fVar 9) (fCons (f2 dIx (fVar 1) (fC (.int 0))) fNil))) (fCons (f1 dTuple (fOwn 10)) fNil))))) (sRet (fC (.bool false))) sSkip)
    (sSeq (sIf (fOr (fB (f2 dNe' (fCall m_law_told (fCons (fC (.int 1)) (fCons (fVar 5) (fCons (fVar 9) fNil)))) (fCall (mR_law_new_tree 20) (fCons (fVar 9) (fCons (fVar 5) fNil))))) (fB (f2 dEq' (fCall m_law_told (fCons (fC (.int 1)) (fCons (fVar 5) (fCons (fTup (fCons (fTup (fCons (fC (.str "zz")) (fCons (fC (.str "y")) fNil))) fNil)) fNil)))) (fTup (fCons (fC (.str "refused")) (fCons (fC (.int 2)) fNil)))))) (sRet (fC (.bool false))) sSkip)
    (sSeq (sAsg (fLst (fCons (fC .none) (fCons (fLst fNil) (fCons (fTup (fCons (fTup (fCons (fC (.str "a")) fNil)) fNil)) (fCons (fTup (fCons (fTup (fCons (fC (.str "a")) (fCons (fC (.str "A")) fNil))) fNil)) (fCons (fTup (fCons (fTup (fCons (fC (.str "a")) (fCons (fC (.str "b")) (fCons (fC (.str "c")) fNil)))) fNil)) (fCons (fTup (fCons (fTup (fCons (fC (.str "e")) (fCons (fC (.str "x")) fNil))) (fCons (fTup (fCons (fC (.str "e")) (fCons (fC (.str "y")) fNil))) fNil))) (fCons (fTup (fCons (fTup (fCons (fC (.str "e")) (fCons (fC (.str "x")) fNil))) (fCons (fTup (fCons (fC (.str "f")) (fCons (fC (.str "x")) fNil))) fNil))) fNil)))))))) (tgN 12))
    (sSeq (sAsg (f2 dAdd (fVar 12) (fLst (fCons (f1 dTuple (fLst (fComp (fIter (fC (.str "efghij"))) (tgN 17) cYes (fTup (fCons (fVar 17) (fCons (fVar 17) fNil))) [17]))) (fCons (fTup (fCons (fC (.str "ab")) fNil)) (fCons (fTup (fCons (fTup (fCons (f2 dIx (fVar 4) (fC (.int 0))) (fCons (fC .none) fNil))) fNil)) (fCons (fTup (fCons (fTup (fCons (f2 dIx (fVar 4) (fC (.int 0))) (fCons (fC (.str "abc")) fNil))) fNil)) fNil)))))) (tgN 12))
    (sSeq (sFor (fEnum (fTup (fCons (fVar 1) (fCons (fVar 5) fNil)))) (tgTup (tgCons (tgN 13) (tgCons (tgN 14) tgNil))) (sSeq (sIf (fB (f2 dNe' (fLst (fComp (fIter (fVar 12)) (tgN 16) (fB (f2 dNe' (fCall m_law_told (fCons (fVar 13) (fCons (fVar 14) (fCons (fVar 16) fNil)))) (fTup (fCons (fC (.str "refused")) (fCons (fC (.int 2)) fNil))))) (fVar 16) [16])) (fLst fNil))) (sRet (fC (.bool false))) sSkip)
    (sIf (fOr (fB (f2 dNe' (fCall m_law_told (fCons (fVar 13) (fCons (fC .none) (fCons (fC .none) fNil)))) (fTup (fCons (fC (.str "refused")) (fCons (fVar 13) fNil))))) (fB (f2 dNe' (fCall m_law_told (fCons (fVar 13) (fCons (fSl (fVar 14) fNo (fSo (fC (.int 1)))) (fCons (fVar 9) fNil)))) (fTup (fCons (fC (.str "refused")) (fCons (fVar 13) fNil)))))) (sRet (fC (.bool false))) sSkip)) [13, 14])
    (sSeq (sAsg (fLst (fCons (fTup (fCons (fTup (fCons (fC (.str "zz")) (fCons (fC (.str "y")) fNil))) fNil)) (fCons (fIf (fB (f2 dGt (f1 dLen (fVar 4)) (fC (.int 1)))) (fTup (fCons (fTup (fCons (f2 dIx (fVar 4) (fC (.int 0))) (fCons (f2 dIx (fVar 4) (f1 dNeg (fC (.int 1)))) fNil))) fNil)) (fTup (fCons (fTup (fCons (fC (.str "y")) (fCons (fC (.str "x")) fNil))) fNil))) fNil))) (tgN 15))
    (sRet (fAndV (f2 dEq' (fLst (fComp (fIter (fVar 15)) (tgN 17) cYes (fCall m_law_told (fCons (fC (.int 0)) (fCons (fVar 1) (fCons (fVar 17) fNil)))) [17])) (f2 dMul (fLst (fCons (fTup (fCons (fC (.str "refused")) (fCons (fC (.int 2)) fNil))) fNil)) (fC (.int 2)))) (f2 dEq' (fCall m_law_told (fCons (fC (.int 0)) (fCons (fVar 1) (fCons (fTup fNil) fNil)))) (fVar 1)))))))))))))))))))
def m_law : Mf := runF F_law 19
end Pz

set_option maxHeartbeats 4000000
/-! The walks of treeforms_k85_renamed. -/
namespace Pz
open PySem PySem.Spec L2
def top (i : Nat) : Stmt := PySem.Challenge.pw_treeforms_k85_renamed.main.body.getD i (.Pass ⟨0, 0, 0, 0⟩)
def dd (x : Str) (i : Nat) : He.DefD := ⟨(x, none), x, x, defArgs (top i), defBody (top i), defScope (top i), [], []⟩
abbrev DefOk (K : PySem.W.Frag) (mg : Str → Option Value) (x : Str) (i : Nat) : Prop := ∃ fd, FunD K x x (defArgs (top i)) (defBody (top i)) (defScope (top i)) [] [] (He.ga K x) fd ∧ mg x = some (.ref (He.ga K x))
structure Txt (K : PySem.W.Frag) (mg : Str → Option Value) : Prop where
  b_ValueError : mg "ValueError" = none
  b_all : mg "all" = none
  b_bool : mg "bool" = none
  b_dict : mg "dict" = none
  b_enumerate : mg "enumerate" = none
  b_int : mg "int" = none
  b_isinstance : mg "isinstance" = none
  b_len : mg "len" = none
  b_max : mg "max" = none
  b_range : mg "range" = none
  b_set : mg "set" = none
  b_sorted : mg "sorted" = none
  b_str : mg "str" = none
  b_tuple : mg "tuple" = none
  b_zip : mg "zip" = none
  c_MOST_CHILDREN : ∃ t, mg "MOST_CHILDREN" = some (.int 40 t)
  c_MOST_CHOICE : ∃ t, mg "MOST_CHOICE" = some (.int 3 t)
  c_MOST_DEEP : ∃ t, mg "MOST_DEEP" = some (.int 12 t)
  c_MOST_LEAST : ∃ t, mg "MOST_LEAST" = some (.int 2 t)
  c_MOST_MARK : ∃ t, mg "MOST_MARK" = some (.int 2 t)
  c_MOST_MOST : ∃ t, mg "MOST_MOST" = some (.int 4 t)
  c_MOST_PAIRS : ∃ t, mg "MOST_PAIRS" = some (.int 5 t)
  c_MOST_PARTS : ∃ t, mg "MOST_PARTS" = some (.int 3 t)
  c_MOST_RULES : ∃ t, mg "MOST_RULES" = some (.int 5 t)
  x_NoBook : Exc K mg "NoBook"
  x_NoPairs : Exc K mg "NoPairs"
  x_NoTree : Exc K mg "NoTree"
  ex : ExF exNames K
  g_FormError : mg "FormError" = some (.ref (He.ga K "FormError"))
section
variable {P : Program} {w : World} {K : PySem.W.Frag} {mg : Str → Option Value} {base : Heap}
theorem sc_law_cell : FnScope ["_law_script", "_law_k"] ["_law_script", "_law_k"] (defScope (top 35)) := ⟨rfl, rfl, rfl, by decide +kernel, rfl, by decide +kernel, by decide +kernel⟩
theorem ok_law_cell (T : Txt K mg) (D : DefOk K mg "_law_cell" 35) : Has P w K mg base "_law_cell" 1 m_law_cell 2 := by
  obtain ⟨fd, D, gm⟩ := D
  exact def_ok (n := 2) (k := 0) D gm sc_law_cell (by decide) rfl (fun _ _ _ _ _ _ us hl => match us, hl with | [_, _], _ => rfl) rfl (fun cdv A outer s H E hr tk hp =>
    (sz_cons (sz_if (pt_cmpz (op_eq0 (hr.units)) op2_eq (po_of (pz_var 0)) (po_of (pz_new (pn_lst az_nil (fewL few0 (by decide))))) (nomark _)) (sz_one (sz_ret (pz_op op_mul0 op2_mul (po_of pz_int) (po_of (pz_var 1))))) sz_nil)
    (sz_one (sz_ret (pz_op op_add0 op2_add (po_of (pz_ix (hu_of hr) (po_of (pz_var 0)) (po_of (pz_op op_mod op2_mod (po_of (pz_var 1)) (po_of (pz_b1 cr_len0 op1_len (by rfl) T.b_len (by decide +kernel) (po_of (pz_var 0)))))))) (po_of (pz_op op_mul0 op2_mul (po_of pz_int) (po_of (pz_op op_fdiv op2_div (po_of (pz_var 1)) (po_of (pz_b1 cr_len0 op1_len (by rfl) T.b_len (by decide +kernel) (po_of (pz_var 0)))))))))))))
theorem sc_law_new : FnScope ["_law_pairs", "_law_mark", "_law_some", "_law_new_here", "_law_old"] ["_law_pairs", "_law_mark"] (defScope (top 42)) := ⟨rfl, rfl, rfl, by decide +kernel, rfl, by decide +kernel, by decide +kernel⟩
theorem ok_law_new (T : Txt K mg) (D : DefOk K mg "_law_new" 42) : Has P w K mg base "_law_new" 1 m_law_new 2 := by
  obtain ⟨fd, D, gm⟩ := D
  exact def_ok (n := 2) (k := 0) D gm sc_law_new (by decide) rfl (fun _ _ _ _ _ _ us hl => match us, hl with | [_, _], _ => rfl) rfl (fun cdv A outer s H E hr tk hp =>
    (sz_cons (sz_frzA 2 (sz_comp 2 [("_law_old", 4), ("_law_new_here", 3)] rfl sc_law_new.nd rfl rfl (sw_true rfl rfl rfl (by decide +kernel)) (iz_any (pz_var 0)) (blkOk_by (by rfl)) (gz_tup (n := 2) (gz_cons (gz_name _ 4) (gz_cons (gz_name _ 3) (gz_nil _))) (len_cons (len_cons len_nil))) (fun _ _ _ _ _ => (pg_tup rfl (pgs_cons (pg_name (i := 4) sc_law_new.nd rfl (by first | exact Or.inl rfl | exact Or.inr rfl)) (pgs_cons (pg_name (i := 3) sc_law_new.nd rfl (by first | exact Or.inl rfl | exact Or.inr rfl)) pgs_nil)))) (fun _ _ _ _ _ => (ptz_one (pt_cmpz (op_eq0 (hr.units)) op2_eq (po_of (pz_var 4)) (po_of (pz_var 1)) (nomark _)))) (fun _ _ _ _ _ => (pz_var 3))))
    (sz_one (sz_ret (pz_if (pt_cmpz (op_ne0 (hr.units)) op2_eq (po_of (pz_var 2)) (po_of (pz_new (pn_lst az_nil (fewL few0 (by decide))))) (nomark _)) (pz_ix (hu_of hr) (po_of (pz_var 2)) (po_of pz_int)) (pz_var 1))))))
theorem sc_law_refused : FnScope ["_law_e", "_law_flags"] ["_law_e"] (defScope (top 40)) := ⟨rfl, rfl, rfl, by decide +kernel, rfl, by decide +kernel, by decide +kernel⟩
theorem ok_law_refused (T : Txt K mg) (D : DefOk K mg "_law_refused" 40) : RefOk P w K mg base "_law_refused" 1 rf_law_refused := by
  obtain ⟨fd, D, gm⟩ := D
  exact ref_ok (k := 0) D gm sc_law_refused (by decide) rfl (fun _ _ _ _ _ _ us hl => match us, hl with | [_], _ => rfl) rk_law_refused (fun cdv A outer s H E p y dd hy hr P =>
    (sz_cons (sz_own 1 sc_law_refused.nd (pn_lst (az_cons (pz_isE 0 P (T.ex.ec y (rm_law_refused hy)) (pe_glob (v := .ref _) (by rfl) T.x_NoBook.mg rfl) (fun _ h => h) (T.ex.kit y (rm_law_refused hy) "NoBook" (by decide)) (by rfl) T.b_isinstance) (az_cons (pz_isE 0 P (T.ex.ec y (rm_law_refused hy)) (pe_glob (v := .ref _) (by rfl) T.x_NoTree.mg rfl) (fun _ h => h) (T.ex.kit y (rm_law_refused hy) "NoTree" (by decide)) (by rfl) T.b_isinstance) (az_cons (pz_isE 0 P (T.ex.ec y (rm_law_refused hy)) (pe_glob (v := .ref _) (by rfl) T.x_NoPairs.mg rfl) (fun _ h => h) (T.ex.kit y (rm_law_refused hy) "NoPairs" (by decide)) (by rfl) T.b_isinstance) az_nil))) (fewL (fewS (fewS (fewS few0))) (by decide))))
    (sz_cons (sz_if (PW.pt (tz_or (pt_cmpz (op_ne0 (rhu hr)) op2_eq (po_of (pz_count (i := 1) (pe_bm PySem.F.plainAttrs_list PySem.F.slot_list_count PySem.F.type_list_count (mt_countB (hu2 (rhu hr))) (pv 1) (pa_cons pe_bl pa_nil)))) (po_of pz_int) (nomark _)) (tz_or1 (tz_not (pt_z (pz_isE 0 P (T.ex.ec y (rm_law_refused hy)) (pe_bltn (v := .ty "ValueError") (by rfl) T.b_ValueError (by decide +kernel) rfl (by decide) (by decide)) (fun _ h => h) (T.ex.kitT y (rm_law_refused hy)) (by rfl) T.b_isinstance)))))) (sz_one (sz_ret (pz_tup (az_cons pz_str (az_cons (pz_neg pz_int) az_nil)) (fewL (fewS (fewS few0)) (by decide))))) sz_nil)
    (sz_one (sz_ret (pz_tup (az_cons pz_str (az_cons (pz_index (i := 1) (pe_bm PySem.F.plainAttrs_list PySem.F.slot_list_index PySem.F.type_list_index (mt_indexB (hu2 (rhu hr))) (pv 1) (pa_cons pe_bl pa_nil))) az_nil)) (fewL (fewS (fewS few0)) (by decide))))))))
theorem sc_are_rising : FnScope ["marks", "one", "other"] ["marks"] (defScope (top 20)) := ⟨rfl, rfl, rfl, by decide +kernel, rfl, by decide +kernel, by decide +kernel⟩
theorem ok_are_rising (T : Txt K mg) (D : DefOk K mg "are_rising" 20) : Has P w K mg base "are_rising" 1 m_are_rising 1 := by
  obtain ⟨fd, D, gm⟩ := D
  exact def_ok (n := 1) (k := 0) D gm sc_are_rising (by decide) rfl (fun _ _ _ _ _ _ us hl => match us, hl with | [_], _ => rfl) rfl (fun cdv A outer s H E hr tk hp =>
    (sz_one (sz_ret (pz_b1 (cr_all rfl) op1_all (by rfl) T.b_all (by decide +kernel) (po_of (pz_new (pn_comp [("one", 1), ("other", 2)] rfl sc_are_rising.nd (iz_zip (by rfl) T.b_zip (pz_var 0) (pz_slice (po_of (pz_var 0)) (oz_so pz_int) oz_no)) (blkOk_by (by rfl)) (gz_tup (n := 2) (gz_cons (gz_name _ 1) (gz_cons (gz_name _ 2) (gz_nil _))) (len_cons (len_cons len_nil))) (fun _ _ _ _ _ => (pg_tup rfl (pgs_cons (pg_name (i := 1) sc_are_rising.nd rfl (by first | exact Or.inl rfl | exact Or.inr rfl)) (pgs_cons (pg_name (i := 2) sc_are_rising.nd rfl (by first | exact Or.inl rfl | exact Or.inr rfl)) pgs_nil)))) (fun _ _ _ _ _ => ptz_nil) (fun _ _ _ _ _ => (pz_cmp op_lt0 op2_lt (po_of (pz_var 1)) (po_of (pz_var 2)) (nomark _))))))))))
theorem sc_has_mark : FnScope ["book", "mark", "one"] ["book", "mark"] (defScope (top 25)) := ⟨rfl, rfl, rfl, by decide +kernel, rfl, by decide +kernel, by decide +kernel⟩
theorem ok_has_mark (T : Txt K mg) (D : DefOk K mg "has_mark" 25) : Has P w K mg base "has_mark" 1 m_has_mark 2 := by
  obtain ⟨fd, D, gm⟩ := D
  exact def_ok (n := 2) (k := 0) D gm sc_has_mark (by decide) rfl (fun _ _ _ _ _ _ us hl => match us, hl with | [_, _], _ => rfl) rfl (fun cdv A outer s H E hr tk hp =>
    (sz_one (sz_ret (vz_and (pz_isi (T := "str") (by rfl) T.b_isinstance (by rfl) T.b_str (by decide +kernel) (po_of (pz_var 1))) (vz_one (pz_cmp (op_in0 (hr.units)) op2_in (po_of (pz_var 1)) (po_of (pz_new (pn_comp [("one", 2)] rfl sc_has_mark.nd (iz_any (pz_ix (hu_of hr) (po_of (pz_var 0)) (po_of pz_int))) (blkOk_by (by rfl)) (gz_name _ 2) (fun _ _ _ _ _ => (pg_name (i := 2) sc_has_mark.nd rfl (by first | exact Or.inl rfl | exact Or.inr rfl))) (fun _ _ _ _ _ => ptz_nil) (fun _ _ _ _ _ => (pz_ix (hu_of hr) (po_of (pz_var 2)) (po_of pz_int)))))) (by rfl)))))))
theorem sc_is_mark : FnScope ["thing", "sign"] ["thing"] (defScope (top 10)) := ⟨rfl, rfl, rfl, by decide +kernel, rfl, by decide +kernel, by decide +kernel⟩
theorem ok_is_mark (T : Txt K mg) (D : DefOk K mg "is_mark" 10) : Has P w K mg base "is_mark" 1 m_is_mark 1 := by
  obtain ⟨fd, D, gm⟩ := D
  exact def_ok (n := 1) (k := 0) D gm sc_is_mark (by decide) rfl (fun _ _ _ _ _ _ us hl => match us, hl with | [_], _ => rfl) rfl (fun cdv A outer s H E hr tk hp =>
    (sz_cons (sz_if (PW.pt (tz_or (tz_not (pt_z (pz_isi (T := "str") (by rfl) T.b_isinstance (by rfl) T.b_str (by decide +kernel) (po_of (pz_var 0))))) (tz_or1 (tz_not (pt_chainz op_le0 op2_le op_le0 op2_le (po_of pz_int) (po_of (pz_b1 cr_len0 op1_len (by rfl) T.b_len (by decide +kernel) (po_of (pz_var 0)))) (po_of (pz_gint (by rfl) T.c_MOST_MARK))))))) (sz_one (sz_ret pz_bl)) sz_nil)
    (sz_one (sz_ret (pz_b1 (cr_all rfl) op1_all (by rfl) T.b_all (by decide +kernel) (po_of (pz_new (pn_comp [("sign", 1)] rfl sc_is_mark.nd (iz_any (pz_var 0)) (blkOk_by (by rfl)) (gz_name _ 1) (fun _ _ _ _ _ => (pg_name (i := 1) sc_is_mark.nd rfl (by first | exact Or.inl rfl | exact Or.inr rfl))) (fun _ _ _ _ _ => ptz_nil) (fun _ _ _ _ _ => (pz_chain op_le0 op2_le op_le0 op2_le (po_of pz_str) (po_of (pz_var 1)) (po_of pz_str)))))))))))
theorem sc_is_number : FnScope ["thing", "low", "high"] ["thing", "low", "high"] (defScope (top 9)) := ⟨rfl, rfl, rfl, by decide +kernel, rfl, by decide +kernel, by decide +kernel⟩
theorem ok_is_number (T : Txt K mg) (D : DefOk K mg "is_number" 9) : Has P w K mg base "is_number" 1 m_is_number 3 := by
  obtain ⟨fd, D, gm⟩ := D
  exact def_ok (n := 3) (k := 0) D gm sc_is_number (by decide) rfl (fun _ _ _ _ _ _ us hl => match us, hl with | [_, _, _], _ => rfl) rfl (fun cdv A outer s H E hr tk hp =>
    (sz_one (sz_ret (vz_and (pz_isi (T := "int") (by rfl) T.b_isinstance (by rfl) T.b_int (by decide +kernel) (po_of (pz_var 0))) (vz_and (vz_not (pz_isi (T := "bool") (by rfl) T.b_isinstance (by rfl) T.b_bool (by decide +kernel) (po_of (pz_var 0)))) (vz_one (pz_chain op_le0 op2_le op_le0 op2_le (po_of (pz_var 1)) (po_of (pz_var 0)) (po_of (pz_var 2)))))))))
theorem sc_part_with : FnScope ["part", "names", "mark"] ["part", "names"] (defScope (top 30)) := ⟨rfl, rfl, rfl, by decide +kernel, rfl, by decide +kernel, by decide +kernel⟩
theorem ok_part_with (T : Txt K mg) (D : DefOk K mg "part_with" 30) : Has P w K mg base "part_with" 1 m_part_with 2 := by
  obtain ⟨fd, D, gm⟩ := D
  exact def_ok (n := 2) (k := 0) D gm sc_part_with (by decide) rfl (fun _ _ _ _ _ _ us hl => match us, hl with | [_, _], _ => rfl) rfl (fun cdv A outer s H E hr tk hp =>
    (sz_one (sz_ret (pz_op op_add0 op2_add (po_of (pz_tup (az_cons (pz_t1 call_tuple_ofN op1_tuple (by rfl) T.b_tuple (by decide +kernel) (po_of (pz_new (pn_b1 (cr_sort0 (hr.units)) op1_sort (by rfl) T.b_sorted (by decide +kernel) (po_of (pz_new (pn_comp [("mark", 2)] rfl sc_part_with.nd (iz_any (pz_ix (hu_of hr) (po_of (pz_var 0)) (po_of pz_int))) (blkOk_by (by rfl)) (gz_name _ 2) (fun _ _ _ _ _ => (pg_name (i := 2) sc_part_with.nd rfl (by first | exact Or.inl rfl | exact Or.inr rfl))) (fun _ _ _ _ _ => ptz_nil) (fun _ _ _ _ _ => (pz_get2 (hu_of hr) (po_of (pz_var 1)) (pz_var 2) (pz_var 2)))))))))) az_nil) (fewL (fewS few0) (by decide)))) (po_of (pz_slice (po_of (pz_var 0)) (oz_so pz_int) oz_no))))))
theorem sc_law_drawn : FnScope ["_law_script", "_law_k", "_law_many", "_law_cell_here"] ["_law_script", "_law_k", "_law_many"] (defScope (top 36)) := ⟨rfl, rfl, rfl, by decide +kernel, rfl, by decide +kernel, by decide +kernel⟩
theorem ok_law_drawn (T : Txt K mg) (D : DefOk K mg "_law_drawn" 36) (h_law_cell : Has P w K mg base "_law_cell" 1 m_law_cell 2) : Has P w K mg base "_law_drawn" 2 m_law_drawn 3 := by
  obtain ⟨fd, D, gm⟩ := D
  exact def_ok (n := 3) (k := 1) D gm sc_law_drawn (by decide) rfl (fun _ _ _ _ _ _ us hl => match us, hl with | [_, _, _], _ => rfl) rfl (fun cdv A outer s H E hr tk hp =>
    (sz_cons (sz_set 3 sc_law_drawn.nd (pz_op op_mod op2_mod (po_of (pz_op op_add0 op2_add (po_of (pz_op op_mul0 op2_mul (po_of (pz_op op_mod op2_mod (po_of (pz_call h_law_cell (hr.mono (by decide)) tk (by rfl) (az_cons (pz_var 0) (az_cons (pz_var 1) az_nil)) (numS (numS num0)))) (po_of pz_int))) (po_of pz_int))) (po_of (pz_op op_mul0 op2_mul (po_of pz_int) (po_of (pz_op op_add0 op2_add (po_of (pz_var 1)) (po_of pz_int))))))) (po_of pz_int)))
    (sz_cons (sz_set 3 sc_law_drawn.nd (pz_op op_mod op2_mod (po_of (pz_op op_add0 op2_add (po_of (pz_op op_mul0 op2_mul (po_of (pz_var 3)) (po_of (pz_var 3)))) (po_of (pz_op op_fdiv op2_div (po_of (pz_var 3)) (po_of pz_int))))) (po_of pz_int)))
    (sz_one (sz_ret (pz_op op_mod op2_mod (po_of (pz_op op_fdiv op2_div (po_of (pz_op op_mod op2_mod (po_of (pz_op op_add0 op2_add (po_of (pz_op op_mul0 op2_mul (po_of (pz_var 3)) (po_of (pz_var 3)))) (po_of (pz_op op_fdiv op2_div (po_of (pz_var 3)) (po_of pz_int))))) (po_of pz_int))) (po_of pz_int))) (po_of (pz_var 2))))))))
theorem sc_is_pair : FnScope ["thing", "one"] ["thing"] (defScope (top 28)) := ⟨rfl, rfl, rfl, by decide +kernel, rfl, by decide +kernel, by decide +kernel⟩
theorem ok_is_pair (T : Txt K mg) (D : DefOk K mg "is_pair" 28) (h_is_mark : Has P w K mg base "is_mark" 1 m_is_mark 1) : Has P w K mg base "is_pair" 2 m_is_pair 1 := by
  obtain ⟨fd, D, gm⟩ := D
  exact def_ok (n := 1) (k := 1) D gm sc_is_pair (by decide) rfl (fun _ _ _ _ _ _ us hl => match us, hl with | [_], _ => rfl) rfl (fun cdv A outer s H E hr tk hp =>
    (sz_one (sz_ret (vz_and (pz_isi (T := "tuple") (by rfl) T.b_isinstance (by rfl) T.b_tuple (by decide +kernel) (po_of (pz_var 0))) (vz_and (pz_cmp (op_eq0 (hr.units)) op2_eq (po_of (pz_b1 cr_len0 op1_len (by rfl) T.b_len (by decide +kernel) (po_of (pz_var 0)))) (po_of pz_int) (nomark _)) (vz_one (pz_b1 (cr_all rfl) op1_all (by rfl) T.b_all (by decide +kernel) (po_of (pz_new (pn_comp [("one", 1)] rfl sc_is_pair.nd (iz_any (pz_var 0)) (blkOk_by (by rfl)) (gz_name _ 1) (fun _ _ _ _ _ => (pg_name (i := 1) sc_is_pair.nd rfl (by first | exact Or.inl rfl | exact Or.inr rfl))) (fun _ _ _ _ _ => ptz_nil) (fun _ _ _ _ _ => (pz_call h_is_mark (hr.mono (by decide)) takes0 (by rfl) (az_cons (pz_var 1) az_nil) (numS num0)))))))))))))
theorem sc_is_part : FnScope ["thing", "one"] ["thing"] (defScope (top 21)) := ⟨rfl, rfl, rfl, by decide +kernel, rfl, by decide +kernel, by decide +kernel⟩
theorem ok_is_part (T : Txt K mg) (D : DefOk K mg "is_part" 21) (h_is_number : Has P w K mg base "is_number" 1 m_is_number 3) (h_are_rising : Has P w K mg base "are_rising" 1 m_are_rising 1) (h_is_mark : Has P w K mg base "is_mark" 1 m_is_mark 1) : Has P w K mg base "is_part" 2 m_is_part 1 := by
  obtain ⟨fd, D, gm⟩ := D
  exact def_ok (n := 1) (k := 1) D gm sc_is_part (by decide) rfl (fun _ _ _ _ _ _ us hl => match us, hl with | [_], _ => rfl) rfl (fun cdv A outer s H E hr tk hp =>
    (sz_cons (sz_if (PW.pt (tz_or (tz_not (pt_z (pz_isi (T := "tuple") (by rfl) T.b_isinstance (by rfl) T.b_tuple (by decide +kernel) (po_of (pz_var 0))))) (tz_or (pt_cmpz (op_ne0 (hr.units)) op2_eq (po_of (pz_b1 cr_len0 op1_len (by rfl) T.b_len (by decide +kernel) (po_of (pz_var 0)))) (po_of pz_int) (nomark _)) (tz_or1 (tz_not (pt_z (pz_isi (T := "tuple") (by rfl) T.b_isinstance (by rfl) T.b_tuple (by decide +kernel) (po_of (pz_ix (hu_of hr) (po_of (pz_var 0)) (po_of pz_int)))))))))) (sz_one (sz_ret pz_bl)) sz_nil)
    (sz_cons (sz_if (PW.pt (tz_or (tz_not (pt_chainz op_le0 op2_le op_le0 op2_le (po_of pz_int) (po_of (pz_b1 cr_len0 op1_len (by rfl) T.b_len (by decide +kernel) (po_of (pz_ix (hu_of hr) (po_of (pz_var 0)) (po_of pz_int))))) (po_of (pz_gint (by rfl) T.c_MOST_CHOICE)))) (tz_or (tz_not (pt_z (pz_b1 (cr_all rfl) op1_all (by rfl) T.b_all (by decide +kernel) (po_of (pz_new (pn_comp [("one", 1)] rfl sc_is_part.nd (iz_any (pz_ix (hu_of hr) (po_of (pz_var 0)) (po_of pz_int))) (blkOk_by (by rfl)) (gz_name _ 1) (fun _ _ _ _ _ => (pg_name (i := 1) sc_is_part.nd rfl (by first | exact Or.inl rfl | exact Or.inr rfl))) (fun _ _ _ _ _ => ptz_nil) (fun _ _ _ _ _ => (pz_call h_is_mark (hr.mono (by decide)) takes0 (by rfl) (az_cons (pz_var 1) az_nil) (numS num0))))))))) (tz_or1 (tz_not (pt_z (pz_call h_are_rising (hr.mono (by decide)) tk (by rfl) (az_cons (pz_ix (hu_of hr) (po_of (pz_var 0)) (po_of pz_int)) az_nil) (numS num0)))))))) (sz_one (sz_ret pz_bl)) sz_nil)
    (sz_cons (sz_if (tz_not (pt_z (pz_call h_is_number (hr.mono (by decide)) tk (by rfl) (az_cons (pz_ix (hu_of hr) (po_of (pz_var 0)) (po_of pz_int)) (az_cons pz_int (az_cons (pz_gint (by rfl) T.c_MOST_LEAST) az_nil))) (numS (numS (numS num0)))))) (sz_one (sz_ret pz_bl)) sz_nil)
    (sz_one (sz_ret (vz_or (pz_cmp op_isN op2_isN (po_of (pz_ix (hu_of hr) (po_of (pz_var 0)) (po_of pz_int))) (po_of pz_non) (nomark _)) (vz_one (pz_call h_is_number (hr.mono (by decide)) tk (by rfl) (az_cons (pz_ix (hu_of hr) (po_of (pz_var 0)) (po_of pz_int)) (az_cons (pz_max rfl (by rfl) T.b_max pz_int (pz_ix (hu_of hr) (po_of (pz_var 0)) (po_of pz_int))) (az_cons (pz_gint (by rfl) T.c_MOST_MOST) az_nil))) (numS (numS (numS num0))))))))))))
theorem sc_law_book : FnScope ["_law_script", "_law_at", "_law_many", "_law_turn", "_law_k", "_law_marks", "_law_rules", "_law_mark", "_law_parts", "_law_j", "_law_here", "_law_some", "_law_least", "_law_most", "_law_n"] ["_law_script", "_law_at"] (defScope (top 37)) := ⟨rfl, rfl, rfl, by decide +kernel, rfl, by decide +kernel, by decide +kernel⟩
theorem ok_law_book (T : Txt K mg) (D : DefOk K mg "_law_book" 37) (h_law_drawn : Has P w K mg base "_law_drawn" 2 m_law_drawn 3) : Has P w K mg base "_law_book" 3 m_law_book 2 := by
  obtain ⟨fd, D, gm⟩ := D
  exact def_ok (n := 2) (k := 2) D gm sc_law_book (by decide) rfl (fun _ _ _ _ _ _ us hl => match us, hl with | [_, _], _ => rfl) rfl (fun cdv A outer s H E hr tk hp =>
    (sz_cons (sz_set 2 sc_law_book.nd (pz_op op_add0 op2_add (po_of pz_int) (po_of (pz_call h_law_drawn (hr.mono (by decide)) tk (by rfl) (az_cons (pz_var 0) (az_cons (pz_var 1) (az_cons pz_int az_nil))) (numS (numS (numS num0)))))))
    (sz_cons (sz_set 3 sc_law_book.nd (pz_call h_law_drawn (hr.mono (by decide)) tk (by rfl) (az_cons (pz_var 0) (az_cons (pz_op op_add0 op2_add (po_of (pz_var 1)) (po_of pz_int)) (az_cons pz_int az_nil))) (numS (numS (numS num0)))))
    (sz_cons (sz_set 5 sc_law_book.nd (pz_new (pn_comp [("_law_k", 4)] rfl sc_law_book.nd (iz_range1 (by rfl) T.b_range (pz_var 2)) (blkOk_by (by rfl)) (gz_name _ 4) (fun _ _ _ _ _ => (pg_name (i := 4) sc_law_book.nd rfl (by first | exact Or.inl rfl | exact Or.inr rfl))) (fun _ _ _ _ _ => ptz_nil) (fun _ _ _ _ _ => (pz_ix (hu_of hr) (po_of (pz_new (pn_lst (az_cons pz_str (az_cons pz_str (az_cons pz_str (az_cons pz_str az_nil)))) (fewL (fewS (fewS (fewS (fewS few0)))) (by decide))))) (po_of (pz_op op_mod op2_mod (po_of (pz_op op_add0 op2_add (po_of (pz_var 4)) (po_of (pz_var 3)))) (po_of pz_int))))))))
    (sz_cons (sz_set 6 sc_law_book.nd (pz_tup az_nil (fewL few0 (by decide))))
    (sz_cons (sz_for hp rfl [4, 7, 8, 9, 10, 11, 12, 13] (iz_enum (by rfl) T.b_enumerate (pz_var 5)) (pg_tup rfl (pgs_cons (pg_name (i := 4) sc_law_book.nd rfl (by first | exact Or.inl rfl | exact Or.inr rfl)) (pgs_cons (pg_name (i := 7) sc_law_book.nd rfl (by first | exact Or.inl rfl | exact Or.inr rfl)) pgs_nil))) (gz_tup (n := 2) (gz_cons (gz_name _ 4) (gz_cons (gz_name _ 7) (gz_nil _))) (len_cons (len_cons len_nil))) (sz_cons (sz_set 8 sc_law_book.nd (pz_tup az_nil (fewL few0 (by decide))))
    (sz_cons (sz_for hp rfl [9, 10, 11, 12, 13] (iz_range1 (by rfl) T.b_range (pz_ix (hu_of hr) (po_of (pz_new (pn_lst (az_cons pz_int (az_cons pz_int (az_cons pz_int (az_cons pz_int (az_cons pz_int (az_cons pz_int az_nil)))))) (fewL (fewS (fewS (fewS (fewS (fewS (fewS few0)))))) (by decide))))) (po_of (pz_call h_law_drawn (hr.mono (by decide)) tk (by rfl) (az_cons (pz_var 0) (az_cons (pz_op op_add0 op2_add (po_of (pz_op op_add0 op2_add (po_of (pz_var 1)) (po_of pz_int))) (po_of (pz_var 4))) (az_cons pz_int az_nil))) (numS (numS (numS num0))))))) (pg_name (i := 9) sc_law_book.nd rfl (by first | exact Or.inl rfl | exact Or.inr rfl)) (gz_name _ 9) (sz_cons (sz_set 10 sc_law_book.nd (pz_op op_add0 op2_add (po_of (pz_op op_add0 op2_add (po_of (pz_op op_add0 op2_add (po_of (pz_var 1)) (po_of pz_int))) (po_of (pz_op op_mul0 op2_mul (po_of pz_int) (po_of (pz_var 4)))))) (po_of (pz_op op_mul0 op2_mul (po_of pz_int) (po_of (pz_var 9))))))
    (sz_cons (sz_frzA 11 (sz_comp 11 [("_law_n", 14)] rfl sc_law_book.nd rfl rfl (sw_true rfl rfl rfl (by decide +kernel)) (iz_range1 (by rfl) T.b_range (pz_op op_add0 op2_add (po_of pz_int) (po_of (pz_call h_law_drawn (hr.mono (by decide)) tk (by rfl) (az_cons (pz_var 0) (az_cons (pz_op op_add0 op2_add (po_of (pz_var 10)) (po_of pz_int)) (az_cons pz_int az_nil))) (numS (numS (numS num0))))))) (blkOk_by (by rfl)) (gz_name _ 14) (fun _ _ _ _ _ => (pg_name (i := 14) sc_law_book.nd rfl (by first | exact Or.inl rfl | exact Or.inr rfl))) (fun _ _ _ _ _ => ptz_nil) (fun _ _ _ _ _ => (pz_ix (hu_of hr) (po_of (pz_var 5)) (po_of (pz_call h_law_drawn (hr.mono (by decide)) takes0 (by rfl) (az_cons (pz_var 0) (az_cons (pz_op op_add0 op2_add (po_of (pz_var 10)) (po_of (pz_var 14))) (az_cons (pz_var 2) az_nil))) (numS (numS (numS num0)))))))))
    (sz_cons (sz_set 12 sc_law_book.nd (pz_ix (hu_of hr) (po_of (pz_new (pn_lst (az_cons pz_int (az_cons pz_int (az_cons pz_int (az_cons pz_int (az_cons pz_int (az_cons pz_int az_nil)))))) (fewL (fewS (fewS (fewS (fewS (fewS (fewS few0)))))) (by decide))))) (po_of (pz_call h_law_drawn (hr.mono (by decide)) tk (by rfl) (az_cons (pz_var 0) (az_cons (pz_op op_add0 op2_add (po_of (pz_var 10)) (po_of pz_int)) (az_cons pz_int az_nil))) (numS (numS (numS num0)))))))
    (sz_cons (sz_set 13 sc_law_book.nd (pz_ix (hu_of hr) (po_of (pz_new (pn_lst (az_cons pz_non (az_cons pz_int (az_cons pz_int (az_cons pz_int az_nil)))) (fewL (fewS (fewS (fewS (fewS few0)))) (by decide))))) (po_of (pz_call h_law_drawn (hr.mono (by decide)) tk (by rfl) (az_cons (pz_var 0) (az_cons (pz_op op_add0 op2_add (po_of (pz_var 10)) (po_of pz_int)) (az_cons pz_int az_nil))) (numS (numS (numS num0)))))))
    (sz_cons (sz_set 13 sc_law_book.nd (pz_if (pt_cmpz op_isN op2_isN (po_of (pz_var 13)) (po_of pz_non) (nomark _)) (pz_var 13) (pz_max rfl (by rfl) T.b_max (pz_var 13) (pz_var 12))))
    (sz_one (sz_set 8 sc_law_book.nd (pz_op op_add0 op2_add (po_of (pz_var 8)) (po_of (pz_tup (az_cons (pz_tup (az_cons (pz_t1 call_tuple_ofN op1_tuple (by rfl) T.b_tuple (by decide +kernel) (po_of (pz_new (pn_sortSet (hr.units) rfl (by rfl) T.b_sorted (by rfl) T.b_set (po_of (pz_var 11)))))) (az_cons (pz_var 12) (az_cons (pz_var 13) az_nil))) (fewL (fewS (fewS (fewS few0))) (by decide))) az_nil) (fewL (fewS few0) (by decide)))))))))))))
    (sz_one (sz_set 6 sc_law_book.nd (pz_op op_add0 op2_add (po_of (pz_var 6)) (po_of (pz_tup (az_cons (pz_tup (az_cons (pz_var 7) (az_cons (pz_var 8) az_nil)) (fewL (fewS (fewS few0)) (by decide))) az_nil) (fewL (fewS few0) (by decide))))))))))
    (sz_one (sz_ret (pz_tup (az_cons (pz_ix (hu_of hr) (po_of (pz_var 5)) (po_of (pz_call h_law_drawn (hr.mono (by decide)) tk (by rfl) (az_cons (pz_var 0) (az_cons (pz_op op_add0 op2_add (po_of (pz_var 1)) (po_of pz_int)) (az_cons (pz_var 2) az_nil))) (numS (numS (numS num0)))))) (az_cons (pz_var 6) az_nil)) (fewL (fewS (fewS few0)) (by decide)))))))))))
theorem sc_is_rule : FnScope ["thing", "one"] ["thing"] (defScope (top 22)) := ⟨rfl, rfl, rfl, by decide +kernel, rfl, by decide +kernel, by decide +kernel⟩
theorem ok_is_rule (T : Txt K mg) (D : DefOk K mg "is_rule" 22) (h_is_mark : Has P w K mg base "is_mark" 1 m_is_mark 1) (h_is_part : Has P w K mg base "is_part" 2 m_is_part 1) : Has P w K mg base "is_rule" 3 m_is_rule 1 := by
  obtain ⟨fd, D, gm⟩ := D
  exact def_ok (n := 1) (k := 2) D gm sc_is_rule (by decide) rfl (fun _ _ _ _ _ _ us hl => match us, hl with | [_], _ => rfl) rfl (fun cdv A outer s H E hr tk hp =>
    (sz_cons (sz_if (PW.pt (tz_or (tz_not (pt_z (pz_isi (T := "tuple") (by rfl) T.b_isinstance (by rfl) T.b_tuple (by decide +kernel) (po_of (pz_var 0))))) (tz_or (pt_cmpz (op_ne0 (hr.units)) op2_eq (po_of (pz_b1 cr_len0 op1_len (by rfl) T.b_len (by decide +kernel) (po_of (pz_var 0)))) (po_of pz_int) (nomark _)) (tz_or (tz_not (pt_z (pz_call h_is_mark (hr.mono (by decide)) tk (by rfl) (az_cons (pz_ix (hu_of hr) (po_of (pz_var 0)) (po_of pz_int)) az_nil) (numS num0)))) (tz_or1 (tz_not (pt_z (pz_isi (T := "tuple") (by rfl) T.b_isinstance (by rfl) T.b_tuple (by decide +kernel) (po_of (pz_ix (hu_of hr) (po_of (pz_var 0)) (po_of pz_int))))))))))) (sz_one (sz_ret pz_bl)) sz_nil)
    (sz_one (sz_ret (vz_and (pz_cmp op_le0 op2_le (po_of (pz_b1 cr_len0 op1_len (by rfl) T.b_len (by decide +kernel) (po_of (pz_ix (hu_of hr) (po_of (pz_var 0)) (po_of pz_int))))) (po_of (pz_gint (by rfl) T.c_MOST_PARTS)) (nomark _)) (vz_one (pz_b1 (cr_all rfl) op1_all (by rfl) T.b_all (by decide +kernel) (po_of (pz_new (pn_comp [("one", 1)] rfl sc_is_rule.nd (iz_any (pz_ix (hu_of hr) (po_of (pz_var 0)) (po_of pz_int))) (blkOk_by (by rfl)) (gz_name _ 1) (fun _ _ _ _ _ => (pg_name (i := 1) sc_is_rule.nd rfl (by first | exact Or.inl rfl | exact Or.inr rfl))) (fun _ _ _ _ _ => ptz_nil) (fun _ _ _ _ _ => (pz_call h_is_part (hr.mono (by decide)) takes0 (by rfl) (az_cons (pz_var 1) az_nil) (numS num0)))))))))))))
theorem sc_need_pairs : FnScope ["pairs", "side", "one"] ["pairs"] (defScope (top 29)) := ⟨rfl, rfl, rfl, by decide +kernel, rfl, by decide +kernel, by decide +kernel⟩
theorem ok_need_pairs (T : Txt K mg) (D : DefOk K mg "need_pairs" 29) (h_is_pair : Has P w K mg base "is_pair" 2 m_is_pair 1) : Has P w K mg base "need_pairs" 3 m_need_pairs 1 := by
  obtain ⟨fd, D, gm⟩ := D
  exact def_ok (n := 1) (k := 2) D gm sc_need_pairs (by decide) rfl (fun _ _ _ _ _ _ us hl => match us, hl with | [_], _ => rfl) rfl (fun cdv A outer s H E hr tk hp =>
    (sz_cons (sz_if (PW.pt (tz_or (tz_not (pt_z (pz_isi (T := "tuple") (by rfl) T.b_isinstance (by rfl) T.b_tuple (by decide +kernel) (po_of (pz_var 0))))) (tz_or (pt_cmpz op_gt0 op2_gt (po_of (pz_b1 cr_len0 op1_len (by rfl) T.b_len (by decide +kernel) (po_of (pz_var 0)))) (po_of (pz_gint (by rfl) T.c_MOST_PAIRS)) (nomark _)) (tz_or1 (tz_not (pt_z (pz_b1 (cr_all rfl) op1_all (by rfl) T.b_all (by decide +kernel) (po_of (pz_new (pn_comp [("one", 2)] rfl sc_need_pairs.nd (iz_any (pz_var 0)) (blkOk_by (by rfl)) (gz_name _ 2) (fun _ _ _ _ _ => (pg_name (i := 2) sc_need_pairs.nd rfl (by first | exact Or.inl rfl | exact Or.inr rfl))) (fun _ _ _ _ _ => ptz_nil) (fun _ _ _ _ _ => (pz_call h_is_pair (hr.mono (by decide)) takes0 (by rfl) (az_cons (pz_var 2) az_nil) (numS num0))))))))))))) (sz_one (sz_raise T.x_NoPairs rfl tk (by rfl))) sz_nil)
    (sz_one (sz_for hp rfl [1] (iz_any (pz_tup (az_cons pz_int (az_cons pz_int az_nil)) (fewL (fewS (fewS few0)) (by decide)))) (pg_name (i := 1) sc_need_pairs.nd rfl (by first | exact Or.inl rfl | exact Or.inr rfl)) (gz_name _ 1) (sz_one (sz_if (pt_cmpz (op_ne0 (hr.units)) op2_eq (po_of (pz_lenSet rfl (by rfl) T.b_len (by rfl) T.b_set (po_of (pz_new (pn_comp [("one", 2)] rfl sc_need_pairs.nd (iz_any (pz_var 0)) (blkOk_by (by rfl)) (gz_name _ 2) (fun _ _ _ _ _ => (pg_name (i := 2) sc_need_pairs.nd rfl (by first | exact Or.inl rfl | exact Or.inr rfl))) (fun _ _ _ _ _ => ptz_nil) (fun _ _ _ _ _ => (pz_ix (hu_of hr) (po_of (pz_var 2)) (po_of (pz_var 1))))))))) (po_of (pz_b1 cr_len0 op1_len (by rfl) T.b_len (by decide +kernel) (po_of (pz_var 0)))) (nomark _)) (sz_one (sz_raise T.x_NoPairs rfl tk (by rfl))) sz_nil))))))
theorem sc_is_book : FnScope ["thing", "marks", "mark", "one", "part"] ["thing"] (defScope (top 23)) := ⟨rfl, rfl, rfl, by decide +kernel, rfl, by decide +kernel, by decide +kernel⟩
theorem ok_is_book (T : Txt K mg) (D : DefOk K mg "is_book" 23) (h_is_mark : Has P w K mg base "is_mark" 1 m_is_mark 1) (h_is_rule : Has P w K mg base "is_rule" 3 m_is_rule 1) : Has P w K mg base "is_book" 4 m_is_book 1 := by
  obtain ⟨fd, D, gm⟩ := D
  exact def_ok (n := 1) (k := 3) D gm sc_is_book (by decide) rfl (fun _ _ _ _ _ _ us hl => match us, hl with | [_], _ => rfl) rfl (fun cdv A outer s H E hr tk hp =>
    (sz_cons (sz_if (PW.pt (tz_or (tz_not (pt_z (pz_isi (T := "tuple") (by rfl) T.b_isinstance (by rfl) T.b_tuple (by decide +kernel) (po_of (pz_var 0))))) (tz_or (pt_cmpz (op_ne0 (hr.units)) op2_eq (po_of (pz_b1 cr_len0 op1_len (by rfl) T.b_len (by decide +kernel) (po_of (pz_var 0)))) (po_of pz_int) (nomark _)) (tz_or (tz_not (pt_z (pz_call h_is_mark (hr.mono (by decide)) tk (by rfl) (az_cons (pz_ix (hu_of hr) (po_of (pz_var 0)) (po_of pz_int)) az_nil) (numS num0)))) (tz_or1 (tz_not (pt_z (pz_isi (T := "tuple") (by rfl) T.b_isinstance (by rfl) T.b_tuple (by decide +kernel) (po_of (pz_ix (hu_of hr) (po_of (pz_var 0)) (po_of pz_int))))))))))) (sz_one (sz_ret pz_bl)) sz_nil)
    (sz_cons (sz_if (PW.pt (tz_or (tz_not (pt_chainz op_le0 op2_le op_le0 op2_le (po_of pz_int) (po_of (pz_b1 cr_len0 op1_len (by rfl) T.b_len (by decide +kernel) (po_of (pz_ix (hu_of hr) (po_of (pz_var 0)) (po_of pz_int))))) (po_of (pz_gint (by rfl) T.c_MOST_RULES)))) (tz_or1 (tz_not (pt_z (pz_b1 (cr_all rfl) op1_all (by rfl) T.b_all (by decide +kernel) (po_of (pz_new (pn_comp [("one", 3)] rfl sc_is_book.nd (iz_any (pz_ix (hu_of hr) (po_of (pz_var 0)) (po_of pz_int))) (blkOk_by (by rfl)) (gz_name _ 3) (fun _ _ _ _ _ => (pg_name (i := 3) sc_is_book.nd rfl (by first | exact Or.inl rfl | exact Or.inr rfl))) (fun _ _ _ _ _ => ptz_nil) (fun _ _ _ _ _ => (pz_call h_is_rule (hr.mono (by decide)) takes0 (by rfl) (az_cons (pz_var 3) az_nil) (numS num0)))))))))))) (sz_one (sz_ret pz_bl)) sz_nil)
    (sz_cons (sz_set 1 sc_is_book.nd (pz_new (pn_comp [("one", 3)] rfl sc_is_book.nd (iz_any (pz_ix (hu_of hr) (po_of (pz_var 0)) (po_of pz_int))) (blkOk_by (by rfl)) (gz_name _ 3) (fun _ _ _ _ _ => (pg_name (i := 3) sc_is_book.nd rfl (by first | exact Or.inl rfl | exact Or.inr rfl))) (fun _ _ _ _ _ => ptz_nil) (fun _ _ _ _ _ => (pz_ix (hu_of hr) (po_of (pz_var 3)) (po_of pz_int))))))
    (sz_cons (sz_if (PW.pt (tz_or (pt_cmpz (op_ne0 (hr.units)) op2_eq (po_of (pz_lenSet rfl (by rfl) T.b_len (by rfl) T.b_set (po_of (pz_var 1)))) (po_of (pz_b1 cr_len0 op1_len (by rfl) T.b_len (by decide +kernel) (po_of (pz_var 1)))) (nomark _)) (tz_or1 (pt_cmpz (op_notIn0 (hr.units)) op2_notIn (po_of (pz_ix (hu_of hr) (po_of (pz_var 0)) (po_of pz_int))) (po_of (pz_var 1)) (by rfl))))) (sz_one (sz_ret pz_bl)) sz_nil)
    (sz_one (sz_ret (pz_b1 (cr_all rfl) op1_all (by rfl) T.b_all (by decide +kernel) (po_of (pz_new (pn_comp [("one", 3)] rfl sc_is_book.nd (iz_any (pz_ix (hu_of hr) (po_of (pz_var 0)) (po_of pz_int))) (blkOk_by (by rfl)) (gz_name _ 3) (fun _ _ _ _ _ => (pg_name (i := 3) sc_is_book.nd rfl (by first | exact Or.inl rfl | exact Or.inr rfl))) (fun _ _ _ _ _ => ptz_nil) (fun _ _ _ _ _ => (pz_b1 (cr_all rfl) op1_all (by rfl) T.b_all (by decide +kernel) (po_of (pz_new (pn_comp [("part", 4)] rfl sc_is_book.nd (iz_any (pz_ix (hu_of hr) (po_of (pz_var 3)) (po_of pz_int))) (blkOk_by (by rfl)) (gz_name _ 4) (fun _ _ _ _ _ => (pg_name (i := 4) sc_is_book.nd rfl (by first | exact Or.inl rfl | exact Or.inr rfl))) (fun _ _ _ _ _ => ptz_nil) (fun _ _ _ _ _ => (pz_b1 (cr_all rfl) op1_all (by rfl) T.b_all (by decide +kernel) (po_of (pz_new (pn_comp [("mark", 2)] rfl sc_is_book.nd (iz_any (pz_ix (hu_of hr) (po_of (pz_var 4)) (po_of pz_int))) (blkOk_by (by rfl)) (gz_name _ 2) (fun _ _ _ _ _ => (pg_name (i := 2) sc_is_book.nd rfl (by first | exact Or.inl rfl | exact Or.inr rfl))) (fun _ _ _ _ _ => ptz_nil) (fun _ _ _ _ _ => (pz_cmp (op_in0 (hr.units)) op2_in (po_of (pz_var 2)) (po_of (pz_var 1)) (by rfl))))))))))))))))))))))))
theorem sc_need_book : FnScope ["book"] ["book"] (defScope (top 24)) := ⟨rfl, rfl, rfl, by decide +kernel, rfl, by decide +kernel, by decide +kernel⟩
theorem ok_need_book (T : Txt K mg) (D : DefOk K mg "need_book" 24) (h_is_book : Has P w K mg base "is_book" 4 m_is_book 1) : Has P w K mg base "need_book" 5 m_need_book 1 := by
  obtain ⟨fd, D, gm⟩ := D
  exact def_ok (n := 1) (k := 4) D gm sc_need_book (by decide) rfl (fun _ _ _ _ _ _ us hl => match us, hl with | [_], _ => rfl) rfl (fun cdv A outer s H E hr tk hp =>
    (sz_one (sz_if (tz_not (pt_z (pz_call h_is_book (hr.mono (by decide)) tk (by rfl) (az_cons (pz_var 0) az_nil) (numS num0)))) (sz_one (sz_raise T.x_NoBook rfl tk (by rfl))) sz_nil)))
theorem sc_renamed : FnScope ["book", "pairs", "names", "old", "new", "rules", "mark", "parts", "part"] ["book", "pairs"] (defScope (top 31)) := ⟨rfl, rfl, rfl, by decide +kernel, rfl, by decide +kernel, by decide +kernel⟩
theorem ok_renamed (T : Txt K mg) (D : DefOk K mg "renamed" 31) (h_need_book : Has P w K mg base "need_book" 5 m_need_book 1) (h_need_pairs : Has P w K mg base "need_pairs" 3 m_need_pairs 1) (h_has_mark : Has P w K mg base "has_mark" 1 m_has_mark 2) (h_part_with : Has P w K mg base "part_with" 1 m_part_with 2) : Has P w K mg base "renamed" 6 m_renamed 2 := by
  obtain ⟨fd, D, gm⟩ := D
  exact def_ok (n := 2) (k := 5) D gm sc_renamed (by decide) rfl (fun _ _ _ _ _ _ us hl => match us, hl with | [_, _], _ => rfl) rfl (fun cdv A outer s H E hr tk hp =>
    (sz_cons (sz_do (pz_call h_need_book (hr.mono (by decide)) tk (by rfl) (az_cons (pz_var 0) az_nil) (numS num0)))
    (sz_cons (sz_do (pz_call h_need_pairs (hr.mono (by decide)) tk (by rfl) (az_cons (pz_var 1) az_nil) (numS num0)))
    (sz_cons (sz_set 2 sc_renamed.nd (pz_dict rfl (by rfl) T.b_dict (po_of (pz_var 1))))
    (sz_cons (sz_for hp rfl [3, 4] (iz_any (pz_var 1)) (pg_tup rfl (pgs_cons (pg_name (i := 3) sc_renamed.nd rfl (by first | exact Or.inl rfl | exact Or.inr rfl)) (pgs_cons (pg_name (i := 4) sc_renamed.nd rfl (by first | exact Or.inl rfl | exact Or.inr rfl)) pgs_nil))) (gz_tup (n := 2) (gz_cons (gz_name _ 3) (gz_cons (gz_name _ 4) (gz_nil _))) (len_cons (len_cons len_nil))) (sz_one (sz_if (PW.pt (tz_or (tz_not (pt_z (pz_call h_has_mark (hr.mono (by decide)) tk (by rfl) (az_cons (pz_var 0) (az_cons (pz_var 3) az_nil)) (numS (numS num0))))) (tz_or1 (PW.pt (tz_and (pt_z (pz_call h_has_mark (hr.mono (by decide)) tk (by rfl) (az_cons (pz_var 0) (az_cons (pz_var 4) az_nil)) (numS (numS num0)))) (tz_and1 (pt_cmpz (op_notIn0 (hr.units)) op2_notIn (po_of (pz_var 4)) (po_of (pz_var 2)) (by rfl)))))))) (sz_one (sz_raise T.x_NoPairs rfl tk (by rfl))) sz_nil)))
    (sz_cons (sz_own 5 sc_renamed.nd (pn_lst az_nil (fewL few0 (by decide))))
    (sz_cons (sz_for hp rfl [6, 7] (iz_any (pz_ix (hu_of hr) (po_of (pz_var 0)) (po_of pz_int))) (pg_tup rfl (pgs_cons (pg_name (i := 6) sc_renamed.nd rfl (by first | exact Or.inl rfl | exact Or.inr rfl)) (pgs_cons (pg_name (i := 7) sc_renamed.nd rfl (by first | exact Or.inl rfl | exact Or.inr rfl)) pgs_nil))) (gz_tup (n := 2) (gz_cons (gz_name _ 6) (gz_cons (gz_name _ 7) (gz_nil _))) (len_cons (len_cons len_nil))) (sz_one (sz_app (i := 5) (pe_bm PySem.F.plainAttrs_list PySem.F.slot_list_append PySem.F.type_list_append mt_append (pv 5) (pa_cons (pz_tup (az_cons (pz_get2 (hu_of hr) (po_of (pz_var 2)) (pz_var 6) (pz_var 6)) (az_cons (pz_t1 call_tuple_ofN op1_tuple (by rfl) T.b_tuple (by decide +kernel) (po_of (pz_new (pn_comp [("part", 8)] rfl sc_renamed.nd (iz_any (pz_var 7)) (blkOk_by (by rfl)) (gz_name _ 8) (fun _ _ _ _ _ => (pg_name (i := 8) sc_renamed.nd rfl (by first | exact Or.inl rfl | exact Or.inr rfl))) (fun _ _ _ _ _ => ptz_nil) (fun _ _ _ _ _ => (pz_call h_part_with (hr.mono (by decide)) takes0 (by rfl) (az_cons (pz_var 8) (az_cons (pz_var 2) az_nil)) (numS (numS num0)))))))) az_nil)) (fewL (fewS (fewS few0)) (by decide))) pa_nil)))))
    (sz_one (sz_ret (pz_tup (az_cons (pz_get2 (hu_of hr) (po_of (pz_var 2)) (pz_ix (hu_of hr) (po_of (pz_var 0)) (po_of pz_int)) (pz_ix (hu_of hr) (po_of (pz_var 0)) (po_of pz_int))) (az_cons (pz_t1 call_tuple_ofN op1_tuple (by rfl) T.b_tuple (by decide +kernel) (po_var 5)) az_nil)) (fewL (fewS (fewS few0)) (by decide))))))))))))
theorem sc_tree_with : FnScope ["tree", "names", "one"] ["tree", "names"] (defScope (top 32)) := ⟨rfl, rfl, rfl, by decide +kernel, rfl, by decide +kernel, by decide +kernel⟩
theorem ok_tree_with (T : Txt K mg) (D : DefOk K mg "tree_with" 32) : ∀ n, Has P w K mg base "tree_with" (1 + n) (mR_tree_with n) 2
  | 0 => (let ⟨fd, D, gm⟩ := D; has_bad (ps := ["tree", "names"]) _ D gm rfl (fun _ _ _ _ _ _ us hl => match us, hl with | [_, _], _ => rfl))
  | n + 1 => by
    have hrec := ok_tree_with T D n
    obtain ⟨fd, D, gm⟩ := D
    exact def_ok (n := 2) (k := 1 + n) D gm sc_tree_with (by decide) rfl (fun _ _ _ _ _ _ us hl => match us, hl with | [_, _], _ => rfl) rfl (fun cdv A outer s H E hr tk hp =>
    (sz_one (sz_ret (pz_tup (az_cons (pz_get2 (hu_of hr) (po_of (pz_var 1)) (pz_ix (hu_of hr) (po_of (pz_var 0)) (po_of pz_int)) (pz_ix (hu_of hr) (po_of (pz_var 0)) (po_of pz_int))) (az_cons (pz_t1 call_tuple_ofN op1_tuple (by rfl) T.b_tuple (by decide +kernel) (po_of (pz_new (pn_comp [("one", 2)] rfl sc_tree_with.nd (iz_any (pz_ix (hu_of hr) (po_of (pz_var 0)) (po_of pz_int))) (blkOk_by (by rfl)) (gz_name _ 2) (fun _ _ _ _ _ => (pg_name (i := 2) sc_tree_with.nd rfl (by first | exact Or.inl rfl | exact Or.inr rfl))) (fun _ _ _ _ _ => ptz_nil) (fun _ _ _ _ _ => (pz_call hrec (hr.mono (by omega)) takes0 (by rfl) (az_cons (pz_var 2) (az_cons (pz_var 1) az_nil)) (numS (numS num0)))))))) az_nil)) (fewL (fewS (fewS few0)) (by decide))))))
theorem sc_law_new_tree : FnScope ["_law_pairs", "_law_tree_here", "_law_one"] ["_law_pairs", "_law_tree_here"] (defScope (top 43)) := ⟨rfl, rfl, rfl, by decide +kernel, rfl, by decide +kernel, by decide +kernel⟩
theorem ok_law_new_tree (T : Txt K mg) (D : DefOk K mg "_law_new_tree" 43) (h_law_new : Has P w K mg base "_law_new" 1 m_law_new 2) : ∀ n, Has P w K mg base "_law_new_tree" (2 + n) (mR_law_new_tree n) 2
  | 0 => (let ⟨fd, D, gm⟩ := D; has_bad (ps := ["_law_pairs", "_law_tree_here"]) _ D gm rfl (fun _ _ _ _ _ _ us hl => match us, hl with | [_, _], _ => rfl))
  | n + 1 => by
    have hrec := ok_law_new_tree T D h_law_new n
    obtain ⟨fd, D, gm⟩ := D
    exact def_ok (n := 2) (k := 2 + n) D gm sc_law_new_tree (by decide) rfl (fun _ _ _ _ _ _ us hl => match us, hl with | [_, _], _ => rfl) rfl (fun cdv A outer s H E hr tk hp =>
    (sz_one (sz_ret (pz_tup (az_cons (pz_call h_law_new (hr.mono (by omega)) tk (by rfl) (az_cons (pz_var 0) (az_cons (pz_ix (hu_of hr) (po_of (pz_var 1)) (po_of pz_int)) az_nil)) (numS (numS num0))) (az_cons (pz_t1 call_tuple_ofN op1_tuple (by rfl) T.b_tuple (by decide +kernel) (po_of (pz_new (pn_comp [("_law_one", 2)] rfl sc_law_new_tree.nd (iz_any (pz_ix (hu_of hr) (po_of (pz_var 1)) (po_of pz_int))) (blkOk_by (by rfl)) (gz_name _ 2) (fun _ _ _ _ _ => (pg_name (i := 2) sc_law_new_tree.nd rfl (by first | exact Or.inl rfl | exact Or.inr rfl))) (fun _ _ _ _ _ => ptz_nil) (fun _ _ _ _ _ => (pz_call hrec (hr.mono (by omega)) takes0 (by rfl) (az_cons (pz_var 0) (az_cons (pz_var 2) az_nil)) (numS (numS num0)))))))) az_nil)) (fewL (fewS (fewS few0)) (by decide))))))
theorem sc_is_tree_in : FnScope ["thing", "deep", "one"] ["thing", "deep"] (defScope (top 11)) := ⟨rfl, rfl, rfl, by decide +kernel, rfl, by decide +kernel, by decide +kernel⟩
theorem ok_is_tree_in (T : Txt K mg) (D : DefOk K mg "is_tree_in" 11) (h_is_mark : Has P w K mg base "is_mark" 1 m_is_mark 1) : ∀ n, Has P w K mg base "is_tree_in" (2 + n) (mR_is_tree_in n) 2
  | 0 => (let ⟨fd, D, gm⟩ := D; has_bad (ps := ["thing", "deep"]) _ D gm rfl (fun _ _ _ _ _ _ us hl => match us, hl with | [_, _], _ => rfl))
  | n + 1 => by
    have hrec := ok_is_tree_in T D h_is_mark n
    obtain ⟨fd, D, gm⟩ := D
    exact def_ok (n := 2) (k := 2 + n) D gm sc_is_tree_in (by decide) rfl (fun _ _ _ _ _ _ us hl => match us, hl with | [_, _], _ => rfl) rfl (fun cdv A outer s H E hr tk hp =>
    (sz_cons (sz_if (PW.pt (tz_or (pt_cmpz (op_eq0 (hr.units)) op2_eq (po_of (pz_var 1)) (po_of pz_int) (nomark _)) (tz_or (tz_not (pt_z (pz_isi (T := "tuple") (by rfl) T.b_isinstance (by rfl) T.b_tuple (by decide +kernel) (po_of (pz_var 0))))) (tz_or (pt_cmpz (op_ne0 (hr.units)) op2_eq (po_of (pz_b1 cr_len0 op1_len (by rfl) T.b_len (by decide +kernel) (po_of (pz_var 0)))) (po_of pz_int) (nomark _)) (tz_or1 (tz_not (pt_z (pz_call h_is_mark (hr.mono (by omega)) tk (by rfl) (az_cons (pz_ix (hu_of hr) (po_of (pz_var 0)) (po_of pz_int)) az_nil) (numS num0))))))))) (sz_one (sz_ret pz_bl)) sz_nil)
    (sz_cons (sz_if (PW.pt (tz_or (tz_not (pt_z (pz_isi (T := "tuple") (by rfl) T.b_isinstance (by rfl) T.b_tuple (by decide +kernel) (po_of (pz_ix (hu_of hr) (po_of (pz_var 0)) (po_of pz_int)))))) (tz_or1 (pt_cmpz op_gt0 op2_gt (po_of (pz_b1 cr_len0 op1_len (by rfl) T.b_len (by decide +kernel) (po_of (pz_ix (hu_of hr) (po_of (pz_var 0)) (po_of pz_int))))) (po_of (pz_gint (by rfl) T.c_MOST_CHILDREN)) (nomark _))))) (sz_one (sz_ret pz_bl)) sz_nil)
    (sz_one (sz_ret (pz_b1 (cr_all rfl) op1_all (by rfl) T.b_all (by decide +kernel) (po_of (pz_new (pn_comp [("one", 2)] rfl sc_is_tree_in.nd (iz_any (pz_ix (hu_of hr) (po_of (pz_var 0)) (po_of pz_int))) (blkOk_by (by rfl)) (gz_name _ 2) (fun _ _ _ _ _ => (pg_name (i := 2) sc_is_tree_in.nd rfl (by first | exact Or.inl rfl | exact Or.inr rfl))) (fun _ _ _ _ _ => ptz_nil) (fun _ _ _ _ _ => (pz_call hrec (hr.mono (by omega)) takes0 (by rfl) (az_cons (pz_var 2) (az_cons (pz_op op_sub op2_sub (po_of (pz_var 1)) (po_of pz_int)) az_nil)) (numS (numS num0)))))))))))))
theorem sc_law_spoilt : FnScope ["_law_script", "_law_at", "_law_tree_here", "_law_way", "_law_mark", "_law_children", "_law_here"] ["_law_script", "_law_at", "_law_tree_here"] (defScope (top 39)) := ⟨rfl, rfl, rfl, by decide +kernel, rfl, by decide +kernel, by decide +kernel⟩
theorem ok_law_spoilt (T : Txt K mg) (D : DefOk K mg "_law_spoilt" 39) (h_law_drawn : Has P w K mg base "_law_drawn" 2 m_law_drawn 3) : ∀ n, Has P w K mg base "_law_spoilt" (3 + n) (mR_law_spoilt n) 3
  | 0 => (let ⟨fd, D, gm⟩ := D; has_bad (ps := ["_law_script", "_law_at", "_law_tree_here"]) _ D gm rfl (fun _ _ _ _ _ _ us hl => match us, hl with | [_, _, _], _ => rfl))
  | n + 1 => by
    have hrec := ok_law_spoilt T D h_law_drawn n
    obtain ⟨fd, D, gm⟩ := D
    exact def_ok (n := 3) (k := 3 + n) D gm sc_law_spoilt (by decide) rfl (fun _ _ _ _ _ _ us hl => match us, hl with | [_, _, _], _ => rfl) rfl (fun cdv A outer s H E hr tk hp =>
    (sz_cons (sz_set 3 sc_law_spoilt.nd (pz_call h_law_drawn (hr.mono (by omega)) tk (by rfl) (az_cons (pz_var 0) (az_cons (pz_var 1) (az_cons pz_int az_nil))) (numS (numS (numS num0)))))
    (sz_cons (sz_asg (pz_var 2) (pg_tup rfl (pgs_cons (pg_name (i := 4) sc_law_spoilt.nd rfl (by first | exact Or.inl rfl | exact Or.inr rfl)) (pgs_cons (pg_name (i := 5) sc_law_spoilt.nd rfl (by first | exact Or.inl rfl | exact Or.inr rfl)) pgs_nil))) (gz_tup (n := 2) (gz_cons (gz_name _ 4) (gz_cons (gz_name _ 5) (gz_nil _))) (len_cons (len_cons len_nil))))
    (sz_cons (sz_if (pt_cmpz (op_eq0 (hr.units)) op2_eq (po_of (pz_var 3)) (po_of pz_int) (nomark _)) (sz_one (sz_ret (pz_tup (az_cons (pz_ix (hu_of hr) (po_of (pz_new (pn_lst (az_cons pz_str (az_cons pz_str (az_cons pz_str (az_cons pz_str (az_cons pz_str az_nil))))) (fewL (fewS (fewS (fewS (fewS (fewS few0))))) (by decide))))) (po_of (pz_call h_law_drawn (hr.mono (by omega)) tk (by rfl) (az_cons (pz_var 0) (az_cons (pz_op op_add0 op2_add (po_of (pz_var 1)) (po_of pz_int)) (az_cons pz_int az_nil))) (numS (numS (numS num0)))))) (az_cons (pz_var 5) az_nil)) (fewL (fewS (fewS few0)) (by decide))))) sz_nil)
    (sz_cons (sz_if (PW.pt (tz_or (pt_cmpz (op_eq0 (hr.units)) op2_eq (po_of (pz_var 3)) (po_of pz_int) (nomark _)) (tz_or1 (pt_cmpz (op_eq0 (hr.units)) op2_eq (po_of (pz_var 5)) (po_of (pz_tup az_nil (fewL few0 (by decide)))) (nomark _))))) (sz_one (sz_ret (pz_tup (az_cons (pz_var 4) (az_cons (pz_op op_add0 op2_add (po_of (pz_var 5)) (po_of (pz_op op_mul0 op2_mul (po_of (pz_tup (az_cons (pz_tup (az_cons (pz_ix (hu_of hr) (po_of (pz_new (pn_lst (az_cons pz_str (az_cons pz_str (az_cons pz_str (az_cons pz_str az_nil)))) (fewL (fewS (fewS (fewS (fewS few0)))) (by decide))))) (po_of (pz_call h_law_drawn (hr.mono (by omega)) tk (by rfl) (az_cons (pz_var 0) (az_cons (pz_op op_add0 op2_add (po_of (pz_var 1)) (po_of pz_int)) (az_cons pz_int az_nil))) (numS (numS (numS num0)))))) (az_cons (pz_tup az_nil (fewL few0 (by decide))) az_nil)) (fewL (fewS (fewS few0)) (by decide))) az_nil) (fewL (fewS few0) (by decide)))) (po_of (pz_t1 call_int1 op1_int (by rfl) T.b_int (by decide +kernel) (po_of (pz_cmp op_lt0 op2_lt (po_of (pz_var 3)) (po_of pz_int) (nomark _)))))))) az_nil)) (fewL (fewS (fewS few0)) (by decide))))) sz_nil)
    (sz_cons (sz_set 6 sc_law_spoilt.nd (pz_call h_law_drawn (hr.mono (by omega)) tk (by rfl) (az_cons (pz_var 0) (az_cons (pz_op op_add0 op2_add (po_of (pz_var 1)) (po_of pz_int)) (az_cons (pz_b1 cr_len0 op1_len (by rfl) T.b_len (by decide +kernel) (po_of (pz_var 5))) az_nil))) (numS (numS (numS num0)))))
    (sz_cons (sz_if (pt_cmpz (op_eq0 (hr.units)) op2_eq (po_of (pz_var 3)) (po_of pz_int) (nomark _)) (sz_one (sz_ret (pz_tup (az_cons (pz_var 4) (az_cons (pz_op op_add0 op2_add (po_of (pz_slice (po_of (pz_var 5)) oz_no (oz_so (pz_var 6)))) (po_of (pz_slice (po_of (pz_var 5)) (oz_so (pz_op op_add0 op2_add (po_of (pz_var 6)) (po_of pz_int))) oz_no))) az_nil)) (fewL (fewS (fewS few0)) (by decide))))) sz_nil)
    (sz_cons (sz_if (pt_cmpz (op_eq0 (hr.units)) op2_eq (po_of (pz_var 3)) (po_of pz_int) (nomark _)) (sz_one (sz_ret (pz_tup (az_cons (pz_var 4) (az_cons (pz_rev (po_of (pz_var 5))) az_nil)) (fewL (fewS (fewS few0)) (by decide))))) sz_nil)
    (sz_one (sz_ret (pz_tup (az_cons (pz_var 4) (az_cons (pz_op op_add0 op2_add (po_of (pz_op op_add0 op2_add (po_of (pz_slice (po_of (pz_var 5)) oz_no (oz_so (pz_var 6)))) (po_of (pz_tup (az_cons (pz_call hrec (hr.mono (by omega)) tk (by rfl) (az_cons (pz_var 0) (az_cons (pz_op op_add0 op2_add (po_of (pz_var 1)) (po_of pz_int)) (az_cons (pz_ix (hu_of hr) (po_of (pz_var 5)) (po_of (pz_var 6))) az_nil))) (numS (numS (numS num0)))) az_nil) (fewL (fewS few0) (by decide)))))) (po_of (pz_slice (po_of (pz_var 5)) (oz_so (pz_op op_add0 op2_add (po_of (pz_var 6)) (po_of pz_int))) oz_no))) az_nil)) (fewL (fewS (fewS few0)) (by decide)))))))))))))
theorem sc_law_tree : FnScope ["_law_script", "_law_at", "_law_book_here", "_law_mark", "_law_deep", "_law_found", "_law_j", "_law_part", "_law_marks", "_law_least", "_law_most", "_law_many", "_law_n", "_law_one", "_law_here"] ["_law_script", "_law_at", "_law_book_here", "_law_mark", "_law_deep"] (defScope (top 38)) := ⟨rfl, rfl, rfl, by decide +kernel, rfl, by decide +kernel, by decide +kernel⟩
theorem ok_law_tree (T : Txt K mg) (D : DefOk K mg "_law_tree" 38) (h_law_drawn : Has P w K mg base "_law_drawn" 2 m_law_drawn 3) : ∀ n, Has P w K mg base "_law_tree" (3 + n) (mR_law_tree n) 5
  | 0 => (let ⟨fd, D, gm⟩ := D; has_bad (ps := ["_law_script", "_law_at", "_law_book_here", "_law_mark", "_law_deep"]) _ D gm rfl (fun _ _ _ _ _ _ us hl => match us, hl with | [_, _, _, _, _], _ => rfl))
  | n + 1 => by
    have hrec := ok_law_tree T D h_law_drawn n
    obtain ⟨fd, D, gm⟩ := D
    exact def_ok (n := 5) (k := 3 + n) D gm sc_law_tree (by decide) rfl (fun _ _ _ _ _ _ us hl => match us, hl with | [_, _, _, _, _], _ => rfl) rfl (fun cdv A outer s H E hr tk hp =>
    (sz_cons (sz_set 5 sc_law_tree.nd (pz_tup az_nil (fewL few0 (by decide))))
    (sz_cons (sz_if (pt_cmpz op_gt0 op2_gt (po_of (pz_var 4)) (po_of pz_int) (nomark _)) (sz_one (sz_for hp rfl [6, 7, 8, 9, 10, 11, 12, 13, 14] (iz_enum (by rfl) T.b_enumerate (pz_ix (hu_of hr) (po_of (pz_dict rfl (by rfl) T.b_dict (po_of (pz_ix (hu_of hr) (po_of (pz_var 2)) (po_of pz_int))))) (po_of (pz_var 3)))) (pg_tup rfl (pgs_cons (pg_name (i := 6) sc_law_tree.nd rfl (by first | exact Or.inl rfl | exact Or.inr rfl)) (pgs_cons (pg_name (i := 7) sc_law_tree.nd rfl (by first | exact Or.inl rfl | exact Or.inr rfl)) pgs_nil))) (gz_tup (n := 2) (gz_cons (gz_name _ 6) (gz_cons (gz_name _ 7) (gz_nil _))) (len_cons (len_cons len_nil))) (sz_cons (sz_asg (pz_var 7) (pg_tup rfl (pgs_cons (pg_name (i := 8) sc_law_tree.nd rfl (by first | exact Or.inl rfl | exact Or.inr rfl)) (pgs_cons (pg_name (i := 9) sc_law_tree.nd rfl (by first | exact Or.inl rfl | exact Or.inr rfl)) (pgs_cons (pg_name (i := 10) sc_law_tree.nd rfl (by first | exact Or.inl rfl | exact Or.inr rfl)) pgs_nil)))) (gz_tup (n := 3) (gz_cons (gz_name _ 8) (gz_cons (gz_name _ 9) (gz_cons (gz_name _ 10) (gz_nil _)))) (len_cons (len_cons (len_cons len_nil)))))
    (sz_cons (sz_set 11 sc_law_tree.nd (pz_op op_add0 op2_add (po_of (pz_var 9)) (po_of (pz_op op_mul0 op2_mul (po_of (pz_call h_law_drawn (hr.mono (by omega)) tk (by rfl) (az_cons (pz_var 0) (az_cons (pz_op op_add0 op2_add (po_of (pz_var 1)) (po_of (pz_op op_mul0 op2_mul (po_of pz_int) (po_of (pz_var 6))))) (az_cons pz_int az_nil))) (numS (numS (numS num0))))) (po_of (pz_t1 call_int1 op1_int (by rfl) T.b_int (by decide +kernel) (po_of (vz_or (pz_cmp op_isN op2_isN (po_of (pz_var 10)) (po_of pz_non) (nomark _)) (vz_one (pz_cmp op_gt0 op2_gt (po_of (pz_var 10)) (po_of (pz_var 9)) (nomark _)))))))))))
    (sz_one (sz_for hp rfl [12, 13, 14] (iz_range1 (by rfl) T.b_range (pz_var 11)) (pg_name (i := 12) sc_law_tree.nd rfl (by first | exact Or.inl rfl | exact Or.inr rfl)) (gz_name _ 12) (sz_cons (sz_set 13 sc_law_tree.nd (pz_ix (hu_of hr) (po_of (pz_var 8)) (po_of (pz_call h_law_drawn (hr.mono (by omega)) tk (by rfl) (az_cons (pz_var 0) (az_cons (pz_op op_add0 op2_add (po_of (pz_op op_add0 op2_add (po_of (pz_op op_add0 op2_add (po_of (pz_var 1)) (po_of pz_int))) (po_of (pz_op op_mul0 op2_mul (po_of pz_int) (po_of (pz_var 6)))))) (po_of (pz_var 12))) (az_cons (pz_b1 cr_len0 op1_len (by rfl) T.b_len (by decide +kernel) (po_of (pz_var 8))) az_nil))) (numS (numS (numS num0)))))))
    (sz_cons (sz_set 14 sc_law_tree.nd (pz_op op_add0 op2_add (po_of (pz_op op_add0 op2_add (po_of (pz_var 1)) (po_of (pz_op op_mul0 op2_mul (po_of pz_int) (po_of (pz_op op_add0 op2_add (po_of (pz_var 6)) (po_of pz_int))))))) (po_of (pz_op op_mul0 op2_mul (po_of pz_int) (po_of (pz_var 12))))))
    (sz_one (sz_set 5 sc_law_tree.nd (pz_op op_add0 op2_add (po_of (pz_var 5)) (po_of (pz_tup (az_cons (pz_call hrec (hr.mono (by omega)) tk (by rfl) (az_cons (pz_var 0) (az_cons (pz_var 14) (az_cons (pz_var 2) (az_cons (pz_var 13) (az_cons (pz_op op_sub op2_sub (po_of (pz_var 4)) (po_of pz_int)) az_nil))))) (numS (numS (numS (numS (numS num0)))))) az_nil) (fewL (fewS few0) (by decide))))))))))))))) sz_nil)
    (sz_one (sz_ret (pz_tup (az_cons (pz_var 3) (az_cons (pz_slice (po_of (pz_var 5)) oz_no (oz_so pz_int)) az_nil)) (fewL (fewS (fewS few0)) (by decide))))))))
theorem sc_is_tree : FnScope ["thing"] ["thing"] (defScope (top 12)) := ⟨rfl, rfl, rfl, by decide +kernel, rfl, by decide +kernel, by decide +kernel⟩
theorem ok_is_tree (T : Txt K mg) (D : DefOk K mg "is_tree" 12) (h_is_tree_in : Has P w K mg base "is_tree_in" 22 (mR_is_tree_in 20) 2) : Has P w K mg base "is_tree" 23 m_is_tree 1 := by
  obtain ⟨fd, D, gm⟩ := D
  exact def_ok (n := 1) (k := 22) D gm sc_is_tree (by decide) rfl (fun _ _ _ _ _ _ us hl => match us, hl with | [_], _ => rfl) rfl (fun cdv A outer s H E hr tk hp =>
    (sz_one (sz_ret (pz_call h_is_tree_in (hr.mono (by decide)) tk (by rfl) (az_cons (pz_var 0) (az_cons (pz_gint (by rfl) T.c_MOST_DEEP) az_nil)) (numS (numS num0))))))
theorem sc_need_tree : FnScope ["tree"] ["tree"] (defScope (top 13)) := ⟨rfl, rfl, rfl, by decide +kernel, rfl, by decide +kernel, by decide +kernel⟩
theorem ok_need_tree (T : Txt K mg) (D : DefOk K mg "need_tree" 13) (h_is_tree : Has P w K mg base "is_tree" 23 m_is_tree 1) : Has P w K mg base "need_tree" 24 m_need_tree 1 := by
  obtain ⟨fd, D, gm⟩ := D
  exact def_ok (n := 1) (k := 23) D gm sc_need_tree (by decide) rfl (fun _ _ _ _ _ _ us hl => match us, hl with | [_], _ => rfl) rfl (fun cdv A outer s H E hr tk hp =>
    (sz_one (sz_if (tz_not (pt_z (pz_call h_is_tree (hr.mono (by decide)) tk (by rfl) (az_cons (pz_var 0) az_nil) (numS num0)))) (sz_one (sz_raise T.x_NoTree rfl tk (by rfl))) sz_nil)))
theorem sc_tree_renamed : FnScope ["tree", "pairs"] ["tree", "pairs"] (defScope (top 33)) := ⟨rfl, rfl, rfl, by decide +kernel, rfl, by decide +kernel, by decide +kernel⟩
theorem ok_tree_renamed (T : Txt K mg) (D : DefOk K mg "tree_renamed" 33) (h_need_tree : Has P w K mg base "need_tree" 24 m_need_tree 1) (h_need_pairs : Has P w K mg base "need_pairs" 3 m_need_pairs 1) (h_tree_with : Has P w K mg base "tree_with" 21 (mR_tree_with 20) 2) : Has P w K mg base "tree_renamed" 25 m_tree_renamed 2 := by
  obtain ⟨fd, D, gm⟩ := D
  exact def_ok (n := 2) (k := 24) D gm sc_tree_renamed (by decide) rfl (fun _ _ _ _ _ _ us hl => match us, hl with | [_, _], _ => rfl) rfl (fun cdv A outer s H E hr tk hp =>
    (sz_cons (sz_do (pz_call h_need_tree (hr.mono (by decide)) tk (by rfl) (az_cons (pz_var 0) az_nil) (numS num0)))
    (sz_cons (sz_do (pz_call h_need_pairs (hr.mono (by decide)) tk (by rfl) (az_cons (pz_var 1) az_nil) (numS num0)))
    (sz_one (sz_ret (pz_call h_tree_with (hr.mono (by decide)) tk (by rfl) (az_cons (pz_var 0) (az_cons (pz_dict rfl (by rfl) T.b_dict (po_of (pz_var 1))) az_nil)) (numS (numS num0))))))))
theorem sc_law_told : FnScope ["_law_way", "_law_thing", "_law_pairs", "_law_e"] ["_law_way", "_law_thing", "_law_pairs"] (defScope (top 41)) := ⟨rfl, rfl, rfl, by decide +kernel, rfl, by decide +kernel, by decide +kernel⟩
theorem ok_law_told (T : Txt K mg) (D : DefOk K mg "_law_told" 41) (h_renamed : Has P w K mg base "renamed" 6 m_renamed 2) (h_tree_renamed : Has P w K mg base "tree_renamed" 25 m_tree_renamed 2) (h_law_refused : RefOk P w K mg base "_law_refused" 1 rf_law_refused) : Has P w K mg base "_law_told" 26 m_law_told 3 := by
  obtain ⟨fd, D, gm⟩ := D
  exact def_ok (n := 3) (k := 25) D gm sc_law_told (by decide) rfl (fun _ _ _ _ _ _ us hl => match us, hl with | [_, _, _], _ => rfl) rfl (fun cdv A outer s H E hr tk hp =>
    (sz_one (sz_try (i := 3) rfl rfl sc_law_told.nd (by rfl) (by rfl) ⟨by rfl, by decide, .inl T.g_FormError⟩ tk (fun y d h => T.ex.cat y (rm_law_refused h)) (fun _ _ _ tk hp =>
    (sz_one (sz_ret (pz_if (pt_cmpz (op_eq0 (hr.units)) op2_eq (po_of (pz_var 0)) (po_of pz_int) (nomark _)) (pz_call h_renamed (hr.mono (by decide)) tk (by rfl) (az_cons (pz_var 1) (az_cons (pz_var 2) az_nil)) (numS (numS num0))) (pz_call h_tree_renamed (hr.mono (by decide)) tk (by rfl) (az_cons (pz_var 1) (az_cons (pz_var 2) az_nil)) (numS (numS num0))))))) h_law_refused (hr.mono (by decide)) (by rfl))))
theorem sc_law : FnScope ["_law_script", "_law_book_here", "_law_mark", "_law_parts", "_law_marks", "_law_tree_here", "_law_turn", "_law_names", "_law_many", "_law_pairs", "_law_rules", "_law_some", "_law_bads", "_law_way", "_law_thing", "_law_more", "_law_bad", "_law_one", "_law_part"] ["_law_script"] (defScope (top 44)) := ⟨rfl, rfl, rfl, by decide +kernel, rfl, by decide +kernel, by decide +kernel⟩
theorem fn_law (T : Txt K mg) {fd : FuncData} (D : FunD K "law" "law" (defArgs (top 44)) (defBody (top 44)) (defScope (top 44)) [] [] (He.ga K "law") fd) (gm : mg "law" = some (.ref (He.ga K "law"))) (h_law_book : Has P w K mg base "_law_book" 3 m_law_book 2) (h_law_spoilt : Has P w K mg base "_law_spoilt" 23 (mR_law_spoilt 20) 3) (h_law_drawn : Has P w K mg base "_law_drawn" 2 m_law_drawn 3) (h_law_tree : Has P w K mg base "_law_tree" 23 (mR_law_tree 20) 5) (h_law_told : Has P w K mg base "_law_told" 26 m_law_told 3) (h_law_new : Has P w K mg base "_law_new" 1 m_law_new 2) (h_law_new_tree : Has P w K mg base "_law_new_tree" 22 (mR_law_new_tree 20) 2) : FnOk P w K mg base (L2.CX P w) 27 (He.ga K "law") fd ["_law_script"] (spP K m_law 1) :=
  def_fn (n := 1) (k := 26) D gm sc_law (by decide) rfl rfl (fun cdv A outer s H E hr tk hp =>
    (sz_cons (sz_set 1 sc_law.nd (pz_call h_law_book (hr.mono (by decide)) tk (by rfl) (az_cons (pz_var 0) (az_cons pz_int az_nil)) (numS (numS num0))))
    (sz_cons (sz_frzA 4 (sz_comp 4 [("_law_mark", 2), ("_law_parts", 3)] rfl sc_law.nd rfl rfl (sw_true rfl rfl rfl (by decide +kernel)) (iz_any (pz_ix (hu_of hr) (po_of (pz_var 1)) (po_of pz_int))) (blkOk_by (by rfl)) (gz_tup (n := 2) (gz_cons (gz_name _ 2) (gz_cons (gz_name _ 3) (gz_nil _))) (len_cons (len_cons len_nil))) (fun _ _ _ _ _ => (pg_tup rfl (pgs_cons (pg_name (i := 2) sc_law.nd rfl (by first | exact Or.inl rfl | exact Or.inr rfl)) (pgs_cons (pg_name (i := 3) sc_law.nd rfl (by first | exact Or.inl rfl | exact Or.inr rfl)) pgs_nil)))) (fun _ _ _ _ _ => ptz_nil) (fun _ _ _ _ _ => (pz_var 2))))
    (sz_cons (sz_set 5 sc_law.nd (pz_call h_law_spoilt (hr.mono (by decide)) tk (by rfl) (az_cons (pz_var 0) (az_cons pz_int (az_cons (pz_call h_law_tree (hr.mono (by decide)) tk (by rfl) (az_cons (pz_var 0) (az_cons pz_int (az_cons (pz_var 1) (az_cons (pz_ix (hu_of hr) (po_of (pz_var 1)) (po_of pz_int)) (az_cons pz_int az_nil))))) (numS (numS (numS (numS (numS num0)))))) az_nil))) (numS (numS (numS num0)))))
    (sz_cons (sz_set 6 sc_law.nd (pz_call h_law_drawn (hr.mono (by decide)) tk (by rfl) (az_cons (pz_var 0) (az_cons pz_int (az_cons (pz_b1 cr_len0 op1_len (by rfl) T.b_len (by decide +kernel) (po_of (pz_var 4))) az_nil))) (numS (numS (numS num0)))))
    (sz_cons (sz_set 7 sc_law.nd (pz_ix (hu_of hr) (po_of (pz_tup (az_cons (pz_op op_add0 op2_add (po_of (pz_slice (po_of (pz_var 4)) (oz_so (pz_var 6)) oz_no)) (po_of (pz_slice (po_of (pz_var 4)) oz_no (oz_so (pz_var 6))))) (az_cons (pz_slice (po_of (pz_new (pn_lst (az_cons pz_str (az_cons pz_str (az_cons pz_str (az_cons pz_str az_nil)))) (fewL (fewS (fewS (fewS (fewS few0)))) (by decide))))) oz_no (oz_so (pz_b1 cr_len0 op1_len (by rfl) T.b_len (by decide +kernel) (po_of (pz_var 4))))) az_nil)) (fewL (fewS (fewS few0)) (by decide)))) (po_of (pz_call h_law_drawn (hr.mono (by decide)) tk (by rfl) (az_cons (pz_var 0) (az_cons pz_int (az_cons pz_int az_nil))) (numS (numS (numS num0)))))))
    (sz_cons (sz_set 8 sc_law.nd (pz_if (pt_cmpz (op_in0 (hr.units)) op2_in (po_of (pz_ix (hu_of hr) (po_of (pz_var 7)) (po_of pz_int))) (po_of (pz_var 4)) (by rfl)) (pz_b1 cr_len0 op1_len (by rfl) T.b_len (by decide +kernel) (po_of (pz_var 4))) (pz_call h_law_drawn (hr.mono (by decide)) tk (by rfl) (az_cons (pz_var 0) (az_cons pz_int (az_cons (pz_op op_add0 op2_add (po_of (pz_b1 cr_len0 op1_len (by rfl) T.b_len (by decide +kernel) (po_of (pz_var 4)))) (po_of pz_int)) az_nil))) (numS (numS (numS num0))))))
    (sz_cons (sz_set 9 sc_law.nd (pz_slice (po_of (pz_tupzip (by rfl) T.b_tuple (by rfl) T.b_zip rfl (pz_var 4) (pz_var 7))) oz_no (oz_so (pz_var 8))))
    (sz_cons (sz_own 10 sc_law.nd (pn_lst az_nil (fewL few0 (by decide))))
    (sz_cons (sz_for hp rfl [2, 3, 11] (iz_any (pz_ix (hu_of hr) (po_of (pz_var 1)) (po_of pz_int))) (pg_tup rfl (pgs_cons (pg_name (i := 2) sc_law.nd rfl (by first | exact Or.inl rfl | exact Or.inr rfl)) (pgs_cons (pg_name (i := 3) sc_law.nd rfl (by first | exact Or.inl rfl | exact Or.inr rfl)) pgs_nil))) (gz_tup (n := 2) (gz_cons (gz_name _ 2) (gz_cons (gz_name _ 3) (gz_nil _))) (len_cons (len_cons len_nil))) (sz_cons (sz_frzA 11 (sz_comp 11 [("_law_part", 18)] rfl sc_law.nd rfl rfl (sw_true rfl rfl rfl (by decide +kernel)) (iz_any (pz_var 3)) (blkOk_by (by rfl)) (gz_name _ 18) (fun _ _ _ _ _ => (pg_name (i := 18) sc_law.nd rfl (by first | exact Or.inl rfl | exact Or.inr rfl))) (fun _ _ _ _ _ => ptz_nil) (fun _ _ _ _ _ => (pz_op op_add0 op2_add (po_of (pz_tup (az_cons (pz_t1 call_tuple_ofN op1_tuple (by rfl) T.b_tuple (by decide +kernel) (po_of (pz_new (pn_b1 (cr_sort0 (hr.units)) op1_sort (by rfl) T.b_sorted (by decide +kernel) (po_of (pz_new (pn_comp [("_law_one", 17)] rfl sc_law.nd (iz_any (pz_ix (hu_of hr) (po_of (pz_var 18)) (po_of pz_int))) (blkOk_by (by rfl)) (gz_name _ 17) (fun _ _ _ _ _ => (pg_name (i := 17) sc_law.nd rfl (by first | exact Or.inl rfl | exact Or.inr rfl))) (fun _ _ _ _ _ => ptz_nil) (fun _ _ _ _ _ => (pz_call h_law_new (hr.mono (by decide)) takes0 (by rfl) (az_cons (pz_var 9) (az_cons (pz_var 17) az_nil)) (numS (numS num0))))))))))) az_nil) (fewL (fewS few0) (by decide)))) (po_of (pz_slice (po_of (pz_var 18)) (oz_so pz_int) oz_no))))))
    (sz_one (sz_app (i := 10) (pe_bm PySem.F.plainAttrs_list PySem.F.slot_list_append PySem.F.type_list_append mt_append (pv 10) (pa_cons (pz_tup (az_cons (pz_call h_law_new (hr.mono (by decide)) tk (by rfl) (az_cons (pz_var 9) (az_cons (pz_var 2) az_nil)) (numS (numS num0))) (az_cons (pz_t1 call_tuple_ofN op1_tuple (by rfl) T.b_tuple (by decide +kernel) (po_of (pz_var 11))) az_nil)) (fewL (fewS (fewS few0)) (by decide))) pa_nil))))))
    (sz_cons (sz_if (pt_cmpz (op_ne0 (hr.units)) op2_eq (po_of (pz_call h_law_told (hr.mono (by decide)) tk (by rfl) (az_cons pz_int (az_cons (pz_var 1) (az_cons (pz_var 9) az_nil))) (numS (numS (numS num0))))) (po_of (pz_tup (az_cons (pz_call h_law_new (hr.mono (by decide)) tk (by rfl) (az_cons (pz_var 9) (az_cons (pz_ix (hu_of hr) (po_of (pz_var 1)) (po_of pz_int)) az_nil)) (numS (numS num0))) (az_cons (pz_t1 call_tuple_ofN op1_tuple (by rfl) T.b_tuple (by decide +kernel) (po_var 10)) az_nil)) (fewL (fewS (fewS few0)) (by decide)))) (nomark _)) (sz_one (sz_ret pz_bl)) sz_nil)
    (sz_cons (sz_if (PW.pt (tz_or (pt_cmpz (op_ne0 (hr.units)) op2_eq (po_of (pz_call h_law_told (hr.mono (by decide)) tk (by rfl) (az_cons pz_int (az_cons (pz_var 5) (az_cons (pz_var 9) az_nil))) (numS (numS (numS num0))))) (po_of (pz_call h_law_new_tree (hr.mono (by decide)) tk (by rfl) (az_cons (pz_var 9) (az_cons (pz_var 5) az_nil)) (numS (numS num0)))) (nomark _)) (tz_or1 (pt_cmpz (op_eq0 (hr.units)) op2_eq (po_of (pz_call h_law_told (hr.mono (by decide)) tk (by rfl) (az_cons pz_int (az_cons (pz_var 5) (az_cons (pz_tup (az_cons (pz_tup (az_cons pz_str (az_cons pz_str az_nil)) (fewL (fewS (fewS few0)) (by decide))) az_nil) (fewL (fewS few0) (by decide))) az_nil))) (numS (numS (numS num0))))) (po_of (pz_tup (az_cons pz_str (az_cons pz_int az_nil)) (fewL (fewS (fewS few0)) (by decide)))) (nomark _))))) (sz_one (sz_ret pz_bl)) sz_nil)
    (sz_cons (sz_set 12 sc_law.nd (pz_new (pn_lst (az_cons pz_non (az_cons (pz_new (pn_lst az_nil (fewL few0 (by decide)))) (az_cons (pz_tup (az_cons (pz_tup (az_cons pz_str az_nil) (fewL (fewS few0) (by decide))) az_nil) (fewL (fewS few0) (by decide))) (az_cons (pz_tup (az_cons (pz_tup (az_cons pz_str (az_cons pz_str az_nil)) (fewL (fewS (fewS few0)) (by decide))) az_nil) (fewL (fewS few0) (by decide))) (az_cons (pz_tup (az_cons (pz_tup (az_cons pz_str (az_cons pz_str (az_cons pz_str az_nil))) (fewL (fewS (fewS (fewS few0))) (by decide))) az_nil) (fewL (fewS few0) (by decide))) (az_cons (pz_tup (az_cons (pz_tup (az_cons pz_str (az_cons pz_str az_nil)) (fewL (fewS (fewS few0)) (by decide))) (az_cons (pz_tup (az_cons pz_str (az_cons pz_str az_nil)) (fewL (fewS (fewS few0)) (by decide))) az_nil)) (fewL (fewS (fewS few0)) (by decide))) (az_cons (pz_tup (az_cons (pz_tup (az_cons pz_str (az_cons pz_str az_nil)) (fewL (fewS (fewS few0)) (by decide))) (az_cons (pz_tup (az_cons pz_str (az_cons pz_str az_nil)) (fewL (fewS (fewS few0)) (by decide))) az_nil)) (fewL (fewS (fewS few0)) (by decide))) az_nil))))))) (fewL (fewS (fewS (fewS (fewS (fewS (fewS (fewS few0))))))) (by decide)))))
    (sz_cons (sz_set 12 sc_law.nd (pz_op op_add0 op2_add (po_of (pz_var 12)) (po_of (pz_new (pn_lst (az_cons (pz_t1 call_tuple_ofN op1_tuple (by rfl) T.b_tuple (by decide +kernel) (po_of (pz_new (pn_comp [("_law_one", 17)] rfl sc_law.nd (iz_any pz_str) (blkOk_by (by rfl)) (gz_name _ 17) (fun _ _ _ _ _ => (pg_name (i := 17) sc_law.nd rfl (by first | exact Or.inl rfl | exact Or.inr rfl))) (fun _ _ _ _ _ => ptz_nil) (fun _ _ _ _ _ => (pz_tup (az_cons (pz_var 17) (az_cons (pz_var 17) az_nil)) (fewL (fewS (fewS few0)) (by decide)))))))) (az_cons (pz_tup (az_cons pz_str az_nil) (fewL (fewS few0) (by decide))) (az_cons (pz_tup (az_cons (pz_tup (az_cons (pz_ix (hu_of hr) (po_of (pz_var 4)) (po_of pz_int)) (az_cons pz_non az_nil)) (fewL (fewS (fewS few0)) (by decide))) az_nil) (fewL (fewS few0) (by decide))) (az_cons (pz_tup (az_cons (pz_tup (az_cons (pz_ix (hu_of hr) (po_of (pz_var 4)) (po_of pz_int)) (az_cons pz_str az_nil)) (fewL (fewS (fewS few0)) (by decide))) az_nil) (fewL (fewS few0) (by decide))) az_nil)))) (fewL (fewS (fewS (fewS (fewS few0)))) (by decide)))))))
    (sz_cons (sz_for hp rfl [13, 14] (iz_enum (by rfl) T.b_enumerate (pz_tup (az_cons (pz_var 1) (az_cons (pz_var 5) az_nil)) (fewL (fewS (fewS few0)) (by decide)))) (pg_tup rfl (pgs_cons (pg_name (i := 13) sc_law.nd rfl (by first | exact Or.inl rfl | exact Or.inr rfl)) (pgs_cons (pg_name (i := 14) sc_law.nd rfl (by first | exact Or.inl rfl | exact Or.inr rfl)) pgs_nil))) (gz_tup (n := 2) (gz_cons (gz_name _ 13) (gz_cons (gz_name _ 14) (gz_nil _))) (len_cons (len_cons len_nil))) (sz_cons (sz_if (pt_cmpz (op_ne0 (hr.units)) op2_eq (po_of (pz_new (pn_comp [("_law_bad", 16)] rfl sc_law.nd (iz_any (pz_var 12)) (blkOk_by (by rfl)) (gz_name _ 16) (fun _ _ _ _ _ => (pg_name (i := 16) sc_law.nd rfl (by first | exact Or.inl rfl | exact Or.inr rfl))) (fun _ _ _ _ _ => (ptz_one (pt_cmpz (op_ne0 (hr.units)) op2_eq (po_of (pz_call h_law_told (hr.mono (by decide)) takes0 (by rfl) (az_cons (pz_var 13) (az_cons (pz_var 14) (az_cons (pz_var 16) az_nil))) (numS (numS (numS num0))))) (po_of (pz_tup (az_cons pz_str (az_cons pz_int az_nil)) (fewL (fewS (fewS few0)) (by decide)))) (nomark _)))) (fun _ _ _ _ _ => (pz_var 16))))) (po_of (pz_new (pn_lst az_nil (fewL few0 (by decide))))) (nomark _)) (sz_one (sz_ret pz_bl)) sz_nil)
    (sz_one (sz_if (PW.pt (tz_or (pt_cmpz (op_ne0 (hr.units)) op2_eq (po_of (pz_call h_law_told (hr.mono (by decide)) tk (by rfl) (az_cons (pz_var 13) (az_cons pz_non (az_cons pz_non az_nil))) (numS (numS (numS num0))))) (po_of (pz_tup (az_cons pz_str (az_cons (pz_var 13) az_nil)) (fewL (fewS (fewS few0)) (by decide)))) (nomark _)) (tz_or1 (pt_cmpz (op_ne0 (hr.units)) op2_eq (po_of (pz_call h_law_told (hr.mono (by decide)) tk (by rfl) (az_cons (pz_var 13) (az_cons (pz_slice (po_of (pz_var 14)) oz_no (oz_so pz_int)) (az_cons (pz_var 9) az_nil))) (numS (numS (numS num0))))) (po_of (pz_tup (az_cons pz_str (az_cons (pz_var 13) az_nil)) (fewL (fewS (fewS few0)) (by decide)))) (nomark _))))) (sz_one (sz_ret pz_bl)) sz_nil))))
    (sz_cons (sz_set 15 sc_law.nd (pz_new (pn_lst (az_cons (pz_tup (az_cons (pz_tup (az_cons pz_str (az_cons pz_str az_nil)) (fewL (fewS (fewS few0)) (by decide))) az_nil) (fewL (fewS few0) (by decide))) (az_cons (pz_if (pt_cmpz op_gt0 op2_gt (po_of (pz_b1 cr_len0 op1_len (by rfl) T.b_len (by decide +kernel) (po_of (pz_var 4)))) (po_of pz_int) (nomark _)) (pz_tup (az_cons (pz_tup (az_cons (pz_ix (hu_of hr) (po_of (pz_var 4)) (po_of pz_int)) (az_cons (pz_ix (hu_of hr) (po_of (pz_var 4)) (po_of (pz_neg pz_int))) az_nil)) (fewL (fewS (fewS few0)) (by decide))) az_nil) (fewL (fewS few0) (by decide))) (pz_tup (az_cons (pz_tup (az_cons pz_str (az_cons pz_str az_nil)) (fewL (fewS (fewS few0)) (by decide))) az_nil) (fewL (fewS few0) (by decide)))) az_nil)) (fewL (fewS (fewS few0)) (by decide)))))
    (sz_one (sz_ret (vz_and (pz_cmp (op_eq0 (hr.units)) op2_eq (po_of (pz_new (pn_comp [("_law_one", 17)] rfl sc_law.nd (iz_any (pz_var 15)) (blkOk_by (by rfl)) (gz_name _ 17) (fun _ _ _ _ _ => (pg_name (i := 17) sc_law.nd rfl (by first | exact Or.inl rfl | exact Or.inr rfl))) (fun _ _ _ _ _ => ptz_nil) (fun _ _ _ _ _ => (pz_call h_law_told (hr.mono (by decide)) takes0 (by rfl) (az_cons pz_int (az_cons (pz_var 1) (az_cons (pz_var 17) az_nil))) (numS (numS (numS num0)))))))) (po_of (pz_op op_mul0 op2_mul (po_of (pz_new (pn_lst (az_cons (pz_tup (az_cons pz_str (az_cons pz_int az_nil)) (fewL (fewS (fewS few0)) (by decide))) az_nil) (fewL (fewS few0) (by decide))))) (po_of pz_int))) (nomark _)) (vz_one (pz_cmp (op_eq0 (hr.units)) op2_eq (po_of (pz_call h_law_told (hr.mono (by decide)) tk (by rfl) (az_cons pz_int (az_cons (pz_var 1) (az_cons (pz_tup az_nil (fewL few0 (by decide))) az_nil))) (numS (numS (numS num0))))) (po_of (pz_var 1)) (nomark _))))))))))))))))))))))
end
end Pz

set_option maxHeartbeats 4000000
namespace Pz
open PySem PySem.Spec L2
theorem is_number_int (i lo hi : Int) : m_is_number [.int i, .int lo, .int hi] = .ok (.bool (decide (lo ≤ i) && decide (i ≤ hi))) := by
  simp [m_is_number, F_is_number, dIsi, isT, dLe, PyData.plain, PyData.isInt, PyData.isBool]
  by_cases h : lo ≤ i <;> simp [h]
theorem mul_lit (a b : Int) (h : -(2 ^ 64) < a ∧ a < 2 ^ 64) : dMul (.int a) (.int b) = some (.int (a * b)) := by
  unfold dMul
  exact if_pos (.inl h)
theorem mul_lit' (a b : Int) (h : -(2 ^ 64) < b ∧ b < 2 ^ 64) : dMul (.int a) (.int b) = some (.int (a * b)) := by
  unfold dMul
  exact if_pos (.inr h)
def cellZ (ns : List Int) (k : Int) : Int := if ns = [] then 7 * k else (ns[(k % ns.length).toNat]?).getD 0 + 6553 * (k / ns.length)
theorem plain_ints : ∀ l : List Int, PyData.plainAll (l.map PyData.int) = true := fun l => by
  induction l with
  | nil => rfl
  | cons x l ih => rw [List.map_cons, PyData.plainAll, ih]; rfl
theorem scr_nil (ns : List Int) : eqG id (scrD (ns.map .int)) (.list []) = some (.bool (decide (ns = []))) := by
  cases ns with
  | nil => rfl
  | cons n ns =>
    have h1 : PyData.plain (.list ((n :: ns).map PyData.int)) = true := by rw [PyData.plain]; exact plain_ints _
    have h2 : PyData.depth (.list []) = 1 := by simp [PyData.depth, PyData.depthAll]
    have e : unscr (scrD ((n :: ns).map .int)) = .list ((n :: ns).map .int) := rfl
    have e2 : unscr (.list []) = .list [] := rfl
    unfold eqG eqOk
    rw [e, e2, h1, if_pos (by rw [h2]; simp [PyData.plain, PyData.plainAll]; omega)]
    rfl
theorem cell_ok (ns : List Int) (k : Int) (hl : ns.length ≤ 63) (h0 : 0 ≤ k) (hk : k ≤ 1000000) : m_law_cell [scrD (ns.map .int), .int k] = .ok (.int (cellZ ns k)) := by
  have hb := scr_nil ns
  by_cases e : ns = []
  · rw [e, decide_eq_true rfl] at hb
    subst e
    have hb0 : eqG id (scrD []) (.list []) = some (.bool true) := rfl
    have hmul : dMul (.int 7) (.int k) = some (.int (7 * k)) := mul_lit _ _ (by omega)
    simp [m_law_cell, F_law_cell, hb0, hmul, cellZ]
  · rw [decide_eq_false e] at hb
    have hp : 0 < ns.length := List.length_pos_iff.mpr e
    have hl' : dLen (scrD (ns.map .int)) = some (.int ns.length) := by
      show some (PyData.int ((ns.map PyData.int).length : Nat)) = _
      rw [List.length_map]
    have hm : 0 ≤ k % (ns.length : Int) := Int.emod_nonneg _ (by omega)
    have hm2 : k % (ns.length : Int) < ns.length := Int.emod_lt_of_pos _ (by omega)
    have hx : dIx (scrD (ns.map .int)) (.int (k % (ns.length : Int))) = some (.int ((ns[(k % ns.length).toNat]?).getD 0)) := by
      show atI (ns.map PyData.int) _ = _
      have ej : k % (ns.length : Int) = (((k % (ns.length : Int)).toNat : Nat) : Int) := by omega
      have hj : (k % (ns.length : Int)).toNat < ns.length := by omega
      have eg : ns[(k % (ns.length : Int)).toNat]? = some ((ns[(k % (ns.length : Int)).toNat]?).getD 0) := by rw [List.getElem?_eq_getElem hj]; rfl
      rw [ej]
      refine atI_nat ?_
      rw [← ej, List.getElem?_map, eg]
      rfl
    have hd : dDiv (.int k) (.int ns.length) = some (.int (k / ns.length)) := by
      show (if _ then _ else _) = _
      rw [if_pos (by omega)]
    have hmod : dMod (.int k) (.int ns.length) = some (.int (k % ns.length)) := by
      show (if _ then _ else _) = _
      rw [if_pos (by omega)]
    have hmul : dMul (.int 6553) (.int (k / ns.length)) = some (.int (6553 * (k / ns.length))) := mul_lit _ _ (by omega)
    simp [m_law_cell, F_law_cell, hb, hl', hmod, hx, hd, hmul, dAdd, cellZ, e]
def mix1 (c k : Int) : Int := (c % 2147483563 * 69069 + 104723 * (k + 1)) % 2147483563
def mix2 (c : Int) : Int := (c * c + c / 3) % 2147483399
def drawZ (ns : List Int) (k many : Int) : Int := (mix2 (mix1 (cellZ ns k) k) * mix2 (mix1 (cellZ ns k) k) + mix2 (mix1 (cellZ ns k) k) / 7) % 2147483647 / 11 % many
theorem mod_lit (a b : Int) (h : 0 < b) : dMod (.int a) (.int b) = some (.int (a % b)) := by
  show (if _ then _ else _) = _
  rw [if_pos h]
theorem div_lit (a b : Int) (h : 0 < b ∧ b < 1073741824) : dDiv (.int a) (.int b) = some (.int (a / b)) := by
  show (if _ then _ else _) = _
  rw [if_pos h]
theorem drawn_ok (ns : List Int) (k many : Int) (hl : ns.length ≤ 63) (h0 : 0 ≤ k) (hk : k ≤ 1000000) (hm : 0 < many) : m_law_drawn [scrD (ns.map .int), .int k, .int many] = .ok (.int (drawZ ns k many)) := by
  have hc := cell_ok ns k hl h0 hk
  have b2 : 0 ≤ mix2 (mix1 (cellZ ns k) k) ∧ mix2 (mix1 (cellZ ns k) k) < 2147483399 := ⟨Int.emod_nonneg _ (by omega), Int.emod_lt_of_pos _ (by omega)⟩
  have b1 : 0 ≤ mix1 (cellZ ns k) k ∧ mix1 (cellZ ns k) k < 2147483563 := ⟨Int.emod_nonneg _ (by omega), Int.emod_lt_of_pos _ (by omega)⟩
  have e1 : dMul (.int (mix1 (cellZ ns k) k)) (.int (mix1 (cellZ ns k) k)) = some (.int (mix1 (cellZ ns k) k * mix1 (cellZ ns k) k)) := mul_lit _ _ (by omega)
  have e2 : dMul (.int (mix2 (mix1 (cellZ ns k) k))) (.int (mix2 (mix1 (cellZ ns k) k))) = some (.int (mix2 (mix1 (cellZ ns k) k) * mix2 (mix1 (cellZ ns k) k))) := mul_lit _ _ (by omega)
  have m1 : (cellZ ns k % 2147483563 * 69069 + 104723 * (k + 1)) % 2147483563 = mix1 (cellZ ns k) k := rfl
  have m2 : (mix1 (cellZ ns k) k * mix1 (cellZ ns k) k + mix1 (cellZ ns k) k / 3) % 2147483399 = mix2 (mix1 (cellZ ns k) k) := rfl
  simp [m_law_drawn, F_law_drawn, hc, mod_lit, mul_lit', mul_lit, div_lit, dAdd, m1, e1, m2, e2, hm, drawZ]
theorem draw_range (ns : List Int) (k many : Int) (hm : 0 < many) : 0 ≤ drawZ ns k many ∧ drawZ ns k many < many := ⟨Int.emod_nonneg _ (by omega), Int.emod_lt_of_pos _ hm⟩
end Pz

set_option maxHeartbeats 4000000
namespace Pz
open PySem PySem.Spec L2
/-! ### books as mathematics has them -/
abbrev Pt := List Str × Int × Option Int
def optD : Option Int → D
  | none => .none
  | some i => .int i
def eP (p : Pt) : D := .tuple [.tuple (p.1.map .str), .int p.2.1, optD p.2.2]
abbrev Rl := Str × List Pt
def eR (r : Rl) : D := .tuple [.str r.1, .tuple (r.2.map eP)]
abbrev Bk := Str × List Rl
def eB (b : Bk) : D := .tuple [.str b.1, .tuple (b.2.map eR)]
def fourM : List Str := ["ba", "c", "a", "d"]
structure PtOk (ms : List Str) (p : Pt) : Prop where
  ne : p.1 ≠ []
  few : p.1.length ≤ 2
  inc : p.1.Pairwise fun x y => strLt x y = true
  mem : ∀ m ∈ p.1, m ∈ ms
  lo : 0 ≤ p.2.1 ∧ p.2.1 ≤ 2
  hi : ∀ k, p.2.2 = some k → 1 ≤ k ∧ p.2.1 ≤ k ∧ k ≤ 3
def EndsIn (Q : D → Prop) (fl : Fl) : Prop := ∃ d, fl = .rt d ∧ Q d
theorem runF_ends {Q : D → Prop} {F : Fs} {n : Nat} {ds : List D} {ρ : Env} (e : ds.map .dat ++ List.replicate (n - ds.length) .no = ρ) (h : EndsIn Q (F ρ)) : ∃ d, runF F n ds = .ok d ∧ Q d := by
  obtain ⟨d, h1, h2⟩ := h
  exact ⟨d, by unfold runF; rw [e, h1], h2⟩
theorem seq_go {P : Fl → Prop} {F G : Fs} {ρ ρ' : Env} (h : F ρ = .nx ρ') (h2 : P (G ρ')) : P (sSeq F G ρ) := by
  unfold sSeq; rw [h]; exact h2
theorem asg_go {f : Fx} {i : Nat} {ρ : Env} (d : D) (h : f ρ = .ok d) : sAsg f (tgN i) ρ = .nx (ρ.set i (.dat d)) := by
  unfold sAsg; rw [h]; rfl
def NxIn (Q : Env → Prop) (fl : Fl) : Prop := ∃ ρ, fl = .nx ρ ∧ Q ρ
theorem nx_in {Q : Env → Prop} {fl : Fl} {ρ : Env} (h : fl = .nx ρ) (q : Q ρ) : NxIn Q fl := ⟨ρ, h, q⟩
theorem ends_in {Q : D → Prop} {f : Fx} {ρ : Env} {d : D} (h : f ρ = .ok d) (q : Q d) : EndsIn Q (sRet f ρ) := ⟨d, by unfold sRet; rw [h], q⟩
theorem for_ex {α β : Type} {t : Tg} {F : Fs} {is : List Nat} (enc : α → D) (st : β → Env) (I : List α → β → Prop) (all : List α) : ∀ (xs dn : List α) (b : β), all = dn ++ xs → I dn b →
    (∀ dn x rest b, all = dn ++ x :: rest → I dn b → ∃ ρ1, t (enc x) (st b) = some ρ1 ∧ NxIn (fun ρ2 => ∃ b', killL is ρ2 = st b' ∧ I (dn ++ [x]) b') (F ρ1)) → ∃ b', forF t F is (xs.map enc) (st b) = .nx (st b') ∧ I all b'
  | [], dn, b, e, i, _ => ⟨b, rfl, by rw [e, List.append_nil]; exact i⟩
  | x :: xs, dn, b, e, i, h => by
    obtain ⟨ρ1, h1, ρ2, h2, b', h3, i2⟩ := h dn x xs b e i
    obtain ⟨b2, h4, i3⟩ := for_ex enc st I all xs (dn ++ [x]) b' (by rw [List.append_assoc]; exact e) i2 h
    refine ⟨b2, ?_, i3⟩
    rw [List.map_cons, forF, h1]
    simp only [h2, h3, h4]
theorem for_go {α β : Type} {P : Fl → Prop} {it : Fxs} {t : Tg} {F G : Fs} {is : List Nat} {ρ : Env} (xs : List α) (enc : α → D) (st : β → Env) (I : List α → β → Prop) (b : β) (hit : it ρ = .ok (xs.map enc)) (e : ρ = st b) (i0 : I [] b)
    (h : ∀ dn x rest b, xs = dn ++ x :: rest → I dn b → ∃ ρ1, t (enc x) (st b) = some ρ1 ∧ NxIn (fun ρ2 => ∃ b', killL is ρ2 = st b' ∧ I (dn ++ [x]) b') (F ρ1)) (h2 : ∀ b', I xs b' → P (G (st b'))) : P (sSeq (sFor it t F is) G ρ) := by
  obtain ⟨b', h3, i3⟩ := for_ex (t := t) (F := F) (is := is) enc st I xs xs [] b rfl i0 h
  refine seq_go (ρ' := st b') ?_ (h2 b' i3)
  rw [u_sFor, hit, e]
  exact h3
theorem mem_mid {α : Type} {xs dn rest : List α} {x : α} (e : xs = dn ++ x :: rest) : x ∈ xs := by rw [e]; simp
theorem len_mid {α : Type} {xs dn rest : List α} {x : α} (e : xs = dn ++ x :: rest) : dn.length + 1 ≤ xs.length := by rw [e]; simp
/-- one of a written list, by a draw -/
theorem at_lit {xs : List D} {r : Int} (h0 : 0 ≤ r) (h1 : r < xs.length) : ∃ d, d ∈ xs ∧ dIx (.list xs) (.int r) = some d := by
  have hj : r.toNat < xs.length := by omega
  refine ⟨xs[r.toNat], List.getElem_mem hj, ?_⟩
  show atI xs r = _
  have e : r = ((r.toNat : Nat) : Int) := by omega
  exact (congrArg (atI xs) e).trans (atI_nat (List.getElem?_eq_getElem hj))
theorem enum_map (ms : List Str) : enumD (ms.map .str) = ms.zipIdx.map fun p => .tuple [.int (p.2 : Nat), .str p.1] := by
  unfold enumD
  rw [List.zipIdx_map, List.map_map]
  rfl
def marksZ (many turn : Int) : List Str := (List.range many.toNat).map fun (i : Nat) => (fourM[(((i : Int) + turn) % 4).toNat]?).getD "a"
theorem marks_ok (many turn : Int) (h1 : 1 ≤ many ∧ many ≤ 4) (h2 : 0 ≤ turn ∧ turn < 4) : (marksZ many turn).Nodup ∧ (∀ m ∈ marksZ many turn, m ∈ fourM) ∧ ((marksZ many turn).length : Int) = many := by
  have e1 : many = 1 ∨ many = 2 ∨ many = 3 ∨ many = 4 := by omega
  have e2 : turn = 0 ∨ turn = 1 ∨ turn = 2 ∨ turn = 3 := by omega
  rcases e1 with rfl | rfl | rfl | rfl <;> rcases e2 with rfl | rfl | rfl | rfl <;> decide
theorem rng0 (n : Int) : rngD 0 n = (List.range n.toNat).map fun (i : Nat) => .int (i : Int) := by
  unfold rngD
  simp
theorem four_at (i : Nat) (turn : Int) : dIx (.list [.str "ba", .str "c", .str "a", .str "d"]) (.int (((i : Int) + turn) % 4)) = some (.str ((fourM[(((i : Int) + turn) % 4).toNat]?).getD "a")) := by
  have h0 := Int.emod_nonneg ((i : Int) + turn) (show (4 : Int) ≠ 0 by omega)
  have h1 := Int.emod_lt_of_pos ((i : Int) + turn) (show (0 : Int) < 4 by omega)
  generalize ((i : Int) + turn) % 4 = r at h0 h1 ⊢
  have e : r = 0 ∨ r = 1 ∨ r = 2 ∨ r = 3 := by omega
  rcases e with rfl | rfl | rfl | rfl <;> rfl
/-- one of a written list of ints, by a draw -/
theorem lit_int (cs : List Int) {r : Int} (h0 : 0 ≤ r) (h1 : r < cs.length) : ∃ c, c ∈ cs ∧ dIx (.list (cs.map .int)) (.int r) = some (.int c) := by
  obtain ⟨d, hd1, hd2⟩ := at_lit (xs := cs.map PyData.int) h0 (by rw [List.length_map]; exact h1)
  obtain ⟨c, hc, rfl⟩ := List.mem_map.mp hd1
  exact ⟨c, hc, hd2⟩
theorem lit_str (ms : List Str) {r : Int} (h0 : 0 ≤ r) (h1 : r < ms.length) : dIx (.list (ms.map .str)) (.int r) = some (.str ((ms[r.toNat]?).getD "a")) ∧ (ms[r.toNat]?).getD "a" ∈ ms := by
  have hj : r.toNat < ms.length := by omega
  have e : r = ((r.toNat : Nat) : Int) := by omega
  have eg : ms[r.toNat]? = some (ms[r.toNat]) := List.getElem?_eq_getElem hj
  refine ⟨?_, by rw [eg]; exact List.getElem_mem hj⟩
  show atI (ms.map PyData.str) r = _
  refine (congrArg (atI _) e).trans (atI_nat ?_)
  rw [List.getElem?_map, eg]
  rfl
theorem sFrzA_go {i : Nat} {F : Fs} {ρ ρ' : Env} (h : F ρ = .nx ρ') : sFrzA i F ρ = .nx (frzE i ρ') := by
  unfold sFrzA; rw [h]
theorem own_go {f : Fxs} {i : Nat} {ρ : Env} (ds : List D) (h : f ρ = .ok ds) : sOwn i f ρ = .nx (ρ.set i (.own ds)) := by
  unfold sOwn; rw [h]
def BookIs (b : Bk) : Prop := (b.2.map (·.1)).Nodup ∧ 1 ≤ b.2.length ∧ b.2.length ≤ 4 ∧ b.1 ∈ b.2.map (·.1) ∧ ∀ r ∈ b.2, r.1 ∈ fourM ∧ r.2.length ≤ 3 ∧ ∀ p ∈ r.2, PtOk (b.2.map (·.1)) p
theorem book_ok (ns : List Int) (at' : Int) (hl : ns.length ≤ 63) (h0 : 0 ≤ at') (h1 : at' ≤ 100000) : ∃ d, m_law_book [scrD (ns.map .int), .int at'] = .ok d ∧ ∃ b : Bk, d = eB b ∧ BookIs b := by
  have hd : ∀ k many : Int, 0 ≤ k → k ≤ 1000000 → 0 < many → m_law_drawn [scrD (ns.map .int), .int k, .int many] = .ok (.int (drawZ ns k many)) := fun k many a b c => drawn_ok ns k many hl a b c
  obtain ⟨many, hmany⟩ : ∃ m, m = 1 + drawZ ns at' 4 := ⟨_, rfl⟩
  obtain ⟨turn, hturn⟩ : ∃ m, m = drawZ ns (at' + 1) 4 := ⟨_, rfl⟩
  have r1 := draw_range ns at' 4 (by omega)
  have r2 := draw_range ns (at' + 1) 4 (by omega)
  have b1 : 1 ≤ many ∧ many ≤ 4 := by omega
  have b2 : 0 ≤ turn ∧ turn < 4 := by omega
  obtain ⟨mk1, mk2, mk3⟩ := marks_ok many turn b1 b2
  refine runF_ends (ρ := [.dat (scrD (ns.map .int)), .dat (.int at'), .no, .no, .no, .no, .no, .no, .no, .no, .no, .no, .no, .no, .no]) rfl ?_
  unfold F_law_book
  refine seq_go (asg_go (.int many) ?_) ?_
  · simp [hd at' 4 h0 (by omega) (by omega), dAdd, hmany]
  refine seq_go (asg_go (.int turn) ?_) ?_
  · simp [dAdd, hd (at' + 1) 4 (by omega) (by omega) (by omega), hturn]
  refine seq_go (asg_go (.list ((marksZ many turn).map .str)) ?_) ?_
  · rw [u_fLst]
    rw [comp_all (List.range many.toNat) (fun (i : Nat) => PyData.int (i : Int)) (fun (i : Nat) => PyData.str ((fourM[(((i : Int) + turn) % 4).toNat]?).getD "a")) ?_ (by rw [List.length_range]; omega) ?_]
    · simp [marksZ]
    · simp [rng0]
      omega
    · intro i _
      exact ⟨_, rfl, by simp [dAdd, mod_lit, four_at]⟩
  generalize marksZ many turn = ms at mk1 mk2 mk3 ⊢
  refine seq_go (asg_go (.tuple []) rfl) ?_
  simp only [List.set_cons_zero, List.set_cons_succ]
  refine for_go ms.zipIdx (fun p => .tuple [.int (p.2 : Nat), .str p.1]) (fun rs : List Rl => [.dat (scrD (ns.map .int)), .dat (.int at'), .dat (.int many), .dat (.int turn), .no, .dat (.list (ms.map .str)), .dat (.tuple (rs.map eR)), .no, .no, .no, .no, .no, .no, .no, .no])
    (fun dn rs => rs.map (·.1) = dn.map (·.1) ∧ ∀ r ∈ rs, r.1 ∈ fourM ∧ r.2.length ≤ 3 ∧ ∀ p ∈ r.2, PtOk ms p) [] ?_ rfl ⟨rfl, fun r hr => absurd hr (by simp)⟩ ?_ ?_
  · simp [dItems, enum_map]
  · rintro dn ⟨m, i⟩ rest rs ex ⟨hrs, hok⟩
    have hx := mem_mid ex
    have hle := len_mid ex
    rw [List.length_zipIdx] at hle
    have hrl : rs.length = dn.length := by rw [← List.length_map (f := fun x : Rl => x.1), hrs, List.length_map]
    have hmi : ms[i]? = some m := List.mk_mem_zipIdx_iff_getElem?.mp hx
    have hi : i < 4 := by
      have := (List.getElem?_eq_some_iff.mp hmi).1
      omega
    have hm : m ∈ ms := List.mem_of_getElem? hmi
    refine ⟨_, rfl, ?_⟩
    refine seq_go (asg_go (.tuple []) rfl) ?_
    simp only [List.set_cons_zero, List.set_cons_succ]
    have rp := draw_range ns (at' + 2 + i) 6 (by omega)
    obtain ⟨c, hc, ec⟩ := lit_int [0, 1, 1, 2, 2, 3] rp.1 rp.2
    have hc2 : 0 ≤ c ∧ c ≤ 3 := by
      simp at hc
      omega
    refine for_go (List.range c.toNat) (fun (j : Nat) => PyData.int (j : Int)) (fun ps : List Pt => [.dat (scrD (ns.map .int)), .dat (.int at'), .dat (.int many), .dat (.int turn), .dat (.int (i : Nat)), .dat (.list (ms.map .str)), .dat (.tuple (rs.map eR)), .dat (.str m), .dat (.tuple (ps.map eP)), .no, .no, .no, .no, .no, .no])
      (fun dn ps => ps.length = dn.length ∧ ∀ p ∈ ps, PtOk ms p) [] ?_ rfl ⟨rfl, fun p hp => absurd hp (by simp)⟩ ?_ ?_
    · have ec' : dIx (.list [.int 0, .int 1, .int 1, .int 2, .int 2, .int 3]) (.int (drawZ ns (at' + 2 + i) 6)) = some (.int c) := ec
      simp [dAdd, hd (at' + 2 + i) 6 (by omega) (by omega) (by omega), ec', rng0]
      omega
    · rintro dn' j rest' ps ej ⟨hps, hpo⟩
      have hj := mem_mid ej
      have hjl := len_mid ej
      rw [List.length_range] at hjl
      have hj2 : j < 3 := by
        have := List.mem_range.mp hj
        omega
      refine ⟨_, rfl, ?_⟩
      simp only [List.set_cons_zero, List.set_cons_succ]
      refine seq_go (asg_go (.int (at' + 10 + 40 * i + 10 * j)) ?_) ?_
      · simp [dAdd, mul_lit]
      simp only [List.set_cons_zero, List.set_cons_succ]
      generalize hh : at' + 10 + 40 * (i : Int) + 10 * (j : Int) = here
      have hh0 : 0 ≤ here := by omega
      have hh1 : here ≤ 200000 := by omega
      have rc := draw_range ns (here + 3) 2 (by omega)
      obtain ⟨some', hsome⟩ : ∃ l, l = (List.range (1 + drawZ ns (here + 3) 2).toNat).map fun (n : Nat) => (ms[(drawZ ns (here + n) many).toNat]?).getD "a" := ⟨_, rfl⟩
      have hs1 : 1 ≤ some'.length ∧ some'.length ≤ 2 := by
        rw [hsome, List.length_map, List.length_range]
        omega
      have hs2 : ∀ x ∈ some', x ∈ ms := by
        intro x hx
        rw [hsome] at hx
        obtain ⟨n, hn, rfl⟩ := List.mem_map.mp hx
        have hn2 : n < 2 := by
          have := List.mem_range.mp hn
          omega
        have rn := draw_range ns (here + n) many (by omega)
        exact (lit_str ms rn.1 (by omega)).2
      refine seq_go (sFrzA_go (own_go (some'.map PyData.str) ?_)) ?_
      · rw [hsome, List.map_map]
        refine comp_all (List.range (1 + drawZ ns (here + 3) 2).toNat) (fun (n : Nat) => PyData.int (n : Int)) _ ?_ (by rw [List.length_range]; omega) ?_
        · simp [dAdd, hd (here + 3) 2 (by omega) (by omega) (by omega), rng0]
          omega
        · intro n hn
          have hn2 : n < 2 := by
            have := List.mem_range.mp hn
            omega
          have rn := draw_range ns (here + n) many (by omega)
          refine ⟨_, rfl, ?_⟩
          simp [dAdd, hd (here + n) many (by omega) (by omega) (by omega), (lit_str ms rn.1 (by omega)).1]
      simp only [List.set_cons_zero, List.set_cons_succ, u_frzE, List.getElem?_cons_zero, List.getElem?_cons_succ]
      have r4 := draw_range ns (here + 4) 6 (by omega)
      obtain ⟨lo, hlo, elo⟩ := lit_int [0, 0, 0, 1, 1, 2] r4.1 r4.2
      have hlo2 : 0 ≤ lo ∧ lo ≤ 2 := by
        simp at hlo
        omega
      have elo' : dIx (.list [.int 0, .int 0, .int 0, .int 1, .int 1, .int 2]) (.int (drawZ ns (here + 4) 6)) = some (.int lo) := elo
      refine seq_go (asg_go (.int lo) ?_) ?_
      · simp [dAdd, hd (here + 4) 6 (by omega) (by omega) (by omega), elo']
      have r5 := draw_range ns (here + 5) 4 (by omega)
      obtain ⟨mo, hmo, emo⟩ := at_lit (xs := [PyData.none, .int 1, .int 2, .int 3]) r5.1 r5.2
      refine seq_go (asg_go mo ?_) ?_
      · simp [dAdd, hd (here + 5) 4 (by omega) (by omega) (by omega), emo]
      obtain ⟨top, htop, hmax⟩ : ∃ top : Option Int, (∀ k, top = some k → 1 ≤ k ∧ lo ≤ k ∧ k ≤ 3) ∧ (mo = .none ∧ top = none ∨ ∃ k : Int, mo = .int k ∧ 1 ≤ k ∧ k ≤ 3 ∧ top = some (if lo > k then lo else k)) := by
        simp at hmo
        rcases hmo with rfl | rfl | rfl | rfl
        · exact ⟨none, by simp, .inl ⟨rfl, rfl⟩⟩
        · exact ⟨some (if lo > 1 then lo else 1), fun k e => by injection e with e; split at e <;> omega, .inr ⟨1, rfl, by omega, by omega, rfl⟩⟩
        · exact ⟨some (if lo > 2 then lo else 2), fun k e => by injection e with e; split at e <;> omega, .inr ⟨2, rfl, by omega, by omega, rfl⟩⟩
        · exact ⟨some (if lo > 3 then lo else 3), fun k e => by injection e with e; split at e <;> omega, .inr ⟨3, rfl, by omega, by omega, rfl⟩⟩
      simp only [List.set_cons_zero, List.set_cons_succ]
      refine seq_go (asg_go (optD top) ?_) ?_
      · rcases hmax with ⟨rfl, rfl⟩ | ⟨k, rfl, _, _, rfl⟩
        · simp [dIsN, isN, optD]
        · simp [dIsN, isN, optD, dMax]
      simp only [List.set_cons_zero, List.set_cons_succ]
      refine nx_in (asg_go (.tuple ((ps ++ [(setS some', lo, top)]).map eP)) ?_) ⟨ps ++ [(setS some', lo, top)], rfl, ?_, ?_⟩
      · have hp9 : ps.length ≤ 999999 := by omega
        simp [dAdd, sortSet_strs some' (by omega), dTuple, eP, hp9]
      · simp [hps]
      · intro p hp
        rcases List.mem_append.mp hp with hp | hp
        · exact hpo p hp
        · rw [List.mem_singleton.mp hp]
          refine ⟨fun e => ?_, ?_, sort_inc (ded_nodup some'), fun x hx => hs2 x ((ded_mem some' x).mp ((sort_mem _ x).mp hx)), hlo2, htop⟩
          · have e : setS some' = [] := e
            obtain ⟨x, hx⟩ : ∃ x, x ∈ some' := by
              cases some' with
              | nil => simp at hs1
              | cons x l => exact ⟨x, List.mem_cons_self⟩
            have := (sort_mem (dedS some') x).mpr ((ded_mem some' x).mpr hx)
            rw [show sortS (dedS some') = setS some' from rfl, e] at this
            cases this
          · show (setS some').length ≤ 2
            have := ded_len some'
            unfold setS
            rw [sort_len]
            omega
    · rintro ps ⟨hps, hpo⟩
      rw [List.length_range] at hps
      refine nx_in (asg_go (.tuple ((rs ++ [(m, ps)]).map eR)) ?_) ⟨rs ++ [(m, ps)], rfl, ?_, ?_⟩
      · have hr9 : rs.length ≤ 999999 := by omega
        simp [dAdd, eR, hr9]
      · simp [hrs]
      · intro r hr
        rcases List.mem_append.mp hr with hr | hr
        · exact hok r hr
        · rw [List.mem_singleton.mp hr]
          exact ⟨mk2 m hm, by show ps.length ≤ 3; omega, hpo⟩
  · rintro rs ⟨hrs, hok⟩
    obtain ⟨m, hm, em⟩ : ∃ m, m ∈ ms ∧ dIx (.list (ms.map .str)) (.int (drawZ ns (at' + 6) many)) = some (.str m) := by
      have r3 := draw_range ns (at' + 6) many (by omega)
      obtain ⟨d, hd1, hd2⟩ := at_lit (xs := ms.map PyData.str) r3.1 (by rw [List.length_map]; omega)
      obtain ⟨m, hm, rfl⟩ := List.mem_map.mp hd1
      exact ⟨m, hm, hd2⟩
    have hz : rs.map (·.1) = ms := by rw [hrs]; simp
    have hlen : rs.length = ms.length := by rw [← hz, List.length_map]
    refine ends_in (d := eB (m, rs)) ?_ ⟨(m, rs), rfl, ?_⟩
    · simp [dAdd, hd (at' + 6) many (by omega) (by omega) (by omega), em, eB]
    · refine ⟨by rw [hz]; exact mk1, by show 1 ≤ rs.length; omega, by show rs.length ≤ 4; omega, by rw [hz]; exact hm, fun r hr => ?_⟩
      rw [hz]
      exact hok r hr
end Pz

set_option maxHeartbeats 4000000
/-! Plain mathematics: a valid book is one for the program. -/
namespace Pz
open PySem PySem.Spec L2
theorem cut_from {α : Type} (xs : List α) (k : Nat) : cutD xs (some (k : Int)) none = xs.drop k := by
  unfold cutD
  rw [HT.sIx_nat, HT.sIx_none, List.take_of_length_le (by simp)]
  by_cases h : k ≤ xs.length
  · rw [Nat.min_eq_left h]
  · rw [Nat.min_eq_right (by omega), List.drop_length, List.drop_eq_nil_of_le (by omega)]
theorem cut_to {α : Type} (xs : List α) (k : Nat) : cutD xs none (some (k : Int)) = xs.take k := by
  unfold cutD
  rw [HT.sIx_nat, HT.sIx_none, List.drop_zero, Nat.sub_zero]
  by_cases h : k ≤ xs.length
  · rw [Nat.min_eq_left h]
  · rw [Nat.min_eq_right (by omega), List.take_length, List.take_of_length_le (by omega)]
theorem all_bools {α : Type} (xs : List α) (p : α → Bool) : dAll (.list (xs.map fun x => .bool (p x))) = some (.bool (xs.all p)) := by
  have h : (xs.map fun x => PyData.bool (p x)).mapM asB = some (xs.map p) := by
    induction xs with
    | nil => rfl
    | cons x xs ih => rw [List.map_cons, List.mapM_cons, ih]; rfl
  unfold dAll
  simp only [h, Option.map_some]
  rw [List.all_map]
  rfl
theorem plain_strs (ms : List Str) : PyData.plainAll (ms.map PyData.str) = true := by
  induction ms with
  | nil => rfl
  | cons m ms ih => rw [List.map_cons, PyData.plainAll, ih]; rfl
theorem plain_optD (o : Option Int) : (optD o).plain = true := by cases o <;> rfl
theorem plain_eP (p : Pt) : (eP p).plain = true := by
  unfold eP
  simp [PyData.plain, PyData.plainAll, plain_strs, plain_optD]
theorem plainAll_map {α : Type} (f : α → D) (h : ∀ x, (f x).plain = true) (xs : List α) : PyData.plainAll (xs.map f) = true := by
  induction xs with
  | nil => rfl
  | cons m ms ih => rw [List.map_cons, PyData.plainAll, ih, h]; rfl
theorem plain_eR (r : Rl) : (eR r).plain = true := by
  unfold eR
  simp [PyData.plain, PyData.plainAll, plainAll_map _ plain_eP]
theorem plain_eB (b : Bk) : (eB b).plain = true := by
  unfold eB
  simp [PyData.plain, PyData.plainAll, plainAll_map _ plain_eR]
def okM (m : Str) : Prop := m_is_mark [.str m] = .ok (.bool true)
theorem okM_four : ∀ m ∈ fourM, okM m := by
  intro m hm
  simp [fourM] at hm
  rcases hm with rfl | rfl | rfl | rfl <;> rfl
theorem okM_zz : okM "zz" := rfl
structure PtV (ms : List Str) (p : Pt) : Prop where
  ne : p.1 ≠ []
  few : p.1.length ≤ 3
  inc : p.1.Pairwise fun x y => strLt x y = true
  mem : ∀ m ∈ p.1, m ∈ ms
  lo : 0 ≤ p.2.1 ∧ p.2.1 ≤ 2
  hi : ∀ k, p.2.2 = some k → 1 ≤ k ∧ p.2.1 ≤ k ∧ k ≤ 4
structure BkV (b : Bk) : Prop where
  nd : (b.2.map (·.1)).Nodup
  len : 1 ≤ b.2.length ∧ b.2.length ≤ 5
  top : b.1 ∈ b.2.map (·.1)
  ok : ∀ m ∈ b.2.map (·.1), okM m
  parts : ∀ r ∈ b.2, r.2.length ≤ 3 ∧ ∀ p ∈ r.2, PtV (b.2.map (·.1)) p
theorem rising_ok (ms : List Str) (few : ms.length ≤ 3) (h : ms.Pairwise fun x y => strLt x y = true) : m_are_rising [.tuple (ms.map .str)] = .ok (.bool true) := by
  have hz : zipD (ms.map PyData.str) ((ms.map PyData.str).drop 1) = (ms.zip (ms.drop 1)).map fun p => .tuple [.str p.1, .str p.2] := by
    unfold zipD
    rw [← List.map_drop, List.zip_map, List.map_map]
    rfl
  have hc := cut_from (ms.map PyData.str) 1
  have hs : dSl (.tuple (ms.map .str)) (some 1) none = some (.tuple ((ms.map PyData.str).drop 1)) := by
    show some (PyData.tuple (cutD (ms.map PyData.str) (some ((1 : Nat) : Int)) none)) = _
    rw [hc]
  have hcomp : fComp (fZip (fVar 0) (fSl (fVar 0) (fSo (fC (.int 1))) fNo)) (tgTup (tgCons (tgN 1) (tgCons (tgN 2) tgNil))) cYes (f2 dLt (fVar 1) (fVar 2)) [1, 2] [.dat (.tuple (ms.map .str)), .no, .no] = .ok ((ms.zip (ms.drop 1)).map fun p => .bool (strLt p.1 p.2)) := by
    refine comp_all (ms.zip (ms.drop 1)) (fun p => .tuple [.str p.1, .str p.2]) _ ?_ (by rw [List.length_zip]; omega) fun p _ => ⟨_, rfl, by simp [dLt]⟩
    simp [fZip, hs]
    simpa using hz
  have hall : (ms.zip (ms.drop 1)).all (fun p => strLt p.1 p.2) = true := by
    rw [List.all_eq_true]
    clear hz hc hs hcomp few
    induction ms with
    | nil => intro p hp; simp at hp
    | cons x xs ih =>
      intro p hp
      rw [List.drop_one, List.tail_cons] at hp
      cases xs with
      | nil => simp at hp
      | cons y ys =>
        rw [List.zip_cons_cons] at hp
        rcases List.mem_cons.mp hp with rfl | hp
        · exact (List.pairwise_cons.mp h).1 y List.mem_cons_self
        · refine ih (List.pairwise_cons.mp h).2 p ?_
          rw [List.drop_one, List.tail_cons]
          exact hp
  simp [m_are_rising, F_are_rising, hcomp, all_bools]
  simpa using hall
theorem part_ok {ms : List Str} {p : Pt} (v : PtV ms p) (ok : ∀ m ∈ ms, okM m) : m_is_part [eP p] = .ok (.bool true) := by
  obtain ⟨c, lo, hi⟩ := p
  have h1 : c.length ≠ 0 := fun e => v.ne (List.length_eq_zero_iff.mp e)
  have f3 : c.length ≤ 3 := v.few
  have l0 : 0 ≤ lo ∧ lo ≤ 2 := v.lo
  have pl := plain_eP (c, lo, hi)
  have pc : (PyData.tuple (c.map .str)).plain = true := by rw [PyData.plain]; exact plain_strs c
  have hr := rising_ok c v.few v.inc
  have hm : fComp (fIter (f2 dIx (fVar 0) (fC (.int 0)))) (tgN 1) cYes (fCall m_is_mark (fCons (fVar 1) fNil)) [1] [.dat (eP (c, lo, hi)), .no] = .ok (c.map fun _ => .bool true) := by
    refine comp_all c (fun m => PyData.str m) (fun _ => .bool true) ?_ (by omega) fun m hm => ⟨_, rfl, ?_⟩
    · simp [eP, show dIx (.tuple [.tuple (c.map .str), .int lo, optD hi]) (.int 0) = some (.tuple (c.map .str)) from rfl, dIter]
    · have := ok m (v.mem m hm)
      unfold okM at this
      simp [this]
  have ix0 : dIx (eP (c, lo, hi)) (.int 0) = some (.tuple (c.map .str)) := rfl
  have ix1 : dIx (eP (c, lo, hi)) (.int 1) = some (.int lo) := rfl
  have ix2 : dIx (eP (c, lo, hi)) (.int 2) = some (optD hi) := rfl
  have len : dLen (eP (c, lo, hi)) = some (.int 3) := rfl
  have lenc : dLen (.tuple (c.map .str)) = some (.int c.length) := by
    show some (PyData.int ((c.map PyData.str).length : Nat)) = _
    rw [List.length_map]
  have isT1 : dIsi "tuple" (eP (c, lo, hi)) = some (.bool true) := by
    unfold dIsi
    rw [if_pos pl]
    rfl
  have isT2 : dIsi "tuple" (.tuple (c.map .str)) = some (.bool true) := by
    unfold dIsi
    rw [if_pos pc]
    rfl
  have e33 : eqG not (.int 3) (.int 3) = some (.bool false) := rfl
  have le1 : dLe (.int 1) (.int c.length) = some (.bool true) := by
    show some (PyData.bool (decide _)) = _
    rw [decide_eq_true (by omega)]
  have le3 : dLe (.int c.length) (.int 3) = some (.bool true) := by
    show some (PyData.bool (decide _)) = _
    rw [decide_eq_true (by omega)]
  have hall : dAll (.list (c.map fun _ => PyData.bool true)) = some (.bool true) := by
    rw [all_bools c fun _ => true]
    simp
  have hn := is_number_int lo 0 2
  rw [decide_eq_true l0.1, decide_eq_true l0.2] at hn
  have hi2 : dIsN (optD hi) .none = some (.bool (isN (optD hi))) := rfl
  cases hi with
  | none =>
    simp [m_is_part, F_is_part, isT1, len, e33, ix0, isT2, lenc, le1, le3, hm, hall, hr, ix1, hn, ix2, optD, dIsN, isN]
  | some k =>
    have hk := v.hi k rfl
    have hk1 : 1 ≤ k := hk.1
    have hk2 : lo ≤ k := hk.2.1
    have hk3 : k ≤ 4 := hk.2.2
    have hmax : dMax (.int 1) (.int lo) = some (.int (if lo > 1 then lo else 1)) := rfl
    have hk4 := is_number_int k (if lo > 1 then lo else 1) 4
    rw [decide_eq_true (by split <;> omega), decide_eq_true hk3] at hk4
    have hk5 : m_is_number [.int k, .int (if 1 < lo then lo else 1), .int 4] = .ok (.bool true) := by simpa using hk4
    simp [m_is_part, F_is_part, isT1, len, e33, ix0, isT2, lenc, le1, le3, hm, hall, hr, ix1, hn, ix2, optD, dIsN, isN, hmax, hk5]
theorem len_tup (xs : List D) : dLen (.tuple xs) = some (.int xs.length) := rfl
theorem len_list (xs : List D) : dLen (.list xs) = some (.int xs.length) := rfl
theorem le_int (i j : Int) : dLe (.int i) (.int j) = some (.bool (decide (i ≤ j))) := rfl
theorem isi_tup {xs : List D} (h : PyData.plainAll xs = true) : dIsi "tuple" (.tuple xs) = some (.bool true) := by
  unfold dIsi
  rw [if_pos (by rw [PyData.plain]; exact h)]
  rfl
theorem rule_ok {ms : List Str} {r : Rl} (few : r.2.length ≤ 3) (v : ∀ p ∈ r.2, PtV ms p) (om : okM r.1) (ok : ∀ m ∈ ms, okM m) : m_is_rule [eR r] = .ok (.bool true) := by
  obtain ⟨m, ps⟩ := r
  have ix0 : dIx (eR (m, ps)) (.int 0) = some (.str m) := rfl
  have ix1 : dIx (eR (m, ps)) (.int 1) = some (.tuple (ps.map eP)) := rfl
  have len : dLen (eR (m, ps)) = some (.int 2) := rfl
  have t1 : dIsi "tuple" (eR (m, ps)) = some (.bool true) := isi_tup (by have := plain_eR (m, ps); unfold eR at this; rw [PyData.plain] at this; exact this)
  have t2 : dIsi "tuple" (.tuple (ps.map eP)) = some (.bool true) := isi_tup (plainAll_map _ plain_eP _)
  have e22 : eqG not (.int 2) (.int 2) = some (.bool false) := rfl
  unfold okM at om
  have hc : fComp (fIter (f2 dIx (fVar 0) (fC (.int 1)))) (tgN 1) cYes (fCall m_is_part (fCons (fVar 1) fNil)) [1] [.dat (eR (m, ps)), .no] = .ok (ps.map fun _ => .bool true) := by
    refine comp_all ps eP (fun _ => .bool true) ?_ (by have : ps.length ≤ 3 := few; omega) fun p hp => ⟨_, rfl, ?_⟩
    · simp [ix1, dIter]
    · have := part_ok (v p hp) ok
      simp [this]
  have hall : dAll (.list (ps.map fun _ => PyData.bool true)) = some (.bool true) := by
    rw [all_bools ps fun _ => true]
    simp
  have hf : ((ps.length : Nat) : Int) ≤ 3 := by have : ps.length ≤ 3 := few; omega
  simp [m_is_rule, F_is_rule, t1, len, e22, ix0, om, ix1, t2, len_tup, le_int, hf, hc, hall]
theorem mark_list (b : Bk) (ρ : Env) (k : Nat) : True := trivial
theorem isBook_ok {b : Bk} (v : BkV b) : m_is_book [eB b] = .ok (.bool true) := by
  obtain ⟨tp, rs⟩ := b
  have l1 : 1 ≤ rs.length ∧ rs.length ≤ 5 := v.len
  have ix0 : dIx (eB (tp, rs)) (.int 0) = some (.str tp) := rfl
  have ix1 : dIx (eB (tp, rs)) (.int 1) = some (.tuple (rs.map eR)) := rfl
  have len : dLen (eB (tp, rs)) = some (.int 2) := rfl
  have t1 : dIsi "tuple" (eB (tp, rs)) = some (.bool true) := isi_tup (by have := plain_eB (tp, rs); unfold eB at this; rw [PyData.plain] at this; exact this)
  have t2 : dIsi "tuple" (.tuple (rs.map eR)) = some (.bool true) := isi_tup (plainAll_map _ plain_eR _)
  have e22 : eqG not (.int 2) (.int 2) = some (.bool false) := rfl
  have om := v.ok tp v.top
  unfold okM at om
  have hc : fComp (fIter (f2 dIx (fVar 0) (fC (.int 1)))) (tgN 3) cYes (fCall m_is_rule (fCons (fVar 3) fNil)) [3] [.dat (eB (tp, rs)), .no, .no, .no, .no] = .ok (rs.map fun _ => .bool true) := by
    refine comp_all rs eR (fun _ => .bool true) ?_ (by omega) fun r hr => ⟨_, rfl, ?_⟩
    · simp [ix1, dIter]
    · have := rule_ok (v.parts r hr).1 (v.parts r hr).2 (v.ok r.1 (List.mem_map.mpr ⟨r, hr, rfl⟩)) v.ok
      simp [this]
  have hall : dAll (.list (rs.map fun _ => PyData.bool true)) = some (.bool true) := by
    rw [all_bools rs fun _ => true]
    simp
  have hm : fComp (fIter (f2 dIx (fVar 0) (fC (.int 1)))) (tgN 3) cYes (f2 dIx (fVar 3) (fC (.int 0))) [3] [.dat (eB (tp, rs)), .no, .no, .no, .no] = .ok ((rs.map (·.1)).map .str) := by
    rw [List.map_map]
    refine comp_all rs eR _ ?_ (by omega) fun r hr => ⟨_, rfl, ?_⟩
    · simp [ix1, dIter]
    · simp [show dIx (eR r) (.int 0) = some (.str r.1) from rfl]
  have nd : dedS (rs.map (·.1)) = rs.map (·.1) := ded_self v.nd
  have ls := lenSet_strs (rs.map (·.1)) (by rw [List.length_map]; omega)
  rw [nd, List.length_map] at ls
  have ll : dLen (.list ((rs.map (·.1)).map .str)) = some (.int rs.length) := by
    rw [len_list, List.length_map, List.length_map]
  have en : eqG not (.int (rs.length : Nat)) (.int (rs.length : Nat)) = some (.bool false) := by
    rw [eq_int]; simp
  have hin := in_strs tp (rs.map (·.1))
  rw [decide_eq_true v.top] at hin
  have hnot : dNotIn (.str tp) (.list ((rs.map (·.1)).map .str)) = some (.bool false) := by
    unfold dNotIn; rw [hin]; rfl
  have h1 : (1 : Int) ≤ (rs.length : Nat) := by omega
  have h5 : ((rs.length : Nat) : Int) ≤ 5 := by omega
  have inn : fComp (fIter (f2 dIx (fVar 0) (fC (.int 1)))) (tgN 3) cYes
      (f1 dAll (fLst (fComp (fIter (f2 dIx (fVar 3) (fC (.int 1)))) (tgN 4) cYes (f1 dAll (fLst (fComp (fIter (f2 dIx (fVar 4) (fC (.int 0)))) (tgN 2) cYes (f2 dIn (fVar 2) (fVar 1)) [2]))) [4]))) [3]
      [.dat (eB (tp, rs)), .dat (.list ((rs.map (·.1)).map .str)), .no, .no, .no] = .ok (rs.map fun _ => .bool true) := by
    refine comp_all rs eR (fun _ => .bool true) ?_ (by omega) fun r hr => ⟨_, rfl, ?_⟩
    · simp [ix1, dIter]
    · obtain ⟨few, vp⟩ := v.parts r hr
      have rx1 : dIx (eR r) (.int 1) = some (.tuple (r.2.map eP)) := rfl
      have in2 : fComp (fIter (f2 dIx (fVar 3) (fC (.int 1)))) (tgN 4) cYes (f1 dAll (fLst (fComp (fIter (f2 dIx (fVar 4) (fC (.int 0)))) (tgN 2) cYes (f2 dIn (fVar 2) (fVar 1)) [2]))) [4]
          [.dat (eB (tp, rs)), .dat (.list ((rs.map (·.1)).map .str)), .no, .dat (eR r), .no] = .ok (r.2.map fun _ => .bool true) := by
        refine comp_all r.2 eP (fun _ => .bool true) ?_ (by omega) fun p hp => ⟨_, rfl, ?_⟩
        · simp [rx1, dIter]
        · have px0 : dIx (eP p) (.int 0) = some (.tuple (p.1.map .str)) := rfl
          have in3 : fComp (fIter (f2 dIx (fVar 4) (fC (.int 0)))) (tgN 2) cYes (f2 dIn (fVar 2) (fVar 1)) [2]
              [.dat (eB (tp, rs)), .dat (.list ((rs.map (·.1)).map .str)), .no, .dat (eR r), .dat (eP p)] = .ok (p.1.map fun _ => .bool true) := by
            refine comp_all p.1 (fun m => PyData.str m) (fun _ => .bool true) ?_ (by have := (vp p hp).few; omega) fun m hm => ⟨_, rfl, ?_⟩
            · simp [px0, dIter]
            · have q := in_strs m (rs.map (·.1))
              rw [decide_eq_true ((vp p hp).mem m hm)] at q
              have q2 : dIn (.str m) (.list ((rs.map (·.1)).map .str)) = some (.bool true) := by
                unfold dIn; rw [q]; rfl
              simp only [List.map_map] at q2
              simp [q2]
          have h3 : dAll (.list (p.1.map fun _ => PyData.bool true)) = some (.bool true) := by
            rw [all_bools p.1 fun _ => true]; simp
          simp only [List.map_map] at in3
          simp [in3, h3]
      have h2 : dAll (.list (r.2.map fun _ => PyData.bool true)) = some (.bool true) := by
        rw [all_bools r.2 fun _ => true]; simp
      simp only [List.map_map] at in2
      simp [in2, h2]
  simp only [List.map_map] at hm ls ll hnot inn
  simp [m_is_book, F_is_book, t1, len, e22, ix0, om, ix1, t2, len_tup, le_int, h1, h5, hc, hall, hm, ls, ll, en, hnot, inn]
theorem needBook_ok {b : Bk} (v : BkV b) : m_need_book [eB b] = .ok .none := by
  simp [m_need_book, F_need_book, isBook_ok v]
end Pz

set_option maxHeartbeats 4000000
/-! Plain mathematics: small words for laws (K23b has its own). -/
namespace Pz
open PySem PySem.Spec L2
theorem ne_strs_self (xs : List Str) : eqG not (.list (xs.map .str)) (.list (xs.map .str)) = some (.bool false) := by
  have dp : PyData.depthAll (xs.map PyData.str) = 0 := by
    induction xs with
    | nil => rfl
    | cons x xs ih => rw [List.map_cons, PyData.depthAll, ih]; rfl
  exact eq_self (by rw [PyData.plain]; exact plain_strs xs) (by rw [PyData.depth, dp]; omega)
theorem sub_self (o : Option Int) : eqG not (optD o) (optD o) = some (.bool false) := by
  cases o with
  | none => rfl
  | some i => show eqG not (.int i) (.int i) = _; rw [eq_int]; simp
theorem if_go {P : Fl → Prop} {c : Env → R Bool} {F G : Fs} {ρ : Env} (h : c ρ = .ok false) (h2 : P (G ρ)) : P (sIf c F G ρ) := by
  unfold sIf; rw [h]; exact h2
theorem skip_if {c : Env → R Bool} {F : Fs} {ρ : Env} (h : c ρ = .ok false) : sIf c F sSkip ρ = .nx ρ := by
  unfold sIf; rw [h]; rfl
theorem app_go {i : Nat} {f : Fx} {ρ : Env} {ds : List D} (d : D) (h : ρ[i]? = some (.own ds)) (hf : f ρ = .ok d) (few : ds.length ≤ 1000000) : sApp i f ρ = .nx (ρ.set i (.own (ds ++ [d]))) := by
  unfold sApp
  rw [h]
  simp only [hf, if_pos few]
theorem sl_to {xs : List D} : dSl (.tuple xs) none (some 2) = some (.tuple (xs.take 2)) := by
  show some (PyData.tuple (cutD xs none (some ((2 : Nat) : Int)))) = _
  rw [cut_to]
theorem eq_nil_plain {s : Bool → Bool} {xs : List D} (h : PyData.plainAll xs = true) : eqG s (.list xs) (.list []) = some (.bool (s xs.isEmpty)) := by
  have d1 : PyData.depth (.list []) = 1 := by simp [PyData.depth, PyData.depthAll]
  rw [eqG_val (by rw [PyData.plain]; exact h) rfl (by rw [d1]; omega)]
  cases xs <;> simp [PyData.eqv, PyData.eqvAll]
theorem ne_bools (a b : Bool) : eqG not (.bool a) (.bool b) = some (.bool (a != b)) := by
  cases a <;> cases b <;> rfl
theorem runF_rt {F : Fs} {n : Nat} {ds : List D} {d : D} (h : F (ds.map .dat ++ List.replicate (n - ds.length) .no) = .rt d) : runF F n ds = .ok d := by
  unfold runF
  rw [h]
/-- a law's end -/
def TrueR (fl : Fl) : Prop := fl = .rt (.bool true)
theorem true_law {F : Fs} {n : Nat} {ds : List D} (h : TrueR (F (ds.map .dat ++ List.replicate (n - ds.length) .no))) : runF F n ds = .ok (.bool true) := runF_rt h
end Pz

set_option maxHeartbeats 4000000
/-! Plain mathematics: trees. -/
namespace Pz
open PySem PySem.Spec L2
inductive Tr where
  | mk (m : Str) (cs : List Tr)
mutual
def eT : Tr → D
  | .mk m cs => .tuple [.str m, .tuple (eTs cs)]
def eTs : List Tr → List D
  | [] => []
  | t :: ts => eT t :: eTs ts
end
theorem eTs_map : ∀ ts : List Tr, eTs ts = ts.map eT
  | [] => by rw [eTs]; rfl
  | t :: ts => by rw [eTs, eTs_map ts]; rfl
def Tr.mark : Tr → Str
  | .mk m _ => m
def Tr.kids : Tr → List Tr
  | .mk _ cs => cs
theorem eT_mk (t : Tr) : eT t = .tuple [.str t.mark, .tuple (t.kids.map eT)] := by
  cases t with
  | mk m cs => rw [eT, eTs_map]; rfl
mutual
theorem plain_eT : ∀ t : Tr, (eT t).plain = true
  | .mk m cs => by rw [eT]; simp [PyData.plain, PyData.plainAll, plain_eTs cs]
theorem plain_eTs : ∀ ts : List Tr, PyData.plainAll (eTs ts) = true
  | [] => rfl
  | t :: ts => by rw [eTs, PyData.plainAll, plain_eT t, plain_eTs ts]; rfl
end
mutual
theorem pur_eT : ∀ t : Tr, purD (eT t) = true
  | .mk m cs => by rw [eT]; simp [purD, purAll, pur_eTs cs]
theorem pur_eTs : ∀ ts : List Tr, purAll (eTs ts) = true
  | [] => rfl
  | t :: ts => by rw [eTs, purAll, pur_eT t, pur_eTs ts]; rfl
end
/-- height at most n, at most w children at each place, P of each mark -/
def TrIn (P : Str → Prop) (w : Nat) : Nat → Tr → Prop
  | 0, _ => False
  | n + 1, t => P t.mark ∧ t.kids.length ≤ w ∧ ∀ c ∈ t.kids, TrIn P w n c
theorem TrIn.mono {P P' : Str → Prop} {w w' : Nat} (hp : ∀ m, P m → P' m) (hw : w ≤ w') : ∀ {n n' : Nat} {t : Tr}, n ≤ n' → TrIn P w n t → TrIn P' w' n' t
  | 0, _, _, _, h => h.elim
  | n + 1, 0, _, hn, _ => absurd hn (by omega)
  | n + 1, n' + 1, t, hn, ⟨h1, h2, h3⟩ => ⟨hp _ h1, by omega, fun c hc => TrIn.mono hp hw (by omega) (h3 c hc)⟩
theorem isTreeIn_ok : ∀ (n : Nat) (t : Tr), TrIn okM 40 n t → ∀ (f : Nat) (k : Int), n ≤ f → (n : Int) ≤ k → mR_is_tree_in f [eT t, .int k] = .ok (.bool true)
  | 0, t, h, _, _, _, _ => h.elim
  | n + 1, t, ⟨om, few, kids⟩, 0, k, hf, _ => absurd hf (by omega)
  | n + 1, t, ⟨om, few, kids⟩, f + 1, k, hf, hk => by
    unfold okM at om
    have ix0 : dIx (eT t) (.int 0) = some (.str t.mark) := by rw [eT_mk]; rfl
    have ix1 : dIx (eT t) (.int 1) = some (.tuple (t.kids.map eT)) := by rw [eT_mk]; rfl
    have len : dLen (eT t) = some (.int 2) := by rw [eT_mk]; rfl
    have t1 : dIsi "tuple" (eT t) = some (.bool true) := by
      have := plain_eT t
      rw [eT_mk] at this ⊢
      rw [PyData.plain] at this
      exact isi_tup this
    have t2 : dIsi "tuple" (.tuple (t.kids.map eT)) = some (.bool true) := isi_tup (plainAll_map _ plain_eT _)
    have e22 : eqG not (.int 2) (.int 2) = some (.bool false) := rfl
    have k0 : eqG id (.int k) (.int 0) = some (.bool false) := by rw [eq_int, decide_eq_false (by omega)]; rfl
    have gt : dGt (.int (t.kids.length : Nat)) (.int 40) = some (.bool false) := by
      show some (PyData.bool (decide _)) = _
      rw [decide_eq_false (by omega)]
    have hc : fComp (fIter (f2 dIx (fVar 0) (fC (.int 1)))) (tgN 2) cYes (fCall (mR_is_tree_in f) (fCons (fVar 2) (fCons (f2 dSub (fVar 1) (fC (.int 1))) fNil))) [2] [.dat (eT t), .dat (.int k), .no] = .ok (t.kids.map fun _ => .bool true) := by
      refine comp_all t.kids eT (fun _ => .bool true) ?_ (by omega) fun c hc => ⟨_, rfl, ?_⟩
      · simp [ix1, dIter]
      · have := isTreeIn_ok n c (kids c hc) f (k - 1) (by omega) (by omega)
        simp [dSub, this]
    have hall : dAll (.list (t.kids.map fun _ => PyData.bool true)) = some (.bool true) := by
      rw [all_bools t.kids fun _ => true]
      simp
    show runF (F_is_tree_in (mR_is_tree_in f)) 3 _ = _
    simp [F_is_tree_in, k0, t1, len, e22, ix0, om, ix1, t2, len_tup, gt, hc, hall]
theorem isTree_ok {t : Tr} (h : TrIn okM 40 12 t) : m_is_tree [eT t] = .ok (.bool true) := by
  have := isTreeIn_ok 12 t h 20 12 (by omega) (by omega)
  simp [m_is_tree, F_is_tree, this]
theorem needTree_ok {t : Tr} (h : TrIn okM 40 12 t) : m_need_tree [eT t] = .ok .none := by
  simp [m_need_tree, F_need_tree, isTree_ok h]
/-! ### dict(rules)[mark] -/
theorem pairs_rules (rs : List Rl) : pairsKV (rs.map eR) = some (rs.map fun r => (Sum.inr r.1, .tuple (r.2.map eP))) := by
  induction rs with
  | nil => rfl
  | cons r rs ih =>
    rw [List.map_cons, pairsKV, ih]
    rfl
theorem merge_new : ∀ (kvs : List (Key × D)) (es : List (D × D)), (∀ kv ∈ kvs, ∀ p ∈ es, keyIsD p.1 kv.1 = false) → (kvs.map (·.1)).Nodup → mergeD es kvs = es ++ kvs.map fun kv => (Pz.keyD kv.1, kv.2)
  | [], es, _, _ => by simp [mergeD]
  | kv :: kvs, es, h, nd => by
    rw [List.map_cons, List.nodup_cons] at nd
    have e : putD es kv.1 kv.2 = es ++ [(Pz.keyD kv.1, kv.2)] := by
      unfold putD
      rw [if_neg]
      intro q
      obtain ⟨p, hp, hq⟩ := List.any_eq_true.mp q
      rw [h kv List.mem_cons_self p hp] at hq
      cases hq
    show mergeD (putD es kv.1 kv.2) kvs = _
    rw [e, merge_new kvs _ (fun kw hw p hp => ?_) nd.2, List.append_assoc]
    · rfl
    · rcases List.mem_append.mp hp with hp | hp
      · exact h kw (List.mem_cons_of_mem _ hw) p hp
      · rw [List.mem_singleton.mp hp, keyIsD_keyD]
        refine decide_eq_false fun q => nd.1 ?_
        rw [q]
        exact List.mem_map.mpr ⟨kw, hw, rfl⟩
theorem dict_rules {rs : List Rl} (nd : (rs.map (·.1)).Nodup) (few : rs.length ≤ 1000) : dDict (.tuple (rs.map eR)) = some (.dict (rs.map fun r => (.str r.1, .tuple (r.2.map eP)))) := by
  unfold dDict
  simp only [pairs_rules, Option.bind_some]
  rw [if_pos (by rw [List.length_map]; omega), merge_new _ _ (fun kv _ p hp => by cases hp)]
  · rw [List.nil_append, List.map_map]
    rfl
  · rw [List.map_map]
    have : (rs.map fun r => (Sum.inr r.1 : Key)) = (rs.map (·.1)).map Sum.inr := by rw [List.map_map]; rfl
    show (rs.map fun r => (Sum.inr r.1 : Key)).Nodup
    rw [this]
    exact List.Pairwise.map _ (fun a b h q => h (Sum.inr.inj q)) nd
theorem ix_rules {rs : List Rl} (nd : (rs.map (·.1)).Nodup) {r : Rl} (hr : r ∈ rs) : dIx (.dict (rs.map fun r => (.str r.1, .tuple (r.2.map eP)))) (.str r.1) = some (.tuple (r.2.map eP)) := by
  have look : lookD (rs.map fun r => (PyData.str r.1, PyData.tuple (r.2.map eP))) (.inr r.1) = some (.tuple (r.2.map eP)) := by
    unfold lookD
    induction rs with
    | nil => cases hr
    | cons q rs ih =>
      rw [List.map_cons, List.nodup_cons] at nd
      rw [List.map_cons, List.find?_cons]
      show ((match decide (q.1 = r.1) with | true => some _ | false => _) : Option (D × D)).map _ = _
      rcases List.mem_cons.mp hr with e | hr
      · rw [e, decide_eq_true rfl]
        rfl
      · rw [decide_eq_false (fun (e : q.1 = r.1) => nd.1 (by rw [e]; exact List.mem_map.mpr ⟨r, hr, rfl⟩))]
        exact ih nd.2 hr
  cases rs with
  | nil => cases hr
  | cons q rs => exact look
end Pz

set_option maxHeartbeats 4000000
/-! Plain mathematics: the drawn tree. -/
namespace Pz
open PySem PySem.Spec L2
theorem enum_enc {α : Type} (enc : α → D) (xs : List α) : enumD (xs.map enc) = xs.zipIdx.map fun p => .tuple [.int (p.2 : Nat), enc p.1] := by
  unfold enumD
  rw [List.zipIdx_map, List.map_map]
  rfl
theorem asg_to {f : Fx} {t : Tg} {ρ ρ' : Env} (d : D) (h : f ρ = .ok d) (e : t d ρ = some ρ') : sAsg f t ρ = .nx ρ' := by
  unfold sAsg; rw [h]; simp only [e]
theorem for_nx {α β : Type} {P : Fl → Prop} {it : Fxs} {t : Tg} {F : Fs} {is : List Nat} {ρ : Env} (xs : List α) (enc : α → D) (st : β → Env) (I : List α → β → Prop) (b : β) (hit : it ρ = .ok (xs.map enc)) (e : ρ = st b) (i0 : I [] b)
    (h : ∀ dn x rest b, xs = dn ++ x :: rest → I dn b → ∃ ρ1, t (enc x) (st b) = some ρ1 ∧ NxIn (fun ρ2 => ∃ b', killL is ρ2 = st b' ∧ I (dn ++ [x]) b') (F ρ1)) (h2 : ∀ b', I xs b' → P (.nx (st b'))) : P (sFor it t F is ρ) := by
  obtain ⟨b', h3, i3⟩ := for_ex (t := t) (F := F) (is := is) enc st I xs xs [] b rfl i0 h
  rw [u_sFor, hit, e]
  show P (forF t F is (xs.map enc) (st b))
  rw [h3]
  exact h2 b' i3
theorem lawTree_ok (ns : List Int) (hl : ns.length ≤ 63) {b : Bk} (hb : BookIs b) : ∀ (n f : Nat) (m : Str) (at' : Int), n < f → m ∈ b.2.map (·.1) → 0 ≤ at' → at' + 1000 * n ≤ 900000 →
    ∃ d, mR_law_tree f [scrD (ns.map .int), .int at', eB b, .str m, .int n] = .ok d ∧ ∃ t, d = eT t ∧ t.mark = m ∧ TrIn (· ∈ b.2.map (·.1)) 3 (n + 1) t
  | n, 0, m, at', hf, _, _, _ => absurd hf (by omega)
  | n, f + 1, m, at', hf, hm, h0, h1 => by
    have hd : ∀ k many : Int, 0 ≤ k → k ≤ 1000000 → 0 < many → m_law_drawn [scrD (ns.map .int), .int k, .int many] = .ok (.int (drawZ ns k many)) := fun k many a b c => drawn_ok ns k many hl a b c
    obtain ⟨r, hr, rfl⟩ := List.mem_map.mp hm
    obtain ⟨hm4, few, pok⟩ := hb.2.2.2.2 r hr
    have l4 : b.2.length ≤ 4 := hb.2.2.1
    refine runF_ends (ρ := [.dat (scrD (ns.map .int)), .dat (.int at'), .dat (eB b), .dat (.str r.1), .dat (.int n), .no, .no, .no, .no, .no, .no, .no, .no, .no, .no]) rfl ?_
    unfold F_law_tree
    refine seq_go (asg_go (.tuple []) rfl) ?_
    simp only [List.set_cons_zero, List.set_cons_succ]
    have finish : ∀ fd : List Tr, (∀ t ∈ fd, TrIn (· ∈ b.2.map (·.1)) 3 n t) → EndsIn (fun d => ∃ t, d = eT t ∧ t.mark = r.1 ∧ TrIn (· ∈ b.2.map (·.1)) 3 (n + 1) t)
        (sRet (fTup (fCons (fVar 3) (fCons (fSl (fVar 5) fNo (fSo (fC (.int 3)))) fNil))) [.dat (scrD (ns.map .int)), .dat (.int at'), .dat (eB b), .dat (.str r.1), .dat (.int n), .dat (.tuple (fd.map eT)), .no, .no, .no, .no, .no, .no, .no, .no, .no]) := fun fd hfd => by
      have sl : dSl (.tuple (fd.map eT)) none (some 3) = some (.tuple ((fd.take 3).map eT)) := by
        show some (PyData.tuple (cutD (fd.map eT) none (some ((3 : Nat) : Int)))) = _
        rw [cut_to, List.map_take]
      refine ends_in (d := eT (.mk r.1 (fd.take 3))) ?_ ⟨_, rfl, rfl, hm, by show (fd.take 3).length ≤ 3; rw [List.length_take]; omega, fun c hc => hfd c (List.mem_of_mem_take hc)⟩
      rw [eT_mk]
      simp [sl, Tr.mark, Tr.kids]
    by_cases n0 : n = 0
    · subst n0
      have gt : dGt (.int 0) (.int 0) = some (.bool false) := rfl
      refine seq_go (ρ' := [.dat (scrD (ns.map .int)), .dat (.int at'), .dat (eB b), .dat (.str r.1), .dat (.int ((0 : Nat) : Int)), .dat (.tuple []), .no, .no, .no, .no, .no, .no, .no, .no, .no]) ?_ (finish [] (fun t ht => absurd ht (by simp)))
      simp [gt]
    · obtain ⟨n', rfl⟩ : ∃ n', n = n' + 1 := ⟨n - 1, by omega⟩
      have gt : dGt (.int ((n' + 1 : Nat) : Int)) (.int 0) = some (.bool true) := by
        show some (PyData.bool (decide _)) = _
        rw [decide_eq_true (by omega)]
      have ix1 : dIx (eB b) (.int 1) = some (.tuple (b.2.map eR)) := rfl
      have dr := dict_rules hb.1 (by omega)
      have ixr := ix_rules hb.1 hr
      suffices loop : NxIn (fun ρ => ∃ fd : List Tr, ρ = [.dat (scrD (ns.map .int)), .dat (.int at'), .dat (eB b), .dat (.str r.1), .dat (.int ((n' + 1 : Nat) : Int)), .dat (.tuple (fd.map eT)), .no, .no, .no, .no, .no, .no, .no, .no, .no] ∧ ∀ t ∈ fd, TrIn (· ∈ b.2.map (·.1)) 3 (n' + 1) t)
          (sFor (fEnum (f2 dIx (f1 dDict (f2 dIx (fVar 2) (fC (.int 1)))) (fVar 3))) (tgTup (tgCons (tgN 6) (tgCons (tgN 7) tgNil))) (sSeq (sAsg (fVar 7) (tgTup (tgCons (tgN 8) (tgCons (tgN 9) (tgCons (tgN 10) tgNil)))))
    (sSeq (sAsg (f2 dAdd (fVar 9) (f2 dMul (fCall m_law_drawn (fCons (fVar 0) (fCons (f2 dAdd (fVar 1) (f2 dMul (fC (.int 3)) (fVar 6))) (fCons (fC (.int 2)) fNil)))) (f1 dInt (fOrV (f2 dIsN (fVar 10) (fC .none)) (f2 dGt (fVar 10) (fVar 9)))))) (tgN 11))
    (sFor (fRng1 (fVar 11)) (tgN 12) (sSeq (sAsg (f2 dIx (fVar 8) (fCall m_law_drawn (fCons (fVar 0) (fCons (f2 dAdd (f2 dAdd (f2 dAdd (fVar 1) (fC (.int 20))) (f2 dMul (fC (.int 3)) (fVar 6))) (fVar 12)) (fCons (f1 dLen (fVar 8)) fNil))))) (tgN 13))
    (sSeq (sAsg (f2 dAdd (f2 dAdd (fVar 1) (f2 dMul (fC (.int 97)) (f2 dAdd (fVar 6) (fC (.int 1))))) (f2 dMul (fC (.int 31)) (fVar 12))) (tgN 14))
    (sAsg (f2 dAdd (fVar 5) (fTup (fCons (fCall (mR_law_tree f) (fCons (fVar 0) (fCons (fVar 14) (fCons (fVar 2) (fCons (fVar 13) (fCons (f2 dSub (fVar 4) (fC (.int 1))) fNil)))))) fNil))) (tgN 5)))) [12, 13, 14]))) [6, 7, 8, 9, 10, 11, 12, 13, 14]
          [.dat (scrD (ns.map .int)), .dat (.int at'), .dat (eB b), .dat (.str r.1), .dat (.int ((n' + 1 : Nat) : Int)), .dat (.tuple []), .no, .no, .no, .no, .no, .no, .no, .no, .no]) by
        obtain ⟨ρ2, e2, fd, rfl, hfd⟩ := loop
        refine seq_go (ρ' := _) ?_ (finish fd hfd)
        rw [u_sIf]
        simp only [u_fB, u_f2, u_fVar, u_fC, List.getElem?_cons_zero, List.getElem?_cons_succ, R.bind_ok, gt, ofO_some, u_asB]
        exact e2
      refine for_nx r.2.zipIdx (fun p => .tuple [.int (p.2 : Nat), eP p.1]) (fun fd : List Tr => [.dat (scrD (ns.map .int)), .dat (.int at'), .dat (eB b), .dat (.str r.1), .dat (.int ((n' + 1 : Nat) : Int)), .dat (.tuple (fd.map eT)), .no, .no, .no, .no, .no, .no, .no, .no, .no])
        (fun dn fd => fd.length ≤ 3 * dn.length ∧ ∀ t ∈ fd, TrIn (· ∈ b.2.map (·.1)) 3 (n' + 1) t) [] ?_ rfl ⟨Nat.zero_le _, fun t ht => absurd ht (by simp)⟩ ?_ (fun fd h => nx_in rfl ⟨fd, rfl, h.2⟩)
      · simp [ix1, dr, ixr, dItems, enum_enc]
      · rintro dn ⟨⟨c, lo, hi⟩, j⟩ rest fd ex ⟨hfl, hfd⟩
        have hx := mem_mid ex
        have hle := len_mid ex
        rw [List.length_zipIdx] at hle
        have hcj : r.2[j]? = some (c, lo, hi) := List.mk_mem_zipIdx_iff_getElem?.mp hx
        have hj : j < 3 := by
          have := (List.getElem?_eq_some_iff.mp hcj).1
          omega
        have po := pok _ (List.mem_of_getElem? hcj)
        have c1 : c ≠ [] := po.ne
        have c2 : c.length ≤ 2 := po.few
        have c3 : 1 ≤ c.length := by
          cases c with
          | nil => exact absurd rfl c1
          | cons x l => simp
        have lo2 : 0 ≤ lo ∧ lo ≤ 2 := po.lo
        refine ⟨_, rfl, ?_⟩
        simp only [List.set_cons_zero, List.set_cons_succ]
        refine seq_go (asg_to (eP (c, lo, hi)) rfl rfl) ?_
        simp only [List.set_cons_zero, List.set_cons_succ]
        have r1 := draw_range ns (at' + 3 * j) 2 (by omega)
        obtain ⟨mz, hmz, emz⟩ : ∃ mz : Int, (0 ≤ mz ∧ mz ≤ 3) ∧ (f2 dAdd (fVar 9) (f2 dMul (fCall m_law_drawn (fCons (fVar 0) (fCons (f2 dAdd (fVar 1) (f2 dMul (fC (.int 3)) (fVar 6))) (fCons (fC (.int 2)) fNil)))) (f1 dInt (fOrV (f2 dIsN (fVar 10) (fC .none)) (f2 dGt (fVar 10) (fVar 9))))))
            [.dat (scrD (ns.map .int)), .dat (.int at'), .dat (eB b), .dat (.str r.1), .dat (.int ((n' + 1 : Nat) : Int)), .dat (.tuple (fd.map eT)), .dat (.int (j : Nat)), .dat (eP (c, lo, hi)), .dat (.tuple (c.map .str)), .dat (.int lo), .dat (optD hi), .no, .no, .no, .no] = .ok (.int mz) := by
          have hdr := hd (at' + 3 * j) 2 (by omega) (by omega) (by omega)
          cases hi with
          | none =>
            refine ⟨lo + drawZ ns (at' + 3 * j) 2 * 1, by omega, ?_⟩
            simp [mul_lit, dAdd, hdr, optD, dIsN, isN, dInt, mul_lit']
          | some k =>
            have gk : dGt (.int k) (.int lo) = some (.bool (decide (lo < k))) := rfl
            by_cases ck : lo < k
            · refine ⟨lo + drawZ ns (at' + 3 * j) 2 * 1, by omega, ?_⟩
              simp [mul_lit, dAdd, hdr, optD, dIsN, isN, dInt, mul_lit', gk, ck]
            · refine ⟨lo + drawZ ns (at' + 3 * j) 2 * 0, by omega, ?_⟩
              simp [mul_lit, dAdd, hdr, optD, dIsN, isN, dInt, mul_lit', gk, ck]
        refine seq_go (asg_go (.int mz) emz) ?_
        simp only [List.set_cons_zero, List.set_cons_succ]
        refine for_nx (List.range mz.toNat) (fun (i : Nat) => PyData.int (i : Int)) (fun fd' : List Tr => [.dat (scrD (ns.map .int)), .dat (.int at'), .dat (eB b), .dat (.str r.1), .dat (.int ((n' + 1 : Nat) : Int)), .dat (.tuple (fd'.map eT)), .dat (.int (j : Nat)), .dat (eP (c, lo, hi)), .dat (.tuple (c.map .str)), .dat (.int lo), .dat (optD hi), .dat (.int mz), .no, .no, .no])
          (fun dn' fd' => fd'.length = fd.length + dn'.length ∧ ∀ t ∈ fd', TrIn (· ∈ b.2.map (·.1)) 3 (n' + 1) t) fd ?_ rfl ⟨rfl, hfd⟩ ?_ ?_
        · simp [rng0]
          omega
        · rintro dn' i rest' fd' ei ⟨hfl', hfd'⟩
          have hi2 := mem_mid ei
          have hle2 := len_mid ei
          rw [List.length_range] at hle2
          have hi3 : i < 3 := by
            have := List.mem_range.mp hi2
            omega
          refine ⟨_, rfl, ?_⟩
          simp only [List.set_cons_zero, List.set_cons_succ]
          have r2 := draw_range ns (at' + 20 + 3 * j + i) c.length (by omega)
          obtain ⟨ei1, ei2⟩ := lit_str c r2.1 r2.2
          have ei1' : dIx (.tuple (c.map .str)) (.int (drawZ ns (at' + 20 + 3 * j + i) c.length)) = some (.str ((c[(drawZ ns (at' + 20 + 3 * j + i) c.length).toNat]?).getD "a")) := ei1
          have hd2 := hd (at' + 20 + 3 * j + i) c.length (by omega) (by omega) (by omega)
          generalize (c[(drawZ ns (at' + 20 + 3 * j + i) c.length).toNat]?).getD "a" = z at ei1 ei1' ei2
          refine seq_go (asg_go (.str z) ?_) ?_
          · simp [dAdd, mul_lit, len_tup, hd2, ei1']
          refine seq_go (asg_go (.int (at' + 97 * (j + 1) + 31 * i)) ?_) ?_
          · simp [dAdd, mul_lit]
          simp only [List.set_cons_zero, List.set_cons_succ]
          have hz : z ∈ b.2.map (·.1) := po.mem z ei2
          obtain ⟨d', hd', t', rfl, ht1, ht2⟩ := lawTree_ok ns hl hb n' f z (at' + 97 * (j + 1) + 31 * i) (by omega) hz (by omega) (by omega)
          have sb : dSub (.int ((n' + 1 : Nat) : Int)) (.int 1) = some (.int (n' : Int)) := by
            show some (PyData.int _) = _
            congr 2
            omega
          have f9 : fd'.length ≤ 999999 := by omega
          refine nx_in (asg_go (.tuple ((fd' ++ [t']).map eT)) ?_) ⟨fd' ++ [t'], rfl, ?_, ?_⟩
          · simp only [u_f2, u_fVar, u_fTup, u_fCons, u_fNil, u_fCall, u_fC, List.getElem?_cons_zero, List.getElem?_cons_succ, R.bind_ok, ofO_some, sb, hd']
            simp [dAdd, f9]
          · simp [hfl']
            omega
          · intro t ht
            rcases List.mem_append.mp ht with ht | ht
            · exact hfd' t ht
            · rw [List.mem_singleton.mp ht]; exact ht2
        · rintro fd' ⟨hfl', hfd'⟩
          refine nx_in rfl ⟨fd', rfl, ?_, hfd'⟩
          rw [List.length_range] at hfl'
          simp
          omega
end Pz

set_option maxHeartbeats 4000000
/-! Plain mathematics: the spoilt tree. -/
namespace Pz
open PySem PySem.Spec L2
theorem mk_mark (m : Str) (cs : List Tr) : (Tr.mk m cs).mark = m := rfl
theorem mk_kids (m : Str) (cs : List Tr) : (Tr.mk m cs).kids = cs := rfl
def fiveL : List Str := ["ba", "c", "a", "d", "zz"]
def fiveM (m : Str) : Prop := m ∈ fourM ∨ m = "zz"
theorem okM_five {m : Str} (h : fiveM m) : okM m := by
  rcases h with h | rfl
  · exact okM_four m h
  · exact okM_zz
theorem eq_nil_tup {s : Bool → Bool} {xs : List D} (h : PyData.plainAll xs = true) : eqG s (.tuple xs) (.tuple []) = some (.bool (s xs.isEmpty)) := by
  have d1 : PyData.depth (.tuple []) = 1 := by simp [PyData.depth, PyData.depthAll]
  rw [eqG_val (by rw [PyData.plain]; exact h) rfl (by rw [d1]; omega)]
  cases xs <;> simp [PyData.eqv, PyData.eqvAll]
theorem sl_upto {xs : List D} {i : Int} (h : 0 ≤ i) : dSl (.tuple xs) none (some i) = some (.tuple (xs.take i.toNat)) := by
  have e : i = ((i.toNat : Nat) : Int) := by omega
  show some (PyData.tuple (cutD xs none (some i))) = _
  rw [e, cut_to]
  congr 3
theorem sl_from {xs : List D} {i : Int} (h : 0 ≤ i) : dSl (.tuple xs) (some i) none = some (.tuple (xs.drop i.toNat)) := by
  have e : i = ((i.toNat : Nat) : Int) := by omega
  show some (PyData.tuple (cutD xs (some i) none)) = _
  rw [e, cut_from]
  congr 3
theorem if_take {P : Fl → Prop} {c : Env → R Bool} {F G : Fs} {ρ : Env} (h : c ρ = .ok true) (h2 : P (F ρ)) : P (sIf c F G ρ) := by
  unfold sIf; rw [h]; exact h2
theorem ends_seq {Q : D → Prop} {F G : Fs} {ρ : Env} (h : EndsIn Q (F ρ)) : EndsIn Q (sSeq F G ρ) := by
  obtain ⟨d, h1, h2⟩ := h
  exact ⟨d, by unfold sSeq; rw [h1], h2⟩
theorem spoilt_ok (ns : List Int) (hl : ns.length ≤ 63) : ∀ (n f : Nat) (t : Tr) (at' : Int), n ≤ f → TrIn (· ∈ fourM) 3 n t → 0 ≤ at' → at' + 10 * n ≤ 900000 →
    ∃ d, mR_law_spoilt f [scrD (ns.map .int), .int at', eT t] = .ok d ∧ ∃ t', d = eT t' ∧ TrIn fiveM 4 (n + 1) t'
  | 0, _, _, _, _, h, _, _ => h.elim
  | n + 1, 0, _, _, hf, _, _, _ => absurd hf (by omega)
  | n + 1, f + 1, t, at', hf, ⟨hm, few, kids⟩, h0, h1 => by
    have hd : ∀ k many : Int, 0 ≤ k → k ≤ 1000000 → 0 < many → m_law_drawn [scrD (ns.map .int), .int k, .int many] = .ok (.int (drawZ ns k many)) := fun k many a b c => drawn_ok ns k many hl a b c
    have h1' : at' ≤ 899990 := by omega
    have up : ∀ c ∈ t.kids, TrIn fiveM 4 (n + 1) c := fun c hc => TrIn.mono (fun m h => .inl h) (by omega) (by omega) (kids c hc)
    have rw0 := draw_range ns at' 7 (by omega)
    have dw := hd at' 7 h0 (by omega) (by omega)
    generalize drawZ ns at' 7 = way at rw0 dw
    refine runF_ends (ρ := [.dat (scrD (ns.map .int)), .dat (.int at'), .dat (eT t), .no, .no, .no, .no]) rfl ?_
    unfold F_law_spoilt
    refine seq_go (asg_go (.int way) ?_) ?_
    · simp [dw]
    rw [eT_mk]
    refine seq_go (asg_to (.tuple [.str t.mark, .tuple (t.kids.map eT)]) rfl rfl) ?_
    simp only [List.set_cons_zero, List.set_cons_succ]
    by_cases w0 : way = 0
    · have r1 := draw_range ns (at' + 1) 5 (by omega)
      obtain ⟨e1, e2⟩ := lit_str fiveL r1.1 r1.2
      have e1' : dIx (.list [.str "ba", .str "c", .str "a", .str "d", .str "zz"]) (.int (drawZ ns (at' + 1) 5)) = some (.str ((fiveL[(drawZ ns (at' + 1) 5).toNat]?).getD "a")) := e1
      have d1 := hd (at' + 1) 5 (by omega) (by omega) (by omega)
      generalize (fiveL[(drawZ ns (at' + 1) 5).toNat]?).getD "a" = z at e1 e1' e2
      have hz : fiveM z := by
        simp [fiveL] at e2
        unfold fiveM fourM
        simp
        rcases e2 with h | h | h | h | h <;> simp [h]
      refine ends_seq (if_take ?_ (ends_in (d := eT (.mk z t.kids)) ?_ ⟨_, rfl, hz, by show t.kids.length ≤ 4; omega, fun c hc => TrIn.mono (fun m h => h) (Nat.le_refl _) (by omega) (up c hc)⟩))
      · simp [eq_int, w0]
      · rw [eT_mk]
        simp [dAdd, d1, e1', mk_mark, mk_kids]
    refine seq_go (skip_if ?_) ?_
    · simp [eq_int, w0]
    have en := eq_nil_tup (s := id) (plainAll_map _ plain_eT t.kids)
    by_cases w1 : way = 1 ∨ t.kids = []
    · have r1 := draw_range ns (at' + 1) 4 (by omega)
      obtain ⟨e1, e2⟩ := lit_str fourM r1.1 r1.2
      have e1' : dIx (.list [.str "ba", .str "c", .str "a", .str "d"]) (.int (drawZ ns (at' + 1) 4)) = some (.str ((fourM[(drawZ ns (at' + 1) 4).toNat]?).getD "a")) := e1
      have d1 := hd (at' + 1) 4 (by omega) (by omega) (by omega)
      generalize (fourM[(drawZ ns (at' + 1) 4).toNat]?).getD "a" = z at e1 e1' e2
      have cond : (fOr (fB (f2 dEq' (fVar 3) (fC (.int 1)))) (fB (f2 dEq' (fVar 5) (fTup fNil)))) [.dat (scrD (ns.map .int)), .dat (.int at'), .dat (.tuple [.str t.mark, .tuple (t.kids.map eT)]), .dat (.int way), .dat (.str t.mark), .dat (.tuple (t.kids.map eT)), .no] = .ok true := by
        by_cases c1 : way = 1
        · simp [eq_int, c1]
        · rcases w1 with w1 | w1
          · exact absurd w1 c1
          · rw [w1] at en ⊢
            have en' : eqG id (.tuple []) (.tuple []) = some (.bool true) := rfl
            simp [eq_int, c1, en']
      by_cases c4 : way < 4
      · refine ends_seq (if_take cond (ends_in (d := eT (.mk t.mark (t.kids ++ [.mk z []]))) ?_ ⟨_, rfl, .inl hm, by show (t.kids ++ [Tr.mk z []]).length ≤ 4; rw [List.length_append]; simp; omega, fun c hc => ?_⟩))
        · have f9 : t.kids.length ≤ 999999 := by omega
          have lt : dLt (.int way) (.int 4) = some (.bool true) := by
            show some (PyData.bool (decide _)) = _
            rw [decide_eq_true c4]
          have mu : dMul (.tuple [.tuple [.str z, .tuple []]]) (.int 1) = some (.tuple [.tuple [.str z, .tuple []]]) := rfl
          rw [eT_mk]
          simp [dAdd, d1, e1', lt, dInt, mu, f9, mk_mark, mk_kids, eT, eTs]
        · rcases List.mem_append.mp hc with hc | hc
          · exact up c hc
          · rw [List.mem_singleton.mp hc]
            refine ⟨.inl e2, by show (0 : Nat) ≤ 4; omega, fun q hq => absurd (show q ∈ ([] : List Tr) from hq) (by simp)⟩
      · refine ends_seq (if_take cond (ends_in (d := eT t) ?_ ⟨t, rfl, .inl hm, by omega, up⟩))
        have lt : dLt (.int way) (.int 4) = some (.bool false) := by
          show some (PyData.bool (decide _)) = _
          rw [decide_eq_false c4]
        have mu : dMul (.tuple [.tuple [.str z, .tuple []]]) (.int 0) = some (.tuple []) := rfl
        have f9 : t.kids.length ≤ 1000000 := by omega
        rw [eT_mk]
        simp [dAdd, d1, e1', lt, dInt, mu, f9]
    rw [not_or] at w1
    have lk : 1 ≤ t.kids.length := by
      cases e : t.kids with
      | nil => exact absurd e w1.2
      | cons a l => simp
    refine seq_go (skip_if ?_) ?_
    · have en' : eqG id (.tuple (t.kids.map eT)) (.tuple []) = some (.bool false) := by
        rw [en]
        cases e : t.kids with
        | nil => exact absurd e w1.2
        | cons a l => rfl
      simp [eq_int, w1.1, en']
    have r2 := draw_range ns (at' + 2) t.kids.length (by omega)
    have d2 := hd (at' + 2) t.kids.length (by omega) (by omega) (by omega)
    generalize drawZ ns (at' + 2) t.kids.length = here at r2 d2
    refine seq_go (asg_go (.int here) ?_) ?_
    · simp [dAdd, len_tup, d2]
    simp only [List.set_cons_zero, List.set_cons_succ]
    have s1 := sl_upto (xs := t.kids.map eT) r2.1
    have s2 := sl_from (xs := t.kids.map eT) (show 0 ≤ here + 1 by omega)
    have hj : here.toNat < t.kids.length := by omega
    have ej : (here + 1).toNat = here.toNat + 1 := by omega
    rw [ej] at s2
    have t9 : (t.kids.take here.toNat).length + (t.kids.drop (here.toNat + 1)).length ≤ 3 := by
      rw [List.length_take, List.length_drop]
      omega
    have z9 : min here.toNat t.kids.length + (t.kids.length - (here.toNat + 1)) ≤ 1000000 := by omega
    have mem1 : ∀ c, c ∈ t.kids.take here.toNat → c ∈ t.kids := fun c hc => List.mem_of_mem_take hc
    have mem2 : ∀ c, c ∈ t.kids.drop (here.toNat + 1) → c ∈ t.kids := fun c hc => List.mem_of_mem_drop hc
    by_cases w2 : way = 2
    · refine ends_seq (if_take ?_ (ends_in (d := eT (.mk t.mark (t.kids.take here.toNat ++ t.kids.drop (here.toNat + 1)))) ?_ ⟨_, rfl, .inl hm, ?_, fun c hc => ?_⟩))
      · simp [eq_int, w2]
      · rw [eT_mk]
        simp [dAdd, s1, s2, z9, mk_mark, mk_kids, List.map_take, List.map_drop]
      · show (t.kids.take here.toNat ++ t.kids.drop (here.toNat + 1)).length ≤ 4
        rw [List.length_append]; omega
      · rcases List.mem_append.mp hc with hc | hc
        · exact up c (mem1 c hc)
        · exact up c (mem2 c hc)
    refine seq_go (skip_if ?_) ?_
    · simp [eq_int, w2]
    by_cases w3 : way = 3
    · refine ends_seq (if_take ?_ (ends_in (d := eT (.mk t.mark t.kids.reverse)) ?_ ⟨_, rfl, .inl hm, ?_, fun c hc => ?_⟩))
      · simp [eq_int, w3]
      · rw [eT_mk]
        simp [dRev, mk_mark, mk_kids]
      · show t.kids.reverse.length ≤ 4
        rw [List.length_reverse]; omega
      · exact up c (List.mem_reverse.mp hc)
    refine seq_go (skip_if ?_) ?_
    · simp [eq_int, w3]
    have ix : dIx (.tuple (t.kids.map eT)) (.int here) = some (eT (t.kids[here.toNat])) := by
      show atI (t.kids.map eT) here = _
      have e : here = ((here.toNat : Nat) : Int) := by omega
      refine (congrArg (atI _) e).trans (atI_nat ?_)
      rw [List.getElem?_map, List.getElem?_eq_getElem hj]
      rfl
    obtain ⟨d', e', t', rfl, ht'⟩ := spoilt_ok ns hl n f (t.kids[here.toNat]) (at' + 7) (by omega) (kids _ (List.getElem_mem hj)) (by omega) (by omega)
    refine ends_in (d := eT (.mk t.mark (t.kids.take here.toNat ++ t' :: t.kids.drop (here.toNat + 1)))) ?_ ⟨_, rfl, .inl hm, ?_, fun c hc => ?_⟩
    · have z8 : min here.toNat t.kids.length ≤ 999999 := by omega
      have z7 : min here.toNat t.kids.length + 1 + (t.kids.length - (here.toNat + 1)) ≤ 1000000 := by omega
      rw [eT_mk]
      simp [dAdd, s1, s2, ix, e', z8, z7, mk_mark, mk_kids, List.map_take, List.map_drop]
    · show (t.kids.take here.toNat ++ t' :: t.kids.drop (here.toNat + 1)).length ≤ 4
      rw [List.length_append, List.length_cons]; omega
    · rcases List.mem_append.mp hc with hc | hc
      · exact up c (mem1 c hc)
      · rcases List.mem_cons.mp hc with hc | hc
        · rw [hc]; exact ht'
        · exact up c (mem2 c hc)
end Pz

set_option maxHeartbeats 4000000
/-! Plain mathematics: places in trees. -/
namespace Pz
open PySem PySem.Spec L2
mutual
def sizeT : Tr → Nat
  | .mk _ cs => 1 + sizeTs cs
def sizeTs : List Tr → Nat
  | [] => 0
  | t :: ts => sizeT t + sizeTs ts
end
mutual
/-- the places of a tree, the tree itself ahead -/
def placesT : Tr → List (List Nat)
  | .mk _ cs => [] :: placesTs 0 cs
def placesTs (i : Nat) : List Tr → List (List Nat)
  | [] => []
  | t :: ts => (placesT t).map (fun p => i :: p) ++ placesTs (i + 1) ts
end
mutual
theorem places_len : ∀ t : Tr, (placesT t).length = sizeT t
  | .mk m cs => by rw [placesT, sizeT, List.length_cons, placesTs_len cs 0]; omega
theorem placesTs_len : ∀ (ts : List Tr) (i : Nat), (placesTs i ts).length = sizeTs ts
  | [], i => by rw [placesTs, sizeTs]; rfl
  | t :: ts, i => by rw [placesTs, sizeTs, List.length_append, List.length_map, places_len t, placesTs_len ts]
end
abbrev eN (p : List Nat) : D := .tuple (p.map fun (i : Nat) => .int (i : Int))
theorem sizeTs_sum : ∀ ts : List Tr, sizeTs ts = (ts.map sizeT).sum
  | [] => by rw [sizeTs]; rfl
  | t :: ts => by rw [sizeTs, sizeTs_sum ts]; simp
theorem size_kids (t : Tr) : sizeT t = 1 + sizeTs t.kids := by cases t; rw [sizeT]; rfl
theorem sizeTs_le : ∀ {ts : List Tr} {c : Tr}, c ∈ ts → sizeT c ≤ sizeTs ts
  | t :: ts, c, h => by
    rw [sizeTs]
    rcases List.mem_cons.mp h with rfl | h
    · omega
    · have := sizeTs_le h; omega
theorem places_kids (t : Tr) : placesT t = [] :: placesTs 0 t.kids := by cases t; rw [placesT]; rfl
theorem size_lt {t c : Tr} (h : c ∈ t.kids) : sizeT c < sizeT t := by
  have := sizeTs_le h
  rw [size_kids t]
  omega
theorem sum_ints {α : Type} (xs : List α) (f : α → Int) : dSum (.list (xs.map fun x => .int (f x))) = some (.int (xs.map f).sum) := by
  have h : (xs.map fun x => PyData.int (f x)).mapM asI = some (xs.map f) := by
    induction xs with
    | nil => rfl
    | cons x xs ih => rw [List.map_cons, List.mapM_cons, ih]; rfl
  unfold dSum
  simp only [h, Option.map_some]
theorem placesTs_zip : ∀ (ts : List Tr) (i : Nat), placesTs i ts = ((ts.zipIdx i).map fun p => (placesT p.1).map fun q => p.2 :: q).flatten
  | [], i => by rw [placesTs]; rfl
  | t :: ts, i => by
    rw [placesTs, placesTs_zip ts (i + 1), List.zipIdx_cons]
    rfl
theorem mem_places {t : Tr} {q : List Nat} : q ∈ placesT t ↔ q = [] ∨ ∃ c i q', t.kids[i]? = some c ∧ q' ∈ placesT c ∧ q = i :: q' := by
  rw [places_kids, placesTs_zip, List.mem_cons]
  constructor
  · rintro (h | h)
    · exact .inl h
    · obtain ⟨l, hl, hq⟩ := List.mem_flatten.mp h
      obtain ⟨⟨c, i⟩, hp, rfl⟩ := List.mem_map.mp hl
      obtain ⟨q', hq', rfl⟩ := List.mem_map.mp hq
      exact .inr ⟨c, i, q', List.mk_mem_zipIdx_iff_getElem?.mp hp, hq', rfl⟩
  · rintro (h | ⟨c, i, q', h1, h2, rfl⟩)
    · exact .inl h
    · exact .inr (List.mem_flatten.mpr ⟨_, List.mem_map.mpr ⟨(c, i), List.mk_mem_zipIdx_iff_getElem?.mpr h1, rfl⟩, List.mem_map.mpr ⟨q', h2, rfl⟩⟩)
theorem places_short {P : Str → Prop} {w : Nat} : ∀ (n : Nat) (t : Tr), TrIn P w n t → ∀ q ∈ placesT t, q.length < n
  | 0, _, h, _, _ => h.elim
  | n + 1, t, ⟨_, _, kids⟩, q, hq => by
    rcases mem_places.mp hq with rfl | ⟨c, i, q', h1, h2, rfl⟩
    · simp
    · have := places_short n c (kids c (List.mem_of_getElem? h1)) q' h2
      rw [List.length_cons]
      omega
end Pz

set_option maxHeartbeats 4000000
/-! Plain mathematics: the tree at a place. -/
namespace Pz
open PySem PySem.Spec L2
def subT : Tr → List Nat → Option Tr
  | t, [] => some t
  | t, i :: p => (t.kids[i]?).bind fun c => subT c p
theorem sub_cons {t : Tr} {i : Nat} {p : List Nat} {s : Tr} (h : subT t (i :: p) = some s) : ∃ c, t.kids[i]? = some c ∧ subT c p = some s := by
  unfold subT at h
  cases e : t.kids[i]? with
  | none => rw [e] at h; cases h
  | some c => rw [e] at h; exact ⟨c, rfl, h⟩
theorem sub_place : ∀ (q : List Nat) (t : Tr), q ∈ placesT t ↔ ∃ s, subT t q = some s
  | [], t => ⟨fun _ => ⟨t, by unfold subT; rfl⟩, fun _ => mem_places.mpr (.inl rfl)⟩
  | i :: q, t => by
    rw [mem_places]
    constructor
    · rintro (h | ⟨c, j, q', h1, h2, h3⟩)
      · cases h
      · cases h3
        obtain ⟨s, hs⟩ := (sub_place q c).mp h2
        exact ⟨s, by unfold subT; rw [h1]; exact hs⟩
    · rintro ⟨s, hs⟩
      obtain ⟨c, h1, h2⟩ := sub_cons hs
      exact .inr ⟨c, i, q, h1, (sub_place q c).mpr ⟨s, h2⟩, rfl⟩
theorem sub_in {P : Str → Prop} {w : Nat} : ∀ (q : List Nat) (n : Nat) (t s : Tr), TrIn P w n t → subT t q = some s → ∃ n', n' + q.length = n ∧ TrIn P w n' s
  | [], n, t, s, h, e => by unfold subT at e; cases e; exact ⟨n, rfl, h⟩
  | i :: q, 0, t, s, h, e => h.elim
  | i :: q, n + 1, t, s, ⟨_, _, kids⟩, e => by
    obtain ⟨c, h1, h2⟩ := sub_cons e
    obtain ⟨n', e', h'⟩ := sub_in q n c s (kids c (List.mem_of_getElem? h1)) h2
    exact ⟨n', by rw [List.length_cons]; omega, h'⟩
theorem sub_small {P : Str → Prop} {w : Nat} : ∀ (q : List Nat) (n : Nat) (t s : Tr), TrIn P w n t → subT t q = some s → ∀ i ∈ q, i < w
  | [], n, t, s, h, e, i, hi => absurd hi (by simp)
  | j :: q, 0, t, s, h, e, i, hi => h.elim
  | j :: q, n + 1, t, s, ⟨_, few, kids⟩, e, i, hi => by
    obtain ⟨c, h1, h2⟩ := sub_cons e
    rcases List.mem_cons.mp hi with rfl | hi
    · have := (List.getElem?_eq_some_iff.mp h1).1
      omega
    · exact sub_small q n c s (kids c (List.mem_of_getElem? h1)) h2 i hi
theorem ix_nat {xs : List D} {i : Nat} {d : D} (h : xs[i]? = some d) : dIx (.tuple xs) (.int (i : Int)) = some d := atI_nat h
theorem forF_nx {t : Tg} {F : Fs} {is : List Nat} {d : D} {ds : List D} {ρ ρ1 ρ2 : Env} (h1 : t d ρ = some ρ1) (h2 : F ρ1 = .nx ρ2) : forF t F is (d :: ds) ρ = forF t F is ds (killL is ρ2) := by
  rw [forF, h1]
  show (match F ρ1 with | .nx ρ2 => forF t F is ds (killL is ρ2) | .ct ρ2 => forF t F is ds (killL is ρ2) | .bk ρ2 => .nx (killL is ρ2) | r => r) = _
  rw [h2]
theorem below_ok (pl : D) : ∀ (p : List Nat) (t s : Tr), subT t p = some s → forF (tgN 2) (sAsg (f2 dIx (f2 dIx (fVar 0) (fC (.int 1))) (fVar 2)) (tgN 0)) [2] (p.map fun (i : Nat) => PyData.int (i : Int)) [.dat (eT t), .dat pl, .no] = .nx [.dat (eT s), .dat pl, .no]
  | [], t, s, e => by unfold subT at e; cases e; rfl
  | i :: p, t, s, e => by
    obtain ⟨c, h1, h2⟩ := sub_cons e
    have ix1 : dIx (eT t) (.int 1) = some (.tuple (t.kids.map eT)) := by rw [eT_mk]; rfl
    have ix2 : dIx (.tuple (t.kids.map eT)) (.int (i : Int)) = some (eT c) := ix_nat (by rw [List.getElem?_map, h1]; rfl)
    rw [List.map_cons]
    have st : sAsg (f2 dIx (f2 dIx (fVar 0) (fC (.int 1))) (fVar 2)) (tgN 0) [.dat (eT t), .dat pl, .dat (.int (i : Int))] = .nx [.dat (eT c), .dat pl, .dat (.int (i : Int))] := by simp [ix1, ix2]
    have ih := below_ok pl p c s h2
    have tg : tgN 2 (PyData.int (i : Int)) [.dat (eT t), .dat pl, .no] = some [.dat (eT t), .dat pl, .dat (.int (i : Int))] := rfl
    rw [forF_nx tg st]
    exact ih
theorem plain_eN (p : List Nat) : (eN p).plain = true := by
  show PyData.plainAll _ = true
  exact plainAll_map _ (fun _ => rfl) p
theorem pur_eN (p : List Nat) : purD (eN p) = true := by
  show purAll _ = true
  induction p with
  | nil => rfl
  | cons i p ih => rw [List.map_cons, purAll, ih]; rfl
theorem depth_eN (p : List Nat) : (eN p).depth ≤ 1 := by
  have : PyData.depthAll (p.map fun (i : Nat) => PyData.int (i : Int)) = 0 := by
    induction p with
    | nil => rfl
    | cons i p ih => rw [List.map_cons, PyData.depthAll, ih]; rfl
  rw [PyData.depth, this]
  omega
theorem eN_inj0 : ∀ (p q : List Nat), p.map (fun (i : Nat) => PyData.int (i : Int)) = q.map (fun (i : Nat) => PyData.int (i : Int)) → p = q
  | [], [], _ => rfl
  | [], j :: q, h => by cases h
  | i :: p, [], h => by cases h
  | i :: p, j :: q, h => by
    rw [List.map_cons, List.map_cons] at h
    injection h with h1 h2
    injection h1 with h1
    rw [eN_inj0 p q h2, show i = j by omega]
theorem eN_inj {p q : List Nat} (h : eN p = eN q) : p = q := by
  injection h with h
  exact eN_inj0 p q h
theorem in_places (p : List Nat) (ps : List (List Nat)) : dInB (eN p) (.list (ps.map eN)) = some (decide (p ∈ ps)) := by
  show (if _ then _ else _) = _
  rw [if_pos (by
    rw [plain_eN, plainAll_map _ plain_eN]
    have := depth_eN p
    simp
    omega)]
  congr 1
  rw [Bool.eq_iff_iff, decide_eq_true_eq, List.any_eq_true]
  constructor
  · rintro ⟨d, hd, he⟩
    obtain ⟨q, hq, rfl⟩ := List.mem_map.mp hd
    rw [← eN_inj (eqv_eq _ _ (pur_eN q) (pur_eN p) he)]
    exact hq
  · intro h
    exact ⟨eN p, List.mem_map.mpr ⟨p, h, rfl⟩, PySem.SeqAt.eqv_refl_plain _ (plain_eN p)⟩
end Pz

set_option maxHeartbeats 4000000
/-! Plain mathematics: the ends of a part. -/
namespace Pz
open PySem PySem.Spec L2
theorem in_strsT (x : Str) (ys : List Str) : dInB (.str x) (.tuple (ys.map .str)) = some (decide (x ∈ ys)) := in_strs x ys
def EndAt (p : Pt) (row : List Str) (s e : Nat) : Prop :=
  s ≤ e ∧ e ≤ row.length ∧ (∀ i, s ≤ i → i < e → ∃ m, row[i]? = some m ∧ m ∈ p.1) ∧ p.2.1 ≤ (e : Int) - s ∧ ∀ h, p.2.2 = some h → (e : Int) - s ≤ h
def endC : Env → R Bool := fAnd (fB (f2 dLt (fVar 8) (f1 dLen (fVar 1)))) (fAnd (fB (f2 dIn (f2 dIx (fVar 1) (fVar 8)) (fVar 3))) (fOr (fB (f2 dIsN (fVar 5) (fC .none))) (fB (f2 dLt (fVar 7) (fVar 5)))))
def endF : Fs := sSeq (sAsg (f2 dAdd (fVar 8) (fC (.int 1))) (tgN 8)) (sSeq (sAsg (f2 dAdd (fVar 7) (fC (.int 1))) (tgN 7)) (sIf (fB (f2 dGe (fVar 7) (fVar 4))) (sApp 6 (fVar 8)) sSkip))
def endE (p : Pt) (row : List Str) (s k : Nat) (F : List Nat) : Env :=
  [.dat (eP p), .dat (.tuple (row.map .str)), .dat (.int (s : Int)), .dat (.tuple (p.1.map .str)), .dat (.int p.2.1), .dat (optD p.2.2), .own (F.map fun (i : Nat) => PyData.int (i : Int)), .dat (.int (k : Int)), .dat (.int ((s + k : Nat) : Int))]
theorem while_t {c : Env → R Bool} {F : Fs} {is : List Nat} {n : Nat} {ρ ρ2 : Env} (h : c ρ = .ok true) (h2 : F ρ = .nx ρ2) : whileF c F is (n + 1) ρ = whileF c F is n (killL is ρ2) := by
  conv => lhs; unfold whileF
  simp only [h, h2]
theorem while_f {c : Env → R Bool} {F : Fs} {is : List Nat} {n : Nat} {ρ : Env} (h : c ρ = .ok false) : whileF c F is (n + 1) ρ = .nx ρ := by
  unfold whileF
  simp only [h]
theorem endC_far (p : Pt) (row : List Str) (s k : Nat) (F : List Nat) (h : row.length ≤ s + k) : endC (endE p row s k F) = .ok false := by
  have lt : dLt (.int ((s + k : Nat) : Int)) (.int (row.length : Nat)) = some (.bool false) := by
    show some (PyData.bool (decide _)) = _
    rw [decide_eq_false (by omega)]
  unfold endE
  generalize ((s + k : Nat) : Int) = H at *
  simp [endC, len_tup, lt]
theorem endC_in (p : Pt) (row : List Str) (s k : Nat) (F : List Nat) {m : Str} (h : row[s + k]? = some m) : endC (endE p row s k F) = .ok (decide (m ∈ p.1 ∧ ∀ h, p.2.2 = some h → (k : Int) < h)) := by
  have hl := (List.getElem?_eq_some_iff.mp h).1
  have ix : dIx (.tuple (row.map .str)) (.int ((s + k : Nat) : Int)) = some (.str m) := ix_nat (by rw [List.getElem?_map, h]; rfl)
  have lt : dLt (.int ((s + k : Nat) : Int)) (.int (row.length : Nat)) = some (.bool true) := by
    show some (PyData.bool (decide _)) = _
    rw [decide_eq_true (by omega)]
  obtain ⟨c, lo, hi'⟩ := p
  have hi : dIn (.str m) (.tuple (c.map .str)) = some (.bool (decide (m ∈ c))) := by unfold dIn; rw [in_strsT]; rfl
  unfold endE
  generalize ((s + k : Nat) : Int) = H at *
  by_cases hm : m ∈ c
  · cases hi' with
    | none => simp [endC, len_tup, lt, ix, hi, hm, dIsN, isN, optD]
    | some v =>
      have l2 : dLt (.int (k : Int)) (.int v) = some (.bool (decide ((k : Int) < v))) := rfl
      simp [endC, len_tup, lt, ix, hi, hm, dIsN, isN, optD, l2]
  · simp [endC, len_tup, lt, ix, hi, hm]
theorem endF_ok (p : Pt) (row : List Str) (s k : Nat) (F : List Nat) (hF : F.length ≤ 1000000) : endF (endE p row s k F) = .nx (endE p row s (k + 1) (if p.2.1 ≤ (k : Int) + 1 then F ++ [s + (k + 1)] else F)) := by
  have a1 : dAdd (.int ((s + k : Nat) : Int)) (.int 1) = some (.int ((s + (k + 1) : Nat) : Int)) := by
    show some (PyData.int _) = _
    congr 2
  have a2 : dAdd (.int (k : Int)) (.int 1) = some (.int ((k + 1 : Nat) : Int)) := rfl
  have g : dGe (.int ((k + 1 : Nat) : Int)) (.int p.2.1) = some (.bool (decide (p.2.1 ≤ (k : Int) + 1))) := rfl
  unfold endF endE
  by_cases hc : p.2.1 ≤ (k : Int) + 1
  · rw [if_pos hc]
    rw [decide_eq_true hc] at g
    simp only [List.map_append, List.map_cons, List.map_nil]
    generalize ((s + (k + 1) : Nat) : Int) = H' at *
    generalize ((s + k : Nat) : Int) = H at *
    generalize ((k + 1 : Nat) : Int) = K' at *
    generalize (k : Int) = K at *
    simp [a1, a2, g, hF]
  · rw [if_neg hc]
    rw [decide_eq_false hc] at g
    generalize ((s + (k + 1) : Nat) : Int) = H' at *
    generalize ((s + k : Nat) : Int) = H at *
    generalize ((k + 1 : Nat) : Int) = K' at *
    generalize (k : Int) = K at *
    simp [a1, a2, g]
theorem ends_loop (p : Pt) (row : List Str) (hlo : 0 ≤ p.2.1) (few : row.length ≤ 1000) (s : Nat) : ∀ (n k : Nat) (F : List Nat), row.length < s + k + n → s + k ≤ row.length → (∀ i, s ≤ i → i < s + k → ∃ m, row[i]? = some m ∧ m ∈ p.1) → (∀ h, p.2.2 = some h → (k : Int) ≤ h) →
    (∀ e, e ∈ F ↔ e ≤ s + k ∧ EndAt p row s e) → F.length ≤ k + 1 → ∃ k' F', whileF endC endF [] n (endE p row s k F) = .nx (endE p row s k' F') ∧ (∀ e, e ∈ F' ↔ EndAt p row s e) ∧ F'.length ≤ row.length + 1
  | 0, k, F, h1, h2, _, _, _, _ => absurd h1 (by omega)
  | n + 1, k, F, h1, h2, run, cap, mem, len => by
    by_cases far : row.length ≤ s + k
    · refine ⟨k, F, while_f (endC_far p row s k F far), fun e => ⟨fun h => ((mem e).mp h).2, fun h => (mem e).mpr ⟨by have := h.2.1; omega, h⟩⟩, by omega⟩
    · obtain ⟨m, hm⟩ : ∃ m, row[s + k]? = some m := ⟨_, List.getElem?_eq_getElem (by omega)⟩
      have hc := endC_in p row s k F hm
      by_cases ok : m ∈ p.1 ∧ ∀ h, p.2.2 = some h → (k : Int) < h
      · rw [decide_eq_true ok] at hc
        have run' : ∀ i, s ≤ i → i < s + (k + 1) → ∃ m, row[i]? = some m ∧ m ∈ p.1 := fun i a b => by
          by_cases e : i = s + k
          · subst e; exact ⟨m, hm, ok.1⟩
          · exact run i a (by omega)
        have cap' : ∀ h, p.2.2 = some h → ((k + 1 : Nat) : Int) ≤ h := fun h e => by have := ok.2 h e; omega
        rw [while_t hc (endF_ok p row s k F (by omega))]
        refine ends_loop p row hlo few s n (k + 1) _ (by omega) (by omega) run' cap' (fun e => ?_) (by split <;> first | (rw [List.length_append, List.length_singleton]; omega) | omega)
        have new : EndAt p row s (s + (k + 1)) ↔ p.2.1 ≤ (k : Int) + 1 := by
          refine ⟨fun h => ?_, fun h => ⟨by omega, by omega, run', by omega, fun h e => by have := cap' h e; omega⟩⟩
          have := h.2.2.2.1
          omega
        have split' : (e ≤ s + (k + 1) ∧ EndAt p row s e) ↔ (e ≤ s + k ∧ EndAt p row s e) ∨ (e = s + (k + 1) ∧ p.2.1 ≤ (k : Int) + 1) := by
          constructor
          · rintro ⟨a, b⟩
            by_cases c : e = s + (k + 1)
            · subst c; exact .inr ⟨rfl, new.mp b⟩
            · exact .inl ⟨by omega, b⟩
          · rintro (⟨a, b⟩ | ⟨rfl, b⟩)
            · exact ⟨by omega, b⟩
            · exact ⟨Nat.le_refl _, new.mpr b⟩
        rw [split', ← mem e]
        split
        · rename_i y
          rw [List.mem_append, List.mem_singleton]
          exact ⟨fun h => h.elim .inl fun h => .inr ⟨h, y⟩, fun h => h.elim .inl fun h => .inr h.1⟩
        · rename_i y
          exact ⟨.inl, fun h => h.elim id fun h => absurd h.2 y⟩
      · rw [decide_eq_false ok] at hc
        refine ⟨k, F, while_f hc, fun e => ⟨fun h => ((mem e).mp h).2, fun h => (mem e).mpr ⟨?_, h⟩⟩, by omega⟩
        refine Nat.le_of_not_lt fun lt => ok ⟨?_, fun v e' => ?_⟩
        · obtain ⟨m', e1, e2⟩ := h.2.2.1 (s + k) (by omega) lt
          rw [hm] at e1
          cases e1
          exact e2
        · have := h.2.2.2.2 v e'
          omega
end Pz

set_option maxHeartbeats 4000000
/-! Plain mathematics: whether a row goes through parts. -/
namespace Pz
open PySem PySem.Spec L2 PySem.W
def iD (i : Nat) : D := .int (i : Int)
def iK (i : Nat) : Key := .inl (i : Int)
theorem met_go (ks : List Key) : ∀ acc : List Key, (acc.Nodup → (ks.foldl addK acc).Nodup) ∧ ∀ x, x ∈ ks.foldl addK acc ↔ x ∈ acc ∨ x ∈ ks := by
  induction ks with
  | nil => exact fun acc => ⟨id, fun x => by simp⟩
  | cons k ks ih =>
    intro acc
    rw [List.foldl_cons]
    by_cases h : k ∈ acc
    · have e : addK acc k = acc := by unfold addK; rw [if_pos (memK_iff.mpr h)]
      rw [e]
      obtain ⟨i1, i2⟩ := ih acc
      refine ⟨i1, fun x => ?_⟩
      rw [i2, List.mem_cons]
      constructor
      · rintro (q | q)
        · exact .inl q
        · exact .inr (.inr q)
      · rintro (q | q | q)
        · exact .inl q
        · rw [q]; exact .inl h
        · exact .inr q
    · have e : addK acc k = acc ++ [k] := by unfold addK; rw [if_neg (fun q => h (memK_iff.mp q))]
      rw [e]
      obtain ⟨i1, i2⟩ := ih (acc ++ [k])
      refine ⟨fun nd => i1 (List.nodup_append.mpr ⟨nd, by simp, fun a ha b hb e => h (by rw [List.mem_singleton.mp hb] at e; exact e ▸ ha)⟩), fun x => ?_⟩
      rw [i2, List.mem_append, List.mem_singleton, List.mem_cons]
      exact or_assoc
theorem nodup_len : ∀ (n : Nat) (G : List Nat), G.Nodup → (∀ x ∈ G, x < n) → G.length ≤ n
  | 0, [], _, _ => Nat.le_refl _
  | 0, x :: _, _, h => absurd (h x List.mem_cons_self) (Nat.not_lt_zero _)
  | n + 1, G, nd, h => by
    have h1 := nodup_len n (G.erase n) (nd.erase n) fun x hx => by
      have := h x (List.mem_of_mem_erase hx)
      have ne : x ≠ n := fun e => by
        rw [e] at hx
        exact (List.Nodup.mem_erase_iff nd).mp hx |>.1 rfl
      omega
    have h2 : G.length - 1 ≤ (G.erase n).length := by
      rw [List.length_erase]
      split <;> omega
    omega
theorem keysOf_nats : ∀ F : List Nat, keysOf (F.map iD) = some (F.map iK)
  | [] => rfl
  | m :: ms => by
    rw [List.map_cons, keysOf, keysOf_nats ms]
    rfl
theorem sortSet_nats (F : List Nat) (few : F.length ≤ 4000) : ∃ G : List Nat, dSortSet (.list (F.map iD)) = some (G.map iD) ∧ (∀ e, e ∈ G ↔ e ∈ F) ∧ G.Nodup := by
  obtain ⟨nd, mem⟩ := met_go (F.map iK) []
  have nd := nd List.nodup_nil
  have mem : ∀ x, x ∈ metK (F.map iK) ↔ x ∈ F.map iK := fun x => (mem x).trans (by simp)
  have nd : (metK (F.map iK)).Nodup := nd
  obtain ⟨L, hL⟩ : ∃ L, L = (metK (F.map iK)).mergeSort kLe := ⟨_, rfl⟩
  have pm : L.Perm (metK (F.map iK)) := by rw [hL]; exact List.mergeSort_perm _ _
  have ndL : L.Nodup := pm.nodup_iff.mpr nd
  have memL : ∀ x, x ∈ L ↔ x ∈ F.map iK := fun x => (pm.mem_iff).trans (mem x)
  obtain ⟨G, hG⟩ : ∃ G : List Nat, L = G.map iK := by
    have : ∀ L : List Key, (∀ x ∈ L, x ∈ F.map iK) → ∃ G : List Nat, L = G.map iK := fun L => by
      induction L with
      | nil => exact fun _ => ⟨[], rfl⟩
      | cons x L ih =>
        intro h
        obtain ⟨G, hG⟩ := ih fun y hy => h y (List.mem_cons_of_mem _ hy)
        obtain ⟨i, _, hi⟩ := List.mem_map.mp (h x List.mem_cons_self)
        exact ⟨i :: G, by rw [List.map_cons, hi, hG]⟩
    exact this L fun x => (memL x).mp
  have inj : ∀ a b : Nat, iK a = iK b → a = b := fun a b h => by injection h with h; omega
  refine ⟨G, ?_, fun e => ?_, ?_⟩
  · have hh : homK (metK (F.map iK)) = true := by
      unfold homK
      rw [Bool.or_eq_true]
      refine .inl (List.all_eq_true.mpr fun k hk => ?_)
      obtain ⟨m, _, rfl⟩ := List.mem_map.mp ((mem k).mp hk)
      rfl
    unfold dSortSet
    simp only [keysOf_nats, Option.bind_some]
    rw [if_pos ⟨hh, by rw [List.length_map]; exact few⟩, isortK_eq, ← hL, hG, List.map_map]
    rfl
  · have := memL (iK e)
    rw [hG, List.mem_map, List.mem_map] at this
    constructor
    · intro h
      obtain ⟨a, ha, he⟩ := this.mp ⟨e, h, rfl⟩
      exact inj _ _ he ▸ ha
    · intro h
      obtain ⟨a, ha, he⟩ := this.mpr ⟨e, h, rfl⟩
      exact inj _ _ he ▸ ha
  · rw [hG] at ndL
    exact (List.pairwise_map.mp ndL).imp fun h e => h (congrArg iK e)
def GoesTo (row : List Str) : List Pt → Nat → Nat → Prop
  | [], s, e => s = e
  | p :: ps, s, e => ∃ m, EndAt p row s m ∧ GoesTo row ps m e
theorem goes_snoc {row : List Str} {p : Pt} : ∀ (ps : List Pt) (s e : Nat), GoesTo row (ps ++ [p]) s e ↔ ∃ m, GoesTo row ps s m ∧ EndAt p row m e
  | [], s, e => ⟨fun ⟨m, h1, h2⟩ => ⟨s, rfl, (show m = e from h2) ▸ h1⟩, fun ⟨m, h1, h2⟩ => ⟨e, (show s = m from h1) ▸ h2, rfl⟩⟩
  | q :: ps, s, e => by
    constructor
    · rintro ⟨m, h1, h2⟩
      obtain ⟨k, h3, h4⟩ := (goes_snoc ps m e).mp h2
      exact ⟨k, ⟨m, h1, h3⟩, h4⟩
    · rintro ⟨k, ⟨m, h1, h3⟩, h4⟩
      exact ⟨m, h1, (goes_snoc ps m e).mpr ⟨k, h3, h4⟩⟩
end Pz

set_option maxHeartbeats 4000000
/-! Plain mathematics: row_fits. -/
namespace Pz
open PySem PySem.Spec L2 PySem.W
theorem ext_go {i : Nat} {f : Fx} {ρ : Env} {ds : List D} (es : List D) (h : ρ[i]? = some (.own ds)) (hf : f ρ = .ok (.list es)) (few : ds.length + es.length ≤ 1000000) : sExt i f ρ = .nx (ρ.set i (.own (ds ++ es))) := by
  unfold sExt
  rw [h]
  simp only [hf, if_pos few]
theorem plain_iD (F : List Nat) : PyData.plainAll (F.map iD) = true := plainAll_map _ (fun _ => rfl) F
theorem in_nats (n : Nat) (F : List Nat) : dInB (.int (n : Int)) (.list (F.map iD)) = some (decide (n ∈ F)) := by
  show (if _ then _ else _) = _
  rw [if_pos (by
    rw [plain_iD]
    have : (PyData.int (n : Int)).depth = 0 := rfl
    rw [this]
    simp [PyData.plain])]
  congr 1
  rw [Bool.eq_iff_iff, decide_eq_true_eq, List.any_eq_true]
  constructor
  · rintro ⟨d, hd, he⟩
    obtain ⟨q, hq, rfl⟩ := List.mem_map.mp hd
    have := eqv_eq _ _ (show purD (iD q) = true from rfl) (show purD (.int (n : Int)) = true from rfl) he
    injection this with this
    rw [show n = q by omega]
    exact hq
  · intro h
    exact ⟨iD n, List.mem_map.mpr ⟨n, h, rfl⟩, PySem.SeqAt.eqv_refl_plain _ rfl⟩
structure PtFine (p : Pt) : Prop where
  lo : 0 ≤ p.2.1
  hi : ∀ h, p.2.2 = some h → 0 ≤ h
def rowE (ps : List Pt) (row : List Str) (S : List Nat) (a b c : Slot) : Env := [.dat (.tuple (ps.map eP)), .dat (.tuple (row.map .str)), .dat (.list (S.map iD)), a, b, c]
end Pz

set_option maxHeartbeats 4000000
/-! Plain mathematics: parts of a mark, rows. -/
namespace Pz
open PySem PySem.Spec L2 PySem.W
theorem hasMark_okT (b : Bk) (few : b.2.length ≤ 1000) (m : Str) : m_has_mark [eB b, .str m] = .ok (.bool (decide (m ∈ b.2.map (·.1)))) := by
  have ix1 : dIx (eB b) (.int 1) = some (.tuple (b.2.map eR)) := rfl
  have hm : fComp (fIter (f2 dIx (fVar 0) (fC (.int 1)))) (tgN 2) cYes (f2 dIx (fVar 2) (fC (.int 0))) [2] [.dat (eB b), .dat (.str m), .no] = .ok ((b.2.map (·.1)).map .str) := by
    rw [List.map_map]
    refine comp_all b.2 eR _ ?_ (by omega) fun r hr => ⟨_, rfl, ?_⟩
    · simp [ix1, dIter]
    · simp [show dIx (eR r) (.int 0) = some (.str r.1) from rfl]
  have hi : dIsi "str" (.str m) = some (.bool true) := rfl
  have q : dIn (.str m) (.list ((b.2.map (·.1)).map .str)) = some (.bool (decide (m ∈ b.2.map (·.1)))) := by
    unfold dIn; rw [in_strs]; rfl
  simp only [List.map_map] at hm q
  simp [m_has_mark, F_has_mark, hi, hm, q]
theorem filter_one : ∀ {rs : List Rl} {r : Rl}, (rs.map (·.1)).Nodup → r ∈ rs → rs.filter (fun q => decide (q.1 = r.1)) = [r]
  | [], r, _, h => absurd h (by simp)
  | q :: rs, r, nd, h => by
    rw [List.map_cons, List.nodup_cons] at nd
    rw [List.filter_cons]
    rcases List.mem_cons.mp h with e | h'
    · subst e
      rw [if_pos (by simp)]
      congr 1
      rw [List.filter_eq_nil_iff]
      intro a ha
      rw [decide_eq_true_eq]
      intro e
      exact nd.1 (e ▸ List.mem_map_of_mem ha)
    · rw [if_neg, filter_one nd.2 h']
      rw [decide_eq_true_eq]
      intro e
      exact nd.1 (e ▸ List.mem_map_of_mem h')
theorem fine_of {b : Bk} (v : BkV b) {r : Rl} (h : r ∈ b.2) : ∀ p ∈ r.2, PtFine p := fun p hp => by
  have q := (v.parts r h).2 p hp
  refine ⟨?_, fun k e => ?_⟩
  · have := q.lo
    omega
  · have := q.hi k e
    omega
end Pz

set_option maxHeartbeats 4000000
/-! Plain mathematics: the faults at a place. -/
namespace Pz
open PySem PySem.Spec L2 PySem.W
def eF (f : List Nat × Str) : D := .tuple [eN f.1, .str f.2]
def rowOf (s : Tr) : List Str := s.kids.map (·.mark)
def FitsAt (b : Bk) (s : Tr) : Prop := ∃ r ∈ b.2, r.1 = s.mark ∧ GoesTo (rowOf s) r.2 0 (rowOf s).length
open Classical in
noncomputable def rootF (b : Bk) (p : List Nat) (s : Tr) : List (List Nat × Str) := if p = [] ∧ s.mark ≠ b.1 then [(p, ("root" : Str))] else []
open Classical in
noncomputable def hereF (b : Bk) (p : List Nat) (s : Tr) : List (List Nat × Str) := if s.mark ∉ b.2.map (·.1) then [(p, ("mark" : Str))] else if FitsAt b s then [] else [(p, ("row" : Str))]
end Pz

set_option maxHeartbeats 4000000
/-! Plain mathematics: all faults of a tree. -/
namespace Pz
open PySem PySem.Spec L2 PySem.W
noncomputable def atF (b : Bk) (t : Tr) (p : List Nat) : List (List Nat × Str) := match subT t p with
  | some s => rootF b p s ++ hereF b p s
  | none => []
noncomputable def allF (b : Bk) (t : Tr) : List (List Nat × Str) := (placesT t).flatMap (atF b t)
theorem atF_len (b : Bk) (t : Tr) (p : List Nat) : (atF b t p).length ≤ 2 := by
  unfold atF
  split
  · have h1 : ∀ s, (rootF b p s).length ≤ 1 := fun s => by unfold rootF; split <;> simp
    have h2 : ∀ s, (hereF b p s).length ≤ 1 := fun s => by unfold hereF; split <;> first | (split <;> simp) | simp
    rename_i s _
    have := h1 s
    have := h2 s
    rw [List.length_append]
    omega
  · simp
end Pz

set_option maxHeartbeats 4000000
/-! Plain mathematics: a tree put at a place. -/
namespace Pz
open PySem PySem.Spec L2 PySem.W
theorem plain_eF (f : List Nat × Str) : (eF f).plain = true := by
  show PyData.plainAll [eN f.1, .str f.2] = true
  rw [PyData.plainAll, plain_eN]
  rfl
def putT : Tr → List Nat → Tr → Tr
  | _, [], u => u
  | t, i :: p, u => .mk t.mark (t.kids.take i ++ ((t.kids[i]?).map fun c => putT c p u).toList ++ t.kids.drop (i + 1))
end Pz

set_option maxHeartbeats 4000000
/-! Plain mathematics: the places under a place. -/
namespace Pz
open PySem PySem.Spec L2 PySem.W
theorem filt_none (p : List Nat) (i : Nat) : ∀ (ts : List Tr) (k : Nat), i < k → (placesTs k ts).filter (fun q => decide (q.take (p.length + 1) = i :: p)) = []
  | [], k, _ => by rw [placesTs]; rfl
  | c :: ts, k, h => by
    rw [placesTs, List.filter_append, filt_none p i ts (k + 1) (by omega), List.append_nil, List.filter_eq_nil_iff]
    intro q hq
    obtain ⟨q', _, rfl⟩ := List.mem_map.mp hq
    rw [decide_eq_true_eq, List.take_succ_cons]
    intro e
    injection e with e
    omega
theorem filt_ts (p : List Nat) : ∀ (ts : List Tr) (k j : Nat) (c : Tr), ts[j]? = some c → (placesTs k ts).filter (fun q => decide (q.take (p.length + 1) = (k + j) :: p)) = ((placesT c).filter (fun q => decide (q.take p.length = p))).map ((k + j) :: ·)
  | [], k, j, c, h => by cases h
  | d :: ts, k, 0, c, h => by
    cases h
    simp only [Nat.add_zero]
    rw [placesTs, List.filter_append, filt_none p k ts (k + 1) (by omega), List.append_nil, List.filter_map]
    congr 2
    funext q
    simp [Function.comp]
  | d :: ts, k, j + 1, c, h => by
    have ih := filt_ts p ts (k + 1) j c h
    have e : k + 1 + j = k + (j + 1) := by omega
    rw [e] at ih
    rw [placesTs, List.filter_append, ih]
    have : ((placesT d).map (k :: ·)).filter (fun q => decide (q.take (p.length + 1) = (k + (j + 1)) :: p)) = [] := by
      rw [List.filter_eq_nil_iff]
      intro q hq
      obtain ⟨q', _, rfl⟩ := List.mem_map.mp hq
      rw [decide_eq_true_eq, List.take_succ_cons]
      intro e
      injection e with e
      omega
    rw [this, List.nil_append]
theorem places_under : ∀ (p : List Nat) (t s : Tr), subT t p = some s → (placesT t).filter (fun q => decide (q.take p.length = p)) = (placesT s).map (p ++ ·)
  | [], t, s, e => by
    unfold subT at e
    cases e
    rw [List.filter_eq_self.mpr (fun q _ => by simp)]
    simp
  | i :: p, t, s, e => by
    obtain ⟨c, h1, h2⟩ := sub_cons e
    have ih := places_under p c s h2
    have h := filt_ts p t.kids 0 i c h1
    rw [Nat.zero_add] at h
    rw [places_kids, List.filter_cons, if_neg (by simp), List.length_cons, h, ih, List.map_map]
    rfl
theorem sub_app : ∀ (p q : List Nat) (t s : Tr), subT t p = some s → subT t (p ++ q) = subT s q
  | [], q, t, s, e => by unfold subT at e; cases e; rfl
  | i :: p, q, t, s, e => by
    obtain ⟨c, h1, h2⟩ := sub_cons e
    have ih := sub_app p q c s h2
    rw [List.cons_append, subT, h1]
    exact ih
end Pz

set_option maxHeartbeats 4000000
/-! Plain mathematics: the faults under a place. -/
namespace Pz
open PySem PySem.Spec L2 PySem.W
noncomputable def atH (b : Bk) (t : Tr) (p : List Nat) : List (List Nat × Str) := match subT t p with
  | some s => hereF b p s
  | none => []
/-- all faults but the top's -/
noncomputable def allH (b : Bk) (t : Tr) : List (List Nat × Str) := (placesT t).flatMap (atH b t)
theorem here_not (b : Bk) (p : List Nat) (s : Tr) : ∀ f ∈ hereF b p s, f.1 = p ∧ f.2 ≠ ("root" : Str) := fun f hf => by
  unfold hereF at hf
  split at hf
  · rw [List.mem_singleton] at hf
    subst hf
    exact ⟨rfl, show ("mark" : Str) ≠ "root" by decide⟩
  · split at hf
    · cases hf
    · rw [List.mem_singleton] at hf
      subst hf
      exact ⟨rfl, show ("row" : Str) ≠ "root" by decide⟩
theorem root_is (b : Bk) (p : List Nat) (s : Tr) : ∀ f ∈ rootF b p s, f.1 = p ∧ f.2 = ("root" : Str) := fun f hf => by
  unfold rootF at hf
  split at hf
  · rw [List.mem_singleton] at hf
    subst hf
    exact ⟨rfl, rfl⟩
  · cases hf
theorem filter_flat {α β : Type} (xs : List α) (f : α → List β) (p : β → Bool) : (xs.flatMap f).filter p = xs.flatMap fun x => (f x).filter p := by
  induction xs with
  | nil => rfl
  | cons x xs ih => rw [List.flatMap_cons, List.filter_append, ih, List.flatMap_cons]
theorem allF_H (b : Bk) (t : Tr) : (allF b t).filter (fun f => decide (f.2 ≠ ("root" : Str))) = allH b t := by
  unfold allF allH
  rw [filter_flat]
  congr 1
  funext q
  unfold atF atH
  cases subT t q with
  | none => rfl
  | some s =>
    show (rootF b q s ++ hereF b q s).filter _ = hereF b q s
    rw [List.filter_append, List.filter_eq_nil_iff.mpr fun f hf => by rw [decide_eq_true_eq]; exact fun h => h (root_is b q s f hf).2, List.nil_append, List.filter_eq_self.mpr fun f hf => by rw [decide_eq_true_eq]; exact (here_not b q s f hf).2]
theorem here_move (b : Bk) (p q : List Nat) (s : Tr) : hereF b (p ++ q) s = (hereF b q s).map fun f => (p ++ f.1, f.2) := by
  unfold hereF
  split
  · rfl
  · split <;> rfl
theorem flat_keep {α β : Type} (xs : List α) (f : α → List β) (g : α → Bool) (p : β → Bool) (h : ∀ x, ∀ y ∈ f x, p y = g x) : (xs.flatMap f).filter p = (xs.filter g).flatMap f := by
  induction xs with
  | nil => rfl
  | cons x xs ih =>
    rw [List.flatMap_cons, List.filter_append, ih, List.filter_cons]
    by_cases hg : g x = true
    · rw [if_pos hg, List.flatMap_cons, List.filter_eq_self.mpr fun y hy => (h x y hy).trans hg]
    · rw [if_neg hg, List.filter_eq_nil_iff.mpr fun y hy e => hg ((h x y hy).symm.trans e), List.nil_append]
theorem faults_under (b : Bk) {p : List Nat} {t s : Tr} (e : subT t p = some s) : (allH b t).filter (fun f => decide (f.1.take p.length = p)) = (allH b s).map fun f => (p ++ f.1, f.2) := by
  unfold allH
  rw [flat_keep (placesT t) (atH b t) (fun q => decide (q.take p.length = p)) _ fun q f hf => by
    unfold atH at hf
    split at hf
    · rw [(here_not b q _ f hf).1]
    · cases hf]
  rw [places_under p t s e, List.flatMap_map, List.map_flatMap]
  congr 1
  funext q
  show atH b t (p ++ q) = _
  unfold atH
  rw [sub_app p q t s e]
  cases subT s q with
  | none => rfl
  | some c => exact here_move b p q c
end Pz

set_option maxHeartbeats 4000000
/-! Plain mathematics: wide books. -/
namespace Pz
open PySem PySem.Spec L2 PySem.W
theorem goes_in {row : List Str} : ∀ (ps : List Pt) (s e : Nat), GoesTo row ps s e → s ≤ e ∧ ∀ i, s ≤ i → i < e → ∃ m, row[i]? = some m ∧ ∃ p ∈ ps, m ∈ p.1
  | [], s, e, h => by
    have : s = e := h
    exact ⟨by omega, fun i a b => by omega⟩
  | p :: ps, s, e, ⟨k, h1, h2⟩ => by
    obtain ⟨i1, i2⟩ := goes_in ps k e h2
    have hs := h1.1
    refine ⟨by omega, fun i a b => ?_⟩
    by_cases c : i < k
    · obtain ⟨m, q1, q2⟩ := h1.2.2.1 i a c
      exact ⟨m, q1, p, List.mem_cons_self, q2⟩
    · obtain ⟨m, q1, q, q2, q3⟩ := i2 i (by omega) b
      exact ⟨m, q1, q, List.mem_cons_of_mem _ q2, q3⟩
/-- a row that goes through the parts has marks of the parts alone -/
theorem goes_marks {row : List Str} {ps : List Pt} (h : GoesTo row ps 0 row.length) : ∀ m ∈ row, ∃ p ∈ ps, m ∈ p.1 := fun m hm => by
  obtain ⟨i, hi, e⟩ := List.getElem_of_mem hm
  obtain ⟨m', h1, h2⟩ := (goes_in ps 0 row.length h).2 i (Nat.zero_le _) hi
  rw [List.getElem?_eq_getElem hi] at h1
  cases h1
  rw [← e]
  exact h2
def wideP (p : Pt) : Pt := (p.1, 0, none)
def wideB (b : Bk) : Bk := (b.1, b.2.map fun r => (r.1, r.2.map wideP))
theorem end_wide {p : Pt} {row : List Str} {s e : Nat} (h : EndAt p row s e) : EndAt (wideP p) row s e := ⟨h.1, h.2.1, h.2.2.1, by have := h.1; show (0 : Int) ≤ _; omega, fun k e => by cases e⟩
theorem goes_wide {row : List Str} : ∀ (ps : List Pt) (s e : Nat), GoesTo row ps s e → GoesTo row (ps.map wideP) s e
  | [], s, e, h => h
  | p :: ps, s, e, ⟨k, h1, h2⟩ => ⟨k, end_wide h1, goes_wide ps k e h2⟩
theorem wide_marks (b : Bk) : (wideB b).2.map (·.1) = b.2.map (·.1) := by
  unfold wideB
  rw [List.map_map]
  rfl
theorem fits_wide {b : Bk} {s : Tr} (h : FitsAt b s) : FitsAt (wideB b) s := by
  obtain ⟨r, h1, h2, h3⟩ := h
  exact ⟨(r.1, r.2.map wideP), List.mem_map.mpr ⟨r, h1, rfl⟩, h2, goes_wide _ _ _ h3⟩
theorem here_wide {b : Bk} {p : List Nat} {s : Tr} : ∀ f ∈ hereF (wideB b) p s, f ∈ hereF b p s := fun f hf => by
  unfold hereF at hf ⊢
  rw [wide_marks] at hf
  by_cases h1 : s.mark ∉ b.2.map (·.1)
  · rw [if_pos h1] at hf ⊢
    exact hf
  · rw [if_neg h1] at hf ⊢
    by_cases h2 : FitsAt b s
    · rw [if_pos (fits_wide h2)] at hf
      cases hf
    · rw [if_neg h2]
      split at hf
      · cases hf
      · exact hf
theorem all_wide {b : Bk} {t : Tr} : ∀ f ∈ allF (wideB b) t, f ∈ allF b t := fun f hf => by
  unfold allF at hf ⊢
  obtain ⟨q, h1, h2⟩ := List.mem_flatMap.mp hf
  refine List.mem_flatMap.mpr ⟨q, h1, ?_⟩
  unfold atF at h2 ⊢
  split at h2
  · rename_i s es
    rw [List.mem_append] at h2 ⊢
    exact h2.elim .inl fun h => .inr (here_wide f h)
  · cases h2
theorem wide_valid {b : Bk} (v : BkV b) : BkV (wideB b) where
  nd := by rw [wide_marks]; exact v.nd
  len := by
    have := v.len
    unfold wideB
    rw [List.length_map]
    exact this
  top := by rw [wide_marks]; exact v.top
  ok := by rw [wide_marks]; exact v.ok
  parts := fun r hr => by
    rw [wide_marks]
    obtain ⟨r0, h0, rfl⟩ := List.mem_map.mp hr
    have h := v.parts r0 h0
    refine ⟨by rw [List.length_map]; exact h.1, fun p hp => ?_⟩
    obtain ⟨p0, hp0, rfl⟩ := List.mem_map.mp hp
    have q := h.2 p0 hp0
    exact ⟨q.ne, q.few, q.inc, q.mem, by show (0 : Int) ≤ 0 ∧ (0 : Int) ≤ 2; omega, fun k e => by cases e⟩
end Pz

set_option maxHeartbeats 4000000
/-! Plain mathematics: a book with another top. -/
namespace Pz
open PySem PySem.Spec L2 PySem.W
theorem sub_nil (t : Tr) : subT t [] = some t := by unfold subT; rfl
theorem all_top (b : Bk) (t : Tr) : allF (t.mark, b.2) t = allH b t := by
  unfold allF allH
  congr 1
  funext q
  unfold atF atH
  cases e : subT t q with
  | none => rfl
  | some s =>
    have : rootF (t.mark, b.2) q s = [] := if_neg fun h => h.2 (by
      rw [h.1, sub_nil] at e
      cases e
      rfl)
    show rootF _ q s ++ hereF _ q s = hereF b q s
    rw [this]
    rfl
theorem top_valid {b : Bk} (v : BkV b) {m : Str} (h : m ∈ b.2.map (·.1)) : BkV (m, b.2) where
  nd := v.nd
  len := v.len
  top := h
  ok := v.ok
  parts := v.parts
/-- what stands at a place in faults says what the row there does -/
theorem row_fault {b : Bk} {t s : Tr} {p : List Nat} (e : subT t p = some s) (hm : s.mark ∈ b.2.map (·.1)) : (p, ("row" : Str)) ∈ allF b t ↔ ¬ FitsAt b s := by
  have hh : hereF b p s = hereF b p s := rfl
  constructor
  · intro h hf
    unfold allF at h
    obtain ⟨q, _, h2⟩ := List.mem_flatMap.mp h
    unfold atF at h2
    split at h2
    · rename_i s' es
      rcases List.mem_append.mp h2 with h2 | h2
      · exact absurd (root_is b q s' _ h2).2 (show ("row" : Str) ≠ "root" by decide)
      · have := (here_not b q s' _ h2).1
        rw [← this, e] at es
        cases es
        unfold hereF at h2
        rw [if_neg (fun h => h hm), if_pos hf] at h2
        cases h2
    · cases h2
  · intro hf
    unfold allF
    refine List.mem_flatMap.mpr ⟨p, (sub_place p t).mpr ⟨s, e⟩, ?_⟩
    unfold atF
    rw [e]
    refine List.mem_append_right _ ?_
    unfold hereF
    rw [if_neg (fun h => h hm), if_neg hf]
    exact List.mem_singleton.mpr rfl
end Pz

set_option maxHeartbeats 4000000
/-! Plain mathematics: drawn books are valid; lists of faults compared. -/
namespace Pz
open PySem PySem.Spec L2 PySem.W
theorem bookIs_vT {b : Bk} (h : BookIs b) : BkV b := by
  obtain ⟨h1, h2, h3, h4, h5⟩ := h
  refine ⟨h1, ⟨h2, by omega⟩, h4, fun m hm => ?_, fun r hr => ?_⟩
  · obtain ⟨r, hr, rfl⟩ := List.mem_map.mp hm
    exact okM_four _ (h5 r hr).1
  · obtain ⟨_, f, k⟩ := h5 r hr
    exact ⟨f, fun p hp => let q := k p hp; ⟨q.ne, by have := q.few; omega, q.inc, q.mem, q.lo, fun j e => by have := q.hi j e; omega⟩⟩
theorem pur_eF (f : List Nat × Str) : purD (eF f) = true := by
  show purAll [eN f.1, .str f.2] = true
  rw [purAll, pur_eN]
  rfl
theorem eF_inj {f g : List Nat × Str} (h : eF f = eF g) : f = g := by
  obtain ⟨p, k⟩ := f
  obtain ⟨q, l⟩ := g
  injection h with h
  injection h with h1 h2
  injection h2 with h2 _
  injection h2 with h2
  have e1 : p = q := eN_inj h1
  have e2 : k = l := h2
  rw [e1, e2]
theorem depth_eF (f : List Nat × Str) : (eF f).depth ≤ 2 := by
  have := depth_eN f.1
  show PyData.depthAll [eN f.1, .str f.2] + 1 ≤ 2
  simp [PyData.depthAll, PyData.depth] at *
  omega
theorem in_faults (f : List Nat × Str) (fs : List (List Nat × Str)) : dInB (eF f) (.list (fs.map eF)) = some (decide (f ∈ fs)) := by
  show (if _ then _ else _) = _
  rw [if_pos (by
    rw [plain_eF, plainAll_map _ plain_eF]
    have := depth_eF f
    simp
    omega)]
  congr 1
  rw [Bool.eq_iff_iff, decide_eq_true_eq, List.any_eq_true]
  constructor
  · rintro ⟨d, hd, he⟩
    obtain ⟨q, hq, rfl⟩ := List.mem_map.mp hd
    rw [← eF_inj (eqv_eq _ _ (pur_eF q) (pur_eF f) he)]
    exact hq
  · intro h
    exact ⟨eF f, List.mem_map.mpr ⟨f, h, rfl⟩, PySem.SeqAt.eqv_refl_plain _ (plain_eF f)⟩
end Pz

set_option maxHeartbeats 4000000
/-! Plain mathematics: a tree put at a place stays small. -/
namespace Pz
open PySem PySem.Spec L2 PySem.W
theorem put_in {P : Str → Prop} {w : Nat} {u : Tr} : ∀ (p : List Nat) (n m : Nat) (t s : Tr), TrIn P w n t → subT t p = some s → TrIn P w m u → m + p.length ≤ n → TrIn P w n (putT t p u)
  | [], n, m, t, s, h, e, hu, l => by
    unfold putT
    exact hu.mono (fun _ q => q) (Nat.le_refl _) (by rw [List.length_nil] at l; omega)
  | i :: p, 0, m, t, s, h, e, hu, l => h.elim
  | i :: p, n + 1, m, t, s, ⟨h1, few, kids⟩, e, hu, l => by
    obtain ⟨c, e1, e2⟩ := sub_cons e
    have ih := put_in p n m c s (kids c (List.mem_of_getElem? e1)) e2 hu (by rw [List.length_cons] at l; omega)
    have hi := (List.getElem?_eq_some_iff.mp e1).1
    rw [putT, e1]
    refine ⟨h1, ?_, fun x hx => ?_⟩
    · show (t.kids.take i ++ [putT c p u] ++ t.kids.drop (i + 1)).length ≤ w
      rw [List.length_append, List.length_append, List.length_take, List.length_drop, List.length_singleton]
      omega
    · have hx : x ∈ t.kids.take i ++ [putT c p u] ++ t.kids.drop (i + 1) := hx
      rcases List.mem_append.mp hx with hx | hx
      · rcases List.mem_append.mp hx with hx | hx
        · exact kids x (List.mem_of_mem_take hx)
        · rw [List.mem_singleton] at hx
          exact hx ▸ ih
      · exact kids x (List.mem_of_mem_drop hx)
end Pz

set_option maxHeartbeats 4000000
/-! Plain mathematics: with_tree. -/
namespace Pz
open PySem PySem.Spec L2 PySem.W
end Pz

set_option maxHeartbeats 4000000
/-! Plain mathematics: how many places a small tree has. -/
namespace Pz
open PySem PySem.Spec L2 PySem.W
def sizeB (w : Nat) : Nat → Nat
  | 0 => 0
  | n + 1 => 1 + w * sizeB w n
theorem sizeTs_bound {k : Nat} : ∀ ts : List Tr, (∀ c ∈ ts, sizeT c ≤ k) → sizeTs ts ≤ ts.length * k
  | [], _ => by rw [sizeTs]; omega
  | t :: ts, h => by
    have h1 := h t List.mem_cons_self
    have h2 := sizeTs_bound ts fun c hc => h c (List.mem_cons_of_mem _ hc)
    rw [sizeTs, List.length_cons, Nat.succ_mul]
    omega
theorem size_bound {P : Str → Prop} {w : Nat} : ∀ (n : Nat) (t : Tr), TrIn P w n t → sizeT t ≤ sizeB w n
  | 0, t, h => h.elim
  | n + 1, t, ⟨_, few, kids⟩ => by
    have h1 := sizeTs_bound (k := sizeB w n) t.kids fun c hc => size_bound n c (kids c hc)
    have h2 := Nat.mul_le_mul_right (sizeB w n) few
    rw [size_kids, sizeB]
    omega
theorem size_45 : sizeB 4 5 = 341 := rfl
end Pz

set_option maxHeartbeats 4000000
/-! Plain mathematics: what a tree put at a place leaves as it was. -/
namespace Pz
open PySem PySem.Spec L2 PySem.W
theorem put_kids {t u c : Tr} {i : Nat} {p : List Nat} (h : t.kids[i]? = some c) : putT t (i :: p) u = .mk t.mark (t.kids.set i (putT c p u)) := by
  have hi := (List.getElem?_eq_some_iff.mp h).1
  rw [putT, h]
  show Tr.mk t.mark (t.kids.take i ++ [putT c p u] ++ t.kids.drop (i + 1)) = _
  rw [List.append_assoc, List.set_eq_take_append_cons_drop, if_pos hi]
  rfl
theorem put_mark {u c : Tr} {p : List Nat} (hp : p ≠ []) : (putT c p u).mark = c.mark := by
  cases p with
  | nil => exact absurd rfl hp
  | cons i p => rw [putT]; rfl
theorem map_set_same {α β : Type} (f : α → β) (x c : α) : ∀ (l : List α) (i : Nat), l[i]? = some c → f x = f c → (l.set i x).map f = l.map f
  | [], i, h, _ => by cases h
  | a :: l, 0, h, e => by
    cases h
    rw [List.set_cons_zero, List.map_cons, List.map_cons, e]
  | a :: l, i + 1, h, e => by
    rw [List.set_cons_succ, List.map_cons, List.map_cons, map_set_same f x c l i h e]
theorem put_sub {u : Tr} : ∀ (p : List Nat) (t s : Tr) (q : List Nat), subT t p = some s → q.take p.length ≠ p → q ≠ p.dropLast → ∀ s', subT (putT t p u) q = some s' → ∃ s0, subT t q = some s0 ∧ s'.mark = s0.mark ∧ rowOf s' = rowOf s0
  | [], t, s, q, _, h, _, _, _ => absurd rfl h
  | i :: p, t, s, q, e, h, hd, s', e' => by
    obtain ⟨c, h1, h2⟩ := sub_cons e
    rw [put_kids h1] at e'
    cases q with
    | nil =>
      have hp : p ≠ [] := fun z => hd (by rw [z]; rfl)
      rw [sub_nil] at e'
      cases e'
      refine ⟨t, sub_nil t, rfl, ?_⟩
      show (t.kids.set i (putT c p u)).map (·.mark) = t.kids.map (·.mark)
      exact map_set_same (·.mark) _ c t.kids i h1 (put_mark hp)
    | cons j q =>
      have hi := (List.getElem?_eq_some_iff.mp h1).1
      obtain ⟨d, k1, k2⟩ := sub_cons e'
      have k1 : (t.kids.set i (putT c p u))[j]? = some d := k1
      by_cases ij : i = j
      · subst ij
        rw [List.getElem?_set_self hi] at k1
        cases k1
        have hq : q.take p.length ≠ p := fun z => h (by rw [List.length_cons, List.take_succ_cons, z])
        have hd' : q ≠ p.dropLast := fun z => by
          cases p with
          | nil => exact hq rfl
          | cons k p => exact hd (by rw [z]; rfl)
        obtain ⟨s0, z1, z2, z3⟩ := put_sub p c s q h2 hq hd' s' k2
        exact ⟨s0, by rw [subT, h1]; exact z1, z2, z3⟩
      · rw [List.getElem?_set_ne ij] at k1
        exact ⟨s', by rw [subT, k1]; exact k2, rfl, rfl⟩
theorem atF_same {b : Bk} {t t' s s' : Tr} {q : List Nat} (e : subT t q = some s) (e' : subT t' q = some s') (hm : s'.mark = s.mark) (hr : rowOf s' = rowOf s) : atF b t' q = atF b t q := by
  have hf : FitsAt b s' ↔ FitsAt b s := by unfold FitsAt; rw [hm, hr]
  unfold atF
  rw [e, e']
  show rootF b q s' ++ hereF b q s' = rootF b q s ++ hereF b q s
  unfold rootF hereF
  rw [hm]
  congr 1
  by_cases k : FitsAt b s
  · rw [if_pos k, if_pos (hf.mpr k)]
  · rw [if_neg k, if_neg (fun z => k (hf.mp z))]
theorem atF_at {b : Bk} {t : Tr} {q : List Nat} : ∀ f ∈ atF b t q, f.1 = q := fun f hf => by
  unfold atF at hf
  split at hf
  · rcases List.mem_append.mp hf with h | h
    · exact (root_is b q _ f h).1
    · exact (here_not b q _ f h).1
  · cases hf
/-- a tree put at a place brings other faults there, and right above it alone -/
theorem allF_put {b : Bk} {t s u : Tr} {p : List Nat} (e : subT t p = some s) : ∀ f ∈ allF b (putT t p u), f.1.take p.length = p ∨ f ∈ allF b t ∨ f.1 = p.dropLast := fun f hf => by
  unfold allF at hf
  obtain ⟨q, h1, h2⟩ := List.mem_flatMap.mp hf
  have hq := atF_at f h2
  by_cases k1 : q.take p.length = p
  · exact .inl (by rw [hq]; exact k1)
  by_cases k2 : q = p.dropLast
  · exact .inr (.inr (by rw [hq]; exact k2))
  obtain ⟨s', e'⟩ := (sub_place q _).mp h1
  obtain ⟨s0, z1, z2, z3⟩ := put_sub p t s q e k1 k2 s' e'
  refine .inr (.inl ?_)
  unfold allF
  refine List.mem_flatMap.mpr ⟨q, (sub_place q t).mpr ⟨s0, z1⟩, ?_⟩
  rw [← atF_same z1 e' z2 z3]
  exact h2
/-! ### places compared, cut at their end -/
theorem cut_last {α : Type} (xs : List α) : cutD xs none (some (-1)) = xs.dropLast := by
  unfold cutD
  have h : HT.sIx xs.length xs.length (some (-1)) = xs.length - 1 := by
    unfold HT.sIx
    simp
    omega
  rw [h, HT.sIx_none, List.drop_zero, Nat.sub_zero, List.dropLast_eq_take]
theorem sl_last (p : List Nat) : dSl (eN p) none (some (-1)) = some (eN p.dropLast) := by
  show some (PyData.tuple (cutD _ none (some (-1)))) = _
  rw [cut_last, ← List.map_dropLast]
theorem sl_place (p : List Nat) (n : Nat) : dSl (eN p) none (some (n : Int)) = some (eN (p.take n)) := by
  show dSl (.tuple _) _ _ = _
  rw [sl_upto (by omega), Int.toNat_natCast, ← List.map_take]
theorem eq_place {s : Bool → Bool} (p q : List Nat) : eqG s (eN p) (eN q) = some (.bool (s (decide (p = q)))) := by
  rw [eqG_val (plain_eN p) (plain_eN q) (by have := depth_eN p; omega)]
  congr 3
  rw [Bool.eq_iff_iff, decide_eq_true_eq]
  constructor
  · intro h
    exact eN_inj (eqv_eq _ _ (pur_eN p) (pur_eN q) h)
  · intro h
    rw [h]
    exact PySem.SeqAt.eqv_refl_plain _ (plain_eN q)
theorem len_place (p : List Nat) : dLen (eN p) = some (.int (p.length : Nat)) := by
  show some (PyData.int _) = _
  rw [List.length_map]
theorem depth_le {k : Nat} {α : Type} (f : α → D) (h : ∀ x, (f x).depth ≤ k) (xs : List α) : PyData.depthAll (xs.map f) ≤ k := by
  induction xs with
  | nil => rw [List.map_nil, PyData.depthAll]; omega
  | cons x xs ih =>
    have := h x
    rw [List.map_cons, PyData.depthAll]
    omega
theorem depth_faults (fs : List (List Nat × Str)) : (PyData.list (fs.map eF)).depth ≤ 3 := by
  have := depth_le eF depth_eF fs
  rw [PyData.depth]
  omega
theorem plain_faults (fs : List (List Nat × Str)) : (PyData.list (fs.map eF)).plain = true := by
  rw [PyData.plain]
  exact plainAll_map _ plain_eF fs
theorem eq_faults {s : Bool → Bool} (fs : List (List Nat × Str)) : eqG s (.list (fs.map eF)) (.list (fs.map eF)) = some (.bool (s true)) := eq_self (plain_faults fs) (by have := depth_faults fs; omega)
end Pz

set_option maxHeartbeats 4000000
/-! Plain mathematics: the marks met below a mark. -/
namespace Pz
open PySem PySem.Spec L2 PySem.W
/-- x stands in a part of y's rule -/
def KidOf (b : Bk) (y x : Str) : Prop := ∃ r ∈ b.2, r.1 = y ∧ ∃ p ∈ r.2, x ∈ p.1
inductive BelowM (b : Bk) (m : Str) : Str → Prop
  | one {x : Str} : KidOf b m x → BelowM b m x
  | more {y x : Str} : BelowM b m y → KidOf b y x → BelowM b m x
theorem KidOf.mem {b : Bk} (v : BkV b) {y x : Str} (h : KidOf b y x) : x ∈ b.2.map (·.1) := by
  obtain ⟨r, hr, _, p, hp, hx⟩ := h
  exact ((v.parts r hr).2 p hp).mem x hx
theorem BelowM.mem {b : Bk} (v : BkV b) {m x : Str} (h : BelowM b m x) : x ∈ b.2.map (·.1) := by
  cases h with
  | one k => exact k.mem v
  | more _ k => exact k.mem v
theorem kid_at {b : Bk} (v : BkV b) {r : Rl} (hr : r ∈ b.2) (x : Str) : KidOf b r.1 x ↔ ∃ p ∈ r.2, x ∈ p.1 := by
  constructor
  · rintro ⟨r', h1, h2, h3⟩
    have e1 := filter_one v.nd h1
    have e2 := filter_one v.nd hr
    rw [h2] at e1
    rw [e1] at e2
    injection e2 with e2
    exact e2 ▸ h3
  · exact fun h => ⟨r, hr, rfl, h⟩
theorem inc_nodup {ms : List Str} (h : ms.Pairwise fun x y => strLt x y = true) : ms.Nodup := h.imp fun {a b} q e => by
  subst e
  have : sLe a a = true := by
    rcases sLe_total.total a a with h | h <;> exact h
  unfold sLe at this
  rw [q] at this
  cases this
def metE (b : Bk) (m : Str) (F L : List Str) (x y : Slot) : Env := [.dat (eB b), .dat (.str m), .own (F.map .str), .dat (.list (L.map .str)), x, y, .no]
def metI : Fs := sExt 4 (fLst (fComp (fIter (f2 dIx (fVar 5) (fC (.int 0)))) (tgN 6) (fAnd (fB (f2 dNotIn (fVar 6) (fOwn 2))) (fB (f2 dNotIn (fVar 6) (fOwn 4)))) (fVar 6) [6]))
def metC : Env → R Bool := fB (f2 dNe' (fVar 3) (fLst fNil))
theorem ix_natL {xs : List D} {i : Nat} {d : D} (h : xs[i]? = some d) : dIx (.list xs) (.int (i : Int)) = some d := atI_nat h
theorem notIn_strs (x : Str) (ys : List Str) : dNotIn (.str x) (.list (ys.map .str)) = some (.bool (!decide (x ∈ ys))) := by
  unfold dNotIn
  rw [in_strs]
  rfl
theorem sub_len : ∀ (F M : List Str), F.Nodup → (∀ x ∈ F, x ∈ M) → F.length ≤ M.length := fun F M nd h => by
  induction F generalizing M with
  | nil => exact Nat.zero_le _
  | cons x F ih =>
    rw [List.nodup_cons] at nd
    have hx := h x List.mem_cons_self
    have := ih (M.erase x) nd.2 fun y hy => (List.mem_erase_of_ne (fun (e : y = x) => nd.1 (by rw [← e]; exact hy))).mpr (h y (List.mem_cons_of_mem _ hy))
    rw [List.length_erase_of_mem hx] at this
    have h0 : 0 < M.length := List.length_pos_of_mem hx
    rw [List.length_cons]
    omega
theorem met_more (b : Bk) (v : BkV b) (m : Str) (F L : List Str) {r : Rl} (hr : r ∈ b.2) (hL : L.head? = some r.1) (lF : F.length ≤ 100) : ∃ M : List Str, forF (tgN 5) metI [5] (r.2.map eP) (metE b m F L (.own []) .no) = .nx (metE b m F L (.own (M.map .str)) .no) ∧ M.Nodup ∧ (∀ x, x ∈ M ↔ x ∉ F ∧ ∃ p ∈ r.2, x ∈ p.1) := by
  obtain ⟨M, h1, h2, h3, h4⟩ := for_ex (t := tgN 5) (F := metI) (is := [5]) eP (fun M : List Str => metE b m F L (.own (M.map .str)) .no) (fun dn M => M.Nodup ∧ (∀ x, x ∈ M ↔ x ∉ F ∧ ∃ p ∈ dn, x ∈ p.1) ∧ M.length ≤ 3 * dn.length) r.2 r.2 [] [] rfl ⟨List.nodup_nil, fun x => by simp, by simp⟩ fun dn p rest M ex ⟨nd, mem, len⟩ => by
    have hp := mem_mid ex
    have hle := len_mid ex
    have l3 := (v.parts r hr).1
    have pv := (v.parts r hr).2 p hp
    have pf := pv.few
    have ix0 : dIx (eP p) (.int 0) = some (.tuple (p.1.map .str)) := rfl
    refine ⟨metE b m F L (.own (M.map .str)) (.dat (eP p)), rfl, ?_⟩
    have hc : fComp (fIter (f2 dIx (fVar 5) (fC (.int 0)))) (tgN 6) (fAnd (fB (f2 dNotIn (fVar 6) (fOwn 2))) (fB (f2 dNotIn (fVar 6) (fOwn 4)))) (fVar 6) [6] (metE b m F L (.own (M.map .str)) (.dat (eP p))) = .ok ((p.1.filter fun x => decide (x ∉ F ∧ x ∉ M)).map .str) := by
      refine comp_of p.1 (fun x => PyData.str x) (fun x => decide (x ∉ F ∧ x ∉ M)) (fun x => .str x) ?_ (by omega) fun x hx => ⟨[.dat (eB b), .dat (.str m), .own (F.map .str), .dat (.list (L.map .str)), .own (M.map .str), .dat (eP p), .dat (.str x)], rfl, ?_, fun _ => rfl⟩
      · simp [metE, ix0, dIter]
      · have n1 := notIn_strs x F
        have n2 := notIn_strs x M
        by_cases k1 : x ∈ F
        · simp [n1, k1]
        · by_cases k2 : x ∈ M <;> simp [n1, n2, k1, k2]
    refine nx_in (ext_go (ds := M.map .str) _ rfl (by rw [u_fLst, hc]; rfl) ?_) ⟨M ++ p.1.filter fun x => decide (x ∉ F ∧ x ∉ M), ?_, ?_, ?_, ?_⟩
    · have := List.length_filter_le (fun x => decide (x ∉ F ∧ x ∉ M)) p.1
      rw [List.length_map, List.length_map]
      omega
    · simp [metE]
    · refine List.nodup_append.mpr ⟨nd, (inc_nodup pv.inc).sublist List.filter_sublist, fun a ha c hc e => ?_⟩
      rw [List.mem_filter, decide_eq_true_eq] at hc
      exact hc.2.2 (e ▸ ha)
    · intro x
      rw [List.mem_append, mem, List.mem_filter, decide_eq_true_eq]
      constructor
      · rintro (⟨a, q, h1, h2⟩ | ⟨a, c, _⟩)
        · exact ⟨a, q, List.mem_append_left _ h1, h2⟩
        · exact ⟨c, p, by simp, a⟩
      · rintro ⟨a, q, h1, h2⟩
        rcases List.mem_append.mp h1 with h1 | h1
        · exact .inl ⟨a, q, h1, h2⟩
        · rw [List.mem_singleton] at h1
          subst h1
          by_cases k : x ∈ M
          · exact .inl ((mem x).mp k)
          · exact .inr ⟨h2, a, k⟩
    · have := List.length_filter_le (fun x => decide (x ∉ F ∧ x ∉ M)) p.1
      rw [List.length_append, List.length_append, List.length_singleton]
      omega
  exact ⟨M, h1, h2, h3⟩
structure MetI (b : Bk) (m : Str) (F L : List Str) : Prop where
  nd : F.Nodup
  bel : ∀ x ∈ F, BelowM b m x
  don : ∀ y, (y = m ∨ y ∈ F) → y ∈ L ∨ ∀ x, KidOf b y x → x ∈ F
  lef : ∀ y ∈ L, y = m ∨ y ∈ F
  len : L.length ≤ F.length + 1
end Pz

set_option maxHeartbeats 4000000
/-! The statements of mirrors as words of their own. -/
namespace Pz
open PySem PySem.Spec L2
def LA_0 : Fs :=
  (sAsg (fCall m_law_book (fCons (fVar 0) (fCons (fC (.int 0)) fNil))) (tgN 1))
def LA_1 : Fs :=
  (sFrzA 4 (sOwn 4 (fComp (fIter (f2 dIx (fVar 1) (fC (.int 1)))) (tgTup (tgCons (tgN 2) (tgCons (tgN 3) tgNil))) cYes (fVar 2) [2, 3])))
def LA_2 : Fs :=
  (sAsg (fCall (mR_law_spoilt 20) (fCons (fVar 0) (fCons (fC (.int 5000)) (fCons (fCall (mR_law_tree 20) (fCons (fVar 0) (fCons (fC (.int 200)) (fCons (fVar 1) (fCons (f2 dIx (fVar 1) (fC (.int 0))) (fCons (fC (.int 2)) fNil)))))) fNil)))) (tgN 5))
def LA_3 : Fs :=
  (sAsg (fCall m_law_drawn (fCons (fVar 0) (fCons (fC (.int 190)) (fCons (f1 dLen (fVar 4)) fNil)))) (tgN 6))
def LA_4 : Fs :=
  (sAsg (f2 dIx (fTup (fCons (f2 dAdd (fSl (fVar 4) (fSo (fVar 6)) fNo) (fSl (fVar 4) fNo (fSo (fVar 6)))) (fCons (fSl (fLst (fCons (fC (.str "zb")) (fCons (fC (.str "q")) (fCons (fC (.str "e")) (fCons (fC (.str "ab")) fNil))))) fNo (fSo (f1 dLen (fVar 4)))) fNil))) (fCall m_law_drawn (fCons (fVar 0) (fCons (fC (.int 191)) (fCons (fC (.int 2)) fNil))))) (tgN 7))
def LA_5 : Fs :=
  (sAsg (fIf (fB (f2 dIn (f2 dIx (fVar 7) (fC (.int 0))) (fVar 4))) (f1 dLen (fVar 4)) (fCall m_law_drawn (fCons (fVar 0) (fCons (fC (.int 192)) (fCons (f2 dAdd (f1 dLen (fVar 4)) (fC (.int 1))) fNil))))) (tgN 8))
def LA_6 : Fs :=
  (sAsg (fSl (fTupZip (fVar 4) (fVar 7)) fNo (fSo (fVar 8))) (tgN 9))
def LA_7 : Fs :=
  (sOwn 10 fNil)
def LB_8 : Fs :=
  (sSeq (sFrzA 11 (sOwn 11 (fComp (fIter (fVar 3)) (tgN 18) cYes (f2 dAdd (fTup (fCons (f1 dTuple (fLst (fN1 dSort (fLst (fComp (fIter (f2 dIx (fVar 18) (fC (.int 0)))) (tgN 17) cYes (fCall m_law_new (fCons (fVar 9) (fCons (fVar 17) fNil))) [17]))))) fNil)) (fSl (fVar 18) (fSo (fC (.int 1))) fNo)) [18])))
    (sApp 10 (fTup (fCons (fCall m_law_new (fCons (fVar 9) (fCons (fVar 2) fNil))) (fCons (f1 dTuple (fVar 11)) fNil)))))
def LA_8 : Fs :=
  (sFor (fIter (f2 dIx (fVar 1) (fC (.int 1)))) (tgTup (tgCons (tgN 2) (tgCons (tgN 3) tgNil))) LB_8 [2, 3, 11])
def LA_9 : Fs :=
  (sIf (fB (f2 dNe' (fCall m_law_told (fCons (fC (.int 0)) (fCons (fVar 1) (fCons (fVar 9) fNil)))) (fTup (fCons (fCall m_law_new (fCons (fVar 9) (fCons (f2 dIx (fVar 1) (fC (.int 0))) fNil))) (fCons (f1 dTuple (fOwn 10)) fNil))))) (sRet (fC (.bool false))) sSkip)
def LA_10 : Fs :=
  (sIf (fOr (fB (f2 dNe' (fCall m_law_told (fCons (fC (.int 1)) (fCons (fVar 5) (fCons (fVar 9) fNil)))) (fCall (mR_law_new_tree 20) (fCons (fVar 9) (fCons (fVar 5) fNil))))) (fB (f2 dEq' (fCall m_law_told (fCons (fC (.int 1)) (fCons (fVar 5) (fCons (fTup (fCons (fTup (fCons (fC (.str "zz")) (fCons (fC (.str "y")) fNil))) fNil)) fNil)))) (fTup (fCons (fC (.str "refused")) (fCons (fC (.int 2)) fNil)))))) (sRet (fC (.bool false))) sSkip)
def LA_11 : Fs :=
  (sAsg (fLst (fCons (fC .none) (fCons (fLst fNil) (fCons (fTup (fCons (fTup (fCons (fC (.str "a")) fNil)) fNil)) (fCons (fTup (fCons (fTup (fCons (fC (.str "a")) (fCons (fC (.str "A")) fNil))) fNil)) (fCons (fTup (fCons (fTup (fCons (fC (.str "a")) (fCons (fC (.str "b")) (fCons (fC (.str "c")) fNil)))) fNil)) (fCons (fTup (fCons (fTup (fCons (fC (.str "e")) (fCons (fC (.str "x")) fNil))) (fCons (fTup (fCons (fC (.str "e")) (fCons (fC (.str "y")) fNil))) fNil))) (fCons (fTup (fCons (fTup (fCons (fC (.str "e")) (fCons (fC (.str "x")) fNil))) (fCons (fTup (fCons (fC (.str "f")) (fCons (fC (.str "x")) fNil))) fNil))) fNil)))))))) (tgN 12))
def LA_12 : Fs :=
  (sAsg (f2 dAdd (fVar 12) (fLst (fCons (f1 dTuple (fLst (fComp (fIter (fC (.str "efghij"))) (tgN 17) cYes (fTup (fCons (fVar 17) (fCons (fVar 17) fNil))) [17]))) (fCons (fTup (fCons (fC (.str "ab")) fNil)) (fCons (fTup (fCons (fTup (fCons (f2 dIx (fVar 4) (fC (.int 0))) (fCons (fC .none) fNil))) fNil)) (fCons (fTup (fCons (fTup (fCons (f2 dIx (fVar 4) (fC (.int 0))) (fCons (fC (.str "abc")) fNil))) fNil)) fNil)))))) (tgN 12))
def LB_13 : Fs :=
  (sSeq (sIf (fB (f2 dNe' (fLst (fComp (fIter (fVar 12)) (tgN 16) (fB (f2 dNe' (fCall m_law_told (fCons (fVar 13) (fCons (fVar 14) (fCons (fVar 16) fNil)))) (fTup (fCons (fC (.str "refused")) (fCons (fC (.int 2)) fNil))))) (fVar 16) [16])) (fLst fNil))) (sRet (fC (.bool false))) sSkip)
    (sIf (fOr (fB (f2 dNe' (fCall m_law_told (fCons (fVar 13) (fCons (fC .none) (fCons (fC .none) fNil)))) (fTup (fCons (fC (.str "refused")) (fCons (fVar 13) fNil))))) (fB (f2 dNe' (fCall m_law_told (fCons (fVar 13) (fCons (fSl (fVar 14) fNo (fSo (fC (.int 1)))) (fCons (fVar 9) fNil)))) (fTup (fCons (fC (.str "refused")) (fCons (fVar 13) fNil)))))) (sRet (fC (.bool false))) sSkip))
def LA_13 : Fs :=
  (sFor (fEnum (fTup (fCons (fVar 1) (fCons (fVar 5) fNil)))) (tgTup (tgCons (tgN 13) (tgCons (tgN 14) tgNil))) LB_13 [13, 14])
def LA_14 : Fs :=
  (sAsg (fLst (fCons (fTup (fCons (fTup (fCons (fC (.str "zz")) (fCons (fC (.str "y")) fNil))) fNil)) (fCons (fIf (fB (f2 dGt (f1 dLen (fVar 4)) (fC (.int 1)))) (fTup (fCons (fTup (fCons (f2 dIx (fVar 4) (fC (.int 0))) (fCons (f2 dIx (fVar 4) (f1 dNeg (fC (.int 1)))) fNil))) fNil)) (fTup (fCons (fTup (fCons (fC (.str "y")) (fCons (fC (.str "x")) fNil))) fNil))) fNil))) (tgN 15))
def LA_15 : Fs :=
  (sRet (fAndV (f2 dEq' (fLst (fComp (fIter (fVar 15)) (tgN 17) cYes (fCall m_law_told (fCons (fC (.int 0)) (fCons (fVar 1) (fCons (fVar 17) fNil)))) [17])) (f2 dMul (fLst (fCons (fTup (fCons (fC (.str "refused")) (fCons (fC (.int 2)) fNil))) fNil)) (fC (.int 2)))) (f2 dEq' (fCall m_law_told (fCons (fC (.int 0)) (fCons (fVar 1) (fCons (fTup fNil) fNil)))) (fVar 1))))
def LT_15 : Fs := LA_15
def LT_14 : Fs := sSeq LA_14 LT_15
def LT_13 : Fs := sSeq LA_13 LT_14
def LT_12 : Fs := sSeq LA_12 LT_13
def LT_11 : Fs := sSeq LA_11 LT_12
def LT_10 : Fs := sSeq LA_10 LT_11
def LT_9 : Fs := sSeq LA_9 LT_10
def LT_8 : Fs := sSeq LA_8 LT_9
def LT_7 : Fs := sSeq LA_7 LT_8
def LT_6 : Fs := sSeq LA_6 LT_7
def LT_5 : Fs := sSeq LA_5 LT_6
def LT_4 : Fs := sSeq LA_4 LT_5
def LT_3 : Fs := sSeq LA_3 LT_4
def LT_2 : Fs := sSeq LA_2 LT_3
def LT_1 : Fs := sSeq LA_1 LT_2
def LT_0 : Fs := sSeq LA_0 LT_1
theorem un_law : F_law = LT_0 := rfl
def LA_renamed_0 : Fs :=
  (sDo (fCall m_need_book (fCons (fVar 0) fNil)))
def LA_renamed_1 : Fs :=
  (sDo (fCall m_need_pairs (fCons (fVar 1) fNil)))
def LA_renamed_2 : Fs :=
  (sAsg (f1 dDict (fVar 1)) (tgN 2))
def LB_renamed_3 : Fs :=
  (sIf (fOr (fNot (fB (fCall m_has_mark (fCons (fVar 0) (fCons (fVar 3) fNil))))) (fAnd (fB (fCall m_has_mark (fCons (fVar 0) (fCons (fVar 4) fNil)))) (fB (f2 dNotIn (fVar 4) (fVar 2))))) (sRaise "NoPairs") sSkip)
def LA_renamed_3 : Fs :=
  (sFor (fIter (fVar 1)) (tgTup (tgCons (tgN 3) (tgCons (tgN 4) tgNil))) LB_renamed_3 [3, 4])
def LA_renamed_4 : Fs :=
  (sOwn 5 fNil)
def LB_renamed_5 : Fs :=
  (sApp 5 (fTup (fCons (fGet2 (fVar 2) (fVar 6) (fVar 6)) (fCons (f1 dTuple (fLst (fComp (fIter (fVar 7)) (tgN 8) cYes (fCall m_part_with (fCons (fVar 8) (fCons (fVar 2) fNil))) [8]))) fNil))))
def LA_renamed_5 : Fs :=
  (sFor (fIter (f2 dIx (fVar 0) (fC (.int 1)))) (tgTup (tgCons (tgN 6) (tgCons (tgN 7) tgNil))) LB_renamed_5 [6, 7])
def LA_renamed_6 : Fs :=
  (sRet (fTup (fCons (fGet2 (fVar 2) (f2 dIx (fVar 0) (fC (.int 0))) (f2 dIx (fVar 0) (fC (.int 0)))) (fCons (f1 dTuple (fOwn 5)) fNil))))
def LT_renamed_6 : Fs := LA_renamed_6
def LT_renamed_5 : Fs := sSeq LA_renamed_5 LT_renamed_6
def LT_renamed_4 : Fs := sSeq LA_renamed_4 LT_renamed_5
def LT_renamed_3 : Fs := sSeq LA_renamed_3 LT_renamed_4
def LT_renamed_2 : Fs := sSeq LA_renamed_2 LT_renamed_3
def LT_renamed_1 : Fs := sSeq LA_renamed_1 LT_renamed_2
def LT_renamed_0 : Fs := sSeq LA_renamed_0 LT_renamed_1
theorem un_renamed : F_renamed = LT_renamed_0 := rfl
def LA_need_pairs_0 : Fs :=
  (sIf (fOr (fNot (fB (f1 (dIsi "tuple") (fVar 0)))) (fOr (fB (f2 dGt (f1 dLen (fVar 0)) (fC (.int 5)))) (fNot (fB (f1 dAll (fLst (fComp (fIter (fVar 0)) (tgN 2) cYes (fCall m_is_pair (fCons (fVar 2) fNil)) [2]))))))) (sRaise "NoPairs") sSkip)
def LB_need_pairs_1 : Fs :=
  (sIf (fB (f2 dNe' (f1 dLenSet (fLst (fComp (fIter (fVar 0)) (tgN 2) cYes (f2 dIx (fVar 2) (fVar 1)) [2]))) (f1 dLen (fVar 0)))) (sRaise "NoPairs") sSkip)
def LA_need_pairs_1 : Fs :=
  (sFor (fIter (fTup (fCons (fC (.int 0)) (fCons (fC (.int 1)) fNil)))) (tgN 1) LB_need_pairs_1 [1])
def LT_need_pairs_1 : Fs := LA_need_pairs_1
def LT_need_pairs_0 : Fs := sSeq LA_need_pairs_0 LT_need_pairs_1
theorem un_need_pairs : F_need_pairs = LT_need_pairs_0 := rfl
def LA_is_pair_0 : Fs :=
    (sRet (fAndV (f1 (dIsi "tuple") (fVar 0)) (fAndV (f2 dEq' (f1 dLen (fVar 0)) (fC (.int 2))) (f1 dAll (fLst (fComp (fIter (fVar 0)) (tgN 1) cYes (fCall m_is_mark (fCons (fVar 1) fNil)) [1]))))))
def LT_is_pair_0 : Fs := LA_is_pair_0
theorem un_is_pair : F_is_pair = LT_is_pair_0 := rfl
def LA_part_with_0 : Fs :=
    (sRet (f2 dAdd (fTup (fCons (f1 dTuple (fLst (fN1 dSort (fLst (fComp (fIter (f2 dIx (fVar 0) (fC (.int 0)))) (tgN 2) cYes (fGet2 (fVar 1) (fVar 2) (fVar 2)) [2]))))) fNil)) (fSl (fVar 0) (fSo (fC (.int 1))) fNo)))
def LT_part_with_0 : Fs := LA_part_with_0
theorem un_part_with : F_part_with = LT_part_with_0 := rfl
def LA_tree_with_0 (rec : Mf) : Fs :=
    (sRet (fTup (fCons (fGet2 (fVar 1) (f2 dIx (fVar 0) (fC (.int 0))) (f2 dIx (fVar 0) (fC (.int 0)))) (fCons (f1 dTuple (fLst (fComp (fIter (f2 dIx (fVar 0) (fC (.int 1)))) (tgN 2) cYes (fCall rec (fCons (fVar 2) (fCons (fVar 1) fNil))) [2]))) fNil))))
def LT_tree_with_0 (rec : Mf) : Fs := (LA_tree_with_0 rec)
theorem un_tree_with (rec : Mf) : F_tree_with rec = LT_tree_with_0 rec := rfl
def LA_tree_renamed_0 : Fs :=
  (sDo (fCall m_need_tree (fCons (fVar 0) fNil)))
def LA_tree_renamed_1 : Fs :=
  (sDo (fCall m_need_pairs (fCons (fVar 1) fNil)))
def LA_tree_renamed_2 : Fs :=
  (sRet (fCall (mR_tree_with 20) (fCons (fVar 0) (fCons (f1 dDict (fVar 1)) fNil))))
def LT_tree_renamed_2 : Fs := LA_tree_renamed_2
def LT_tree_renamed_1 : Fs := sSeq LA_tree_renamed_1 LT_tree_renamed_2
def LT_tree_renamed_0 : Fs := sSeq LA_tree_renamed_0 LT_tree_renamed_1
theorem un_tree_renamed : F_tree_renamed = LT_tree_renamed_0 := rfl
def LA_law_told_0 : Fs :=
    (sTry 3 (sRet (fIf (fB (f2 dEq' (fVar 0) (fC (.int 0)))) (fCall m_renamed (fCons (fVar 1) (fCons (fVar 2) fNil))) (fCall m_tree_renamed (fCons (fVar 1) (fCons (fVar 2) fNil))))) rf_law_refused)
def LT_law_told_0 : Fs := LA_law_told_0
theorem un_law_told : F_law_told = LT_law_told_0 := rfl
def LA_law_new_0 : Fs :=
  (sFrzA 2 (sOwn 2 (fComp (fIter (fVar 0)) (tgTup (tgCons (tgN 4) (tgCons (tgN 3) tgNil))) (fB (f2 dEq' (fVar 4) (fVar 1))) (fVar 3) [4, 3])))
def LA_law_new_1 : Fs :=
  (sRet (fIf (fB (f2 dNe' (fVar 2) (fLst fNil))) (f2 dIx (fVar 2) (fC (.int 0))) (fVar 1)))
def LT_law_new_1 : Fs := LA_law_new_1
def LT_law_new_0 : Fs := sSeq LA_law_new_0 LT_law_new_1
theorem un_law_new : F_law_new = LT_law_new_0 := rfl
def LA_law_new_tree_0 (rec : Mf) : Fs :=
    (sRet (fTup (fCons (fCall m_law_new (fCons (fVar 0) (fCons (f2 dIx (fVar 1) (fC (.int 0))) fNil))) (fCons (f1 dTuple (fLst (fComp (fIter (f2 dIx (fVar 1) (fC (.int 1)))) (tgN 2) cYes (fCall rec (fCons (fVar 0) (fCons (fVar 2) fNil))) [2]))) fNil))))
def LT_law_new_tree_0 (rec : Mf) : Fs := (LA_law_new_tree_0 rec)
theorem un_law_new_tree (rec : Mf) : F_law_new_tree rec = LT_law_new_tree_0 rec := rfl
end Pz

set_option maxHeartbeats 4000000
/-! law_k85: other marks, plainly. -/
namespace Pz
open PySem PySem.Spec L2 PySem.W
abbrev Pr := Str × Str
def eQ (p : Pr) : D := .tuple [.str p.1, .str p.2]
/-- what becomes of a mark -/
def nwP (ps : List Pr) (m : Str) : Str := ((ps.find? fun p => decide (p.1 = m)).map (·.2)).getD m
def nwPt (ps : List Pr) (p : Pt) : Pt := (sortS (p.1.map (nwP ps)), p.2.1, p.2.2)
def nwR (ps : List Pr) (r : Rl) : Rl := (nwP ps r.1, r.2.map (nwPt ps))
def nwB (ps : List Pr) (b : Bk) : Bk := (nwP ps b.1, b.2.map (nwR ps))
mutual
def nwT (ps : List Pr) : Tr → Tr
  | .mk m cs => .mk (nwP ps m) (nwTs ps cs)
def nwTs (ps : List Pr) : List Tr → List Tr
  | [] => []
  | t :: ts => nwT ps t :: nwTs ps ts
end
theorem nwTs_map (ps : List Pr) : ∀ ts : List Tr, nwTs ps ts = ts.map (nwT ps)
  | [] => by rw [nwTs]; rfl
  | t :: ts => by rw [nwTs, nwTs_map ps ts]; rfl
theorem eT_nw (ps : List Pr) (t : Tr) : eT (nwT ps t) = .tuple [.str (nwP ps t.mark), .tuple (t.kids.map fun c => eT (nwT ps c))] := by
  cases t with
  | mk m cs =>
    rw [nwT, eT_mk]
    show PyData.tuple [.str (nwP ps m), .tuple ((nwTs ps cs).map eT)] = _
    rw [nwTs_map, List.map_map]
    rfl
def prsD (ps : List Pr) : List (D × D) := ps.map fun p => (.str p.1, .str p.2)
theorem plain_eQ (p : Pr) : (eQ p).plain = true := rfl
theorem pairs_prs (ps : List Pr) : pairsKV (ps.map eQ) = some (ps.map fun p => (Sum.inr p.1, .str p.2)) := by
  induction ps with
  | nil => rfl
  | cons r ps ih =>
    rw [List.map_cons, pairsKV, ih]
    rfl
theorem dict_prs {ps : List Pr} (nd : (ps.map (·.1)).Nodup) (few : ps.length ≤ 1000) : dDict (.tuple (ps.map eQ)) = some (.dict (prsD ps)) := by
  unfold dDict
  simp only [pairs_prs, Option.bind_some]
  rw [if_pos (by rw [List.length_map]; omega), merge_new _ _ (fun kv _ p hp => by cases hp)]
  · rw [List.nil_append, List.map_map]
    rfl
  · rw [List.map_map]
    have : (ps.map fun r => (Sum.inr r.1 : Key)) = (ps.map (·.1)).map Sum.inr := by rw [List.map_map]; rfl
    show (ps.map fun r => (Sum.inr r.1 : Key)).Nodup
    rw [this]
    exact List.Pairwise.map _ (fun a b h q => h (Sum.inr.inj q)) nd
theorem asDic_prs (ps : List Pr) : asDic (.dict (prsD ps)) = some (prsD ps) := by
  cases ps with
  | nil => rfl
  | cons p ps => rfl
theorem look_prs (ps : List Pr) (m : Str) : (lookD (prsD ps) (.inr m)).getD (.str m) = .str (nwP ps m) := by
  unfold lookD nwP prsD
  rw [List.find?_map]
  have e : ((fun p : D × D => keyIsD p.1 (Sum.inr m)) ∘ fun p : Pr => (PyData.str p.1, PyData.str p.2)) = fun p : Pr => decide (p.1 = m) := rfl
  rw [e]
  cases ps.find? fun p => decide (p.1 = m) with
  | none => rfl
  | some p => rfl
theorem get_go (ps : List Pr) {fa fb fc : Fx} {ρ : Env} {m : Str} (ha : fa ρ = .ok (.dict (prsD ps))) (hb : fb ρ = .ok (.str m)) (hc : fc ρ = .ok (.str m)) : fGet2 fa fb fc ρ = .ok (.str (nwP ps m)) := by
  unfold fGet2
  rw [ha, R.bind_ok, asDic_prs, hb, hc]
  show ofO (some ((lookD (prsD ps) (.inr m)).getD (.str m))) = _
  rw [look_prs]
  rfl
theorem lawNew_ok (ps : List Pr) (few : ps.length ≤ 1000) (m : Str) : m_law_new [.tuple (ps.map eQ), .str m] = .ok (.str (nwP ps m)) := by
  have hc : fComp (fIter (fVar 0)) (tgTup (tgCons (tgN 4) (tgCons (tgN 3) tgNil))) (fB (f2 dEq' (fVar 4) (fVar 1))) (fVar 3) [4, 3] [.dat (.tuple (ps.map eQ)), .dat (.str m), .no, .no, .no] = .ok ((ps.filter fun p => decide (p.1 = m)).map fun p => .str p.2) := by
    refine comp_of ps eQ (fun p => decide (p.1 = m)) (fun p => .str p.2) (by simp [dIter]) (by omega) fun p hp => ⟨[.dat (.tuple (ps.map eQ)), .dat (.str m), .no, .dat (.str p.2), .dat (.str p.1)], rfl, ?_, fun _ => rfl⟩
    have e : eqG id (.str p.1) (.str m) = some (.bool (decide (p.1 = m))) := eq_str _ _
    simp [e]
  have hn : nwP ps m = (((ps.filter fun p => decide (p.1 = m)).map (·.2))[0]?).getD m := by
    unfold nwP
    rw [List.getElem?_map, ← List.head?_eq_getElem?, List.head?_filter]
  show runF F_law_new 5 _ = _
  rw [un_law_new]
  generalize hF : (ps.filter fun p => decide (p.1 = m)) = F at hc hn
  have ne : eqG not (.list (F.map fun p => PyData.str p.2)) (.list []) = some (.bool (! F.isEmpty)) := by
    have := eq_nil_plain (s := not) (xs := F.map fun p => PyData.str p.2) (plainAll_map _ (fun _ => rfl) F)
    rw [this, List.isEmpty_map]
  rw [hn]
  cases F with
  | nil =>
    have ne : eqG not (.list []) (.list []) = some (.bool false) := rfl
    simp [LT_law_new_0, LA_law_new_0, LT_law_new_1, LA_law_new_1, hc, ne]
  | cons p F =>
    have ix : dIx (.list (PyData.str p.2 :: F.map fun p => PyData.str p.2)) (.int 0) = some (.str p.2) := by
      show atI _ 0 = _
      have z : ixN (PyData.str p.2 :: F.map fun p => PyData.str p.2).length 0 = some 0 := by
        unfold ixN
        rw [if_pos (by omega), if_pos (by rw [List.length_cons]; omega)]
        rfl
      unfold atI
      rw [z]
      rfl
    rw [List.map_cons] at ne
    simp [LT_law_new_0, LA_law_new_0, LT_law_new_1, LA_law_new_1, hc, ne, ix]
theorem lawNewT_ok {P : Str → Prop} (ps : List Pr) (few : ps.length ≤ 1000) : ∀ (n f : Nat) (t : Tr), n ≤ f → TrIn P 40 n t → mR_law_new_tree f [.tuple (ps.map eQ), eT t] = .ok (eT (nwT ps t))
  | 0, _, _, _, h => h.elim
  | n + 1, 0, _, hf, _ => absurd hf (by omega)
  | n + 1, f + 1, t, hf, ⟨_, fw, kids⟩ => by
    have ix0 : dIx (eT t) (.int 0) = some (.str t.mark) := by rw [eT_mk]; rfl
    have ix1 : dIx (eT t) (.int 1) = some (.tuple (t.kids.map eT)) := by rw [eT_mk]; rfl
    have hc : fComp (fIter (f2 dIx (fVar 1) (fC (.int 1)))) (tgN 2) cYes (fCall (mR_law_new_tree f) (fCons (fVar 0) (fCons (fVar 2) fNil))) [2] [.dat (.tuple (ps.map eQ)), .dat (eT t), .no] = .ok (t.kids.map fun c => eT (nwT ps c)) := by
      refine comp_all t.kids eT (fun c => eT (nwT ps c)) ?_ (by omega) fun c hc => ⟨[.dat (.tuple (ps.map eQ)), .dat (eT t), .dat (eT c)], rfl, ?_⟩
      · simp [ix1, dIter]
      · simp [lawNewT_ok ps few n f c (by omega) (kids c hc)]
    have lt : dTuple (.list (t.kids.map fun c => eT (nwT ps c))) = some (.tuple (t.kids.map fun c => eT (nwT ps c))) := rfl
    show runF (F_law_new_tree (mR_law_new_tree f)) 3 _ = _
    rw [un_law_new_tree, eT_nw]
    simp [LT_law_new_tree_0, LA_law_new_tree_0, ix0, lawNew_ok ps few, hc, lt]
theorem treeWith_ok {P : Str → Prop} (ps : List Pr) : ∀ (n f : Nat) (t : Tr), n ≤ f → TrIn P 40 n t → mR_tree_with f [eT t, .dict (prsD ps)] = .ok (eT (nwT ps t))
  | 0, _, _, _, h => h.elim
  | n + 1, 0, _, hf, _ => absurd hf (by omega)
  | n + 1, f + 1, t, hf, ⟨_, fw, kids⟩ => by
    have ix0 : dIx (eT t) (.int 0) = some (.str t.mark) := by rw [eT_mk]; rfl
    have ix1 : dIx (eT t) (.int 1) = some (.tuple (t.kids.map eT)) := by rw [eT_mk]; rfl
    have hc : fComp (fIter (f2 dIx (fVar 0) (fC (.int 1)))) (tgN 2) cYes (fCall (mR_tree_with f) (fCons (fVar 2) (fCons (fVar 1) fNil))) [2] [.dat (eT t), .dat (.dict (prsD ps)), .no] = .ok (t.kids.map fun c => eT (nwT ps c)) := by
      refine comp_all t.kids eT (fun c => eT (nwT ps c)) ?_ (by omega) fun c hc => ⟨[.dat (eT t), .dat (.dict (prsD ps)), .dat (eT c)], rfl, ?_⟩
      · simp [ix1, dIter]
      · simp [treeWith_ok ps n f c (by omega) (kids c hc)]
    have lt : dTuple (.list (t.kids.map fun c => eT (nwT ps c))) = some (.tuple (t.kids.map fun c => eT (nwT ps c))) := rfl
    have hg : fGet2 (fVar 1) (f2 dIx (fVar 0) (fC (.int 0))) (f2 dIx (fVar 0) (fC (.int 0))) [.dat (eT t), .dat (.dict (prsD ps)), .no] = .ok (.str (nwP ps t.mark)) := get_go ps rfl (by simp [ix0]) (by simp [ix0])
    show runF (F_tree_with (mR_tree_with f)) 3 _ = _
    rw [un_tree_with, eT_nw]
    simp [LT_tree_with_0, LA_tree_with_0, hg, hc, lt]
theorem partWith_ok (ps : List Pr) (p : Pt) (few : p.1.length ≤ 1000) : m_part_with [eP p, .dict (prsD ps)] = .ok (eP (nwPt ps p)) := by
  have ix0 : dIx (eP p) (.int 0) = some (.tuple (p.1.map .str)) := rfl
  have hc : fComp (fIter (f2 dIx (fVar 0) (fC (.int 0)))) (tgN 2) cYes (fGet2 (fVar 1) (fVar 2) (fVar 2)) [2] [.dat (eP p), .dat (.dict (prsD ps)), .no] = .ok (p.1.map fun m => .str (nwP ps m)) := by
    refine comp_all p.1 PyData.str (fun m => .str (nwP ps m)) ?_ (by omega) fun m hm => ⟨[.dat (eP p), .dat (.dict (prsD ps)), .dat (.str m)], rfl, get_go ps rfl rfl rfl⟩
    simp [ix0, dIter]
  have hs : dSort (.list (p.1.map fun m => .str (nwP ps m))) = some ((sortS (p.1.map (nwP ps))).map .str) := by
    have := sort_strs (p.1.map (nwP ps)) (by rw [List.length_map]; omega)
    rw [List.map_map] at this
    exact this
  have lt : ∀ xs : List D, dTuple (.list xs) = some (.tuple xs) := fun _ => rfl
  have sl : dSl (eP p) (some 1) none = some (.tuple [.int p.2.1, optD p.2.2]) := rfl
  have ad : dAdd (.tuple [.tuple ((sortS (p.1.map (nwP ps))).map .str)]) (.tuple [.int p.2.1, optD p.2.2]) = some (eP (nwPt ps p)) := rfl
  show runF F_part_with 3 _ = _
  rw [un_part_with]
  simp [LT_part_with_0, LA_part_with_0, hc, hs, lt, sl, ad]
end Pz

set_option maxHeartbeats 4000000
/-! law_k85: the pairs, books and trees with other marks. -/
namespace Pz
open PySem PySem.Spec L2 PySem.W
/-- pairs that may be asked -/
structure PrV (ps : List Pr) : Prop where
  few : ps.length ≤ 5
  ok : ∀ p ∈ ps, okM p.1 ∧ okM p.2
  olds : (ps.map (·.1)).Nodup
  news : (ps.map (·.2)).Nodup
theorem isPair_ok {p : Pr} (h1 : okM p.1) (h2 : okM p.2) : m_is_pair [eQ p] = .ok (.bool true) := by
  unfold okM at h1 h2
  have hc : fComp (fIter (fVar 0)) (tgN 1) cYes (fCall m_is_mark (fCons (fVar 1) fNil)) [1] [.dat (eQ p), .no] = .ok ([p.1, p.2].map fun _ => .bool true) := by
    refine comp_all [p.1, p.2] PyData.str (fun _ => .bool true) rfl (by simp) fun m hm => ⟨[.dat (eQ p), .dat (.str m)], rfl, ?_⟩
    rcases List.mem_cons.mp hm with rfl | hm
    · simp [h1]
    · rw [List.mem_singleton.mp hm]
      simp [h2]
  have t1 : dIsi "tuple" (eQ p) = some (.bool true) := rfl
  have len : dLen (eQ p) = some (.int 2) := rfl
  have e2 : eqG id (.int 2) (.int 2) = some (.bool true) := rfl
  have al : dAll (.list [.bool true, .bool true]) = some (.bool true) := rfl
  show runF F_is_pair 2 _ = _
  rw [un_is_pair]
  simp [LT_is_pair_0, LA_is_pair_0, t1, len, e2, hc, al]
theorem needPairs_ok {ps : List Pr} (v : PrV ps) : m_need_pairs [.tuple (ps.map eQ)] = .ok .none := by
  have few := v.few
  have t1 : dIsi "tuple" (.tuple (ps.map eQ)) = some (.bool true) := isi_tup (plainAll_map _ plain_eQ _)
  have gt : dGt (.int (ps.length : Nat)) (.int 5) = some (.bool false) := by
    show some (PyData.bool (decide _)) = _
    rw [decide_eq_false (by omega)]
  have hc : fComp (fIter (fVar 0)) (tgN 2) cYes (fCall m_is_pair (fCons (fVar 2) fNil)) [2] [.dat (.tuple (ps.map eQ)), .no, .no] = .ok (ps.map fun _ => .bool true) := by
    refine comp_all ps eQ (fun _ => .bool true) (by simp [dIter]) (by omega) fun p hp => ⟨[.dat (.tuple (ps.map eQ)), .no, .dat (eQ p)], rfl, ?_⟩
    simp [isPair_ok (v.ok p hp).1 (v.ok p hp).2]
  have hall : dAll (.list (ps.map fun _ => PyData.bool true)) = some (.bool true) := by
    rw [all_bools ps fun _ => true]
    simp
  have side : ∀ i : Int, i = 0 ∨ i = 1 → LB_need_pairs_1 [.dat (.tuple (ps.map eQ)), .dat (.int i), .no] = .nx [.dat (.tuple (ps.map eQ)), .dat (.int i), .no] := fun i hi => by
    have key : ∃ g : Pr → Str, (ps.map g).Nodup ∧ ∀ p, dIx (eQ p) (.int i) = some (.str (g p)) := by
      rcases hi with rfl | rfl
      · exact ⟨(·.1), v.olds, fun _ => rfl⟩
      · exact ⟨(·.2), v.news, fun _ => rfl⟩
    obtain ⟨g, nd, hg⟩ := key
    have hc2 : fComp (fIter (fVar 0)) (tgN 2) cYes (f2 dIx (fVar 2) (fVar 1)) [2] [.dat (.tuple (ps.map eQ)), .dat (.int i), .no] = .ok (ps.map fun p => .str (g p)) := by
      refine comp_all ps eQ (fun p => .str (g p)) (by simp [dIter]) (by omega) fun p hp => ⟨[.dat (.tuple (ps.map eQ)), .dat (.int i), .dat (eQ p)], rfl, ?_⟩
      simp [hg]
    have ls : dLenSet (.list (ps.map fun p => .str (g p))) = some (.int (ps.length : Nat)) := by
      have := lenSet_strs (ps.map g) (by rw [List.length_map]; omega)
      rw [ded_self nd, List.map_map, List.length_map] at this
      exact this
    have ne : eqG not (.int (ps.length : Nat)) (.int (ps.length : Nat)) = some (.bool false) := by
      rw [eq_int, decide_eq_true rfl]
      rfl
    refine skip_if ?_
    simp [hc2, ls, len_tup, ne]
  show runF F_need_pairs 3 _ = _
  rw [un_need_pairs]
  unfold LT_need_pairs_0 LA_need_pairs_0 LT_need_pairs_1 LA_need_pairs_1
  have hf : sFor (fIter (fTup (fCons (fC (.int 0)) (fCons (fC (.int 1)) fNil)))) (tgN 1) LB_need_pairs_1 [1] [.dat (.tuple (ps.map eQ)), .no, .no] = .nx [.dat (.tuple (ps.map eQ)), .no, .no] := by
    refine for_nx (P := (· = .nx [.dat (.tuple (ps.map eQ)), .no, .no])) [0, 1] (fun i : Int => PyData.int i) (fun _ : Unit => [.dat (.tuple (ps.map eQ)), .no, .no]) (fun _ _ => True) () rfl rfl trivial (fun dn i rest _ ex _ => ⟨[.dat (.tuple (ps.map eQ)), .dat (.int i), .no], rfl, nx_in (side i ?_) ⟨(), rfl, trivial⟩⟩) fun _ _ => rfl
    have := mem_mid ex
    simpa using this
  have it : dIter (.tuple [.int 0, .int 1]) = some [.int 0, .int 1] := rfl
  have hf2 : forF (tgN 1) LB_need_pairs_1 [1] [.int 0, .int 1] [.dat (.tuple (ps.map eQ)), .no, .no] = .nx [.dat (.tuple (ps.map eQ)), .no, .no] := hf
  simp [t1, len_tup, gt, hc, hall, it, hf2]
theorem treeRenamed_ok {ps : List Pr} (v : PrV ps) {t : Tr} (h : TrIn okM 40 12 t) : m_tree_renamed [eT t, .tuple (ps.map eQ)] = .ok (eT (nwT ps t)) := by
  have few := v.few
  show runF F_tree_renamed 2 _ = _
  rw [un_tree_renamed]
  simp [LT_tree_renamed_0, LA_tree_renamed_0, LT_tree_renamed_1, LA_tree_renamed_1, LT_tree_renamed_2, LA_tree_renamed_2, needTree_ok h, needPairs_ok v, dict_prs v.olds (by omega), treeWith_ok ps 12 20 t (by omega) h]
theorem treeRenamed_odd {d : D} {t : Tr} (h : TrIn okM 40 12 t) (hd : m_need_pairs [d] = .exc "NoPairs") : m_tree_renamed [eT t, d] = .exc "NoPairs" := by
  show runF F_tree_renamed 2 _ = _
  rw [un_tree_renamed]
  simp [LT_tree_renamed_0, LA_tree_renamed_0, LT_tree_renamed_1, LA_tree_renamed_1, needTree_ok h, hd]
theorem renamed_odd {d : D} {b : Bk} (v : BkV b) (hd : m_need_pairs [d] = .exc "NoPairs") : m_renamed [eB b, d] = .exc "NoPairs" := by
  show runF F_renamed 9 _ = _
  rw [un_renamed]
  simp [LT_renamed_0, LA_renamed_0, LT_renamed_1, LA_renamed_1, needBook_ok v, hd]
/-- pairs that fit a book -/
def PrIn (b : Bk) (ps : List Pr) (p : Pr) : Prop := p.1 ∈ b.2.map (·.1) ∧ (p.2 ∈ b.2.map (·.1) → p.2 ∈ ps.map (·.1))
theorem in_prs (ps : List Pr) (m : Str) : dNotIn (.str m) (.dict (prsD ps)) = some (.bool (! decide (m ∈ ps.map (·.1)))) := by
  have e : (lookD (prsD ps) (.inr m)).isSome = decide (m ∈ ps.map (·.1)) := by
    unfold lookD prsD
    rw [Option.isSome_map, List.find?_map, Option.isSome_map, Bool.eq_iff_iff, List.find?_isSome, decide_eq_true_eq, List.mem_map]
    constructor
    · rintro ⟨p, h1, h2⟩
      exact ⟨p, h1, of_decide_eq_true h2⟩
    · rintro ⟨p, h1, h2⟩
      exact ⟨p, h1, decide_eq_true h2⟩
  have e2 : dInB (.str m) (.dict (prsD ps)) = some ((lookD (prsD ps) (.inr m)).isSome) := by
    cases ps with
    | nil => rfl
    | cons p ps => rfl
  unfold dNotIn
  rw [e2, e]
  rfl
theorem pair_test {b : Bk} (v : BkV b) (ps : List Pr) (p : Pr) : ∃ q : Bool, (q = true ↔ ¬ PrIn b ps p) ∧
    ∀ G H : Fs, sIf (fOr (fNot (fB (fCall m_has_mark (fCons (fVar 0) (fCons (fVar 3) fNil))))) (fAnd (fB (fCall m_has_mark (fCons (fVar 0) (fCons (fVar 4) fNil)))) (fB (f2 dNotIn (fVar 4) (fVar 2))))) G H [.dat (eB b), .dat (.tuple (ps.map eQ)), .dat (.dict (prsD ps)), .dat (.str p.1), .dat (.str p.2), .no, .no, .no, .no] =
      if q then G [.dat (eB b), .dat (.tuple (ps.map eQ)), .dat (.dict (prsD ps)), .dat (.str p.1), .dat (.str p.2), .no, .no, .no, .no] else H [.dat (eB b), .dat (.tuple (ps.map eQ)), .dat (.dict (prsD ps)), .dat (.str p.1), .dat (.str p.2), .no, .no, .no, .no] := by
  have lv := v.len
  have h1 := hasMark_okT b (by omega) p.1
  have h2 := hasMark_okT b (by omega) p.2
  refine ⟨! decide (p.1 ∈ b.2.map (·.1)) || (decide (p.2 ∈ b.2.map (·.1)) && ! decide (p.2 ∈ ps.map (·.1))), ?_, fun G H => ?_⟩
  · unfold PrIn
    by_cases c1 : p.1 ∈ b.2.map (·.1) <;> by_cases c2 : p.2 ∈ b.2.map (·.1) <;> by_cases c3 : p.2 ∈ ps.map (·.1) <;> simp only [c1, c2, c3, decide_true, decide_false] <;> decide
  · have hn := in_prs ps p.2
    by_cases c1 : p.1 ∈ b.2.map (·.1) <;> by_cases c2 : p.2 ∈ b.2.map (·.1) <;> by_cases c3 : p.2 ∈ ps.map (·.1) <;> simp only [c1, c2, c3, decide_true, decide_false] at h1 h2 hn ⊢ <;> simp [h1, h2, hn]
theorem renamed_ok {b : Bk} (v : BkV b) {ps : List Pr} (w : PrV ps) (hin : ∀ p ∈ ps, PrIn b ps p) : m_renamed [eB b, .tuple (ps.map eQ)] = .ok (eB (nwB ps b)) := by
  have few := w.few
  have lv := v.len
  have ix0 : dIx (eB b) (.int 0) = some (.str b.1) := rfl
  have ix1 : dIx (eB b) (.int 1) = some (.tuple (b.2.map eR)) := rfl
  refine runF_rt (?_ : F_renamed [.dat (eB b), .dat (.tuple (ps.map eQ)), .no, .no, .no, .no, .no, .no, .no] = _)
  rw [un_renamed]
  unfold LT_renamed_0
  refine seq_go (P := (· = _)) (ρ' := [.dat (eB b), .dat (.tuple (ps.map eQ)), .no, .no, .no, .no, .no, .no, .no]) (by unfold LA_renamed_0; simp [needBook_ok v]) ?_
  unfold LT_renamed_1
  refine seq_go (P := (· = _)) (ρ' := [.dat (eB b), .dat (.tuple (ps.map eQ)), .no, .no, .no, .no, .no, .no, .no]) (by unfold LA_renamed_1; simp [needPairs_ok w]) ?_
  unfold LT_renamed_2
  refine seq_go (P := (· = _)) (asg_go (.dict (prsD ps)) (by simp [dict_prs w.olds (by omega)])) ?_
  simp only [List.set_cons_zero, List.set_cons_succ]
  unfold LT_renamed_3
  refine for_go (P := (· = _)) ps eQ (fun _ : Unit => [.dat (eB b), .dat (.tuple (ps.map eQ)), .dat (.dict (prsD ps)), .no, .no, .no, .no, .no, .no]) (fun _ _ => True) () (by simp [dIter]) rfl trivial (fun dn p rest _ ex _ => ⟨[.dat (eB b), .dat (.tuple (ps.map eQ)), .dat (.dict (prsD ps)), .dat (.str p.1), .dat (.str p.2), .no, .no, .no, .no], rfl, nx_in (ρ := [.dat (eB b), .dat (.tuple (ps.map eQ)), .dat (.dict (prsD ps)), .dat (.str p.1), .dat (.str p.2), .no, .no, .no, .no]) ?_ ⟨(), rfl, trivial⟩⟩) fun _ _ => ?_
  · obtain ⟨q, hq, e⟩ := pair_test v ps p
    have hq2 : q = false := by
      cases q with
      | false => rfl
      | true => exact absurd (hin p (mem_mid ex)) (hq.mp rfl)
    unfold LB_renamed_3
    rw [e, hq2]
    rfl
  unfold LT_renamed_4
  refine seq_go (P := (· = _)) (own_go [] rfl) ?_
  simp only [List.set_cons_zero, List.set_cons_succ]
  unfold LT_renamed_5
  refine for_go (P := (· = _)) b.2 eR (fun rs : List Rl => [.dat (eB b), .dat (.tuple (ps.map eQ)), .dat (.dict (prsD ps)), .no, .no, .own (rs.map eR), .no, .no, .no]) (fun dn rs => rs = dn.map (nwR ps)) [] (by simp [ix1, dIter]) rfl rfl ?_ ?_
  · rintro dn r rest rs ex rfl
    have hr := mem_mid ex
    have lm := len_mid ex
    obtain ⟨l3, pv⟩ := v.parts r hr
    have hc : fComp (fIter (fVar 7)) (tgN 8) cYes (fCall m_part_with (fCons (fVar 8) (fCons (fVar 2) fNil))) [8] [.dat (eB b), .dat (.tuple (ps.map eQ)), .dat (.dict (prsD ps)), .no, .no, .own ((dn.map (nwR ps)).map eR), .dat (.str r.1), .dat (.tuple (r.2.map eP)), .no] = .ok (r.2.map fun p => eP (nwPt ps p)) := by
      refine comp_all r.2 eP (fun p => eP (nwPt ps p)) (by simp [dIter]) (by omega) fun p hp => ⟨[.dat (eB b), .dat (.tuple (ps.map eQ)), .dat (.dict (prsD ps)), .no, .no, .own ((dn.map (nwR ps)).map eR), .dat (.str r.1), .dat (.tuple (r.2.map eP)), .dat (eP p)], rfl, ?_⟩
      have := (pv p hp).few
      simp [partWith_ok ps p (by omega)]
    have hg : fGet2 (fVar 2) (fVar 6) (fVar 6) [.dat (eB b), .dat (.tuple (ps.map eQ)), .dat (.dict (prsD ps)), .no, .no, .own ((dn.map (nwR ps)).map eR), .dat (.str r.1), .dat (.tuple (r.2.map eP)), .no] = .ok (.str (nwP ps r.1)) := get_go ps rfl rfl rfl
    have lt : dTuple (.list (r.2.map fun p => eP (nwPt ps p))) = some (.tuple (r.2.map fun p => eP (nwPt ps p))) := rfl
    have er : eR (nwR ps r) = .tuple [.str (nwP ps r.1), .tuple (r.2.map fun p => eP (nwPt ps p))] := by
      unfold eR nwR
      rw [List.map_map]
      rfl
    refine ⟨[.dat (eB b), .dat (.tuple (ps.map eQ)), .dat (.dict (prsD ps)), .no, .no, .own ((dn.map (nwR ps)).map eR), .dat (.str r.1), .dat (.tuple (r.2.map eP)), .no], rfl, nx_in (app_go (eR (nwR ps r)) rfl ?_ ?_) ⟨dn.map (nwR ps) ++ [nwR ps r], ?_, ?_⟩⟩
    · rw [er]
      simp only [u_fTup, u_fCons, hg, u_f1, u_fLst, hc, lt, R.bind_ok, ofO_some, u_fNil]
    · rw [List.length_map, List.length_map]
      omega
    · rw [List.map_append]
      rfl
    · rw [List.map_append]
      rfl
  · rintro rs rfl
    have hg : fGet2 (fVar 2) (f2 dIx (fVar 0) (fC (.int 0))) (f2 dIx (fVar 0) (fC (.int 0))) [.dat (eB b), .dat (.tuple (ps.map eQ)), .dat (.dict (prsD ps)), .no, .no, .own ((b.2.map (nwR ps)).map eR), .no, .no, .no] = .ok (.str (nwP ps b.1)) := get_go ps rfl (by simp [ix0]) (by simp [ix0])
    have lt : ∀ xs : List D, dTuple (.list xs) = some (.tuple xs) := fun _ => rfl
    unfold LT_renamed_6 LA_renamed_6
    have eb : eB (nwB ps b) = .tuple [.str (nwP ps b.1), .tuple ((b.2.map (nwR ps)).map eR)] := rfl
    rw [eb]
    simp only [u_sRet, u_fTup, u_fCons, hg, u_f1, u_fOwn, List.getElem?_cons_succ, List.getElem?_cons_zero, R.bind_ok, lt, ofO_some, u_fNil]
theorem renamed_out {b : Bk} (v : BkV b) {p : Pr} (w : PrV [p]) (h : ¬ PrIn b [p] p) : m_renamed [eB b, .tuple [eQ p]] = .exc "NoPairs" := by
  have lv := v.len
  have nb := needBook_ok v
  have np : m_need_pairs [.tuple [eQ p]] = .ok .none := needPairs_ok w
  have dd : dDict (.tuple [eQ p]) = some (.dict (prsD [p])) := dict_prs w.olds (by simp)
  obtain ⟨q, hq, e⟩ := pair_test v [p] p
  have hq2 := hq.mpr h
  rw [hq2] at e
  have it : dIter (.tuple [eQ p]) = some [eQ p] := rfl
  have tg : tgTup (tgCons (tgN 3) (tgCons (tgN 4) tgNil)) (eQ p) [.dat (eB b), .dat (.tuple [eQ p]), .dat (.dict (prsD [p])), .no, .no, .no, .no, .no, .no] = some [.dat (eB b), .dat (.tuple [eQ p]), .dat (.dict (prsD [p])), .dat (.str p.1), .dat (.str p.2), .no, .no, .no, .no] := rfl
  have lb : LB_renamed_3 [.dat (eB b), .dat (.tuple [eQ p]), .dat (.dict (prsD [p])), .dat (.str p.1), .dat (.str p.2), .no, .no, .no, .no] = .exc "NoPairs" [.dat (eB b), .dat (.tuple [eQ p]), .dat (.dict (prsD [p])), .dat (.str p.1), .dat (.str p.2), .no, .no, .no, .no] := by
    unfold LB_renamed_3
    exact e _ _
  show runF F_renamed 9 _ = _
  rw [un_renamed]
  unfold LT_renamed_0 LA_renamed_0 LT_renamed_1 LA_renamed_1 LT_renamed_2 LA_renamed_2 LT_renamed_3 LA_renamed_3
  simp [nb, np, dd, it, forF, tg, lb]
theorem told0 {x ps d : D} (h : m_renamed [x, ps] = .ok d) : m_law_told [.int 0, x, ps] = .ok d := by
  have e0 : dEq' (.int 0) (.int 0) = some (.bool true) := rfl
  simp [m_law_told, F_law_told, e0, h]
theorem told1 {x ps d : D} (h : m_tree_renamed [x, ps] = .ok d) : m_law_told [.int 1, x, ps] = .ok d := by
  have e0 : dEq' (.int 1) (.int 0) = some (.bool false) := rfl
  simp [m_law_told, F_law_told, e0, h]
theorem told0x {x ps d : D} {y : Str} (h : m_renamed [x, ps] = .exc y) (hy : rf_law_refused y = some d) : m_law_told [.int 0, x, ps] = .ok d := by
  have e0 : dEq' (.int 0) (.int 0) = some (.bool true) := rfl
  simp [m_law_told, F_law_told, e0, h, hy]
theorem told1x {x ps d : D} {y : Str} (h : m_tree_renamed [x, ps] = .exc y) (hy : rf_law_refused y = some d) : m_law_told [.int 1, x, ps] = .ok d := by
  have e0 : dEq' (.int 1) (.int 0) = some (.bool false) := rfl
  simp [m_law_told, F_law_told, e0, h, hy]
end Pz

set_option maxHeartbeats 4000000
/-! law_k85: the drawn pairs. -/
namespace Pz
open PySem PySem.Spec L2 PySem.W
def newsL : List Str := ["zb", "q", "e", "ab"]
theorem okM_news : ∀ m ∈ newsL, okM m := by
  intro m hm
  simp only [newsL, List.mem_cons, List.not_mem_nil, or_false] at hm
  rcases hm with rfl | rfl | rfl | rfl <;> rfl
theorem news_apart : ∀ m ∈ newsL, m ∉ fourM := by decide
theorem sl_fromL {xs : List D} {i : Int} (h : 0 ≤ i) : dSl (.list xs) (some i) none = some (.list (xs.drop i.toNat)) := by
  obtain ⟨k, rfl⟩ := Int.eq_ofNat_of_zero_le h
  show some (PyData.list (cutD xs (some (k : Int)) none)) = _
  rw [cut_from]
  rfl
theorem sl_uptoL {xs : List D} {i : Int} (h : 0 ≤ i) : dSl (.list xs) none (some i) = some (.list (xs.take i.toNat)) := by
  obtain ⟨k, rfl⟩ := Int.eq_ofNat_of_zero_le h
  show some (PyData.list (cutD xs none (some (k : Int)))) = _
  rw [cut_to]
  rfl
theorem in_strsL (x : Str) (ys : List Str) : dIn (.str x) (.list (ys.map .str)) = some (.bool (decide (x ∈ ys))) := by
  unfold dIn
  rw [in_strs]
  rfl
theorem add_strsL (S M : List Str) (h : S.length + M.length ≤ 1000000) : dAdd (.list (S.map .str)) (.list (M.map .str)) = some (.list ((S ++ M).map .str)) := by
  show (if _ then _ else _) = _
  rw [List.length_map, List.length_map, if_pos h, List.map_append]
theorem zip_strs (xs ys : List Str) : zipD (xs.map .str) (ys.map .str) = (xs.zip ys).map eQ := by
  unfold zipD
  rw [List.zip_map, List.map_map]
  rfl
theorem head_ix {m : Str} {ms : List Str} : dIx (.list ((m :: ms).map .str)) (.int 0) = some (.str m) := by
  show atI _ 0 = _
  have z : ixN ((m :: ms).map PyData.str).length 0 = some 0 := by
    unfold ixN
    rw [if_pos (by omega), if_pos (by rw [List.length_map, List.length_cons]; omega)]
    rfl
  unfold atI
  rw [z]
  rfl
/-- pairs of a row of marks with a row of names -/
theorem prs_zip {b : Bk} (v : BkV b) {nm : List Str} (len : nm.length = b.2.length) (nd : nm.Nodup) (ok : ∀ m ∈ nm, okM m) (k : Nat) (h : (∀ m ∈ nm, m ∉ b.2.map (·.1)) ∨ b.2.length ≤ k) :
    PrV (((b.2.map (·.1)).zip nm).take k) ∧ ∀ p ∈ ((b.2.map (·.1)).zip nm).take k, PrIn b (((b.2.map (·.1)).zip nm).take k) p := by
  have lv := v.len
  have lm : (b.2.map (·.1)).length = b.2.length := List.length_map _
  have f1 : ((b.2.map (·.1)).zip nm).map (·.1) = b.2.map (·.1) := List.map_fst_zip (by omega)
  have f2 : ((b.2.map (·.1)).zip nm).map (·.2) = nm := List.map_snd_zip (by omega)
  have mem : ∀ p ∈ ((b.2.map (·.1)).zip nm).take k, p.1 ∈ b.2.map (·.1) ∧ p.2 ∈ nm := fun p hp => List.of_mem_zip (List.mem_of_mem_take hp)
  refine ⟨⟨?_, fun p hp => ⟨v.ok _ (mem p hp).1, ok _ (mem p hp).2⟩, ?_, ?_⟩, fun p hp => ⟨(mem p hp).1, fun q => ?_⟩⟩
  · rw [List.length_take, List.length_zip]
    omega
  · rw [List.map_take, f1]
    exact (List.take_sublist _ _).nodup v.nd
  · rw [List.map_take, f2]
    exact (List.take_sublist _ _).nodup nd
  · rcases h with h | h
    · exact absurd q (h _ (mem p hp).2)
    · rw [List.map_take, f1, List.take_of_length_le (by omega)]
      exact q
abbrev E85 (ns : List Int) (b : Bk) (t : Tr) (s6 s7 s8 s9 s10 s12 s15 : Slot) : Env := [.dat (scrD (ns.map .int)), .dat (eB b), .no, .no, .dat (.list ((b.2.map (·.1)).map .str)), .dat (eT t), s6, s7, s8, s9, s10, .no, s12, .no, .no, s15, .no, .no, .no]
theorem k85_pairs (ns : List Int) (hl : ns.length ≤ 63) {b : Bk} (hb : BookIs b) (t : Tr) (h : ∀ (ps : List Pr) (s6 s7 s8 : Slot), PrV ps → (∀ p ∈ ps, PrIn b ps p) → TrueR (LT_7 (E85 ns b t s6 s7 s8 (.dat (.tuple (ps.map eQ))) .no .no .no))) :
    TrueR (LT_3 (E85 ns b t .no .no .no .no .no .no .no)) := by
  have v := bookIs_vT hb
  have lv := v.len
  have four : ∀ m ∈ b.2.map (·.1), m ∈ fourM := fun m hm => by
    obtain ⟨r, hr, rfl⟩ := List.mem_map.mp hm
    exact (hb.2.2.2.2 r hr).1
  have l4 : b.2.length ≤ 4 := hb.2.2.1
  have hdr : ∀ k many : Int, 0 ≤ k → k ≤ 1000000 → 0 < many → m_law_drawn [scrD (ns.map .int), .int k, .int many] = .ok (.int (drawZ ns k many)) := fun k many a b c => drawn_ok ns k many hl a b c
  have ln : dLen (.list ((b.2.map (·.1)).map PyData.str)) = some (.int (b.2.length : Nat)) := by rw [len_list, List.length_map, List.length_map]
  have r0 := draw_range ns 190 (b.2.length : Nat) (by omega)
  have d0 := hdr 190 (b.2.length : Nat) (by omega) (by omega) (by omega)
  have r1 := draw_range ns 191 2 (by omega)
  have d1 := hdr 191 2 (by omega) (by omega) (by omega)
  have r2 := draw_range ns 192 ((b.2.length : Nat) + 1) (by omega)
  have d2 := hdr 192 ((b.2.length : Nat) + 1) (by omega) (by omega) (by omega)
  generalize drawZ ns 190 (b.2.length : Nat) = tn at r0 d0
  generalize drawZ ns 191 2 = wy at r1 d1
  generalize drawZ ns 192 ((b.2.length : Nat) + 1) = mn at r2 d2
  unfold LT_3
  refine seq_go (P := TrueR) (asg_go (.int tn) (by simp only [u_fCall, u_fCons, u_fNil, u_fC, u_fVar, u_f1, List.getElem?_cons_zero, List.getElem?_cons_succ, R.bind_ok, ln, ofO_some, d0])) ?_
  simp only [List.set_cons_zero, List.set_cons_succ]
  -- the names
  have lm : (b.2.map (·.1)).length = b.2.length := List.length_map _
  have names : ∃ nm : List Str, nm.length = b.2.length ∧ nm.Nodup ∧ (∀ m ∈ nm, okM m) ∧ ((∀ m ∈ nm, m ∉ b.2.map (·.1)) ∨ ∀ m ∈ nm, m ∈ b.2.map (·.1)) ∧
      LA_4 (E85 ns b t (.dat (.int tn)) .no .no .no .no .no .no) = .nx (E85 ns b t (.dat (.int tn)) (.dat (.list (nm.map .str))) .no .no .no .no .no) := by
    have s1 := sl_fromL (xs := (b.2.map (·.1)).map PyData.str) r0.1
    have s2 := sl_uptoL (xs := (b.2.map (·.1)).map PyData.str) r0.1
    have s3 := sl_uptoL (xs := newsL.map PyData.str) (i := (b.2.length : Nat)) (by omega)
    rw [← List.map_drop] at s1
    rw [← List.map_take] at s2 s3
    rw [Int.toNat_natCast] at s3
    have ad := add_strsL ((b.2.map (·.1)).drop tn.toNat) ((b.2.map (·.1)).take tn.toNat) (by rw [List.length_drop, List.length_take]; omega)
    have s3' : dSl (.list [.str "zb", .str "q", .str "e", .str "ab"]) none (some ((b.2.length : Nat) : Int)) = some (.list ((newsL.take b.2.length).map .str)) := s3
    have pm : ((b.2.map (·.1)).drop tn.toNat ++ (b.2.map (·.1)).take tn.toNat).Perm (b.2.map (·.1)) := by
      have := List.perm_append_comm (l₁ := (b.2.map (·.1)).drop tn.toNat) (l₂ := (b.2.map (·.1)).take tn.toNat)
      rw [List.take_append_drop] at this
      exact this
    have cs : wy = 0 ∨ wy = 1 := by omega
    rcases cs with rfl | rfl
    · refine ⟨(b.2.map (·.1)).drop tn.toNat ++ (b.2.map (·.1)).take tn.toNat, by rw [pm.length_eq, lm], pm.nodup_iff.mpr v.nd, fun m hm => v.ok m (pm.mem_iff.mp hm), .inr fun m hm => pm.mem_iff.mp hm, ?_⟩
      have ix : ∀ x y : D, dIx (.tuple [x, y]) (.int 0) = some x := fun _ _ => rfl
      unfold LA_4
      rw [asg_go (.list (((b.2.map (·.1)).drop tn.toNat ++ (b.2.map (·.1)).take tn.toNat).map .str))]
      · rfl
      · simp only [u_f2, u_fTup, u_fCons, u_fNil, u_fSl, u_fSo, u_fNo, u_fVar, u_fLst, u_fC, u_f1, u_fCall, List.getElem?_cons_zero, List.getElem?_cons_succ, R.bind_ok, s1, s2, s3', ad, ln, ofO_some, d1, ix]
    · refine ⟨newsL.take b.2.length, by rw [List.length_take]; show min b.2.length 4 = _; omega, (List.take_sublist _ _).nodup (by decide), fun m hm => okM_news m (List.mem_of_mem_take hm), .inl fun m hm q => news_apart m (List.mem_of_mem_take hm) (four m q), ?_⟩
      have ix : ∀ x y : D, dIx (.tuple [x, y]) (.int 1) = some y := fun _ _ => rfl
      unfold LA_4
      rw [asg_go (.list ((newsL.take b.2.length).map .str))]
      · rfl
      · simp only [u_f2, u_fTup, u_fCons, u_fNil, u_fSl, u_fSo, u_fNo, u_fVar, u_fLst, u_fC, u_f1, u_fCall, List.getElem?_cons_zero, List.getElem?_cons_succ, R.bind_ok, s1, s2, s3', ad, ln, ofO_some, d1, ix]
  obtain ⟨nm, n1, n2, n3, n4, n5⟩ := names
  unfold LT_4
  refine seq_go (P := TrueR) n5 ?_
  -- how many
  have hd0 : ∃ m0 nr, nm = m0 :: nr := by
    cases nm with
    | nil => rw [List.length_nil] at n1; omega
    | cons m0 nr => exact ⟨m0, nr, rfl⟩
  obtain ⟨m0, nr, en⟩ := hd0
  have ix0 : dIx (.list (nm.map .str)) (.int 0) = some (.str m0) := by rw [en]; exact head_ix
  have hin := in_strsL m0 (b.2.map (·.1))
  have many : ∃ k : Int, 0 ≤ k ∧ ((∀ m ∈ nm, m ∉ b.2.map (·.1)) ∨ b.2.length ≤ k.toNat) ∧
      LA_5 (E85 ns b t (.dat (.int tn)) (.dat (.list (nm.map .str))) .no .no .no .no .no) = .nx (E85 ns b t (.dat (.int tn)) (.dat (.list (nm.map .str))) (.dat (.int k)) .no .no .no .no) := by
    have plus : dAdd (.int (b.2.length : Nat)) (.int 1) = some (.int ((b.2.length : Nat) + 1)) := rfl
    rcases n4 with n4 | n4
    · refine ⟨mn, by omega, .inl n4, ?_⟩
      rw [decide_eq_false (n4 m0 (by rw [en]; exact List.mem_cons_self))] at hin
      unfold LA_5
      rw [asg_go (.int mn)]
      · rfl
      · simp only [u_fIf, u_fB, u_f2, u_fVar, u_fC, u_f1, u_fCall, u_fCons, u_fNil, List.getElem?_cons_zero, List.getElem?_cons_succ, R.bind_ok, ix0, ofO_some, hin, u_asB, ln, plus, d2]
        rfl
    · refine ⟨(b.2.length : Nat), by omega, .inr (by rw [Int.toNat_natCast]; exact Nat.le_refl _), ?_⟩
      rw [decide_eq_true (n4 m0 (by rw [en]; exact List.mem_cons_self))] at hin
      unfold LA_5
      rw [asg_go (.int (b.2.length : Nat))]
      · rfl
      · simp only [u_fIf, u_fB, u_f2, u_fVar, u_fC, u_f1, u_fCall, u_fCons, u_fNil, List.getElem?_cons_zero, List.getElem?_cons_succ, R.bind_ok, ix0, ofO_some, hin, u_asB, ln, plus, d2]
        rfl
  obtain ⟨k, k1, k2, k3⟩ := many
  unfold LT_5
  refine seq_go (P := TrueR) k3 ?_
  obtain ⟨p1, p2⟩ := prs_zip v n1 n2 n3 k.toNat k2
  have tk := sl_upto (xs := ((b.2.map (·.1)).zip nm).map eQ) k1
  rw [← List.map_take] at tk
  have zs := zip_strs (b.2.map (·.1)) nm
  unfold LT_6
  refine seq_go (P := TrueR) (ρ' := E85 ns b t (.dat (.int tn)) (.dat (.list (nm.map .str))) (.dat (.int k)) (.dat (.tuple ((((b.2.map (·.1)).zip nm).take k.toNat).map eQ))) .no .no .no) ?_ (h _ _ _ _ p1 p2)
  unfold LA_6
  rw [asg_go (.tuple ((((b.2.map (·.1)).zip nm).take k.toNat).map eQ))]
  · rfl
  · simp only [u_fSl, u_fTupZip, u_fVar, u_fSo, u_fNo, List.getElem?_cons_zero, List.getElem?_cons_succ, R.bind_ok, zs, tk, ofO_some]
end Pz

set_option maxHeartbeats 4000000
/-! law_k85: the law. -/
namespace Pz
open PySem PySem.Spec L2 PySem.W
theorem d85_eT {P : Str → Prop} {w : Nat} : ∀ (n : Nat) (t : Tr), TrIn P w n t → (eT t).depth ≤ 2 * n
  | 0, t, h => h.elim
  | n + 1, t, ⟨_, _, kids⟩ => by
    have : ∀ ts : List Tr, (∀ c ∈ ts, c ∈ t.kids) → PyData.depthAll (ts.map eT) ≤ 2 * n := fun ts => by
      induction ts with
      | nil => intro _; simp [PyData.depthAll]
      | cons c ts ih =>
        intro h
        have h1 := d85_eT n c (kids c (h c List.mem_cons_self))
        have h2 := ih fun d hd => h d (List.mem_cons_of_mem _ hd)
        rw [List.map_cons, PyData.depthAll]
        omega
    have h := this t.kids fun c hc => hc
    rw [eT_mk]
    simp [PyData.depth, PyData.depthAll]
    omega
theorem d85_eP (p : Pt) : (eP p).depth ≤ 2 := by
  have : PyData.depthAll (p.1.map PyData.str) = 0 := by
    induction p.1 with
    | nil => rfl
    | cons x xs ih => rw [List.map_cons, PyData.depthAll, ih]; rfl
  have o : (optD p.2.2).depth = 0 := by cases p.2.2 <;> rfl
  show PyData.depthAll [.tuple (p.1.map .str), .int p.2.1, optD p.2.2] + 1 ≤ 2
  simp [PyData.depthAll, PyData.depth, this, o]
theorem d85_eR (r : Rl) : (eR r).depth ≤ 4 := by
  have := depth_le (k := 2) eP d85_eP r.2
  show PyData.depthAll [.str r.1, .tuple (r.2.map eP)] + 1 ≤ 4
  simp [PyData.depthAll, PyData.depth]
  omega
theorem d85_eB (b : Bk) : (eB b).depth ≤ 6 := by
  have := depth_le (k := 4) eR d85_eR b.2
  show PyData.depthAll [.str b.1, .tuple (b.2.map eR)] + 1 ≤ 6
  simp [PyData.depthAll, PyData.depth]
  omega
theorem trIn_nw {P : Str → Prop} {w : Nat} (ps : List Pr) : ∀ (n : Nat) (t : Tr), TrIn P w n t → TrIn (fun _ => True) w n (nwT ps t)
  | 0, _, h => h.elim
  | n + 1, .mk m cs, ⟨_, few, kids⟩ => by
    rw [nwT, nwTs_map]
    refine ⟨trivial, ?_, fun c hc => ?_⟩
    · show (cs.map (nwT ps)).length ≤ w
      rw [List.length_map]
      exact few
    · obtain ⟨c', hc', rfl⟩ := List.mem_map.mp hc
      exact trIn_nw ps n c' (kids c' hc')
theorem sort_self {ms : List Str} (h : ms.Pairwise fun x y => strLt x y = true) : sortS ms = ms := by
  refine List.Perm.eq_of_pairwise (le := fun a b => sLe a b = true) (fun a b _ _ => sLe_antisymm) (sort_pairwise sLe_total ms) (h.imp fun {a b} q => ?_) (List.mergeSort_perm ms sLe)
  cases e : sLe a b with
  | true => rfl
  | false =>
    have := sLe_total.total a b
    have k : sLe b a = true := this.resolve_left (by rw [e]; exact fun z => nomatch z)
    unfold sLe at k
    rw [q] at k
    cases k
theorem nwB_nil {b : Bk} (v : BkV b) : nwB [] b = b := by
  have hP : ∀ m, nwP [] m = m := fun _ => rfl
  have hR : ∀ r ∈ b.2, nwR [] r = r := fun r hr => by
    have hp : ∀ p ∈ r.2, nwPt [] p = p := fun p hp => by
      have e : p.1.map (nwP []) = p.1 := by
        rw [show nwP [] = id from funext hP, List.map_id]
      unfold nwPt
      rw [e, sort_self (((v.parts r hr).2 p hp).inc)]
    unfold nwR
    rw [List.map_congr_left (g := id) hp, List.map_id]
    rfl
  unfold nwB
  rw [List.map_congr_left (g := id) hR, List.map_id]
  rfl
theorem tree_no_ref (u : Tr) : eqG id (eT u) (.tuple [.str "refused", .int 2]) = some (.bool false) := by
  rw [eqG_val (plain_eT u) rfl (by
    have : PyData.depth (.tuple [.str "refused", .int 2]) ≤ 1 := by simp [PyData.depth, PyData.depthAll]
    omega), eT_mk]
  simp [PyData.eqv, PyData.eqvAll]
def ref85 (i : Int) : D := .tuple [.str "refused", .int i]
def bads85 (m0 : Str) : List D := [.none, .list [], .tuple [.tuple [.str "a"]], .tuple [.tuple [.str "a", .str "A"]], .tuple [.tuple [.str "a", .str "b", .str "c"]], .tuple [.tuple [.str "e", .str "x"], .tuple [.str "e", .str "y"]], .tuple [.tuple [.str "e", .str "x"], .tuple [.str "f", .str "x"]],
  .tuple [.tuple [.str "e", .str "e"], .tuple [.str "f", .str "f"], .tuple [.str "g", .str "g"], .tuple [.str "h", .str "h"], .tuple [.str "i", .str "i"], .tuple [.str "j", .str "j"]], .tuple [.str "ab"], .tuple [.tuple [.str m0, .none]], .tuple [.tuple [.str m0, .str "abc"]]]
theorem bads_bad (m0 : Str) (h : m0 ∈ fourM) : ∀ d ∈ bads85 m0, m_need_pairs [d] = .exc "NoPairs" := by
  intro d hd
  simp only [fourM, List.mem_cons, List.not_mem_nil, or_false] at h
  simp only [bads85, List.mem_cons, List.not_mem_nil, or_false] at hd
  rcases h with rfl | rfl | rfl | rfl <;> rcases hd with rfl | rfl | rfl | rfl | rfl | rfl | rfl | rfl | rfl | rfl | rfl <;> kernel_rfl
end Pz

set_option maxHeartbeats 4000000
/-! law_k85: the law. -/
namespace Pz
open PySem PySem.Spec L2 PySem.W
abbrev G85 (ns : List Int) (b : Bk) (t : Tr) (ps : List Pr) (s6 s7 s8 x2 x3 s10 s11 s12 s13 s14 s15 s16 s17 s18 : Slot) : Env := [.dat (scrD (ns.map .int)), .dat (eB b), x2, x3, .dat (.list ((b.2.map (·.1)).map .str)), .dat (eT t), s6, s7, s8, .dat (.tuple (ps.map eQ)), s10, s11, s12, s13, s14, s15, s16, s17, s18]
theorem k85_rule (ns : List Int) {b : Bk} (v : BkV b) (t : Tr) {ps : List Pr} (few : ps.length ≤ 1000) (s6 s7 s8 : Slot) (rs : List Rl) (lrs : rs.length ≤ 1000) {r : Rl} (hr : r ∈ b.2) :
    LB_8 (G85 ns b t ps s6 s7 s8 (.dat (.str r.1)) (.dat (.tuple (r.2.map eP))) (.own (rs.map eR)) .no .no .no .no .no .no .no .no) = .nx (G85 ns b t ps s6 s7 s8 (.dat (.str r.1)) (.dat (.tuple (r.2.map eP))) (.own ((rs ++ [nwR ps r]).map eR)) (.dat (.list (r.2.map fun p => eP (nwPt ps p)))) .no .no .no .no .no .no .no) := by
  obtain ⟨l3, pv⟩ := v.parts r hr
  have lt : ∀ xs : List D, dTuple (.list xs) = some (.tuple xs) := fun _ => rfl
  have hc : fComp (fIter (fVar 3)) (tgN 18) cYes (f2 dAdd (fTup (fCons (f1 dTuple (fLst (fN1 dSort (fLst (fComp (fIter (f2 dIx (fVar 18) (fC (.int 0)))) (tgN 17) cYes (fCall m_law_new (fCons (fVar 9) (fCons (fVar 17) fNil))) [17]))))) fNil)) (fSl (fVar 18) (fSo (fC (.int 1))) fNo)) [18]
      (G85 ns b t ps s6 s7 s8 (.dat (.str r.1)) (.dat (.tuple (r.2.map eP))) (.own (rs.map eR)) .no .no .no .no .no .no .no .no) = .ok (r.2.map fun p => eP (nwPt ps p)) := by
    refine comp_all r.2 eP (fun p => eP (nwPt ps p)) (by simp [dIter]) (by omega) fun p hp => ⟨G85 ns b t ps s6 s7 s8 (.dat (.str r.1)) (.dat (.tuple (r.2.map eP))) (.own (rs.map eR)) .no .no .no .no .no .no .no (.dat (eP p)), rfl, ?_⟩
    have pf := (pv p hp).few
    have ix0 : dIx (eP p) (.int 0) = some (.tuple (p.1.map .str)) := rfl
    have hc2 : fComp (fIter (f2 dIx (fVar 18) (fC (.int 0)))) (tgN 17) cYes (fCall m_law_new (fCons (fVar 9) (fCons (fVar 17) fNil))) [17]
        (G85 ns b t ps s6 s7 s8 (.dat (.str r.1)) (.dat (.tuple (r.2.map eP))) (.own (rs.map eR)) .no .no .no .no .no .no .no (.dat (eP p))) = .ok (p.1.map fun m => .str (nwP ps m)) := by
      refine comp_all p.1 PyData.str (fun m => .str (nwP ps m)) ?_ (by omega) fun m hm => ⟨G85 ns b t ps s6 s7 s8 (.dat (.str r.1)) (.dat (.tuple (r.2.map eP))) (.own (rs.map eR)) .no .no .no .no .no .no (.dat (.str m)) (.dat (eP p)), rfl, ?_⟩
      · simp [ix0, dIter]
      · simp only [u_fCall, u_fCons, u_fNil, u_fVar, List.getElem?_cons_zero, List.getElem?_cons_succ, R.bind_ok, lawNew_ok ps few]
    have hs : dSort (.list (p.1.map fun m => .str (nwP ps m))) = some ((sortS (p.1.map (nwP ps))).map .str) := by
      have := sort_strs (p.1.map (nwP ps)) (by rw [List.length_map]; omega)
      rw [List.map_map] at this
      exact this
    have sl : dSl (eP p) (some 1) none = some (.tuple [.int p.2.1, optD p.2.2]) := rfl
    have ad : dAdd (.tuple [.tuple ((sortS (p.1.map (nwP ps))).map .str)]) (.tuple [.int p.2.1, optD p.2.2]) = some (eP (nwPt ps p)) := rfl
    simp only [u_f2, u_fTup, u_fCons, u_f1, u_fLst, u_fN1, hc2, R.bind_ok, ofO_some, hs, lt, u_fNil, u_fSl, u_fVar, u_fSo, u_fC, u_fNo, List.getElem?_cons_zero, List.getElem?_cons_succ, sl, ad]
  have er : eR (nwR ps r) = .tuple [.str (nwP ps r.1), .tuple (r.2.map fun p => eP (nwPt ps p))] := by
    unfold eR nwR
    rw [List.map_map]
    rfl
  unfold LB_8
  refine seq_go (P := (· = _)) (sFrzA_go (own_go (r.2.map fun p => eP (nwPt ps p)) hc)) ?_
  simp only [List.set_cons_zero, List.set_cons_succ, u_frzE, List.getElem?_cons_zero, List.getElem?_cons_succ]
  rw [app_go (ds := rs.map eR) (eR (nwR ps r)) rfl ?_ (by rw [List.length_map]; omega)]
  · rw [List.map_append]
    rfl
  · rw [er]
    simp only [u_fTup, u_fCons, u_fCall, u_fVar, u_fNil, u_f1, List.getElem?_cons_zero, List.getElem?_cons_succ, R.bind_ok, lawNew_ok ps few, lt, ofO_some]
/-- what is told of a thing, book or tree -/
structure Told85 (w : Int) (x y : D) (ps : List Pr) : Prop where
  odd : ∀ d, m_need_pairs [d] = .exc "NoPairs" → m_law_told [.int w, x, d] = .ok (ref85 2)
  nul : m_law_told [.int w, .none, .none] = .ok (ref85 w)
  cut : dSl x none (some 1) = some y
  half : m_law_told [.int w, y, .tuple (ps.map eQ)] = .ok (ref85 w)
theorem k85_thing (ns : List Int) {b : Bk} (t : Tr) (ps : List Pr) (s6 s7 s8 s10 : Slot) {m0 : Str} (hm : m0 ∈ fourM) {w : Int} (hw : w = 0 ∨ w = 1) {x y : D} (h : Told85 w x y ps) :
    LB_13 (G85 ns b t ps s6 s7 s8 .no .no s10 .no (.dat (.list (bads85 m0))) (.dat (.int w)) (.dat x) .no .no .no .no) = .nx (G85 ns b t ps s6 s7 s8 .no .no s10 .no (.dat (.list (bads85 m0))) (.dat (.int w)) (.dat x) .no .no .no .no) := by
  have rr : ∀ i : Int, i = 0 ∨ i = 1 ∨ i = 2 → eqG not (ref85 i) (.tuple [.str "refused", .int i]) = some (.bool false) := fun i hi => by
    rcases hi with rfl | rfl | rfl <;> kernel_rfl
  have hc : fComp (fIter (fVar 12)) (tgN 16) (fB (f2 dNe' (fCall m_law_told (fCons (fVar 13) (fCons (fVar 14) (fCons (fVar 16) fNil)))) (fTup (fCons (fC (.str "refused")) (fCons (fC (.int 2)) fNil))))) (fVar 16) [16]
      (G85 ns b t ps s6 s7 s8 .no .no s10 .no (.dat (.list (bads85 m0))) (.dat (.int w)) (.dat x) .no .no .no .no) = .ok (((bads85 m0).filter fun _ => false).map id) := by
    refine comp_of (bads85 m0) id (fun _ => false) id ?_ (by show 11 ≤ 1000000; omega) fun d hd => ⟨G85 ns b t ps s6 s7 s8 .no .no s10 .no (.dat (.list (bads85 m0))) (.dat (.int w)) (.dat x) .no (.dat d) .no .no, rfl, ?_, fun q => nomatch q⟩
    · rw [List.map_id]
      rfl
    · have q := h.odd d (bads_bad m0 hm d hd)
      have ne : dNe' (ref85 2) (.tuple [.str "refused", .int 2]) = some (.bool false) := rr 2 (.inr (.inr rfl))
      simp only [u_fB, u_f2, u_fCall, u_fCons, u_fNil, u_fTup, u_fC, u_fVar, List.getElem?_cons_zero, List.getElem?_cons_succ, R.bind_ok, q, ne, ofO_some, u_asB]
  have fe : ((bads85 m0).filter fun _ => false) = [] := rfl
  rw [fe] at hc
  have n0 : dNe' (.list []) (.list []) = some (.bool false) := rfl
  have nw : dNe' (ref85 w) (.tuple [.str "refused", .int w]) = some (.bool false) := rr w (by omega)
  unfold LB_13
  refine seq_go (P := (· = _)) (skip_if ?_) (skip_if ?_)
  · rw [u_fB, u_f2, u_fLst, hc]
    simp only [List.map_nil, R.bind_ok, u_fLst, u_fNil, n0, ofO_some, u_asB]
  · have e1 : fB (f2 dNe' (fCall m_law_told (fCons (fVar 13) (fCons (fC .none) (fCons (fC .none) fNil)))) (fTup (fCons (fC (.str "refused")) (fCons (fVar 13) fNil)))) (G85 ns b t ps s6 s7 s8 .no .no s10 .no (.dat (.list (bads85 m0))) (.dat (.int w)) (.dat x) .no .no .no .no) = .ok false := by
      simp only [u_fB, u_f2, u_fCall, u_fCons, u_fNil, u_fTup, u_fC, u_fVar, List.getElem?_cons_zero, List.getElem?_cons_succ, R.bind_ok, h.nul, nw, ofO_some, u_asB]
    have e2 : fB (f2 dNe' (fCall m_law_told (fCons (fVar 13) (fCons (fSl (fVar 14) fNo (fSo (fC (.int 1)))) (fCons (fVar 9) fNil)))) (fTup (fCons (fC (.str "refused")) (fCons (fVar 13) fNil)))) (G85 ns b t ps s6 s7 s8 .no .no s10 .no (.dat (.list (bads85 m0))) (.dat (.int w)) (.dat x) .no .no .no .no) = .ok false := by
      simp only [u_fB, u_f2, u_fCall, u_fCons, u_fNil, u_fTup, u_fC, u_fVar, u_fSl, u_fSo, u_fNo, List.getElem?_cons_zero, List.getElem?_cons_succ, R.bind_ok, h.cut, h.half, nw, ofO_some, u_asB]
    unfold fOr
    rw [e1, R.bind_ok]
    exact e2
abbrev zzP : Pr := ("zz", "y")
abbrev yxP : Pr := ("y", "x")
theorem k85_rest (ns : List Int) {b : Bk} (hb : BookIs b) {t : Tr} (h40 : TrIn okM 40 12 t) {ps : List Pr} (w : PrV ps) (hin : ∀ p ∈ ps, PrIn b ps p) (s6 s7 s8 : Slot) :
    TrueR (LT_7 (G85 ns b t ps s6 s7 s8 .no .no .no .no .no .no .no .no .no .no .no)) := by
  have v := bookIs_vT hb
  have lv := v.len
  have few := w.few
  have four : ∀ m ∈ b.2.map (·.1), m ∈ fourM := fun m hm => by
    obtain ⟨r, hr, rfl⟩ := List.mem_map.mp hm
    exact (hb.2.2.2.2 r hr).1
  have ix1 : dIx (eB b) (.int 1) = some (.tuple (b.2.map eR)) := rfl
  have ix0 : dIx (eB b) (.int 0) = some (.str b.1) := rfl
  have lt : ∀ xs : List D, dTuple (.list xs) = some (.tuple xs) := fun _ => rfl
  unfold LT_7
  refine seq_go (P := TrueR) (own_go [] rfl) ?_
  simp only [List.set_cons_zero, List.set_cons_succ]
  unfold LT_8
  refine for_go (P := TrueR) b.2 eR (fun rs : List Rl => G85 ns b t ps s6 s7 s8 .no .no (.own (rs.map eR)) .no .no .no .no .no .no .no .no) (fun dn rs => rs = dn.map (nwR ps)) [] ?_ rfl rfl ?_ ?_
  · simp only [u_fIter, u_f2, u_fVar, u_fC, List.getElem?_cons_zero, List.getElem?_cons_succ, R.bind_ok, ix1, ofO_some]
    rfl
  · rintro dn r rest rs ex rfl
    have hr := mem_mid ex
    have lm := len_mid ex
    refine ⟨G85 ns b t ps s6 s7 s8 (.dat (.str r.1)) (.dat (.tuple (r.2.map eP))) (.own ((dn.map (nwR ps)).map eR)) .no .no .no .no .no .no .no .no, rfl, nx_in (k85_rule ns v t (by omega) s6 s7 s8 (dn.map (nwR ps)) (by rw [List.length_map]; omega) hr) ⟨dn.map (nwR ps) ++ [nwR ps r], rfl, ?_⟩⟩
    rw [List.map_append]
    rfl
  rintro rs rfl
  have eb : PyData.tuple [.str (nwP ps b.1), .tuple ((b.2.map (nwR ps)).map eR)] = eB (nwB ps b) := rfl
  have q0 := told0 (renamed_ok v w hin)
  have q1 := told1 (treeRenamed_ok w h40)
  have ln0 := lawNew_ok ps (by omega) b.1
  have lnT := lawNewT_ok ps (by omega) 12 20 t (by omega) h40
  have n0 : dNe' (eB (nwB ps b)) (eB (nwB ps b)) = some (.bool false) := eq_self (plain_eB _) (by have := d85_eB (nwB ps b); omega)
  have n1 : dNe' (eT (nwT ps t)) (eT (nwT ps t)) = some (.bool false) := eq_self (plain_eT _) (by have := d85_eT 12 _ (trIn_nw ps 12 t h40); omega)
  unfold LT_9
  refine seq_go (P := TrueR) (skip_if ?_) ?_
  · simp only [u_fB, u_f2, u_fCall, u_fCons, u_fNil, u_fTup, u_fC, u_f1, u_fVar, u_fOwn, List.getElem?_cons_zero, List.getElem?_cons_succ, R.bind_ok, q0, ix0, ln0, lt, ofO_some, eb, n0, u_asB]
  have wz : PrV [zzP] := ⟨by simp, fun p hp => by
    rw [List.mem_singleton.mp hp]
    exact ⟨rfl, rfl⟩, by simp, by simp⟩
  have q2 : m_law_told [.int 1, eT t, .tuple [.tuple [.str "zz", .str "y"]]] = .ok (eT (nwT [zzP] t)) := told1 (treeRenamed_ok wz h40)
  have n2 : dEq' (eT (nwT [zzP] t)) (.tuple [.str "refused", .int 2]) = some (.bool false) := tree_no_ref _
  unfold LT_10
  refine seq_go (P := TrueR) (skip_if ?_) ?_
  · unfold fOr
    simp only [u_fB, u_f2, u_fCall, u_fCons, u_fNil, u_fTup, u_fC, u_fVar, List.getElem?_cons_zero, List.getElem?_cons_succ, R.bind_ok, q1, lnT, n1, ofO_some, u_asB]
    simp only [q2, R.bind_ok, n2, ofO_some, u_asB]
  -- the first mark, the last one
  obtain ⟨m0, mr, em⟩ : ∃ m0 mr, b.2.map (·.1) = m0 :: mr := by
    cases e : b.2.map (·.1) with
    | nil => have := congrArg List.length e; rw [List.length_map, List.length_nil] at this; omega
    | cons m0 mr => exact ⟨m0, mr, rfl⟩
  have hm0 : m0 ∈ fourM := four m0 (by rw [em]; exact List.mem_cons_self)
  have ixm : dIx (.list ((b.2.map (·.1)).map .str)) (.int 0) = some (.str m0) := by rw [em]; exact head_ix
  unfold LT_11
  refine seq_go (P := TrueR) (asg_go (.list ((bads85 m0).take 7)) rfl) ?_
  simp only [List.set_cons_zero, List.set_cons_succ]
  unfold LT_12
  have chars : fComp (fIter (fC (.str "efghij"))) (tgN 17) cYes (fTup (fCons (fVar 17) (fCons (fVar 17) fNil))) [17] (G85 ns b t ps s6 s7 s8 .no .no (.own ((b.2.map (nwR ps)).map eR)) .no (.dat (.list ((bads85 m0).take 7))) .no .no .no .no .no .no) = .ok [.tuple [.str "e", .str "e"], .tuple [.str "f", .str "f"], .tuple [.str "g", .str "g"], .tuple [.str "h", .str "h"], .tuple [.str "i", .str "i"], .tuple [.str "j", .str "j"]] := by kernel_rfl
  have ad : dAdd (.list ((bads85 m0).take 7)) (.list [.tuple [.tuple [.str "e", .str "e"], .tuple [.str "f", .str "f"], .tuple [.str "g", .str "g"], .tuple [.str "h", .str "h"], .tuple [.str "i", .str "i"], .tuple [.str "j", .str "j"]], .tuple [.str "ab"], .tuple [.tuple [.str m0, .none]], .tuple [.tuple [.str m0, .str "abc"]]]) = some (.list (bads85 m0)) := rfl
  refine seq_go (P := TrueR) (asg_go (.list (bads85 m0)) ?_) ?_
  · simp only [u_f2, u_fVar, u_fLst, u_fCons, u_f1, u_fTup, u_fC, u_fNil, List.getElem?_cons_zero, List.getElem?_cons_succ, R.bind_ok, chars, lt, ofO_some, ixm, ad]
  simp only [List.set_cons_zero, List.set_cons_succ]
  -- both things
  have nbk : ∀ m : Str, m_need_book [.tuple [.str m]] = .exc "NoBook" := fun m => by kernel_rfl
  have ntr : ∀ m : Str, m_need_tree [.tuple [.str m]] = .exc "NoTree" := fun m => by kernel_rfl
  have nbn : m_need_book [.none] = .exc "NoBook" := by kernel_rfl
  have ntn : m_need_tree [.none] = .exc "NoTree" := by kernel_rfl
  have rb : ∀ x y : D, m_need_book [x] = .exc "NoBook" → m_renamed [x, y] = .exc "NoBook" := fun x y h => by
    show runF F_renamed 9 _ = _
    rw [un_renamed]
    simp [LT_renamed_0, LA_renamed_0, h]
  have rt : ∀ x y : D, m_need_tree [x] = .exc "NoTree" → m_tree_renamed [x, y] = .exc "NoTree" := fun x y h => by
    show runF F_tree_renamed 2 _ = _
    rw [un_tree_renamed]
    simp [LT_tree_renamed_0, LA_tree_renamed_0, h]
  have tb : Told85 0 (eB b) (.tuple [.str b.1]) ps := ⟨fun d hd => told0x (renamed_odd v hd) rfl, told0x (rb _ _ nbn) rfl, rfl, told0x (rb _ _ (nbk _)) rfl⟩
  have tt : Told85 1 (eT t) (.tuple [.str t.mark]) ps := ⟨fun d hd => told1x (treeRenamed_odd h40 hd) rfl, told1x (rt _ _ ntn) rfl, by rw [eT_mk]; rfl, told1x (rt _ _ (ntr _)) rfl⟩
  unfold LT_13
  refine for_go (P := TrueR) [((0 : Int), eB b), (1, eT t)] (fun x : Int × D => .tuple [.int x.1, x.2]) (fun _ : Unit => G85 ns b t ps s6 s7 s8 .no .no (.own ((b.2.map (nwR ps)).map eR)) .no (.dat (.list (bads85 m0))) .no .no .no .no .no .no) (fun _ _ => True) () ?_ rfl trivial ?_ ?_
  · rfl
  · rintro dn x rest _ ex _
    have hx := mem_mid ex
    refine ⟨G85 ns b t ps s6 s7 s8 .no .no (.own ((b.2.map (nwR ps)).map eR)) .no (.dat (.list (bads85 m0))) (.dat (.int x.1)) (.dat x.2) .no .no .no .no, rfl, nx_in (ρ := G85 ns b t ps s6 s7 s8 .no .no (.own ((b.2.map (nwR ps)).map eR)) .no (.dat (.list (bads85 m0))) (.dat (.int x.1)) (.dat x.2) .no .no .no .no) ?_ ⟨(), rfl, trivial⟩⟩
    rcases List.mem_cons.mp hx with rfl | hx
    · exact k85_thing ns t ps s6 s7 s8 _ hm0 (.inl rfl) tb
    · rw [List.mem_singleton.mp hx]
      exact k85_thing ns t ps s6 s7 s8 _ hm0 (.inr rfl) tt
  rintro _ _
  -- pairs of other rules
  have ln : dLen (.list ((b.2.map (·.1)).map PyData.str)) = some (.int ((b.2.map (·.1)).length : Nat)) := by rw [len_list, List.length_map]
  have ng : dNeg (.int 1) = some (.int (-1)) := rfl
  have out : ∀ m : Str, m ∉ fourM → m ∉ b.2.map (·.1) := fun m h q => h (four m q)
  have key : ∃ p2 : Pr, PrV [p2] ∧ ¬ PrIn b [p2] p2 ∧ LA_14 (G85 ns b t ps s6 s7 s8 .no .no (.own ((b.2.map (nwR ps)).map eR)) .no (.dat (.list (bads85 m0))) .no .no .no .no .no .no) =
      .nx (G85 ns b t ps s6 s7 s8 .no .no (.own ((b.2.map (nwR ps)).map eR)) .no (.dat (.list (bads85 m0))) .no .no (.dat (.list ([zzP, p2].map fun p => .tuple [eQ p]))) .no .no .no) := by
    cases mr with
    | nil =>
      have gt : dGt (.int ((b.2.map (·.1)).length : Nat)) (.int 1) = some (.bool false) := by rw [em]; rfl
      refine ⟨yxP, ⟨by simp, fun p hp => by
        rw [List.mem_singleton.mp hp]
        exact ⟨rfl, rfl⟩, by simp, by simp⟩, fun h => out "y" (by decide) h.1, ?_⟩
      unfold LA_14
      rw [asg_go (.list ([zzP, yxP].map fun p => .tuple [eQ p]))]
      · rfl
      · simp only [u_fLst, u_fCons, u_fTup, u_fC, u_fNil, u_fIf, u_fB, u_f2, u_f1, u_fVar, List.getElem?_cons_zero, List.getElem?_cons_succ, R.bind_ok, ln, gt, ofO_some, u_asB]
        rfl
    | cons m1 mr =>
      obtain ⟨xs, x, ex⟩ : ∃ xs x, m1 :: mr = xs ++ [x] := ⟨(m1 :: mr).dropLast, (m1 :: mr).getLast (by simp), (List.dropLast_concat_getLast (by simp)).symm⟩
      have em2 : b.2.map (·.1) = (m0 :: xs) ++ [x] := by rw [em, ex]; rfl
      have gt : dGt (.int ((b.2.map (·.1)).length : Nat)) (.int 1) = some (.bool true) := by
        show some (PyData.bool (decide _)) = _
        rw [decide_eq_true (by rw [em, List.length_cons, List.length_cons]; omega)]
      have ixl : dIx (.list ((b.2.map (·.1)).map .str)) (.int (-1)) = some (.str x) := by
        rw [em2]
        show atI (((m0 :: xs) ++ [x]).map PyData.str) (-1) = _
        unfold atI
        have e : ixN (((m0 :: xs) ++ [x]).map PyData.str).length (-1) = some (m0 :: xs).length := by
          unfold ixN
          rw [List.length_map, List.length_append, List.length_singleton, if_neg (by omega), if_pos (by omega)]
          congr 1
          omega
        rw [e]
        show (((m0 :: xs) ++ [x]).map PyData.str)[(m0 :: xs).length]? = _
        rw [List.getElem?_map, List.getElem?_append_right (Nat.le_refl _), Nat.sub_self]
        rfl
      have nd := v.nd
      rw [em2] at nd
      have ne : m0 ≠ x := fun e => by
        have := (List.nodup_append.mp nd).2.2 m0 List.mem_cons_self x (List.mem_singleton.mpr rfl)
        exact this e
      have hx : x ∈ b.2.map (·.1) := by rw [em2]; simp
      have h0 : m0 ∈ b.2.map (·.1) := by rw [em]; exact List.mem_cons_self
      refine ⟨(m0, x), ⟨by simp, fun p hp => by
        rw [List.mem_singleton.mp hp]
        exact ⟨v.ok _ h0, v.ok _ hx⟩, by simp, by simp⟩, fun h => ?_, ?_⟩
      · have := h.2 hx
        rw [List.map_singleton, List.mem_singleton] at this
        exact ne this.symm
      · unfold LA_14
        rw [asg_go (.list ([zzP, (m0, x)].map fun p => .tuple [eQ p]))]
        · rfl
        · simp only [u_fLst, u_fCons, u_fTup, u_fC, u_fNil, u_fIf, u_fB, u_f2, u_f1, u_fVar, List.getElem?_cons_zero, List.getElem?_cons_succ, R.bind_ok, ln, gt, ofO_some, u_asB, ng, ixl, ixm]
          rfl
  obtain ⟨p2, k1, k2, k3⟩ := key
  unfold LT_14
  refine seq_go (P := TrueR) k3 ?_
  have hc : fComp (fIter (fVar 15)) (tgN 17) cYes (fCall m_law_told (fCons (fC (.int 0)) (fCons (fVar 1) (fCons (fVar 17) fNil)))) [17] (G85 ns b t ps s6 s7 s8 .no .no (.own ((b.2.map (nwR ps)).map eR)) .no (.dat (.list (bads85 m0))) .no .no (.dat (.list ([zzP, p2].map fun p => .tuple [eQ p]))) .no .no .no) = .ok [ref85 2, ref85 2] := by
    refine comp_all [zzP, p2] (fun p => .tuple [eQ p]) (fun _ => ref85 2) rfl (by simp) fun p hp => ⟨G85 ns b t ps s6 s7 s8 .no .no (.own ((b.2.map (nwR ps)).map eR)) .no (.dat (.list (bads85 m0))) .no .no (.dat (.list ([zzP, p2].map fun p => .tuple [eQ p]))) .no (.dat (.tuple [eQ p])) .no, rfl, ?_⟩
    have hq : m_law_told [.int 0, eB b, .tuple [eQ p]] = .ok (ref85 2) := by
      rcases List.mem_cons.mp hp with rfl | hp
      · exact told0x (renamed_out v wz fun h => out "zz" (by decide) h.1) rfl
      · rw [List.mem_singleton.mp hp]
        exact told0x (renamed_out v k1 k2) rfl
    simp only [u_fCall, u_fCons, u_fNil, u_fC, u_fVar, List.getElem?_cons_zero, List.getElem?_cons_succ, R.bind_ok, hq]
  have w0 : PrV [] := ⟨by simp, (fun p hp => by cases hp), by simp, by simp⟩
  have qe : m_law_told [.int 0, eB b, .tuple []] = .ok (eB b) := by
    have := told0 (renamed_ok v w0 fun p hp => by cases hp)
    rw [nwB_nil v] at this
    exact this
  have m2 : dMul (.list [.tuple [.str "refused", .int 2]]) (.int 2) = some (.list [ref85 2, ref85 2]) := rfl
  have e2 : dEq' (.list [ref85 2, ref85 2]) (.list [ref85 2, ref85 2]) = some (.bool true) := rfl
  have eb2 : dEq' (eB b) (eB b) = some (.bool true) := eq_self (plain_eB _) (by have := d85_eB b; omega)
  unfold LT_15 LA_15
  simp only [u_sRet, u_fAndV, u_f2, u_fLst, hc, u_fCons, u_fTup, u_fC, u_fNil, R.bind_ok, m2, e2, ofO_some, u_fCall, u_fVar, List.getElem?_cons_zero, List.getElem?_cons_succ, qe, eb2]
  rfl
theorem k85_law (ns : List Int) (hl : ns.length ≤ 63) : m_law [scrD (ns.map .int)] = .ok (.bool true) := by
  obtain ⟨d, hd, b, rfl, hb⟩ := book_ok ns 0 hl (by omega) (by omega)
  have v := bookIs_vT hb
  have lv := v.len
  have four : ∀ m ∈ b.2.map (·.1), m ∈ fourM := fun m hm => by
    obtain ⟨r, hr, rfl⟩ := List.mem_map.mp hm
    exact (hb.2.2.2.2 r hr).1
  obtain ⟨d, ht0, t0, rfl, tm0, tin0⟩ := lawTree_ok ns hl hb 2 20 b.1 200 (by omega) v.top (by omega) (by omega)
  obtain ⟨d, ht, t, rfl, tin⟩ := spoilt_ok ns hl 3 20 t0 5000 (by omega) (tin0.mono (fun m h => four m h) (Nat.le_refl _) (Nat.le_refl _)) (by omega) (by omega)
  have h40 : TrIn okM 40 12 t := tin.mono (fun m h => okM_five h) (by omega) (by omega)
  have ix1 : dIx (eB b) (.int 1) = some (.tuple (b.2.map eR)) := rfl
  have ix0 : dIx (eB b) (.int 0) = some (.str b.1) := rfl
  refine true_law ?_
  show TrueR (F_law [.dat (scrD (ns.map .int)), .no, .no, .no, .no, .no, .no, .no, .no, .no, .no, .no, .no, .no, .no, .no, .no, .no, .no])
  rw [un_law]
  unfold LT_0
  refine seq_go (P := TrueR) (asg_go (eB b) (by simp [hd])) ?_
  simp only [List.set_cons_zero, List.set_cons_succ]
  have hc : fComp (fIter (f2 dIx (fVar 1) (fC (.int 1)))) (tgTup (tgCons (tgN 2) (tgCons (tgN 3) tgNil))) cYes (fVar 2) [2, 3] [.dat (scrD (ns.map .int)), .dat (eB b), .no, .no, .no, .no, .no, .no, .no, .no, .no, .no, .no, .no, .no, .no, .no, .no, .no] = .ok (b.2.map fun r => .str r.1) := by
    refine comp_all b.2 eR (fun r => .str r.1) ?_ (by omega) fun r hr => ⟨_, rfl, rfl⟩
    simp [ix1, dIter]
  unfold LT_1
  refine seq_go (P := TrueR) (sFrzA_go (own_go (b.2.map fun r => .str r.1) hc)) ?_
  simp only [List.set_cons_zero, List.set_cons_succ, u_frzE, List.getElem?_cons_zero, List.getElem?_cons_succ]
  have em : (b.2.map fun r => PyData.str r.1) = (b.2.map (·.1)).map PyData.str := by rw [List.map_map]; rfl
  rw [em]
  unfold LT_2
  refine seq_go (P := TrueR) (asg_go (eT t) ?_) ?_
  · simp only [u_fCall, u_fCons, u_fNil, u_fC, u_fVar, u_f2, List.getElem?_cons_zero, List.getElem?_cons_succ, R.bind_ok, ix0, ofO_some]
    have ht0' : mR_law_tree 20 [scrD (ns.map .int), .int 200, eB b, .str b.1, .int 2] = .ok (eT t0) := ht0
    simp only [ht0', R.bind_ok, ht]
  simp only [List.set_cons_zero, List.set_cons_succ]
  exact k85_pairs ns hl hb t fun ps s6 s7 s8 w hin => k85_rest ns hb h40 w hin s6 s7 s8
end Pz

set_option maxHeartbeats 0
/-! The end of treeforms_k85_renamed. -/
namespace Pz
open PySem PySem.Spec L2
def fnL_0 : List He.DefD := [dd "_law_cell" 35, dd "_law_new" 42, dd "_law_refused" 40, dd "are_rising" 20, dd "has_mark" 25, dd "is_mark" 10, dd "is_number" 9, dd "part_with" 30, dd "_law_drawn" 36, dd "is_pair" 28, dd "is_part" 21, dd "_law_book" 37, dd "is_rule" 22, dd "need_pairs" 29, dd "is_book" 23, dd "need_book" 24, dd "renamed" 31, dd "tree_with" 32, dd "_law_new_tree" 43, dd "is_tree_in" 11, dd "_law_spoilt" 39, dd "_law_tree" 38, dd "is_tree" 12, dd "need_tree" 13, dd "tree_renamed" 33, dd "_law_told" 41, dd "law" 44]
def fnL : List He.DefD := fnL_0
def faL_0 : List He.Fa := [.glo "_law_cell", .glo "_law_new", .glo "_law_refused", .glo "are_rising", .glo "has_mark", .glo "is_mark", .glo "is_number", .glo "part_with", .glo "_law_drawn", .glo "is_pair", .glo "is_part", .glo "_law_book", .glo "is_rule", .glo "need_pairs", .glo "is_book", .glo "need_book", .glo "renamed", .glo "tree_with", .glo "_law_new_tree", .glo "is_tree_in", .glo "_law_spoilt", .glo "_law_tree", .glo "is_tree", .glo "need_tree", .glo "tree_renamed", .glo "_law_told", .glo "law", .glo "FormError", .glo "NoBook", .glo "NoPairs"]
def faL_1 : List He.Fa := [.glo "NoTree", .free "ValueError", .free "all", .free "bool", .free "dict", .free "enumerate", .free "int", .free "isinstance", .free "len", .free "max", .free "range", .free "set", .free "sorted", .free "str", .free "tuple", .free "zip", .int "MOST_CHILDREN" 40, .int "MOST_CHOICE" 3, .int "MOST_DEEP" 12, .int "MOST_LEAST" 2, .int "MOST_MARK" 2, .int "MOST_MOST" 4, .int "MOST_PAIRS" 5, .int "MOST_PARTS" 3, .int "MOST_RULES" 5, .exc "NoBook", .exc "NoPairs", .exc "NoTree"]
def faL : List He.Fa := faL_0 ++ faL_1
def lsL_0 : List Str := ["is_number", "is_mark", "is_tree_in", "is_tree", "need_tree", "are_rising", "is_part", "is_rule", "is_book", "need_book", "has_mark", "is_pair", "need_pairs", "part_with", "renamed", "tree_with", "tree_renamed", "_law_cell", "_law_drawn", "_law_book", "_law_tree", "_law_spoilt", "_law_refused", "_law_told", "_law_new", "_law_new_tree", "FormError", "NoTree", "NoBook", "NoPairs"]
def lsL_1 : List Str := ["MOST_DEEP", "MOST_CHILDREN", "MOST_MARK", "MOST_RULES", "MOST_PARTS", "MOST_CHOICE", "MOST_LEAST", "MOST_MOST", "MOST_PAIRS"]
def lsL : List Str := lsL_0 ++ lsL_1
abbrev RwX : PySem.W.OpenRow := PySem.W.OpenLaw.row PySem.Challenge.rw_treeforms_k85_renamed
def exX : PySem.W.Frag → Bool := exB exNames
abbrev hkX : PySem.W.Hook := hookE 4 exX faL fnL
def obX (s : PySem.W.SharedT) : AlE := obsEG 4 exX faL fnL (HandSHeadRun.getT s)
theorem obX_eq (s : PySem.W.SharedT) : obX s = hkX.obs s.abs := obsEG_eq (HandSHeadRun.getT_eq s)
theorem runX (w : World) : HandSHeadRun.RunEq RwX (PySem.W.view RwX.prog [44]) hkX obX 4000 lsL w := by
  intro os
  kernel_rfl
section
variable {P : Program} {w : World} {K : PySem.W.Frag} {mg : Str → Option Value} {base : Heap} {hp : Heap}
theorem txt_of (X : K.In hp) (G : hp.Ns mainGlobals mg) (ce : exX K = true) (c : He.SaysD faL fnL K) : Txt K mg where
  b_ValueError := He.free_ok X G (c.fact 31 (f := .free "ValueError") rfl)
  b_all := He.free_ok X G (c.fact 32 (f := .free "all") rfl)
  b_bool := He.free_ok X G (c.fact 33 (f := .free "bool") rfl)
  b_dict := He.free_ok X G (c.fact 34 (f := .free "dict") rfl)
  b_enumerate := He.free_ok X G (c.fact 35 (f := .free "enumerate") rfl)
  b_int := He.free_ok X G (c.fact 36 (f := .free "int") rfl)
  b_isinstance := He.free_ok X G (c.fact 37 (f := .free "isinstance") rfl)
  b_len := He.free_ok X G (c.fact 38 (f := .free "len") rfl)
  b_max := He.free_ok X G (c.fact 39 (f := .free "max") rfl)
  b_range := He.free_ok X G (c.fact 40 (f := .free "range") rfl)
  b_set := He.free_ok X G (c.fact 41 (f := .free "set") rfl)
  b_sorted := He.free_ok X G (c.fact 42 (f := .free "sorted") rfl)
  b_str := He.free_ok X G (c.fact 43 (f := .free "str") rfl)
  b_tuple := He.free_ok X G (c.fact 44 (f := .free "tuple") rfl)
  b_zip := He.free_ok X G (c.fact 45 (f := .free "zip") rfl)
  c_MOST_CHILDREN := He.int_ok X G (c.fact 46 (f := .int "MOST_CHILDREN" 40) rfl)
  c_MOST_CHOICE := He.int_ok X G (c.fact 47 (f := .int "MOST_CHOICE" 3) rfl)
  c_MOST_DEEP := He.int_ok X G (c.fact 48 (f := .int "MOST_DEEP" 12) rfl)
  c_MOST_LEAST := He.int_ok X G (c.fact 49 (f := .int "MOST_LEAST" 2) rfl)
  c_MOST_MARK := He.int_ok X G (c.fact 50 (f := .int "MOST_MARK" 2) rfl)
  c_MOST_MOST := He.int_ok X G (c.fact 51 (f := .int "MOST_MOST" 4) rfl)
  c_MOST_PAIRS := He.int_ok X G (c.fact 52 (f := .int "MOST_PAIRS" 5) rfl)
  c_MOST_PARTS := He.int_ok X G (c.fact 53 (f := .int "MOST_PARTS" 3) rfl)
  c_MOST_RULES := He.int_ok X G (c.fact 54 (f := .int "MOST_RULES" 5) rfl)
  g_FormError := He.glo_ok X G (c.fact 27 (f := .glo "FormError") rfl)
  ex := exB_ok ce
  x_NoBook := exc_of (He.glo_ok X G (c.fact 28 (f := .glo "NoBook") rfl)) (He.exc_ok (c.fact 55 (f := .exc "NoBook") rfl))
  x_NoPairs := exc_of (He.glo_ok X G (c.fact 29 (f := .glo "NoPairs") rfl)) (He.exc_ok (c.fact 56 (f := .exc "NoPairs") rfl))
  x_NoTree := exc_of (He.glo_ok X G (c.fact 30 (f := .glo "NoTree") rfl)) (He.exc_ok (c.fact 57 (f := .exc "NoTree") rfl))
theorem def_of (X : K.In hp) (G : hp.Ns mainGlobals mg) (c : He.SaysD faL fnL K) (j : Nat) {x : Str} {i : Nat} (h : fnL[j]? = some (dd x i)) (h2 : faL[j]? = some (.glo x)) : DefOk K mg x i :=
  let ⟨fd, F⟩ := c.def_ j (d := dd x i) h; ⟨fd, F, He.glo_ok X G (c.fact j (f := .glo x) h2)⟩
theorem chain (X : K.In hp) (G : hp.Ns mainGlobals mg) (ce : exX K = true) (c : He.SaysD faL fnL K) {fd : FuncData} (FD : FunD K "law" "law" (defArgs (top 44)) (defBody (top 44)) (defScope (top 44)) [] [] (He.ga K "law") fd) (gm : mg "law" = some (.ref (He.ga K "law"))) : FnOk P w K mg base (L2.CX P w) 27 (He.ga K "law") fd ["_law_script"] (spP K m_law 1) := by
  have T := txt_of X G ce c
  have h_law_cell : Has P w K mg base "_law_cell" 1 m_law_cell 2 := ok_law_cell T (def_of X G c 0 (x := "_law_cell") (i := 35) rfl rfl)
  have h_law_new : Has P w K mg base "_law_new" 1 m_law_new 2 := ok_law_new T (def_of X G c 1 (x := "_law_new") (i := 42) rfl rfl)
  have h_law_refused : RefOk P w K mg base "_law_refused" 1 rf_law_refused := ok_law_refused T (def_of X G c 2 (x := "_law_refused") (i := 40) rfl rfl)
  have h_are_rising : Has P w K mg base "are_rising" 1 m_are_rising 1 := ok_are_rising T (def_of X G c 3 (x := "are_rising") (i := 20) rfl rfl)
  have h_has_mark : Has P w K mg base "has_mark" 1 m_has_mark 2 := ok_has_mark T (def_of X G c 4 (x := "has_mark") (i := 25) rfl rfl)
  have h_is_mark : Has P w K mg base "is_mark" 1 m_is_mark 1 := ok_is_mark T (def_of X G c 5 (x := "is_mark") (i := 10) rfl rfl)
  have h_is_number : Has P w K mg base "is_number" 1 m_is_number 3 := ok_is_number T (def_of X G c 6 (x := "is_number") (i := 9) rfl rfl)
  have h_part_with : Has P w K mg base "part_with" 1 m_part_with 2 := ok_part_with T (def_of X G c 7 (x := "part_with") (i := 30) rfl rfl)
  have h_law_drawn : Has P w K mg base "_law_drawn" 2 m_law_drawn 3 := ok_law_drawn T (def_of X G c 8 (x := "_law_drawn") (i := 36) rfl rfl) h_law_cell
  have h_is_pair : Has P w K mg base "is_pair" 2 m_is_pair 1 := ok_is_pair T (def_of X G c 9 (x := "is_pair") (i := 28) rfl rfl) h_is_mark
  have h_is_part : Has P w K mg base "is_part" 2 m_is_part 1 := ok_is_part T (def_of X G c 10 (x := "is_part") (i := 21) rfl rfl) h_is_number h_are_rising h_is_mark
  have h_law_book : Has P w K mg base "_law_book" 3 m_law_book 2 := ok_law_book T (def_of X G c 11 (x := "_law_book") (i := 37) rfl rfl) h_law_drawn
  have h_is_rule : Has P w K mg base "is_rule" 3 m_is_rule 1 := ok_is_rule T (def_of X G c 12 (x := "is_rule") (i := 22) rfl rfl) h_is_mark h_is_part
  have h_need_pairs : Has P w K mg base "need_pairs" 3 m_need_pairs 1 := ok_need_pairs T (def_of X G c 13 (x := "need_pairs") (i := 29) rfl rfl) h_is_pair
  have h_is_book : Has P w K mg base "is_book" 4 m_is_book 1 := ok_is_book T (def_of X G c 14 (x := "is_book") (i := 23) rfl rfl) h_is_mark h_is_rule
  have h_need_book : Has P w K mg base "need_book" 5 m_need_book 1 := ok_need_book T (def_of X G c 15 (x := "need_book") (i := 24) rfl rfl) h_is_book
  have h_renamed : Has P w K mg base "renamed" 6 m_renamed 2 := ok_renamed T (def_of X G c 16 (x := "renamed") (i := 31) rfl rfl) h_need_book h_need_pairs h_has_mark h_part_with
  have h_tree_with : Has P w K mg base "tree_with" 21 (mR_tree_with 20) 2 := ok_tree_with T (def_of X G c 17 (x := "tree_with") (i := 32) rfl rfl) 20
  have h_law_new_tree : Has P w K mg base "_law_new_tree" 22 (mR_law_new_tree 20) 2 := ok_law_new_tree T (def_of X G c 18 (x := "_law_new_tree") (i := 43) rfl rfl) h_law_new 20
  have h_is_tree_in : Has P w K mg base "is_tree_in" 22 (mR_is_tree_in 20) 2 := ok_is_tree_in T (def_of X G c 19 (x := "is_tree_in") (i := 11) rfl rfl) h_is_mark 20
  have h_law_spoilt : Has P w K mg base "_law_spoilt" 23 (mR_law_spoilt 20) 3 := ok_law_spoilt T (def_of X G c 20 (x := "_law_spoilt") (i := 39) rfl rfl) h_law_drawn 20
  have h_law_tree : Has P w K mg base "_law_tree" 23 (mR_law_tree 20) 5 := ok_law_tree T (def_of X G c 21 (x := "_law_tree") (i := 38) rfl rfl) h_law_drawn 20
  have h_is_tree : Has P w K mg base "is_tree" 23 m_is_tree 1 := ok_is_tree T (def_of X G c 22 (x := "is_tree") (i := 12) rfl rfl) h_is_tree_in
  have h_need_tree : Has P w K mg base "need_tree" 24 m_need_tree 1 := ok_need_tree T (def_of X G c 23 (x := "need_tree") (i := 13) rfl rfl) h_is_tree
  have h_tree_renamed : Has P w K mg base "tree_renamed" 25 m_tree_renamed 2 := ok_tree_renamed T (def_of X G c 24 (x := "tree_renamed") (i := 33) rfl rfl) h_need_tree h_need_pairs h_tree_with
  have h_law_told : Has P w K mg base "_law_told" 26 m_law_told 3 := ok_law_told T (def_of X G c 25 (x := "_law_told") (i := 41) rfl rfl) h_renamed h_tree_renamed h_law_refused
  exact fn_law T FD gm h_law_book h_law_spoilt h_law_drawn h_law_tree h_law_told h_law_new h_law_new_tree
end
end Pz
open PySem PySem.W PySem.Calls PyProof.Rows in
theorem Pz.ends (math : ∀ ns : List Int, ns.length ≤ 63 → Pz.m_law [Pz.scrD (ns.map .int)] = .ok (.bool true)) : PySem.Challenge.rw_treeforms_k85_renamed.Holds := by
  w_on; o_law
  refine HandSHeadRun.head_any (r := OpenLaw.row PySem.Challenge.rw_treeforms_k85_renamed) (q := view (OpenLaw.row PySem.Challenge.rw_treeforms_k85_renamed).prog [44]) (H := Pz.hkX) (ob := Pz.obX) (M := 4000) (loose := Pz.lsL) (d := HandSHeadRun.topDef (OpenLaw.row PySem.Challenge.rw_treeforms_k85_renamed).prog 44) (kwd := []) Pz.obX_eq
    (by kernel_rfl) (fun s => by kernel_rfl) Pz.runX (by kernel_rfl) (by kernel_rfl) (by kernel_rfl) (by rfl) (by first | assumption | decide +kernel) (by decide +kernel) ⟨rfl, rfl, rfl, rfl, rfl, by decide +kernel⟩ ?wit ?call
  case wit => w_witness2
  case call =>
    refine Pz.end_of (l := PySem.Challenge.rw_treeforms_k85_renamed) (top := 63) (k := 27) (x := "_law_script") rfl (by decide) (by kernel_rfl) ⟨rfl, by decide, by decide⟩ fun w mg fa hp Y G hmg0 => ?_
    obtain ⟨K, X, ce, c⟩ := Y
    have hmg : mg ("law" : PySem.Str) = some (.ref fa) := by
      have e : (HandSHeadRun.topDef (OpenLaw.row PySem.Challenge.rw_treeforms_k85_renamed).prog 44).name = ("law" : PySem.Str) := by kernel_rfl
      rw [← e]; exact hmg0
    obtain ⟨fd, FD⟩ := c.def_ 26 (d := Pz.dd "law" 44) rfl
    have gm := He.glo_ok X G (c.fact 26 (f := .glo "law") rfl)
    cases hmg.symm.trans gm
    have b := L2.FunD.bindsA (ps := ["_law_script"]) FD fun _ _ _ _ _ _ us hl => match us, hl with | [_], _ => rfl
    exact ⟨K, fd, Pz.m_law, X, fun s v => b s [v] rfl, math, fun base _ _ => Pz.chain X G ce c FD gm⟩

theorem PySem.Challenge.cw_treeforms_k85_renamed_holds : PySem.Challenge.rw_treeforms_k85_renamed.Holds :=
  Pz.ends fun ns h => Pz.k85_law ns h
