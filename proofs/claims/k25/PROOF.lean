import PyProof.Rows.All
import Wide.All
import OpenK.AllK
import Wide.FinOn
import HandS.ForMost
import HandS.ForExc
import HandS.ExcInit
import HandS.ExcField
import HandS.TryMany
import HandS.CallSlots
import HandS.Style
import HandS.IsInst
import HandS.Deep
import HandS.SortInts
import HandS.Conv
import HandS.SortRule
import HandS.Rev
import HandS.Zip
import HandS.RevRange
import HandS.More
import HandS.Flow
import HandS.WordsExc
import HandS.ExcOwn
import HandS.SortKw
import HandS.ExcCtx
import HandS.HotCalls
import HandS.ExcIs
import HandS.DictTup
import HandS.Iter
import HandS.Dict
import KE.KDictWalk
import KE.SortCalls
import PySem.Challenge.RW_spelledrows_k25_whole_turnings_and_far_c
import KE.SortData
set_option Elab.async false
set_option linter.all false
set_option maxRecDepth 100000
set_option maxHeartbeats 4000000
/-! a layer of plain data over the hand layer: what an expression, a statement, a def makes of data, by a mirror in plain Lean -/
namespace DL
theorem lt_by {i n : Nat} (h : Nat.blt i n = true) : i < n := Nat.le_of_ble_eq_true h
open PySem PySem.Spec PyProof.Rows L2

/-! ### answers of a mirror -/
inductive Res (α : Type) where
  | ok (a : α)
  | err (c : String) (as : List PyData)
  | bad
namespace Res
variable {α β γ : Type}
def bind : Res α → (α → Res β) → Res β
  | .ok a, f => f a
  | .err c as, _ => .err c as
  | .bad, _ => .bad
instance : Monad Res where
  pure := .ok
  bind := Res.bind
@[simp] theorem ok_bind (a : α) (f : α → Res β) : (Res.ok a >>= f) = f a := rfl
@[simp] theorem err_bind (c : String) (as : List PyData) (f : α → Res β) : ((Res.err c as : Res α) >>= f) = .err c as := rfl
@[simp] theorem bad_bind (f : α → Res β) : ((Res.bad : Res α) >>= f) = .bad := rfl
@[simp] theorem pure_eq (a : α) : (pure a : Res α) = .ok a := rfl
theorem bind_assoc (m : Res α) (f : α → Res β) (g : β → Res γ) : ((m >>= f) >>= g) = (m >>= fun a => f a >>= g) := by cases m <;> rfl
end Res
/-- the wish of an answer -/
def wpR {α : Type} (m : Res α) (φ : α → Prop) (ψ : String → List PyData → Prop) : Prop :=
  match m with
  | .ok a => φ a
  | .err c as => ψ c as
  | .bad => False
section
variable {α β : Type}
theorem wpR_bind {m : Res α} {f : α → Res β} {φ : β → Prop} {ψ : String → List PyData → Prop} : wpR (m >>= f) φ ψ = wpR m (fun a => wpR (f a) φ ψ) ψ := by cases m <;> rfl
theorem wpR_mono {m : Res α} {φ φ' : α → Prop} {ψ ψ' : String → List PyData → Prop} (h : wpR m φ ψ) (h1 : ∀ a, φ a → φ' a) (h2 : ∀ c as, ψ c as → ψ' c as) : wpR m φ' ψ' := by
  cases m with
  | ok a => exact h1 a h
  | err c as => exact h2 c as h
  | bad => exact h
end

/-! ### data in the heap: its lists are frozen -/
def FzL (H : Hp) (a : Addr) (xs : List V) : Prop := ∃ o, H a = some (.frz o (.lst xs))
mutual
inductive Rp (K : PySem.W.Frag) (H : Hp) : V → PyData → Prop
  | non : Rp K H .non .none
  | bl (b : Bool) : Rp K H (.bl b) (.bool b)
  | int (i : Int) : Rp K H (.int i) (.int i)
  | str (x : Str) : Rp K H (.str x) (.str x)
  | lst {a : Addr} {xs : List V} {ds : List PyData} : FzL H a xs → RpAll K H xs ds → xs.length ≤ sizeLine → Rp K H (.ref a) (.list ds)
  | tup {a : Addr} {xs : List V} {ds : List PyData} : H a = some (.tup xs) → RpAll K H xs ds → Rp K H (.ref a) (.tuple ds)
inductive RpAll (K : PySem.W.Frag) (H : Hp) : List V → List PyData → Prop
  | nil : RpAll K H [] []
  | cons {v : V} {vs : List V} {d : PyData} {ds : List PyData} : Rp K H v d → RpAll K H vs ds → RpAll K H (v :: vs) (d :: ds)
end
/-- what never changes -/
def Imm : HO → Prop
  | .frz _ _ => True
  | .tup _ => True
  | .xd _ => True
  | _ => False
structure Le (H H' : Hp) : Prop where
  imm : ∀ a o, Imm o → H a = some o → H' a = some o
  dom : ∀ a, H' a = none → H a = none
theorem Le.refl (H : Hp) : Le H H := ⟨fun _ _ _ h => h, fun _ h => h⟩
theorem Le.trans {H H1 H2 : Hp} (a : Le H H1) (b : Le H1 H2) : Le H H2 := ⟨fun c o i h => b.imm c o i (a.imm c o i h), fun c h => a.dom c (b.dom c h)⟩
theorem Le.of_same {H H' : Hp} (h : Same H H') : Le H H' := ⟨fun a o _ e => h a o e, fun a e => h.free e⟩
theorem Le.new {H : Hp} {p : Addr} {o : HO} (h : H p = none) : Le H (upd H p o) := Le.of_same fun b x e => by rw [upd_ne (ne_of_none e h)]; exact e
theorem Le.upd {H : Hp} {p : Addr} {o u : HO} (h : H p = some o) (n : ¬ Imm o) : Le H (upd H p u) := ⟨fun b x i e => by
  rw [upd_ne (fun z => by subst z; rw [h] at e; cases e; exact n i)]; exact e, fun b e => by
  by_cases hb : b = p
  · subst hb; rw [upd_same] at e; cases e
  · rw [upd_ne hb] at e; exact e⟩
theorem notImm {xs : List V} : ¬ Imm (.lst xs) := fun h => h
section
variable {K : PySem.W.Frag} {H H' : Hp}
theorem Le.fz (l : Le H H') {a : Addr} {xs : List V} (h : FzL H a xs) : FzL H' a xs := h.elim fun o e => ⟨o, l.imm a _ trivial e⟩
theorem Le.sqT (l : Le H H') {a : Addr} {xs : List V} (h : SqT K H a xs) : SqT K H' a xs := by
  rcases h with (h | ⟨o, h⟩) | h
  · exact .inl (.inl (l.imm a _ trivial h))
  · exact .inl (.inr ⟨o, l.imm a _ trivial h⟩)
  · exact .inr h
theorem FzL.sq {a : Addr} {xs : List V} (h : FzL H a xs) : SqL K H a xs := h.elim fun o e => .inl (.inr ⟨o, e⟩)
mutual
theorem Rp.mono (l : Le H H') : ∀ {d : PyData} {v : V}, Rp K H v d → Rp K H' v d
  | .none, _, h => by cases h; exact .non
  | .bool _, _, h => by cases h; exact .bl _
  | .int _, _, h => by cases h; exact .int _
  | .str _, _, h => by cases h; exact .str _
  | .list ds, _, h => by cases h with | lst a b c => exact .lst (l.fz a) (RpAll.mono l b) c
  | .tuple ds, _, h => by cases h with | tup a b => exact .tup (l.imm _ _ trivial a) (RpAll.mono l b)
  | .dict _, _, h => by cases h
theorem RpAll.mono (l : Le H H') : ∀ {ds : List PyData} {vs : List V}, RpAll K H vs ds → RpAll K H' vs ds
  | [], _, h => by cases h; exact .nil
  | d :: ds, _, h => by cases h with | cons a b => exact .cons (Rp.mono l a) (RpAll.mono l b)
end
mutual
theorem Rp.dp : ∀ {d : PyData} {v : V}, Rp K H v d → Dp K H v d
  | .none, _, h => by cases h; exact .non
  | .bool _, _, h => by cases h; exact .bl _
  | .int _, _, h => by cases h; exact .int _
  | .str _, _, h => by cases h; exact .str _
  | .list ds, _, h => by cases h with | lst a b c => exact .lst a.sq (RpAll.dp b)
  | .tuple ds, _, h => by cases h with | tup a b => exact .tup (SqT.of a) (RpAll.dp b)
  | .dict _, _, h => by cases h
theorem RpAll.dp : ∀ {ds : List PyData} {vs : List V}, RpAll K H vs ds → DpAll K H vs ds
  | [], _, h => by cases h; exact .nil
  | d :: ds, _, h => by cases h with | cons a b => exact .cons (Rp.dp a) (RpAll.dp b)
end
theorem RpAll.length : ∀ {ds : List PyData} {vs : List V}, RpAll K H vs ds → vs.length = ds.length
  | [], _, h => by cases h; rfl
  | d :: ds, _, h => by cases h with | cons a b => exact congrArg Nat.succ (RpAll.length b)
theorem RpAll.get : ∀ {ds : List PyData} {vs : List V} {i : Nat} {d : PyData}, RpAll K H vs ds → ds[i]? = some d → ∃ v, vs[i]? = some v ∧ Rp K H v d
  | [], _, i, d, h, e => by simp at e
  | x :: ds, _, 0, d, h, e => by
    cases h with
    | cons a b => simp at e; subst e; exact ⟨_, rfl, a⟩
  | x :: ds, _, i + 1, d, h, e => by
    cases h with
    | cons a b =>
      obtain ⟨v, h1, h2⟩ := RpAll.get (i := i) (d := d) b (by simpa using e)
      exact ⟨v, by simpa using h1, h2⟩
theorem RpAll.of_get : ∀ {ds : List PyData} {vs : List V} {i : Nat} {v : V}, RpAll K H vs ds → vs[i]? = some v → ∃ d, ds[i]? = some d ∧ Rp K H v d
  | [], _, i, v, h, e => by cases h; simp at e
  | x :: ds, _, 0, v, h, e => by
    cases h with
    | cons a b => simp at e; subst e; exact ⟨_, rfl, a⟩
  | x :: ds, _, i + 1, v, h, e => by
    cases h with
    | cons a b =>
      obtain ⟨d, h1, h2⟩ := RpAll.of_get (i := i) (v := v) b (by simpa using e)
      exact ⟨d, by simpa using h1, h2⟩
theorem RpAll.append : ∀ {ds es : List PyData} {vs ws : List V}, RpAll K H vs ds → RpAll K H ws es → RpAll K H (vs ++ ws) (ds ++ es)
  | [], _, _, _, h, q => by cases h; exact q
  | _ :: _, _, _, _, h, q => by cases h with | cons a b => exact .cons a (RpAll.append b q)
theorem RpAll.take : ∀ {ds : List PyData} {vs : List V} (n : Nat), RpAll K H vs ds → RpAll K H (vs.take n) (ds.take n)
  | _, _, 0, _ => .nil
  | [], _, n + 1, h => by cases h; exact .nil
  | _ :: _, _, n + 1, h => by cases h with | cons a b => exact .cons a (RpAll.take n b)
theorem RpAll.drop : ∀ {ds : List PyData} {vs : List V} (n : Nat), RpAll K H vs ds → RpAll K H (vs.drop n) (ds.drop n)
  | _, _, 0, h => h
  | [], _, n + 1, h => by cases h; exact .nil
  | _ :: _, _, n + 1, h => by cases h with | cons a b => exact RpAll.drop n b
theorem RpAll.reverse : ∀ {ds : List PyData} {vs : List V}, RpAll K H vs ds → RpAll K H vs.reverse ds.reverse
  | [], _, h => by cases h; exact .nil
  | _ :: _, _, h => by
    cases h with
    | cons a b => rw [List.reverse_cons, List.reverse_cons]; exact RpAll.append (RpAll.reverse b) (.cons a .nil)
theorem RpAll.set : ∀ {ds : List PyData} {vs : List V} (i : Nat) {d : PyData} {v : V}, Rp K H v d → RpAll K H vs ds → RpAll K H (vs.set i v) (ds.set i d)
  | [], _, _, _, _, _, h => by cases h; exact .nil
  | _ :: _, _, 0, _, _, r, h => by cases h with | cons a b => exact .cons r b
  | _ :: _, _, i + 1, _, _, r, h => by cases h with | cons a b => exact .cons a (RpAll.set i r b)
theorem RpAll.eraseIdx : ∀ {ds : List PyData} {vs : List V} (i : Nat), RpAll K H vs ds → RpAll K H (vs.eraseIdx i) (ds.eraseIdx i)
  | [], _, _, h => by cases h; exact .nil
  | _ :: _, _, 0, h => by cases h with | cons a b => exact b
  | _ :: _, _, i + 1, h => by cases h with | cons a b => exact .cons a (RpAll.eraseIdx i b)
theorem RpAll.dropLast {ds : List PyData} {vs : List V} (h : RpAll K H vs ds) : RpAll K H vs.dropLast ds.dropLast := by
  rw [List.dropLast_eq_take, List.dropLast_eq_take, h.length]
  exact h.take _
end

/-! ### typed data -/
class Enc (α : Type) where
  enc : α → PyData
open Enc
instance : Enc PyData := ⟨id⟩
instance : Enc Int := ⟨.int⟩
instance : Enc Bool := ⟨.bool⟩
instance : Enc Str := ⟨.str⟩
instance : Enc Unit := ⟨fun _ => .none⟩
instance {α : Type} [Enc α] : Enc (List α) := ⟨fun l => .list (l.map enc)⟩
instance {α : Type} [Enc α] : Enc (Option α) := ⟨fun o => match o with | none => .none | some a => enc a⟩
instance {α β : Type} [Enc α] [Enc β] : Enc (α × β) := ⟨fun p => .tuple [enc p.1, enc p.2]⟩
structure T3 (α β γ : Type) where
  a : α
  b : β
  c : γ
deriving DecidableEq
structure T4 (α β γ δ : Type) where
  a : α
  b : β
  c : γ
  d : δ
deriving DecidableEq
/-- a tuple of any length, of items of one kind -/
structure Tup (α : Type) where
  l : List α
deriving DecidableEq
instance {α β γ : Type} [Enc α] [Enc β] [Enc γ] : Enc (T3 α β γ) := ⟨fun p => .tuple [enc p.a, enc p.b, enc p.c]⟩
instance {α β γ δ : Type} [Enc α] [Enc β] [Enc γ] [Enc δ] : Enc (T4 α β γ δ) := ⟨fun p => .tuple [enc p.a, enc p.b, enc p.c, enc p.d]⟩
instance {α : Type} [Enc α] : Enc (Tup α) := ⟨fun t => .tuple (t.l.map enc)⟩

/-! ### what a slot holds -/
/-- an object of one's own, that is changed -/
inductive Own where
  | lst (xs : List PyData)
  | dK (kvs : List (Key × PyData))
  | dT (kvs : List (List Key × PyData))
  | rows (xss : List (List PyData))
  | tu (d : PyData)
inductive Slot where
  | any
  | dat (d : PyData)
  | own (o : Own)
  | io (p : Addr) (o : Own)
  | exn (a : Addr) (d : Option Addr) (fl : List Str) (as : List PyData)
  | frz (o : Own)
abbrev Foot := List Addr
def KVs {κ : Type} (K : PySem.W.Frag) (H : Hp) : List (κ × V) → List (κ × PyData) → Prop := Paired fun (a : κ × V) (b : κ × PyData) => a.1 = b.1 ∧ Rp K H a.2 b.2
def OwnOk (K : PySem.W.Frag) (H : Hp) (fp : Foot) (x : V) : Own → Prop
  | .lst xs => ∃ p vs, x = .ref p ∧ fp = [p] ∧ H p = some (.lst vs) ∧ RpAll K H vs xs
  | .dK kvs => ∃ p ws, x = .ref p ∧ fp = [p] ∧ H p = some (.dK ws) ∧ KVs K H ws kvs
  | .dT kvs => ∃ p ws, x = .ref p ∧ fp = [p] ∧ H p = some (.dT ws) ∧ KVs K H ws kvs
  | .tu d => ∃ q v0 v1 d0 d1, x = .ref q ∧ H q = some (.tup [v0, v1]) ∧ d = .tuple [d0, d1] ∧ Rp K H v0 d0 ∧ ((fp = [] ∧ (∀ xs, d1 ≠ .list xs) ∧ Rp K H v1 d1) ∨ ∃ p vs xs, v1 = .ref p ∧ fp = [p] ∧ d1 = .list xs ∧ H p = some (.lst vs) ∧ RpAll K H vs xs)
  | .rows xss => ∃ (p : Addr) (as : List Addr), x = .ref p ∧ fp = p :: as ∧ (p :: as).Nodup ∧ H p = some (.lst (as.map V.ref)) ∧ Paired (fun a xs => ∃ vs, H a = some (.lst vs) ∧ RpAll K H vs xs) as xss
section
variable {K : PySem.W.Frag} {H H' : Hp}
theorem KVs.mono {κ : Type} (l : Le H H') {ws : List (κ × V)} {kvs : List (κ × PyData)} (h : KVs K H ws kvs) : KVs K H' ws kvs := Paired.mapP h fun _ _ q => ⟨q.1, q.2.mono l⟩
theorem Paired.mapM {α β : Type} {F G : α → β → Prop} : ∀ {l₁ : List α} {l₂ : List β}, Paired F l₁ l₂ → (∀ a b, a ∈ l₁ → F a b → G a b) → Paired G l₁ l₂
  | _, _, .nil, _ => .nil
  | _, _, .cons r t, f => .cons (f _ _ List.mem_cons_self r) (Paired.mapM t fun a b m => f a b (List.mem_cons_of_mem _ m))
theorem OwnOk.keep {fp : Foot} {x : V} {o : Own} (h : OwnOk K H fp x o) (l : Le H H') (k : ∀ a ∈ fp, H' a = H a) : OwnOk K H' fp x o := by
  cases o with
  | lst xs =>
    obtain ⟨p, vs, e, rfl, h1, h2⟩ := h
    exact ⟨p, vs, e, rfl, (k p (by simp)).trans h1, h2.mono l⟩
  | dK kvs =>
    obtain ⟨p, vs, e, rfl, h1, h2⟩ := h
    exact ⟨p, vs, e, rfl, (k p (by simp)).trans h1, h2.mono l⟩
  | dT kvs =>
    obtain ⟨p, vs, e, rfl, h1, h2⟩ := h
    exact ⟨p, vs, e, rfl, (k p (by simp)).trans h1, h2.mono l⟩
  | tu d =>
    obtain ⟨q, v0, v1, d0, d1, e, h1, h2, h3, h4⟩ := h
    refine ⟨q, v0, v1, d0, d1, e, l.imm _ _ trivial h1, h2, h3.mono l, ?_⟩
    rcases h4 with ⟨e1, e2, e3⟩ | ⟨p, vs, xs, e1, rfl, e3, e4, e5⟩
    · exact .inl ⟨e1, e2, e3.mono l⟩
    · exact .inr ⟨p, vs, xs, e1, rfl, e3, (k p (by simp)).trans e4, e5.mono l⟩
  | rows xss =>
    obtain ⟨p, as, e, rfl, nd, h1, h2⟩ := h
    exact ⟨p, as, e, rfl, nd, (k p (by simp)).trans h1, Paired.mapM h2 fun a b m ⟨vs, q1, q2⟩ => ⟨vs, (k a (List.mem_cons_of_mem _ m)).trans q1, q2.mono l⟩⟩
theorem Paired.memL {α β : Type} {F : α → β → Prop} : ∀ {l₁ : List α} {l₂ : List β} {a : α}, Paired F l₁ l₂ → a ∈ l₁ → ∃ b, F a b
  | _, _, _, .nil, h => by cases h
  | _, _, _, .cons r t, h => by
    rcases List.mem_cons.mp h with e | h
    · subst e; exact ⟨_, r⟩
    · exact Paired.memL t h
/-- what it owns is there, and may be written -/
theorem OwnOk.live {fp : Foot} {x : V} {o : Own} (h : OwnOk K H fp x o) {a : Addr} (ha : a ∈ fp) : ∃ u, H a = some u ∧ ¬ Imm u := by
  cases o with
  | lst xs =>
    obtain ⟨p, vs, e, rfl, h1, h2⟩ := h
    have : a = p := by simpa using ha
    subst this
    exact ⟨_, h1, fun z => z⟩
  | dK xs =>
    obtain ⟨p, vs, e, rfl, h1, h2⟩ := h
    have : a = p := by simpa using ha
    subst this
    exact ⟨_, h1, fun z => z⟩
  | dT xs =>
    obtain ⟨p, vs, e, rfl, h1, h2⟩ := h
    have : a = p := by simpa using ha
    subst this
    exact ⟨_, h1, fun z => z⟩
  | tu d =>
    obtain ⟨q, v0, v1, d0, d1, e, h1, h2, h3, h4⟩ := h
    rcases h4 with ⟨rfl, _⟩ | ⟨p, vs, xs, e1, rfl, e3, e4, e5⟩
    · cases ha
    · have : a = p := by simpa using ha
      subst this
      exact ⟨_, e4, fun z => z⟩
  | rows xss =>
    obtain ⟨p, as, e, rfl, nd, h1, h2⟩ := h
    rcases List.mem_cons.mp ha with z | z
    · subst z; exact ⟨_, h1, fun z => z⟩
    · obtain ⟨b, vs, q, _⟩ := Paired.memL h2 z
      exact ⟨_, q, fun z => z⟩
end
/-- the fields of an error: its dict stands, and never changes -/
def ErrF (K : PySem.W.Frag) (H : Hp) (d : Option Addr) (fl : List Str) (as : List PyData) : Prop :=
  (as = [] ∧ d = none) ∨ ∃ dd fs, d = some dd ∧ H dd = some (.xd fs) ∧ ∀ (i : Nat) (f : Str) (a : PyData), fl[i]? = some f → as[i]? = some a → ∃ v, fs.lookup f = some v ∧ Rp K H v a
theorem ErrF.mono {K : PySem.W.Frag} {H H' : Hp} {d : Option Addr} {fl : List Str} {as : List PyData} (h : ErrF K H d fl as) (l : Le H H') : ErrF K H' d fl as := h.imp id fun ⟨dd, fs, e1, e2, q⟩ => ⟨dd, fs, e1, l.imm _ _ trivial e2, fun i f a h1 h2 => by
  obtain ⟨v, q1, q2⟩ := q i f a h1 h2
  exact ⟨v, q1, q2.mono l⟩⟩
/-- a dict that never changes -/
def FrzOk (K : PySem.W.Frag) (H : Hp) (x : V) : Own → Prop
  | .dK kvs => ∃ p ob ws, x = .ref p ∧ H p = some (.frz ob (.dK ws)) ∧ KVs K H ws kvs
  | .dT kvs => ∃ p ob ws, x = .ref p ∧ H p = some (.frz ob (.dT ws)) ∧ KVs K H ws kvs
  | _ => False
theorem FrzOk.mono {K : PySem.W.Frag} {H H' : Hp} {x : V} {o : Own} (h : FrzOk K H x o) (l : Le H H') : FrzOk K H' x o := by
  cases o with
  | dK kvs => obtain ⟨p, ob, ws, e, h1, h2⟩ := h; exact ⟨p, ob, ws, e, l.imm _ _ trivial h1, h2.mono l⟩
  | dT kvs => obtain ⟨p, ob, ws, e, h1, h2⟩ := h; exact ⟨p, ob, ws, e, l.imm _ _ trivial h1, h2.mono l⟩
  | lst _ => exact h
  | rows _ => exact h
  | tu _ => exact h
def SlotOk (K : PySem.W.Frag) (ps : List Addr) (H0 : Hp) (fp : Foot) (v : Option V) (H : Hp) : Slot → Prop
  | .any => fp = []
  | .dat d => fp = [] ∧ ∃ x, v = some x ∧ Rp K H x d
  | .own o => (∀ a ∈ fp, H0 a = none ∧ a ∉ ps) ∧ ∃ x, v = some x ∧ OwnOk K H fp x o
  | .io p o => fp = [p] ∧ p ∈ ps ∧ v = some (.ref p) ∧ OwnOk K H fp (.ref p) o
  | .exn a d fl as => fp = [] ∧ v = some (.ref a) ∧ ErrF K H d fl as
  | .frz o => fp = [] ∧ ∃ x, v = some x ∧ FrzOk K H x o
/-- the state, as data -/
structure GoodF (K : PySem.W.Frag) (ps : List Addr) (H0 : Hp) (f : Nat → Foot) (ρ : List Slot) (σ : L2.St) (H : Hp) : Prop where
  len : σ.length = ρ.length
  same : ∀ b o, b ∉ ps → H0 b = some o → H b = some o
  io : ∀ p ∈ ps, ∃ o, H p = some o
  slot : ∀ i s, ρ[i]? = some s → ∃ v, σ[i]? = some v ∧ SlotOk K ps H0 (f i) v H s
  out : ∀ i, ρ[i]? = none → f i = []
  sep : ∀ i j a, a ∈ f i → a ∈ f j → i = j
def Good (K : PySem.W.Frag) (ps : List Addr) (H0 : Hp) (ρ : List Slot) (σ : L2.St) (H : Hp) : Prop := ∃ f, GoodF K ps H0 f ρ σ H
section
variable {K : PySem.W.Frag} {ps : List Addr} {H0 H H' : Hp} {f : Nat → Foot} {ρ : List Slot} {σ : L2.St}
theorem SlotOk.live {fp : Foot} {v : Option V} {s : Slot} (h : SlotOk K ps H0 fp v H s) {a : Addr} (ha : a ∈ fp) : ∃ u, H a = some u ∧ ¬ Imm u := by
  cases s with
  | any => have e : fp = [] := h; subst e; cases ha
  | dat d => obtain ⟨e, _⟩ := h; subst e; cases ha
  | own o => obtain ⟨_, x, _, q⟩ := h; exact q.live ha
  | io p o => obtain ⟨_, _, _, q⟩ := h; exact q.live ha
  | exn a d fl as => obtain ⟨e, _⟩ := h; subst e; cases ha
  | frz o => obtain ⟨e, _⟩ := h; subst e; cases ha
theorem SlotOk.keep {fp : Foot} {v : Option V} {s : Slot} (h : SlotOk K ps H0 fp v H s) (l : Le H H') (k : ∀ a ∈ fp, H' a = H a) : SlotOk K ps H0 fp v H' s := by
  cases s with
  | any => exact h
  | dat d => obtain ⟨e, x, q1, q2⟩ := h; exact ⟨e, x, q1, q2.mono l⟩
  | own o => obtain ⟨e, x, q1, q2⟩ := h; exact ⟨e, x, q1, q2.keep l k⟩
  | io p o => obtain ⟨e, q1, q2, q3⟩ := h; exact ⟨e, q1, q2, q3.keep l k⟩
  | exn a d fl as => obtain ⟨e, q1, q2⟩ := h; exact ⟨e, q1, q2.mono l⟩
  | frz o => obtain ⟨e, x, q1, q2⟩ := h; exact ⟨e, x, q1, q2.mono l⟩
theorem GoodF.live (g : GoodF K ps H0 f ρ σ H) {i : Nat} {a : Addr} (ha : a ∈ f i) : ∃ u, H a = some u ∧ ¬ Imm u := by
  cases e : ρ[i]? with
  | none => rw [g.out i e] at ha; cases ha
  | some s =>
    obtain ⟨v, _, q⟩ := g.slot i s e
    exact q.live ha
/-- the heap goes on, what is owned is as it was -/
theorem GoodF.keep (g : GoodF K ps H0 f ρ σ H) (l : Le H H') (k : ∀ i a, a ∈ f i → H' a = H a) (s : ∀ b o, b ∉ ps → H0 b = some o → H' b = some o) : GoodF K ps H0 f ρ σ H' := by
  refine ⟨g.len, s, fun p hp => ?_, fun i s hs => ?_, g.out, g.sep⟩
  · obtain ⟨o, e⟩ := g.io p hp
    cases q : H' p with
    | some u => exact ⟨u, rfl⟩
    | none => rw [l.dom p q] at e; cases e
  · obtain ⟨v, e, q⟩ := g.slot i s hs
    exact ⟨v, e, q.keep l fun a ha => k i a ha⟩
/-- all that was tracked stays -/
theorem GoodF.same' (g : GoodF K ps H0 f ρ σ H) (s : Same H H') : GoodF K ps H0 f ρ σ H' :=
  g.keep (Le.of_same s) (fun i a ha => by
    obtain ⟨u, e, _⟩ := g.live ha
    rw [e]; exact s a u e) fun b o hb e => s b o (g.same b o hb e)
theorem Good.same' (g : Good K ps H0 ρ σ H) (s : Same H H') : Good K ps H0 ρ σ H' := g.elim fun f g => ⟨f, g.same' s⟩
theorem same_new {p : Addr} {o : HO} (h : H p = none) : Same H (upd H p o) := fun b x e => by rw [upd_ne (ne_of_none e h)]; exact e
theorem Good.new (g : Good K ps H0 ρ σ H) {p : Addr} {o : HO} (h : H p = none) : Good K ps H0 ρ σ (upd H p o) := g.same' (same_new h)
/-- an address that is new is none of the entry's, none that is shared -/
theorem Good.newAt (g : Good K ps H0 ρ σ H) {p : Addr} (h : H p = none) : H0 p = none ∧ p ∉ ps := by
  obtain ⟨f, g⟩ := g
  have np : p ∉ ps := fun hp => by obtain ⟨o, e⟩ := g.io p hp; rw [h] at e; cases e
  refine ⟨?_, np⟩
  cases e : H0 p with
  | none => rfl
  | some o => rw [g.same p o np e] at h; cases h
/-- a list outside the slots is frozen -/
theorem GoodF.freeze (g : GoodF K ps H0 f ρ σ H) {p : Addr} {vs : List V} {u : HO} (h : H p = some (.lst vs)) (nf : ∀ i, p ∉ f i) (n0 : H0 p = none) : GoodF K ps H0 f ρ σ (upd H p u) :=
  g.keep (Le.upd h notImm) (fun i a ha => upd_ne fun z => nf i (z ▸ ha)) fun b o hb e => by
    rw [upd_ne (fun z => by subst z; rw [n0] at e; cases e)]
    exact g.same b o hb e
theorem Good.at (g : Good K ps H0 ρ σ H) {i : Nat} {d : PyData} (h : ρ[i]? = some (.dat d)) : ∃ x, σ[i]? = some (some x) ∧ Rp K H x d := by
  obtain ⟨f, g⟩ := g
  obtain ⟨v, e, _, x, e2, q⟩ := g.slot i _ h
  subst e2
  exact ⟨x, e, q⟩
/-- a slot is stored -/
theorem GoodF.set {i : Nat} {x : V} {s : Slot} {fp : Foot} (g : GoodF K ps H0 f ρ σ H) (hi : i < ρ.length) (h : SlotOk K ps H0 fp (some x) H s) (sep : ∀ j a, j ≠ i → a ∈ fp → a ∉ f j) :
    GoodF K ps H0 (fun j => if j = i then fp else f j) (ρ.set i s) (σ.set i (some x)) H := by
  refine ⟨by rw [List.length_set, List.length_set]; exact g.len, g.same, g.io, fun j s' hs => ?_, fun j hj => ?_, fun j k a h1 h2 => ?_⟩
  · by_cases hj : j = i
    · subst hj
      rw [List.getElem?_set_self hi] at hs
      cases hs
      refine ⟨some x, List.getElem?_set_self (by rw [g.len]; exact hi), ?_⟩
      simp only [if_pos]
      exact h
    · rw [List.getElem?_set_ne (Ne.symm hj)] at hs
      rw [List.getElem?_set_ne (Ne.symm hj)]
      simp only [if_neg hj]
      exact g.slot j s' hs
  · have n : j ≠ i := fun z => by subst z; rw [List.getElem?_set_self hi] at hj; cases hj
    rw [List.getElem?_set_ne (Ne.symm n)] at hj
    simp only [if_neg n]
    exact g.out j hj
  · by_cases hj : j = i
    · by_cases hk : k = i
      · rw [hj, hk]
      · simp only [if_pos hj] at h1
        simp only [if_neg hk] at h2
        exact absurd h2 (sep k a hk h1)
    · by_cases hk : k = i
      · simp only [if_neg hj] at h1
        simp only [if_pos hk] at h2
        exact absurd h1 (sep j a hj h2)
      · simp only [if_neg hj] at h1
        simp only [if_neg hk] at h2
        exact g.sep j k a h1 h2
theorem Good.set {i : Nat} {x : V} {d : PyData} (g : Good K ps H0 ρ σ H) (hi : i < ρ.length) (h : Rp K H x d) : Good K ps H0 (ρ.set i (.dat d)) (σ.set i (some x)) H := by
  obtain ⟨f, g⟩ := g
  exact ⟨_, g.set (fp := []) hi ⟨rfl, x, rfl, h⟩ fun _ _ _ z => by cases z⟩
/-- weaker slots -/
def SLe : Slot → Slot → Prop := fun s s' => s' = s ∨ (s' = .any)
theorem Good.forget (g : Good K ps H0 ρ σ H) (i : Nat) : Good K ps H0 (ρ.set i .any) σ H := by
  obtain ⟨f, g⟩ := g
  refine ⟨fun j => if j = i then [] else f j, by rw [List.length_set]; exact g.len, g.same, g.io, fun j s hs => ?_, fun j hj => ?_, fun j k a h1 h2 => ?_⟩
  · by_cases hj : j = i
    · subst hj
      by_cases hl : j < ρ.length
      · rw [List.getElem?_set_self hl] at hs
        cases hs
        obtain ⟨v, e, _⟩ := g.slot j ρ[j] (List.getElem?_eq_getElem hl)
        exact ⟨v, e, by simp only [if_pos]; exact rfl⟩
      · rw [List.getElem?_eq_none (by rw [List.length_set]; omega)] at hs
        cases hs
    · rw [List.getElem?_set_ne (Ne.symm hj)] at hs
      simp only [if_neg hj]
      exact g.slot j s hs
  · by_cases hji : j = i
    · simp only [if_pos hji]
    · rw [List.getElem?_set_ne (Ne.symm hji)] at hj
      simp only [if_neg hji]
      exact g.out j hj
  · by_cases hj : j = i
    · simp only [if_pos hj] at h1; cases h1
    · by_cases hk : k = i
      · simp only [if_pos hk] at h2; cases h2
      · simp only [if_neg hj] at h1
        simp only [if_neg hk] at h2
        exact g.sep j k a h1 h2
end
end DL

set_option Elab.async false
set_option linter.all false
set_option maxRecDepth 100000
set_option maxHeartbeats 4000000
namespace DL
open PySem PySem.Spec PyProof.Rows L2 Enc

/-- around a piece of code: what is wished of an error, what others may see change, the entry's heap, the store where an error is met, the error classes (their addresses, their fields) -/
structure Cn where
  W : WX
  ps : List Addr
  H0 : Hp
  ρE : List Slot
  cl : String → Option (Addr × List Str)
def ErrAt (K : PySem.W.Frag) (cl : String → Option (Addr × List Str)) (c : String) (as : List PyData) (C : Value) (d : Option Addr) (H : Hp) : Prop :=
  ∃ A fl, cl c = some (A, fl) ∧ C = .ref A ∧ ErrF K H d fl as
/-- an error is wished for -/
def ErrW (K : PySem.W.Frag) (Γ : Cn) (H : Hp) (σ : L2.St) (c : String) (as : List PyData) : Prop :=
  ∀ C d H', Good K Γ.ps Γ.H0 Γ.ρE σ H' → Le H H' → ErrAt K Γ.cl c as C d H' → Γ.W C d σ H'
theorem ErrW.mono {K : PySem.W.Frag} {Γ : Cn} {H H1 : Hp} {σ : L2.St} {c : String} {as : List PyData} (h : ErrW K Γ H σ c as) (l : Le H H1) : ErrW K Γ H1 σ c as := fun C d H' g l' e => h C d H' g (l.trans l') e

/-! ### a run of a part -/
/-- from footprints f and heap H to f', H': what is owned may change, nothing else -/
structure Stp (f : Nat → Foot) (H : Hp) (f' : Nat → Foot) (H' : Hp) : Prop where
  le : Le H H'
  keep : ∀ a o, H a = some o → (∀ i, a ∉ f i) → H' a = some o
  foot : ∀ i a, a ∈ f' i → (∃ j, a ∈ f j) ∨ H a = none
theorem Stp.refl (f : Nat → Foot) (H : Hp) : Stp f H f H := ⟨Le.refl H, fun _ _ h _ => h, fun i a h => .inl ⟨i, h⟩⟩
theorem Stp.trans {f f1 f2 : Nat → Foot} {H H1 H2 : Hp} (a : Stp f H f1 H1) (b : Stp f1 H1 f2 H2) : Stp f H f2 H2 := by
  refine ⟨a.le.trans b.le, fun c o h n => b.keep c o (a.keep c o h n) fun i hi => ?_, fun i c h => ?_⟩
  · rcases a.foot i c hi with ⟨j, q⟩ | q
    · exact n j q
    · rw [h] at q; cases q
  · rcases b.foot i c h with ⟨j, q⟩ | q
    · exact a.foot j c q
    · exact .inr (a.le.dom c q)
theorem Stp.same {f : Nat → Foot} {H H' : Hp} (h : Same H H') : Stp f H f H' := ⟨Le.of_same h, fun a o e _ => h a o e, fun i a h => .inl ⟨i, h⟩⟩
theorem Stp.new {f : Nat → Foot} {H : Hp} {p : Addr} {o : HO} (h : H p = none) : Stp f H f (upd H p o) := Stp.same (same_new h)
def RunF (K : PySem.W.Frag) (Γ : Cn) {S α : Type} (f0 : Nat → Foot) (ρ : S → List Slot) (m : Res (α × S)) (σ : L2.St) (H : Hp) (φ : (Nat → Foot) → Hp → α × S → Prop) : Prop :=
  wpR m (fun r => ∀ H' f, GoodF K Γ.ps Γ.H0 f (ρ r.2) σ H' → Stp f0 H f H' → φ f H' r) (ErrW K Γ H σ)
section
variable {K : PySem.W.Frag} {Γ : Cn} {S α β : Type} {f0 : Nat → Foot} {ρ : S → List Slot} {σ : L2.St} {H : Hp}
theorem RunF.mono {m : Res (α × S)} {φ φ' : (Nat → Foot) → Hp → α × S → Prop} (h : RunF K Γ f0 ρ m σ H φ) (i : ∀ f H' r, GoodF K Γ.ps Γ.H0 f (ρ r.2) σ H' → Stp f0 H f H' → φ f H' r → φ' f H' r) : RunF K Γ f0 ρ m σ H φ' :=
  wpR_mono h (fun r q H' f g l => i f H' r g l (q H' f g l)) fun _ _ z => z
theorem RunF.chain {m : Res (α × S)} {k : α × S → Res (β × S)} {φ : (Nat → Foot) → Hp → β × S → Prop} (h : RunF K Γ f0 ρ (m >>= k) σ H φ) : RunF K Γ f0 ρ m σ H (fun f H1 r => RunF K Γ f ρ (k r) σ H1 φ) := by
  unfold RunF at h
  rw [wpR_bind] at h
  exact wpR_mono h (fun r q H1 f1 g1 l1 => wpR_mono q (fun r2 q H2 f2 g2 l2 => q H2 f2 g2 (l1.trans l2)) fun _ _ z => ErrW.mono z l1.le) fun _ _ z => z
theorem RunF.same {φ : (Nat → Foot) → Hp → α × S → Prop} {a : α} {s : S} (h : RunF K Γ f0 ρ (.ok (a, s)) σ H φ) (g : GoodF K Γ.ps Γ.H0 f0 (ρ s) σ H) {H' : Hp} (sm : Same H H') : φ f0 H' (a, s) := h H' f0 (g.same' sm) (Stp.same sm)
end

/-! ### expressions -/
abbrev PK (α : Type) := (Nat → Foot) → Hp → Hp → V → α → Prop
/-- a value that is data; one that is a new list -/
abbrev PD {α : Type} [Enc α] (K : PySem.W.Frag) : PK α := fun _ _ H' v a => Rp K H' v (enc a)
def PL {α : Type} [Enc α] (K : PySem.W.Frag) : PK (List α) := fun f H H' v as => ∃ p vs, v = .ref p ∧ H p = none ∧ (∀ i, p ∉ f i) ∧ H' p = some (.lst vs) ∧ vs.length ≤ sizeLine ∧ RpAll K H' vs (as.map enc)
def tE (K : PySem.W.Frag) (Γ : Cn) {S α : Type} (P : PK α) (ρ : S → List Slot) (m : S → Res (α × S)) : TE := fun σ H Q =>
  ∃ s f0, GoodF K Γ.ps Γ.H0 f0 (ρ s) σ H ∧ RunF K Γ f0 ρ (m s) σ H fun f H' r => ∀ v, P f H H' v r.1 → Q v H'
/-- e makes, of the store ρ, what m tells -/
def EP (X : Cx) (Γ : Cn) {S α : Type} (P : PK α) (ρ : S → List Slot) (e : Expr) (m : S → Res (α × S)) : Prop := PE X e (tE X.K Γ P ρ m)
abbrev E (X : Cx) (Γ : Cn) {S α : Type} [Enc α] (ρ : S → List Slot) (e : Expr) (m : S → Res (α × S)) : Prop := EP X Γ (PD X.K) ρ e m
abbrev EL (X : Cx) (Γ : Cn) {S α : Type} [Enc α] (ρ : S → List Slot) (e : Expr) (m : S → Res (List α × S)) : Prop := EP X Γ (PL (α := α) X.K) ρ e m
abbrev spure {S α : Type} (a : α) : S → Res (α × S) := fun s => .ok (a, s)
abbrev slift {S α : Type} (m : Res α) : S → Res (α × S) := fun s => m >>= fun a => .ok (a, s)
abbrev sbind {S α β : Type} (m : S → Res (α × S)) (f : α → S → Res (β × S)) : S → Res (β × S) := fun s => m s >>= fun r => f r.1 r.2
abbrev Ep (X : Cx) (Γ : Cn) {S α : Type} [Enc α] (ρ : S → List Slot) (e : Expr) (a : α) : Prop := E X Γ ρ e (spure a)
abbrev Em (X : Cx) (Γ : Cn) {S α : Type} [Enc α] (ρ : S → List Slot) (e : Expr) (m : Res α) : Prop := E X Γ ρ e (slift m)
abbrev Lp (X : Cx) (Γ : Cn) {S α : Type} [Enc α] (ρ : S → List Slot) (e : Expr) (a : List α) : Prop := EL X Γ ρ e (spure a)
abbrev Lm (X : Cx) (Γ : Cn) {S α : Type} [Enc α] (ρ : S → List Slot) (e : Expr) (m : Res (List α)) : Prop := EL X Γ ρ e (slift m)

theorem PE.imp {X : Cx} {e : Expr} {t t' : TE} (h : PE X e t) (i : ∀ σ H Q, t' σ H Q → t σ H Q) : PE X e t' := ⟨fun pins s σ H Q I q => h.run pins s σ H Q I (i σ H Q q)⟩

section
variable {X : Cx} {Γ : Cn} {S α β γ : Type} {ρ : S → List Slot} {e : Expr}
theorem EP.congr {P : PK α} {m m' : S → Res (α × S)} (h : EP X Γ P ρ e m) (i : ∀ s, m' s = m s) : EP X Γ P ρ e m' := by
  have : m' = m := funext i
  rw [this]; exact h
/-- another view of the same data -/
theorem E.conv [Enc α] [Enc β] {m : S → Res (α × S)} (h : E X Γ ρ e m) (f : α → β) (hf : ∀ a, enc (f a) = enc a := by intro _; rfl) : E X Γ ρ e (fun s => m s >>= fun r => .ok (f r.1, r.2)) :=
  PE.imp h fun σ H Q ⟨s, f0, g, q⟩ => ⟨s, f0, g, q.chain.mono fun f1 H1 r g1 l1 q v rx => q.same g1 (Same.refl _) v (by show Rp X.K H1 v (enc (f r.1)); rw [hf]; exact rx)⟩
theorem Ep.conv [Enc α] [Enc β] {a : α} (h : Ep X Γ ρ e a) (b : β) (hf : enc b = enc a := by rfl) : Ep X Γ ρ e b :=
  PE.imp h fun σ H Q ⟨s, f0, g, q⟩ => ⟨s, f0, g, fun H' f g l v rx => q H' f g l v (by show Rp X.K H' v (enc b); rw [hf]; exact rx)⟩
theorem Em.conv [Enc α] [Enc β] {m : Res α} (h : Em X Γ ρ e m) (f : α → β) (hf : ∀ a, enc (f a) = enc a := by intro _; rfl) : Em X Γ ρ e (m >>= fun a => .ok (f a)) :=
  (E.conv h f hf).congr fun s => by cases m <;> rfl
/-- ghost step: a list is frozen -/
theorem Inv.freeze {X : Cx} {pins : List (Addr × Obj)} {σ : L2.St} {H : Hp} {s : Shared} {a : Addr} {xs : List V} (I : Inv X pins σ H s) (h : H a = some (.lst xs)) : ∃ o, Inv X pins σ (upd H a (.frz o (.lst xs))) s := by
  obtain ⟨z, its, n, r, e⟩ := I.hok a _ h
  refine ⟨{ cls := .type "list", data := .seq its.toArray n }, I.ok, I.os, I.bare, ⟨I.base.keep, I.base.slot, fun b o q1 q2 q3 => ?_, I.base.there, fun b ys q => ?_, fun b o u q => ?_, fun b qs q => ?_⟩, I.loc, I.cell, ?_, fun x c q => ?_, fun p hp => ?_, fun b o q => ?_, I.len⟩
  · have q := I.base.free b o q1 q2 q3
    rw [upd_ne (ne_of_none h q).symm]; exact q
  · rw [upd_ne (fun z => by subst z; have := I.base.tups b ys q; rw [h] at this; cases this)]; exact I.base.tups b ys q
  · rw [upd_ne (fun z => by subst z; have := I.base.frzs b o u q; rw [h] at this; cases this)]; exact I.base.frzs b o u q
  · obtain ⟨more, e2⟩ := I.base.tbls b qs q
    exact ⟨more, by rw [upd_ne (fun z => by subst z; rw [h] at e2; cases e2)]; exact e2⟩
  · rw [upd_ne (ne_of_none h I.free).symm]; exact I.free
  · rw [upd_ne (ne_of_none h (I.freeC x c q)).symm]; exact I.freeC x c q
  · obtain ⟨e1, e2, e3⟩ := I.pin p hp
    exact ⟨e1, by rw [upd_ne (ne_of_none h e2).symm]; exact e2, e3⟩
  · have ho : ∀ c, H c = some (.own b) → upd H a (.frz { cls := .type "list", data := .seq its.toArray n } (.lst xs)) c = some (.own b) := fun c q => by
      rw [upd_ne (ne_of q h (fun z => by cases z))]; exact q
    have ht : ∀ c ys, H c = some (.tup ys) → upd H a (.frz { cls := .type "list", data := .seq its.toArray n } (.lst xs)) c = some (.tup ys) := fun c ys q => by
      rw [upd_ne (ne_of q h (fun z => by cases z))]; exact q
    by_cases hb : b = a
    · subst hb
      rw [upd_same] at q
      cases q
      exact ⟨e, z, its, n, r, e⟩
    · rw [upd_ne hb] at q
      refine (I.hok b o q).stay (fun c u hc w => w) ho ht
theorem pe_freeze {X : Cx} {e : Expr} {t : TE} (h : PE X e t) : PE X e (fun σ H Q => t σ H fun v H' => ∃ a xs, v = .ref a ∧ H' a = some (.lst xs) ∧ ∀ o, Q v (upd H' a (.frz o (.lst xs)))) := by
  refine ⟨fun pins s σ H Q I q => thn (h.run pins s σ H _ I q) fun u s' ⟨v, H', I', r, a, xs, e, hl, k⟩ => ?_⟩
  obtain ⟨o, I2⟩ := Inv.freeze I' hl
  exact ⟨v, _, I2, r, k o⟩
/-- a new list becomes data -/
theorem EP.frozen [Enc α] {m : S → Res (List α × S)} (h : EL X Γ ρ e m) : E X Γ ρ e m := by
  refine PE.imp (pe_freeze h) fun σ H Q ⟨s, f0, g, q⟩ => ⟨s, f0, g, wpR_mono q (fun r q H' f g' l v hp => ?_) fun _ _ z => z⟩
  obtain ⟨p, vs, rfl, hn, nf, hv, hz, hr⟩ := hp
  refine ⟨p, vs, rfl, hv, fun o => ?_⟩
  have G : Good X.K Γ.ps Γ.H0 (ρ s) σ H := ⟨f0, g⟩
  have lu := Le.upd (u := .frz o (.lst vs)) hv notImm
  exact q _ f (g'.freeze hv nf (G.newAt hn).1) ⟨l.le.trans lu, fun a u h n => by rw [upd_ne (ne_of_none h hn)]; exact l.keep a u h n, l.foot⟩ _ (.lst ⟨o, upd_same⟩ (hr.mono lu) hz)
end
end DL

set_option Elab.async false
set_option linter.all false
set_option maxRecDepth 100000
set_option maxHeartbeats 4000000
namespace DL
open PySem PySem.Spec PyProof.Rows L2 Enc

def ofOpt {α : Type} : Option α → Res α
  | some a => .ok a
  | none => .bad
@[simp] theorem ofOpt_some {α : Type} (a : α) : ofOpt (some a) = .ok a := rfl
@[simp] theorem ofOpt_none {α : Type} : ofOpt (none : Option α) = .bad := rfl
/-- a value where a condition holds -/
def chk {α : Type} (c : Prop) [Decidable c] (a : α) : Option α := if c then some a else none
theorem chk_some {α : Type} {c : Prop} [Decidable c] {a b : α} (h : chk c a = some b) : c ∧ b = a := by
  unfold chk at h
  split at h
  · next q => exact ⟨q, (Option.some.inj h).symm⟩
  · cases h
@[simp] theorem chk_pos {α : Type} {c : Prop} [Decidable c] {a : α} (h : c) : chk c a = some a := if_pos h
theorem wpR_ofOpt {α : Type} {o : Option α} {φ : α → Prop} {ψ : String → List PyData → Prop} (h : wpR (ofOpt o) φ ψ) : ∃ a, o = some a ∧ φ a := by
  cases o with
  | none => exact h.elim
  | some a => exact ⟨a, rfl, h⟩

/-- what a value's judgement asks of its kind: the start may lie further back -/
structure PKok {α : Type} (P : PK α) : Prop where
  start : ∀ f H H1 H' v a, Le H H1 → P f H1 H' v a → P f H H' v a
theorem pd_ok {α : Type} [Enc α] {K : PySem.W.Frag} : PKok (PD (α := α) K) := ⟨fun _ _ _ _ _ _ _ h => h⟩
theorem pl_ok {α : Type} [Enc α] {K : PySem.W.Frag} : PKok (PL (α := α) K) := ⟨fun f H H1 H' v a l ⟨p, vs, e, h1, h2, h3⟩ => ⟨p, vs, e, l.dom p h1, h2, h3⟩⟩
/-- what an operation by values hands on: all that was tracked stays, the value is of its kind -/
def Hand {α : Type} (P : PK α) (H : Hp) (c : α) (Q : VK) : Prop := ∀ v H', Same H H' → (∀ f : Nat → Foot, (∀ i a, a ∈ f i → H a ≠ none) → P f H H' v c) → Q v H'
def BOk {α β γ : Type} [Enc α] [Enc β] (K : PySem.W.Frag) (P : PK γ) (r : R2) (g : α → β → Option γ) : Prop := ∀ H x y a b c Q, Rp K H x (enc a) → Rp K H y (enc b) → g a b = some c → Hand P H c Q → r x y H Q
def UOk {α γ : Type} [Enc α] (K : PySem.W.Frag) (P : PK γ) (r : V → Hp → VK → Prop) (g : α → Option γ) : Prop := ∀ H x a c Q, Rp K H x (enc a) → g a = some c → Hand P H c Q → r x H Q
def AOk {τ γ : Type} (K : PySem.W.Frag) (P : PK γ) (encs : τ → List PyData) (r : List V → Hp → VK → Prop) (g : τ → Option γ) : Prop := ∀ H vs t c Q, RpAll K H vs (encs t) → g t = some c → Hand P H c Q → r vs H Q
theorem Hand.here {α : Type} [Enc α] {K : PySem.W.Frag} {H : Hp} {c : α} {Q : VK} (h : Hand (PD K) H c Q) {v : V} (r : Rp K H v (enc c)) : Q v H := h v H (Same.refl H) fun _ _ => r
theorem Hand.new {α : Type} [Enc α] {K : PySem.W.Frag} {H : Hp} {c : List α} {Q : VK} (h : Hand (PL K) H c Q) {p : Addr} {vs : List V} (n : H p = none) (r : RpAll K H vs (c.map enc)) (hz : vs.length ≤ sizeLine) : Q (.ref p) (upd H p (.lst vs)) :=
  h _ _ (same_new n) fun f nf => ⟨p, vs, rfl, n, fun i hi => nf i p hi n, upd_same, hz, r.mono (Le.of_same (same_new n))⟩
theorem Hand.newT {α : Type} [Enc α] {K : PySem.W.Frag} {H : Hp} {c : α} {ds : List PyData} (e : enc c = .tuple ds) {Q : VK} (h : Hand (PD K) H c Q) {p : Addr} {vs : List V} (n : H p = none) (r : RpAll K H vs ds) : Q (.ref p) (upd H p (.tup vs)) :=
  h _ _ (same_new n) fun f nf => by
    show Rp K _ _ (enc c)
    rw [e]
    exact .tup upd_same (r.mono (Le.of_same (same_new n)))

section
variable {X : Cx} {Γ : Cn} {S α β γ : Type} {ρ : S → List Slot} {a b : Expr} {pos : Pos}
/-- the end of an operation by values -/
theorem run_end {P : PK γ} (hP : PKok P) {o : Option γ} {s : S} {f0 f : Nat → Foot} {σ : L2.St} {H H1 : Hp} {Q : VK} (g : GoodF X.K Γ.ps Γ.H0 f (ρ s) σ H1) (l : Stp f0 H f H1)
    (h : RunF X.K Γ f ρ (slift (ofOpt o) s) σ H1 fun f H' r => ∀ v, P f H H' v r.1 → Q v H') : ∃ c, o = some c ∧ Hand P H1 c Q := by
  cases o with
  | none => exact h.elim
  | some c => exact ⟨c, rfl, fun u H3 sm hp => (RunF.same h g sm) u (hP.start _ _ _ _ _ _ l.le (hp f fun i a ha e => by
    obtain ⟨o, e2, _⟩ := g.live ha
    rw [e] at e2; cases e2))⟩
theorem e_two [Enc α] [Enc β] {r : R2} {P : PK γ} {g : α → β → Option γ} {ma : S → Res (α × S)} {mb : S → Res (β × S)} (hr : BOk X.K P r g) (hP : PKok P) {σ : L2.St} {H : Hp} {Q : VK}
    (h : tE X.K Γ P ρ (sbind ma fun x => sbind mb fun y => slift (ofOpt (g x y))) σ H Q) : tOp r (tE X.K Γ (PD X.K) ρ ma) (tE X.K Γ (PD X.K) ρ mb) σ H Q := by
  obtain ⟨s, f0, G, q⟩ := h
  refine ⟨s, f0, G, q.chain.mono fun f1 H1 r1 g1 l1 q v rx => ⟨r1.2, f1, g1, q.chain.mono fun f2 H2 r2 g2 l2 q w ry => ?_⟩⟩
  obtain ⟨c, ec, q⟩ := run_end hP g2 (l1.trans l2) q
  exact hr H2 v w r1.1 r2.1 c Q (rx.mono l2.le) ry ec q
/-- e1 op e2 -/
theorem e_bin [Enc α] [Enc β] {op : Operator} {r : R2} {P : PK γ} {g : α → β → Option γ} {ma : S → Res (α × S)} {mb : S → Res (β × S)} (ho : OpR X (binaryOp op) r) (hr : BOk X.K P r g) (hP : PKok P) (ha : E X Γ ρ a ma) (hb : E X Γ ρ b mb) :
    EP X Γ P ρ (.BinOp a op b pos) (sbind ma fun x => sbind mb fun y => slift (ofOpt (g x y))) := PE.imp (pe_op ho ha hb) fun σ H Q h => e_two hr hP h
/-- a comparison -/
theorem e_cmp [Enc α] [Enc β] {op : CmpOp} {r : R2} {P : PK γ} {g : α → β → Option γ} {ma : S → Res (α × S)} {mb : S → Res (β × S)} (ho : OpR X (compareOp op) r) (hr : BOk X.K P r g) (hP : PKok P) (ha : E X Γ ρ a ma) (hb : E X Γ ρ b mb)
    (hm : behindInMarks op b = false := by rfl) : EP X Γ P ρ (.Compare a [op] [b] pos) (sbind ma fun x => sbind mb fun y => slift (ofOpt (g x y))) := PE.imp (pe_cmpR ho ha hb hm) fun σ H Q h => e_two hr hP h
/-- xs[i] -/
theorem e_ixR [Enc α] [Enc β] {r : R2} {P : PK γ} {g : α → β → Option γ} {ma : S → Res (α × S)} {mb : S → Res (β × S)} (ho : IxR X r) (hr : BOk X.K P r g) (hP : PKok P) (ha : E X Γ ρ a ma) (hb : E X Γ ρ b mb) (hs : PlainIx b := by exact fun _ _ => rfl) :
    EP X Γ P ρ (.Subscript a b pos) (sbind ma fun x => sbind mb fun y => slift (ofOpt (g x y))) := PE.imp (pe_ix ho ha hb hs) fun σ H Q h => e_two hr hP h
/-- op e -/
theorem e_un [Enc α] {op : UnaryOp} {r : V → Hp → VK → Prop} {P : PK γ} {g : α → Option γ} {ma : S → Res (α × S)} (ho : UnR X (unaryOp op) r) (hr : UOk X.K P r g) (hP : PKok P) (ha : E X Γ ρ a ma) :
    EP X Γ P ρ (.UnaryOp op a pos) (sbind ma fun x => slift (ofOpt (g x))) := by
  refine PE.imp (pe_un ho ha) fun σ H Q ⟨s, f0, G, q⟩ => ⟨s, f0, G, q.chain.mono fun f1 H1 r1 g1 l1 q v rx => ?_⟩
  obtain ⟨c, ec, q⟩ := run_end hP g1 l1 q
  exact hr H1 v r1.1 c Q rx ec q

/-! ### names, constants -/
theorem e_var {x : Str} [Enc α] (i : Nat) (v : S → α) (hN : X.N[i]? = some x := by rfl) (hv : Vis X.env.scope x := by first | exact Or.inl rfl | exact Or.inr (Or.inl rfl) | exact Or.inr (Or.inr rfl)) (h : ∀ s, (ρ s)[i]? = some (.dat (enc (v s))) := by exact fun _ => rfl)
    (hd : (x == ("__debug__" : Str)) = false := by decide) (hcd : (x == ("__classdict__" : Str)) = false := by decide) : E X Γ ρ (.Name x pos) (fun s => .ok (v s, s)) :=
  PE.imp (pe_var hN hv hd hcd) fun σ H Q ⟨s, f, g, q⟩ => by
    obtain ⟨y, e, r⟩ := Good.at ⟨f, g⟩ (h s)
    exact ⟨y, e, RunF.same q g (Same.refl H) y r⟩
theorem ev {x : Str} [Enc α] (i : Nat) (v : α) (hN : X.N[i]? = some x := by rfl) (hv : Vis X.env.scope x := by first | exact Or.inl rfl | exact Or.inr (Or.inl rfl) | exact Or.inr (Or.inr rfl)) (h : ∀ s, (ρ s)[i]? = some (.dat (enc v)) := by exact fun _ => rfl)
    (hd : (x == ("__debug__" : Str)) = false := by decide) (hcd : (x == ("__classdict__" : Str)) = false := by decide) : Ep X Γ ρ (.Name x pos) v := e_var i (fun _ => v) hN hv h hd hcd
theorem tE_here {K : PySem.W.Frag} [Enc α] {v : V} {x : α} {σ : L2.St} {H : Hp} {Q : VK} (r : Rp K H v (enc x)) (h : tE K Γ (PD K) ρ (spure x) σ H Q) : Q v H := by
  obtain ⟨s, f, g, q⟩ := h
  exact RunF.same q g (Same.refl H) v r
theorem e_int {i : Int} {j : Nat} : Ep X Γ ρ (.Constant (.int i) j pos) (i : Int) := PE.imp pe_int fun σ H Q h => tE_here (.int i) h
theorem e_bl {b : Bool} {j : Nat} : Ep X Γ ρ (.Constant (.bool b) j pos) (b : Bool) := PE.imp pe_bl fun σ H Q h => tE_here (.bl b) h
theorem e_str {x : Str} {j : Nat} : Ep X Γ ρ (.Constant (.str x) j pos) (x : Str) := PE.imp pe_str fun σ H Q h => tE_here (.str x) h
theorem e_non {j : Nat} : Ep X Γ ρ (.Constant .none j pos) (() : Unit) := PE.imp pe_non fun σ H Q h => tE_here .non h
theorem e_globI {x : Str} (i : Int) {t : Tok} (hg : Gl X x) (hm : X.mg x = some (.int i t)) (hd : (x == ("__debug__" : Str)) = false := by decide) : Ep X Γ ρ (.Name x pos) (i : Int) := PE.imp (pe_glob (v := V.int i) hg hm ⟨t, rfl⟩ hd) fun σ H Q h => tE_here (.int i) h
theorem e_globS {x : Str} (z : Str) {t : Tok} (hg : Gl X x) (hm : X.mg x = some (.str z t)) (hd : (x == ("__debug__" : Str)) = false := by decide) : Ep X Γ ρ (.Name x pos) (z : Str) := PE.imp (pe_glob (v := V.str z) hg hm ⟨t, rfl⟩ hd) fun σ H Q h => tE_here (.str z) h

/-! ### ints -/
theorem Rp.int_inv {K : PySem.W.Frag} {H : Hp} {v : V} {i : Int} (h : Rp K H v (enc i)) : v = .int i := by
  have h' : Rp K H v (.int i) := h
  cases h'; rfl
theorem Rp.bl_inv {K : PySem.W.Frag} {H : Hp} {v : V} {i : Bool} (h : Rp K H v (enc i)) : v = .bl i := by
  have h' : Rp K H v (.bool i) := h
  cases h'; rfl
theorem Rp.str_inv {K : PySem.W.Frag} {H : Hp} {v : V} {i : Str} (h : Rp K H v (enc i)) : v = .str i := by
  have h' : Rp K H v (.str i) := h
  cases h'; rfl
theorem Rp.lst_inv {K : PySem.W.Frag} {H : Hp} {v : V} {l : List α} [Enc α] (h : Rp K H v (enc l)) : ∃ a xs, v = .ref a ∧ FzL H a xs ∧ RpAll K H xs (l.map enc) ∧ xs.length ≤ sizeLine := by
  have h' : Rp K H v (.list (l.map enc)) := h
  cases h' with
  | lst a b c => exact ⟨_, _, rfl, a, b, c⟩
theorem bok_int {C : Int → Int → Prop} {f : Int → Int → Int} {g : Int → Int → Option Int} (h : ∀ i j c, g i j = some c → C i j ∧ c = f i j) {K : PySem.W.Frag} : BOk K (PD K) (rI C fun i j => .int (f i j)) g := fun H x y i j c Q rx ry e q => by
  obtain ⟨hc, rfl⟩ := h i j c e
  exact ⟨i, j, rx.int_inv, ry.int_inv, hc, q.here (.int _)⟩
theorem bok_int0 {f : Int → Int → Int} {K : PySem.W.Frag} : BOk K (PD K) (rI0 fun i j => .int (f i j)) (fun i j => some (f i j)) := fun H x y i j c Q rx ry e q => by
  cases e
  exact ⟨i, j, rx.int_inv, ry.int_inv, q.here (.int _)⟩
theorem bok_bl0 {f : Int → Int → Bool} {K : PySem.W.Frag} : BOk K (PD K) (rI0 fun i j => .bl (f i j)) (fun i j => some (f i j)) := fun H x y i j c Q rx ry e q => by
  cases e
  exact ⟨i, j, rx.int_inv, ry.int_inv, q.here (.bl _)⟩
def mulO (i j : Int) : Option Int := chk ((-(2 ^ 64) < i ∧ i < 2 ^ 64) ∨ (-(2 ^ 64) < j ∧ j < 2 ^ 64)) (i * j)
def divO (i j : Int) : Option Int := chk (0 < j ∧ j < 1073741824) (i / j)
def modO (i j : Int) : Option Int := chk (0 < j) (i % j)
def powO (i j : Int) : Option Int := chk (0 ≤ j ∧ j ≤ 1000000 ∧ i.natAbs < 2 ^ 64) (i ^ j.toNat)
variable {ma mb : S → Res (Int × S)} {x y : Int}
theorem e_add (ha : E X Γ ρ a ma) (hb : E X Γ ρ b mb) : E X Γ ρ (.BinOp a .Add b pos) (sbind ma fun x => sbind mb fun y => spure (x + y)) := e_bin op_add bok_int0 pd_ok ha hb
theorem e_sub (ha : E X Γ ρ a ma) (hb : E X Γ ρ b mb) : E X Γ ρ (.BinOp a .Sub b pos) (sbind ma fun x => sbind mb fun y => spure (x - y)) := e_bin op_sub bok_int0 pd_ok ha hb
theorem e_mul (ha : E X Γ ρ a ma) (hb : E X Γ ρ b mb) : E X Γ ρ (.BinOp a .Mult b pos) (sbind ma fun x => sbind mb fun y => slift (ofOpt (mulO x y))) := e_bin (g := mulO) op_mul (bok_int fun i j c h => by unfold mulO at h; have q := chk_some h; exact q) pd_ok ha hb
theorem e_div (ha : E X Γ ρ a ma) (hb : E X Γ ρ b mb) : E X Γ ρ (.BinOp a .FloorDiv b pos) (sbind ma fun x => sbind mb fun y => slift (ofOpt (divO x y))) := e_bin (g := divO) op_fdiv (bok_int fun i j c h => by unfold divO at h; have q := chk_some h; exact q) pd_ok ha hb
theorem e_mod (ha : E X Γ ρ a ma) (hb : E X Γ ρ b mb) : E X Γ ρ (.BinOp a .Mod b pos) (sbind ma fun x => sbind mb fun y => slift (ofOpt (modO x y))) := e_bin (g := modO) op_mod (bok_int fun i j c h => by unfold modO at h; have q := chk_some h; exact q) pd_ok ha hb
theorem e_pow (ha : E X Γ ρ a ma) (hb : E X Γ ρ b mb) : E X Γ ρ (.BinOp a .Pow b pos) (sbind ma fun x => sbind mb fun y => slift (ofOpt (powO x y))) := e_bin (g := powO) op_pow (bok_int fun i j c h => by unfold powO at h; have q := chk_some h; exact q) pd_ok ha hb
theorem e_neg (ha : E X Γ ρ a ma) : E X Γ ρ (.UnaryOp .USub a pos) (sbind ma fun x => spure (-x)) :=
  e_un (g := fun x : Int => some (-x)) un_neg (fun H x a c Q rx e q => by cases e; exact ⟨a, rx.int_inv, q.here (.int _)⟩) pd_ok ha
theorem e_lt (ha : E X Γ ρ a ma) (hb : E X Γ ρ b mb) : E X Γ ρ (.Compare a [.Lt] [b] pos) (sbind ma fun x => sbind mb fun y => spure (decide (x < y))) := e_cmp op_lt bok_bl0 pd_ok ha hb (nomark _)
theorem e_le (ha : E X Γ ρ a ma) (hb : E X Γ ρ b mb) : E X Γ ρ (.Compare a [.LtE] [b] pos) (sbind ma fun x => sbind mb fun y => spure (decide (x ≤ y))) := e_cmp op_le bok_bl0 pd_ok ha hb (nomark _)
theorem e_gt (ha : E X Γ ρ a ma) (hb : E X Γ ρ b mb) : E X Γ ρ (.Compare a [.Gt] [b] pos) (sbind ma fun x => sbind mb fun y => spure (decide (y < x))) := e_cmp op_gt bok_bl0 pd_ok ha hb (nomark _)
theorem e_ge (ha : E X Γ ρ a ma) (hb : E X Γ ρ b mb) : E X Γ ρ (.Compare a [.GtE] [b] pos) (sbind ma fun x => sbind mb fun y => spure (decide (y ≤ x))) := e_cmp op_ge bok_bl0 pd_ok ha hb (nomark _)
example (ha : Ep X Γ ρ a x) (hb : Ep X Γ ρ b y) : Ep X Γ ρ (.BinOp a .Add b pos) (x + y) := e_add ha hb
example (ha : Ep X Γ ρ a x) (hb : Em X Γ ρ b (.ok y)) : Em X Γ ρ (.BinOp a .Add b pos) (.ok (x + y)) := e_add ha hb
end
end DL

set_option Elab.async false
set_option linter.all false
set_option maxRecDepth 100000
set_option maxHeartbeats 4000000
namespace DL
open PySem PySem.Spec PyProof.Rows L2 Enc

/-! ### tests -/
def tT (K : PySem.W.Frag) (Γ : Cn) {S : Type} (ρ : S → List Slot) (m : S → Res (Bool × S)) : TT := fun σ H Q =>
  ∃ s f0, GoodF K Γ.ps Γ.H0 f0 (ρ s) σ H ∧ RunF K Γ f0 ρ (m s) σ H fun f H' r => Q r.1 H'
def B (X : Cx) (Γ : Cn) {S : Type} (ρ : S → List Slot) (e : Expr) (m : S → Res (Bool × S)) : Prop := PT X e (tT X.K Γ ρ m)
def BW (X : Cx) (Γ : Cn) {S : Type} (ρ : S → List Slot) (e : Expr) (m : S → Res (Bool × S)) : Prop := PW X e (tT X.K Γ ρ m)
theorem PT.imp {X : Cx} {e : Expr} {t t' : TT} (h : PT X e t) (i : ∀ σ H Q, t' σ H Q → t σ H Q) : PT X e t' := ⟨fun pins s σ H Q I q => h.run pins s σ H Q I (i σ H Q q)⟩
theorem PW.imp {X : Cx} {e : Expr} {t t' : TT} (h : PW X e t) (i : ∀ σ H Q, t' σ H Q → t σ H Q) : PW X e t' := ⟨fun wh pins s σ H Q I q => h.run wh pins s σ H Q I (i σ H Q q)⟩
section
variable {X : Cx} {Γ : Cn} {S α β γ : Type} {ρ : S → List Slot} {a b e : Expr} {rest : List Expr} {pos : Pos} {m ma mb : S → Res (Bool × S)}
theorem B.congr {m m' : S → Res (Bool × S)} (h : B X Γ ρ e m) (i : ∀ s, m' s = m s) : B X Γ ρ e m' := by
  have : m' = m := funext i
  rw [this]; exact h
theorem b_val (h : E X Γ ρ e m) (he : ∀ whole, isTrue e X.env whole = (do let v ← whole; standAt e.pos; holding [v] (truthy v)) := by intro _; rfl) : B X Γ ρ e m :=
  PT.imp (pt_val h he) fun σ H Q ⟨s, f0, g, q⟩ => ⟨s, f0, g, q.mono fun f H' r g l q v rx => ⟨r.1, rx.bl_inv, q⟩⟩
theorem b_not (h : B X Γ ρ e m) : B X Γ ρ (.UnaryOp .Not e pos) (sbind m fun x => spure (!x)) :=
  PT.imp (pt_not h) fun σ H Q ⟨s, f0, g, q⟩ => ⟨s, f0, g, q.chain.mono fun f H' r g l q => RunF.same q g (Same.refl _)⟩
theorem b_list [Enc α] {m : S → Res (List α × S)} (h : E X Γ ρ e m) (he : ∀ whole, isTrue e X.env whole = (do let v ← whole; standAt e.pos; holding [v] (truthy v)) := by intro _; rfl) : B X Γ ρ e (sbind m fun x => spure (!x.isEmpty)) :=
  PT.imp (pt_truth h he) fun σ H Q ⟨s, f0, g, q⟩ => ⟨s, f0, g, q.chain.mono fun f H' r g l q v rx => by
    obtain ⟨p, xs, rfl, hf, hr, _⟩ := rx.lst_inv
    refine ⟨!r.1.isEmpty, .inl ⟨xs, hf.sq, ?_⟩, RunF.same q g (Same.refl _)⟩
    have := hr.length
    cases xs <;> cases hl : r.1 <;> simp_all⟩
theorem bw_and1 (h : B X Γ ρ a m) : BW X Γ ρ (.BoolOp .And [a] pos) m := pw_and1 h
theorem bw_or1 (h : B X Γ ρ a m) : BW X Γ ρ (.BoolOp .Or [a] pos) m := pw_or1 h
theorem bw_and (ha : B X Γ ρ a ma) (hb : BW X Γ ρ (.BoolOp .And (b :: rest) pos) mb) : BW X Γ ρ (.BoolOp .And (a :: b :: rest) pos) (sbind ma fun x => if x = true then mb else spure false) :=
  PW.imp (pw_and ha hb) fun σ H Q ⟨s, f0, g, q⟩ => ⟨s, f0, g, q.chain.mono fun f H' r g l q => by
    obtain ⟨c, s1⟩ := r
    cases c with
    | true => exact ⟨s1, f, g, q⟩
    | false => exact RunF.same q g (Same.refl _)⟩
theorem bw_or (ha : B X Γ ρ a ma) (hb : BW X Γ ρ (.BoolOp .Or (b :: rest) pos) mb) : BW X Γ ρ (.BoolOp .Or (a :: b :: rest) pos) (sbind ma fun x => if x = true then spure true else mb) :=
  PW.imp (pw_or ha hb) fun σ H Q ⟨s, f0, g, q⟩ => ⟨s, f0, g, q.chain.mono fun f H' r g l q => by
    obtain ⟨c, s1⟩ := r
    cases c with
    | false => exact ⟨s1, f, g, q⟩
    | true => exact RunF.same q g (Same.refl _)⟩
theorem BW.test (h : BW X Γ ρ e m) : B X Γ ρ e m := L2.PW.pt h
/-- as values -/
theorem e_and1 {op} (h : E X Γ ρ a ma) : E X Γ ρ (.BoolOp op [a] pos) ma := pe_one h
theorem e_and (ha : E X Γ ρ a ma) (hb : E X Γ ρ (.BoolOp .And (b :: rest) pos) mb) : E X Γ ρ (.BoolOp .And (a :: b :: rest) pos) (sbind ma fun x => if x = true then mb else spure false) :=
  PE.imp (pe_and ha hb) fun σ H Q ⟨s, f0, g, q⟩ => ⟨s, f0, g, q.chain.mono fun f H' r g l q v rx => by
    obtain ⟨c, s1⟩ := r
    refine ⟨c, rx.bl_inv, ?_⟩
    cases c with
    | true => exact iteT ⟨s1, f, g, q⟩
    | false => exact iteF (RunF.same q g (Same.refl _) _ (.bl false))⟩
theorem e_or (ha : E X Γ ρ a ma) (hb : E X Γ ρ (.BoolOp .Or (b :: rest) pos) mb) : E X Γ ρ (.BoolOp .Or (a :: b :: rest) pos) (sbind ma fun x => if x = true then spure true else mb) :=
  PE.imp (pe_or ha hb) fun σ H Q ⟨s, f0, g, q⟩ => ⟨s, f0, g, q.chain.mono fun f H' r g l q v rx => by
    obtain ⟨c, s1⟩ := r
    refine ⟨c, rx.bl_inv, ?_⟩
    cases c with
    | false => exact iteF ⟨s1, f, g, q⟩
    | true => exact iteT (RunF.same q g (Same.refl _) _ (.bl true))⟩
theorem e_not (ha : E X Γ ρ a ma) : E X Γ ρ (.UnaryOp .Not a pos) (sbind ma fun x => spure (!x)) :=
  PE.imp (pe_not ha) fun σ H Q ⟨s, f0, g, q⟩ => ⟨s, f0, g, q.chain.mono fun f H' r g l q v rx => ⟨r.1, rx.bl_inv, RunF.same q g (Same.refl _) _ (.bl _)⟩⟩
/-- a if t else b -/
theorem e_if {P : PK α} (hP : PKok P) {c : Expr} {mc : S → Res (Bool × S)} {m1 m2 : S → Res (α × S)} (hc : B X Γ ρ c mc) (h1 : EP X Γ P ρ a m1) (h2 : EP X Γ P ρ b m2) : EP X Γ P ρ (.IfExp c a b pos) (sbind mc fun x => if x = true then m1 else m2) :=
  PE.imp (pe_ifExp hc h1 h2) fun σ H Q ⟨s, f0, g, q⟩ => ⟨s, f0, g, q.chain.mono fun f H' r g l q => by
    obtain ⟨c, s1⟩ := r
    cases c with
    | true => exact iteT ⟨s1, f, g, RunF.mono q fun f2 H2 r2 g2 l2 q v rx => q v (hP.start _ _ _ _ _ _ l.le rx)⟩
    | false => exact iteF ⟨s1, f, g, RunF.mono q fun f2 H2 r2 g2 l2 q v rx => q v (hP.start _ _ _ _ _ _ l.le rx)⟩⟩
end

/-! ### equality of data -/
class Flat (α : Type) [Enc α] [DecidableEq α] where
  d : Nat
  eqv : ∀ a b : α, PyData.eqv (enc a) (enc b) = decide (a = b)
  lay : ∀ a : α, (enc a).canLay0 = true
  dep : ∀ a : α, (enc a).depth ≤ d
/-- None is no such value -/
class NotNone (α : Type) [Enc α] : Prop where
  l : ∀ a : α, PyData.eqv (enc a) .none = false
  r : ∀ a : α, PyData.eqv .none (enc a) = false
theorem dec_and {p q : Prop} [Decidable p] [Decidable q] : (decide p && decide q) = decide (p ∧ q) := by by_cases p <;> by_cases q <;> simp_all
theorem dec_congr {p q : Prop} [Decidable p] [Decidable q] (h : p ↔ q) : decide p = decide q := by by_cases p <;> by_cases q <;> simp_all
instance : Flat Int := ⟨0, fun a b => by
  show (a == b) = _
  exact Bool.beq_eq_decide_eq a b, fun _ => rfl, fun _ => Nat.le_refl _⟩
instance : Flat Bool := ⟨0, fun a b => by cases a <;> cases b <;> rfl, fun _ => rfl, fun _ => Nat.le_refl _⟩
instance : Flat Unit := ⟨0, fun a b => by cases a; cases b; rfl, fun _ => rfl, fun _ => Nat.le_refl _⟩
instance : NotNone Int := ⟨fun _ => rfl, fun _ => rfl⟩
instance : NotNone Bool := ⟨fun _ => rfl, fun _ => rfl⟩
instance : NotNone Str := ⟨fun _ => rfl, fun _ => rfl⟩
section
variable {α β γ : Type} [Enc α] [DecidableEq α] [Enc β] [DecidableEq β] [Enc γ] [DecidableEq γ]
theorem eqvAll_map [F : Flat α] : ∀ a b : List α, PyData.eqvAll (a.map enc) (b.map enc) = decide (a = b)
  | [], [] => rfl
  | [], _ :: _ => by simp [PyData.eqvAll]
  | _ :: _, [] => by simp [PyData.eqvAll]
  | x :: a, y :: b => by
    show (PyData.eqv (enc x) (enc y) && PyData.eqvAll (a.map enc) (b.map enc)) = _
    rw [F.eqv, eqvAll_map a b, dec_and]
    exact dec_congr (by simp)
theorem layAll_map [F : Flat α] : ∀ a : List α, PyData.canLayAll0 (a.map enc) = true
  | [] => rfl
  | x :: a => by
    show ((enc x).canLay0 && PyData.canLayAll0 (a.map enc)) = true
    rw [F.lay, layAll_map a]; rfl
theorem depAll_map [F : Flat α] : ∀ a : List α, PyData.depthAll (a.map enc) ≤ F.d
  | [] => Nat.zero_le _
  | x :: a => by
    show max (enc x).depth (PyData.depthAll (a.map enc)) ≤ F.d
    have := F.dep x
    have := depAll_map a
    omega
instance [F : Flat α] : Flat (List α) := ⟨F.d + 1, fun a b => eqvAll_map a b, fun a => layAll_map a, fun a => Nat.succ_le_succ (depAll_map a)⟩
instance : NotNone (List α) := ⟨fun _ => rfl, fun _ => rfl⟩
instance [F : Flat α] : Flat (Tup α) := ⟨F.d + 1, fun a b => by
  show PyData.eqvAll (a.l.map enc) (b.l.map enc) = _
  rw [eqvAll_map]
  exact dec_congr (by cases a; cases b; simp), fun a => layAll_map a.l, fun a => Nat.succ_le_succ (depAll_map a.l)⟩
instance : NotNone (Tup α) := ⟨fun _ => rfl, fun _ => rfl⟩
instance : NotNone (α × β) := ⟨fun _ => rfl, fun _ => rfl⟩
instance : NotNone (T3 α β γ) := ⟨fun _ => rfl, fun _ => rfl⟩
instance [F : Flat α] [G : Flat β] : Flat (α × β) := ⟨F.d + G.d + 1, fun a b => by
  show (PyData.eqv (enc a.1) (enc b.1) && (PyData.eqv (enc a.2) (enc b.2) && true)) = _
  rw [F.eqv, G.eqv, Bool.and_true, dec_and]
  exact dec_congr (by cases a; cases b; simp), fun a => by
  show ((enc a.1).canLay0 && ((enc a.2).canLay0 && true)) = true
  rw [F.lay, G.lay]; rfl, fun a => by
  show max (enc a.1).depth (max (enc a.2).depth 0) + 1 ≤ _
  have := F.dep a.1
  have := G.dep a.2
  omega⟩
instance [F : Flat α] [G : Flat β] [H : Flat γ] : Flat (T3 α β γ) := ⟨F.d + G.d + H.d + 1, fun a b => by
  show (PyData.eqv (enc a.a) (enc b.a) && (PyData.eqv (enc a.b) (enc b.b) && (PyData.eqv (enc a.c) (enc b.c) && true))) = _
  rw [F.eqv, G.eqv, H.eqv, Bool.and_true, dec_and, dec_and]
  exact dec_congr (by cases a; cases b; simp), fun a => by
  show ((enc a.a).canLay0 && ((enc a.b).canLay0 && ((enc a.c).canLay0 && true))) = true
  rw [F.lay, G.lay, H.lay]; rfl, fun a => by
  show max (enc a.a).depth (max (enc a.b).depth (max (enc a.c).depth 0)) + 1 ≤ _
  have := F.dep a.a
  have := G.dep a.b
  have := H.dep a.c
  omega⟩
instance [F : Flat α] [N : NotNone α] : Flat (Option α) := ⟨F.d, fun a b => by
  cases a with
  | none =>
    cases b with
    | none => rfl
    | some b => exact (N.r b).trans (by simp)
  | some a =>
    cases b with
    | none => exact (N.l a).trans (by simp)
    | some b => exact (F.eqv a b).trans (by simp), fun a => by
  cases a with
  | none => rfl
  | some a => exact F.lay a, fun a => by
  cases a with
  | none => exact Nat.zero_le _
  | some a => exact F.dep a⟩
theorem flat_shaped [F : Flat α] (h : F.d ≤ 64) (a : α) : SeqAt.shaped (enc a) = true := by
  have := F.lay a
  have := F.dep a
  unfold SeqAt.shaped
  rw [F.lay a, Bool.true_and]
  exact decide_eq_true (by omega)
end
/-- == of any data -/
def eqD (x y : PyData) : Option Bool := chk (SeqAt.shaped x = true ∧ SeqAt.shaped y = true) (PyData.eqv x y)
def neD (x y : PyData) : Option Bool := (eqD x y).map not
section
variable {X : Cx} {Γ : Cn} {S α β γ : Type} {ρ : S → List Slot} {a b e : Expr} {pos : Pos}
theorem e_eq [Enc α] [DecidableEq α] [F : Flat α] {ma mb : S → Res (α × S)} (hu : X.A.units + 64 < cLine) (ha : E X Γ ρ a ma) (hb : E X Γ ρ b mb) (hd : F.d ≤ 64 := by decide) : E X Γ ρ (.Compare a [.Eq] [b] pos) (sbind ma fun x => sbind mb fun y => spure (decide (x = y))) :=
  e_cmp (g := fun x y : α => some (decide (x = y))) (op_eqD hu) (fun H x y a b c Q rx ry e q => by
    cases e
    refine ⟨_, _, rx.dp, ry.dp, flat_shaped hd a, flat_shaped hd b, ?_⟩
    rw [F.eqv]
    exact q.here (.bl _)) pd_ok ha hb (nomark _)
theorem e_ne [Enc α] [DecidableEq α] [F : Flat α] {ma mb : S → Res (α × S)} (hu : X.A.units + 64 < cLine) (ha : E X Γ ρ a ma) (hb : E X Γ ρ b mb) (hd : F.d ≤ 64 := by decide) : E X Γ ρ (.Compare a [.NotEq] [b] pos) (sbind ma fun x => sbind mb fun y => spure (!decide (x = y))) :=
  e_cmp (g := fun x y : α => some (!decide (x = y))) (op_neD hu) (fun H x y a b c Q rx ry e q => by
    cases e
    refine ⟨_, _, rx.dp, ry.dp, flat_shaped hd a, flat_shaped hd b, ?_⟩
    rw [F.eqv]
    exact q.here (.bl _)) pd_ok ha hb (nomark _)
theorem e_eqD {ma mb : S → Res (PyData × S)} (hu : X.A.units + 64 < cLine) (ha : E X Γ ρ a ma) (hb : E X Γ ρ b mb) : E X Γ ρ (.Compare a [.Eq] [b] pos) (sbind ma fun x => sbind mb fun y => slift (ofOpt (eqD x y))) :=
  e_cmp (g := eqD) (op_eqD hu) (fun H x y a b c Q rx ry e q => by
    obtain ⟨⟨h1, h2⟩, rfl⟩ := chk_some e
    exact ⟨_, _, rx.dp, ry.dp, h1, h2, q.here (.bl _)⟩) pd_ok ha hb (nomark _)
theorem e_neD {ma mb : S → Res (PyData × S)} (hu : X.A.units + 64 < cLine) (ha : E X Γ ρ a ma) (hb : E X Γ ρ b mb) : E X Γ ρ (.Compare a [.NotEq] [b] pos) (sbind ma fun x => sbind mb fun y => slift (ofOpt (neD x y))) :=
  e_cmp (g := neD) (op_neD hu) (fun H x y a b c Q rx ry e q => by
    obtain ⟨r, e1, e2⟩ := Option.map_eq_some_iff.mp e
    obtain ⟨⟨h1, h2⟩, rfl⟩ := chk_some e1
    subst e2
    exact ⟨_, _, rx.dp, ry.dp, h1, h2, q.here (.bl _)⟩) pd_ok ha hb (nomark _)
theorem e_eqS {ma mb : S → Res (Str × S)} (ha : E X Γ ρ a ma) (hb : E X Γ ρ b mb) : E X Γ ρ (.Compare a [.Eq] [b] pos) (sbind ma fun x => sbind mb fun y => spure (decide (x = y))) :=
  e_cmp (g := fun x y : Str => some (decide (x = y))) op_eq (fun H x y a b c Q rx ry e q => by
    cases e
    rw [rx.str_inv, ry.str_inv]
    refine ⟨rfl, ?_⟩
    rw [dec_str, Bool.beq_eq_decide_eq]
    exact q.here (.bl _)) pd_ok ha hb (nomark _)
theorem e_neS {ma mb : S → Res (Str × S)} (ha : E X Γ ρ a ma) (hb : E X Γ ρ b mb) : E X Γ ρ (.Compare a [.NotEq] [b] pos) (sbind ma fun x => sbind mb fun y => spure (!decide (x = y))) :=
  e_cmp (g := fun x y : Str => some (!decide (x = y))) op_ne (fun H x y a b c Q rx ry e q => by
    cases e
    rw [rx.str_inv, ry.str_inv]
    refine ⟨rfl, ?_⟩
    rw [dec_str, Bool.beq_eq_decide_eq]
    exact q.here (.bl _)) pd_ok ha hb (nomark _)
/-- is None -/
def isN : PyData → Bool
  | .none => true
  | _ => false
theorem Rp.isN {K : PySem.W.Frag} {H : Hp} {v : V} {d : PyData} (h : Rp K H v d) : decide (v = .non) = isN d := by
  cases h <;> simp [DL.isN]
theorem e_isN [Enc α] {ma : S → Res (α × S)} {j : Nat} {p : Pos} (ha : E X Γ ρ a ma) : E X Γ ρ (.Compare a [.Is] [.Constant .none j p] pos) (sbind ma fun x => spure (isN (enc x))) :=
  PE.imp (pe_cmp (pc_isN ha)) fun σ H Q ⟨s, f0, g, q⟩ => ⟨s, f0, g, q.chain.mono fun f H' r g l q v rx => by
    show Q (V.bl (decide (v = V.non))) H'
    rw [rx.isN]
    exact RunF.same q g (Same.refl _) _ (.bl _)⟩
theorem e_notN [Enc α] {ma : S → Res (α × S)} {j : Nat} {p : Pos} (ha : E X Γ ρ a ma) : E X Γ ρ (.Compare a [.IsNot] [.Constant .none j p] pos) (sbind ma fun x => spure (!isN (enc x))) :=
  PE.imp (pe_cmp (pc_notN ha)) fun σ H Q ⟨s, f0, g, q⟩ => ⟨s, f0, g, q.chain.mono fun f H' r g l q v rx => by
    show Q (V.bl (!decide (v = V.non))) H'
    rw [rx.isN]
    exact RunF.same q g (Same.refl _) _ (.bl _)⟩
/-- a bool is True, is False -/
theorem e_isB {ma mb : S → Res (Bool × S)} (ha : E X Γ ρ a ma) (hb : E X Γ ρ b mb) : E X Γ ρ (.Compare a [.Is] [b] pos) (sbind ma fun x => sbind mb fun y => spure (decide (x = y))) :=
  e_cmp (g := fun x y : Bool => some (decide (x = y))) op_isBl (fun H x y a b c Q rx ry e q => by
    cases e
    exact ⟨a, b, rx.bl_inv, ry.bl_inv, q.here (.bl _)⟩) pd_ok ha hb (nomark _)
theorem e_notB {ma mb : S → Res (Bool × S)} (ha : E X Γ ρ a ma) (hb : E X Γ ρ b mb) : E X Γ ρ (.Compare a [.IsNot] [b] pos) (sbind ma fun x => sbind mb fun y => spure (!decide (x = y))) :=
  e_cmp (g := fun x y : Bool => some (!decide (x = y))) op_notBl (fun H x y a b c Q rx ry e q => by
    cases e
    exact ⟨a, b, rx.bl_inv, ry.bl_inv, q.here (.bl _)⟩) pd_ok ha hb (nomark _)
end
end DL

set_option Elab.async false
set_option linter.all false
set_option maxRecDepth 100000
set_option maxHeartbeats 4000000
namespace DL
open PySem PySem.Spec PyProof.Rows L2 Enc

/-! ### frozen lists, by values -/
theorem Inv.fzM {X : Cx} {pins : List (Addr × Obj)} {σ : L2.St} {H : Hp} {s : Shared} {l : Addr} {xs : List V} (I : Inv X pins σ H s) (hH : FzL H l xs) : xs.length ≤ sizeLine ∧ ∃ (its : List Value) (n : Nat), Vals xs its ∧ xs.length = its.length ∧ s.heap.get? l = some { cls := .type "list", data := .seq its.toArray n } := by
  obtain ⟨o, h⟩ := hH
  obtain ⟨_, z, its, n, r, e⟩ := I.hok l _ h
  exact ⟨z, its, n, r, r.length, e⟩
section
variable {X : Cx}
def rCatZ : R2 := fun x y H Q => ∃ l b xs zs, x = .ref l ∧ y = .ref b ∧ FzL H l xs ∧ FzL H b zs ∧ xs.length + zs.length ≤ sizeLine ∧ ∀ p, H p = none → Q (.ref p) (upd H p (.lst (xs ++ zs)))
theorem op_catZ : OpR X (binaryOp .Add) rCatZ := by
  intro pins s σ H x y v u Q I rx ry h
  obtain ⟨l, b, xs, zs, rfl, rfl, hH, hB, hz, q⟩ := h
  cases rx
  cases ry
  obtain ⟨z, its, n, r, hl, e⟩ := Inv.fzM I hH
  obtain ⟨z2, its2, n2, r2, hl2, e2⟩ := Inv.fzM I hB
  refine PySem.P.add_list e e2 ?_ (by rw [List.size_toArray, List.size_toArray]; omega)
  have ea : its.toArray ++ its2.toArray = (its ++ its2).toArray := by simp
  rw [ea]
  exact ⟨.ref _, _, I.lnew (t' := s.toks) (r.append r2) (by rw [List.length_append]; omega), rfl, q _ I.fresh⟩
def rRepZ : R2 := fun x y H Q => ∃ l k xs, x = .ref l ∧ y = .int k ∧ FzL H l xs ∧ -(2 ^ 63) ≤ k ∧ k < 2 ^ 63 ∧ xs.length * k.toNat ≤ sizeLine ∧
  ∀ p, H p = none → Q (.ref p) (upd H p (.lst (List.replicate k.toNat xs).flatten))
theorem op_repZ : OpR X (binaryOp .Mult) rRepZ := by
  intro pins s σ H x y v u Q I rx ry h
  obtain ⟨l, k, xs, rfl, rfl, hH, h1, h2, hz, q⟩ := h
  cases rx
  obtain ⟨t, rfl⟩ := ry
  obtain ⟨z, its, n, r, hl, e⟩ := Inv.fzM I hH
  have hlen : its.toArray.size * k.toNat ≤ sizeLine := by rw [List.size_toArray, ← hl]; exact hz
  have hcap : ¬ its.toArray.size * k.toNat > (2 ^ 63 - 1) / 8 := by
    have : (sizeLine : Nat) ≤ (2 ^ 63 - 1) / 8 := by decide
    omega
  have hfit : ¬ (!Builtin.List.listFitsIndex k) = true := by
    rw [fitsIndex_both h1 h2]
    exact Bool.false_ne_true
  have hlong : ¬ Builtin.List.listTooLong (its.toArray.size * k.toNat) = true := by
    rw [notLongL hlen]
    exact Bool.false_ne_true
  have hnew : List.foldl (fun x1 x2 => x1 ++ x2) #[] (List.replicate (if its.toArray.isEmpty = true then 0 else k.toNat) its.toArray) = (List.replicate k.toNat its).flatten.toArray := by
    have f0 : ∀ m : Nat, List.foldl (fun x1 x2 => x1 ++ x2) #[] (List.replicate m its.toArray) = (List.replicate m its).flatten.toArray := fun m => by
      have := foldl_rep its m []
      rw [List.nil_append] at this
      exact this
    rw [f0]
    cases its with
    | nil => simp
    | cons a r' => rw [if_neg (by simp)]
  refine wpAny_binaryOp_repeat_ref (T := "list") (U := "int") (by decide) ⟨_, e, rfl⟩ (fun s' => typeIs_int s' k t) noFill_list_mul F.fills_int_mul F.slot_int_rmul repeat_list F.slot_int_index.lookup
    (call_meets F.slot_int_rmul (typeIs_int s k t) F.entry_int_rmul (F.args_int_rmul_2 _ _) (int___rmul___int_list k t l its.toArray n)
      ⟨e, rfl, ⟨_, e, rfl⟩, call_meets F.slot_list_mul ⟨_, e, rfl⟩ F.entry_list_mul (F.args_list_mul_2 _ _) (AutoListH.list___mul___list_int_3 l its.toArray n k t hfit hcap hlong) ⟨e, ?_⟩⟩)
  rw [hnew]
  exact ⟨.ref _, _, I.lnew (t' := s.toks) (r.rep k.toNat) (by rw [PyProof.Rows.lm_len_rep_flat, Nat.mul_comm]; exact hz), rfl, q _ I.fresh⟩
/-- in a tuple, data at any depth -/
def rInTD (K : PySem.W.Frag) : R2 := fun x y H Q => ∃ d ds, Dp K H x d ∧ Dp K H y (.tuple ds) ∧ SeqAt.shaped d = true ∧ SeqAt.shaped (.tuple ds) = true ∧ Q (.bl (ds.any fun z => PyData.eqv z d)) H
def rNotInTD (K : PySem.W.Frag) : R2 := fun x y H Q => ∃ d ds, Dp K H x d ∧ Dp K H y (.tuple ds) ∧ SeqAt.shaped d = true ∧ SeqAt.shaped (.tuple ds) = true ∧ Q (.bl (!ds.any fun z => PyData.eqv z d)) H
theorem op_inTD (hu : X.A.units + 65 < cLine) : OpR X (compareOp .In) (rInTD X.K) := by
  intro pins s σ H x y v u Q I rx ry h
  obtain ⟨d, ds, hd, he, sd, se, q⟩ := h
  obtain ⟨as, r1⟩ := Dp.reads I d x v hd rx
  obtain ⟨bs, r2⟩ := Dp.reads I (.tuple ds) y u he ry
  exact SeqAt.in_tuple_reads r2 r1 (SeqAt.canLay_of_shaped se) (SeqAt.canLay_of_shaped sd) (room_in_shaped sd hu) ⟨.bl _, H, I, rfl, q⟩
theorem op_notInTD (hu : X.A.units + 65 < cLine) : OpR X (compareOp .NotIn) (rNotInTD X.K) := by
  intro pins s σ H x y v u Q I rx ry h
  obtain ⟨d, ds, hd, he, sd, se, q⟩ := h
  obtain ⟨as, r1⟩ := Dp.reads I d x v hd rx
  obtain ⟨bs, r2⟩ := Dp.reads I (.tuple ds) y u he ry
  exact SeqAt.notIn_tuple_reads r2 r1 (SeqAt.canLay_of_shaped se) (SeqAt.canLay_of_shaped sd) (room_in_shaped sd hu) ⟨.bl _, H, I, rfl, q⟩
end
section
variable {X : Cx} {Γ : Cn} {S α β γ : Type} {ρ : S → List Slot} {a b e : Expr} {pos : Pos}
theorem Rp.tup_inv {K : PySem.W.Frag} {H : Hp} {v : V} {ds : List PyData} (h : Rp K H v (.tuple ds)) : ∃ a xs, v = .ref a ∧ SqT K H a xs ∧ RpAll K H xs ds := by
  cases h with
  | tup a b => exact ⟨_, _, rfl, SqT.of a, b⟩
/-! ### list + list, list * int -/
def catO (xs ys : List α) : Option (List α) := chk (xs.length + ys.length ≤ sizeLine) (xs ++ ys)
def repO (xs : List α) (k : Int) : Option (List α) := chk (-(2 ^ 63) ≤ k ∧ k < 2 ^ 63 ∧ xs.length * k.toNat ≤ sizeLine) (List.replicate k.toNat xs).flatten
theorem e_cat [Enc α] {ma mb : S → Res (List α × S)} (ha : E X Γ ρ a ma) (hb : E X Γ ρ b mb) : EL X Γ ρ (.BinOp a .Add b pos) (sbind ma fun x => sbind mb fun y => slift (ofOpt (catO x y))) :=
  e_bin (g := catO) op_catZ (fun H x y a b c Q rx ry e q => by
    obtain ⟨hz, rfl⟩ := chk_some e
    obtain ⟨l, xs, rfl, f1, r1, z1⟩ := rx.lst_inv
    obtain ⟨l2, ys, rfl, f2, r2, z2⟩ := ry.lst_inv
    have h1 := r1.length
    have h2 := r2.length
    rw [List.length_map] at h1 h2
    exact ⟨l, l2, xs, ys, rfl, rfl, f1, f2, by omega, fun p n => q.new n (by rw [List.map_append]; exact r1.append r2) (by rw [List.length_append]; omega)⟩) pl_ok ha hb
theorem RpAll.rep {K : PySem.W.Frag} {H : Hp} {vs : List V} {ds : List PyData} (h : RpAll K H vs ds) : ∀ k : Nat, RpAll K H (List.replicate k vs).flatten (List.replicate k ds).flatten
  | 0 => .nil
  | k + 1 => by rw [List.replicate_succ, List.replicate_succ, List.flatten_cons, List.flatten_cons]; exact h.append (RpAll.rep h k)
theorem map_rep (f : α → β) (l : List α) : ∀ k : Nat, (List.replicate k l).flatten.map f = (List.replicate k (l.map f)).flatten
  | 0 => rfl
  | k + 1 => by rw [List.replicate_succ, List.replicate_succ, List.flatten_cons, List.flatten_cons, List.map_append, map_rep f l k]
theorem e_rep [Enc α] {ma : S → Res (List α × S)} {mb : S → Res (Int × S)} (ha : E X Γ ρ a ma) (hb : E X Γ ρ b mb) : EL X Γ ρ (.BinOp a .Mult b pos) (sbind ma fun x => sbind mb fun y => slift (ofOpt (repO x y))) :=
  e_bin (g := repO) op_repZ (fun H x y a b c Q rx ry e q => by
    obtain ⟨⟨h1, h2, hz⟩, rfl⟩ := chk_some e
    obtain ⟨l, xs, rfl, f1, r1, z1⟩ := rx.lst_inv
    have e1 := r1.length
    rw [List.length_map] at e1
    refine ⟨l, b, xs, rfl, ry.int_inv, f1, h1, h2, by rw [e1]; exact hz, fun p n => q.new n (by rw [map_rep]; exact r1.rep _) ?_⟩
    rw [PyProof.Rows.lm_len_rep_flat, Nat.mul_comm, e1]; exact hz) pl_ok ha hb
/-! ### items, slices -/
theorem RpAll.atI {K : PySem.W.Frag} {H : Hp} {vs : List V} {ds : List PyData} (h : RpAll K H vs ds) {i : Int} {d : PyData} (e : L2.atI ds i = some d) : ∃ v, L2.atI vs i = some v ∧ Rp K H v d := by
  unfold L2.atI at e ⊢
  rw [h.length]
  cases q : ixN ds.length i with
  | none => rw [q] at e; cases e
  | some j => rw [q] at e; exact h.get e
theorem atI_map (f : α → β) (xs : List α) (i : Int) : L2.atI (xs.map f) i = (L2.atI xs i).map f := by
  unfold L2.atI
  rw [List.length_map]
  cases ixN xs.length i with
  | none => rfl
  | some j => show (xs.map f)[j]? = _; rw [List.getElem?_map]; rfl
theorem e_ix [Enc α] {ma : S → Res (List α × S)} {mb : S → Res (Int × S)} (ha : E X Γ ρ a ma) (hb : E X Γ ρ b mb) (hs : PlainIx b := by exact fun _ _ => rfl) : E X Γ ρ (.Subscript a b pos) (sbind ma fun x => sbind mb fun y => slift (ofOpt (L2.atI x y))) :=
  e_ixR (g := L2.atI) ix_list (fun H x y a b c Q rx ry e q => by
    obtain ⟨l, xs, rfl, f1, r1, z1⟩ := rx.lst_inv
    obtain ⟨v, e1, r⟩ := r1.atI (i := b) (d := enc c) (by rw [atI_map, e]; rfl)
    exact ⟨l, xs, b, v, rfl, ry.int_inv, f1.sq, e1, q.here r⟩) pd_ok ha hb hs
/-- an item of any tuple or list, as data -/
def ixD (x : PyData) (i : Int) : Option PyData := match x with
  | .list ds => L2.atI ds i
  | .tuple ds => L2.atI ds i
  | _ => none
theorem e_ixD {ma : S → Res (PyData × S)} {mb : S → Res (Int × S)} (ha : E X Γ ρ a ma) (hb : E X Γ ρ b mb) (hs : PlainIx b := by exact fun _ _ => rfl) : E X Γ ρ (.Subscript a b pos) (sbind ma fun x => sbind mb fun y => slift (ofOpt (ixD x y))) :=
  e_ixR (g := ixD) ix_seq (fun H x y a b c Q rx ry e q => by
    cases a with
    | list ds =>
      have rx' : Rp X.K H x (.list ds) := rx
      cases rx' with
      | lst h1 h2 h3 =>
        obtain ⟨v, e1, r⟩ := h2.atI (i := b) (d := c) e
        exact .inl ⟨_, _, b, v, rfl, ry.int_inv, h1.sq, e1, q.here r⟩
    | tuple ds =>
      have rx' : Rp X.K H x (.tuple ds) := rx
      cases rx' with
      | tup h1 h2 =>
        obtain ⟨v, e1, r⟩ := h2.atI (i := b) (d := c) e
        exact .inr (.inl ⟨_, _, b, v, rfl, ry.int_inv, SqT.of h1, e1, q.here r⟩)
    | _ => cases e) pd_ok ha hb hs
theorem e_ixT {ds : α → List PyData} [Enc α] [Enc β] (he : ∀ a : α, enc a = .tuple (ds a)) (g : α → Int → Option β) (hg : ∀ a i b, g a i = some b → L2.atI (ds a) i = some (enc b)) {ma : S → Res (α × S)} {mb : S → Res (Int × S)} (ha : E X Γ ρ a ma) (hb : E X Γ ρ b mb) (hs : PlainIx b := by exact fun _ _ => rfl) :
    E X Γ ρ (.Subscript a b pos) (sbind ma fun x => sbind mb fun y => slift (ofOpt (g x y))) :=
  e_ixR (g := g) ix_tup (fun H x y a b c Q rx ry e q => by
    rw [he] at rx
    obtain ⟨l, xs, rfl, f1, r1⟩ := rx.tup_inv
    obtain ⟨v, e1, r⟩ := r1.atI (hg a b c e)
    exact ⟨l, xs, b, v, rfl, ry.int_inv, f1, e1, q.here r⟩) pd_ok ha hb hs
theorem e_ixTup [Enc α] {ma : S → Res (Tup α × S)} {mb : S → Res (Int × S)} (ha : E X Γ ρ a ma) (hb : E X Γ ρ b mb) (hs : PlainIx b := by exact fun _ _ => rfl) : E X Γ ρ (.Subscript a b pos) (sbind ma fun x => sbind mb fun y => slift (ofOpt (L2.atI x.l y))) :=
  e_ixT (ds := fun a : Tup α => a.l.map enc) (fun _ => rfl) (fun a i => L2.atI a.l i) (fun a i b h => by rw [atI_map, h]; rfl) ha hb hs
/-- p[0], p[1] of a pair: the written place -/
theorem e_fst [Enc α] [Enc β] {ma : S → Res ((α × β) × S)} {j : Nat} {p : Pos} (ha : E X Γ ρ a ma) (hs : PlainIx (.Constant (.int 0) j p) := by exact fun _ _ => rfl) : E X Γ ρ (.Subscript a (.Constant (.int 0) j p) pos) (sbind ma fun x => spure x.1) :=
  e_ixT (ds := fun a : α × β => [enc a.1, enc a.2]) (fun _ => rfl) (fun a i => if i = 0 then some a.1 else none) (fun a i b h => by
    by_cases e : i = 0
    · subst e; rw [if_pos rfl] at h; cases h; rfl
    · rw [if_neg e] at h; cases h) ha (e_int (S := S)) hs
theorem e_snd [Enc α] [Enc β] {ma : S → Res ((α × β) × S)} {j : Nat} {p : Pos} (ha : E X Γ ρ a ma) (hs : PlainIx (.Constant (.int 1) j p) := by exact fun _ _ => rfl) : E X Γ ρ (.Subscript a (.Constant (.int 1) j p) pos) (sbind ma fun x => spure x.2) :=
  e_ixT (ds := fun a : α × β => [enc a.1, enc a.2]) (fun _ => rfl) (fun a i => if i = 1 then some a.2 else none) (fun a i b h => by
    by_cases e : i = 1
    · subst e; rw [if_pos rfl] at h; cases h; rfl
    · rw [if_neg e] at h; cases h) ha (e_int (S := S)) hs
theorem e_t3a [Enc α] [Enc β] [Enc γ] {ma : S → Res (T3 α β γ × S)} {j : Nat} {p : Pos} (ha : E X Γ ρ a ma) (hs : PlainIx (.Constant (.int 0) j p) := by exact fun _ _ => rfl) : E X Γ ρ (.Subscript a (.Constant (.int 0) j p) pos) (sbind ma fun x => spure x.a) :=
  e_ixT (ds := fun a : T3 α β γ => [enc a.a, enc a.b, enc a.c]) (fun _ => rfl) (fun a i => if i = 0 then some a.a else none) (fun a i b h => by
    by_cases e : i = 0
    · subst e; rw [if_pos rfl] at h; cases h; rfl
    · rw [if_neg e] at h; cases h) ha (e_int (S := S)) hs
theorem e_t3b [Enc α] [Enc β] [Enc γ] {ma : S → Res (T3 α β γ × S)} {j : Nat} {p : Pos} (ha : E X Γ ρ a ma) (hs : PlainIx (.Constant (.int 1) j p) := by exact fun _ _ => rfl) : E X Γ ρ (.Subscript a (.Constant (.int 1) j p) pos) (sbind ma fun x => spure x.b) :=
  e_ixT (ds := fun a : T3 α β γ => [enc a.a, enc a.b, enc a.c]) (fun _ => rfl) (fun a i => if i = 1 then some a.b else none) (fun a i b h => by
    by_cases e : i = 1
    · subst e; rw [if_pos rfl] at h; cases h; rfl
    · rw [if_neg e] at h; cases h) ha (e_int (S := S)) hs
theorem e_t3c [Enc α] [Enc β] [Enc γ] {ma : S → Res (T3 α β γ × S)} {j : Nat} {p : Pos} (ha : E X Γ ρ a ma) (hs : PlainIx (.Constant (.int 2) j p) := by exact fun _ _ => rfl) : E X Γ ρ (.Subscript a (.Constant (.int 2) j p) pos) (sbind ma fun x => spure x.c) :=
  e_ixT (ds := fun a : T3 α β γ => [enc a.a, enc a.b, enc a.c]) (fun _ => rfl) (fun a i => if i = 2 then some a.c else none) (fun a i b h => by
    by_cases e : i = 2
    · subst e; rw [if_pos rfl] at h; cases h; rfl
    · rw [if_neg e] at h; cases h) ha (e_int (S := S)) hs
/-- a part of a slice -/
def tO (K : PySem.W.Frag) (Γ : Cn) {S : Type} (ρ : S → List Slot) (m : S → Res (Option Int × S)) : TO := fun σ H Q =>
  ∃ s f0, GoodF K Γ.ps Γ.H0 f0 (ρ s) σ H ∧ RunF K Γ f0 ρ (m s) σ H fun f H' r => Q r.1 H'
def O (X : Cx) (Γ : Cn) {S : Type} (ρ : S → List Slot) (e : Option Expr) (m : S → Res (Option Int × S)) : Prop := PO X e (tO X.K Γ ρ m)
theorem PO.imp {X : Cx} {e : Option Expr} {t t' : TO} (h : PO X e t) (i : ∀ σ H Q, t' σ H Q → t σ H Q) : PO X e t' := ⟨fun pins s σ H Q I q => h.run pins s σ H Q I (i σ H Q q)⟩
theorem o_none : O X Γ ρ none (spure none) := PO.imp po_none fun σ H Q ⟨s, f, g, q⟩ => RunF.same q g (Same.refl _)
theorem o_some {m : S → Res (Int × S)} (h : E X Γ ρ e m) : O X Γ ρ (some e) (sbind m fun i => spure (some i)) :=
  PO.imp (po_some h) fun σ H Q ⟨s, f0, g, q⟩ => ⟨s, f0, g, q.chain.mono fun f H' r g l q v rx => ⟨r.1, rx.int_inv, RunF.same q g (Same.refl _)⟩⟩
def cutL (xs : List α) (lo hi : Option Int) : List α := (xs.drop (HT.sIx xs.length 0 lo)).take (HT.sIx xs.length xs.length hi - HT.sIx xs.length 0 lo)
theorem RpAll.cut {K : PySem.W.Frag} {H : Hp} {vs : List V} {ds : List PyData} (h : RpAll K H vs ds) (lo hi : Option Int) : RpAll K H (cutV vs lo hi) (cutL ds lo hi) := by
  unfold cutV cutL
  rw [h.length]
  exact (h.drop _).take _
theorem map_cut (f : α → β) (xs : List α) (lo hi : Option Int) : (cutL xs lo hi).map f = cutL (xs.map f) lo hi := by
  unfold cutL
  rw [List.map_take, List.map_drop, List.length_map]
theorem e_slice [Enc α] {lo hi : Option Expr} {p2 : Pos} {ma : S → Res (List α × S)} {ml mh : S → Res (Option Int × S)} (ha : E X Γ ρ a ma) (hl : O X Γ ρ lo ml) (hh : O X Γ ρ hi mh) :
    EL X Γ ρ (.Subscript a (.Slice lo hi none p2) pos) (sbind ma fun x => sbind ml fun i => sbind mh fun j => spure (cutL x i j)) := by
  refine PE.imp (pe_slice sl_list ha hl hh) fun σ H Q ⟨s, f0, g, q⟩ => ⟨s, f0, g, q.chain.mono fun f1 H1 r1 g1 l1 q v rx => ⟨r1.2, f1, g1, q.chain.mono fun f2 H2 r2 g2 l2 q => ⟨r2.2, f2, g2, q.chain.mono fun f3 H3 r3 g3 l3 q => ?_⟩⟩⟩
  obtain ⟨p, xs, rfl, hf, hr, hz⟩ := rx.lst_inv
  have l := (l1.trans l2).trans l3
  have hr' := hr.mono (l2.trans l3).le
  refine ⟨p, xs, rfl, ((l2.trans l3).le.fz hf).sq, fun d n => RunF.same q g3 (same_new n) _ ⟨d, _, rfl, l.le.dom d n, fun k hk => ?_, upd_same, Nat.le_trans (cutV_length _ _ _) hz, ?_⟩⟩
  · obtain ⟨u, e, _⟩ := g3.live hk
    rw [n] at e; cases e
  · rw [map_cut]
    exact (hr'.cut r2.1 r3.1).mono (Le.new n)
/-- xs[::-1] -/
theorem e_rev [Enc α] {k : Nat} {p1 p2 p3 : Pos} {ma : S → Res (List α × S)} (ha : E X Γ ρ a ma) : EL X Γ ρ (.Subscript a (.Slice none none (some (.UnaryOp .USub (.Constant (.int 1) k p1) p2)) p3) pos) (sbind ma fun x => spure x.reverse) := by
  refine PE.imp (pe_revL ha) fun σ H Q ⟨s, f0, g, q⟩ => ⟨s, f0, g, q.chain.mono fun f1 H1 r1 g1 l1 q v rx => ?_⟩
  obtain ⟨p, xs, rfl, hf, hr, hz⟩ := rx.lst_inv
  refine ⟨p, xs, rfl, hf.sq, fun d n => RunF.same q g1 (same_new n) _ ⟨d, _, rfl, l1.le.dom d n, fun k hk => ?_, upd_same, by rw [List.length_reverse]; exact hz, ?_⟩⟩
  · obtain ⟨u, e, _⟩ := g1.live hk
    rw [n] at e; cases e
  · rw [List.map_reverse]
    exact hr.reverse.mono (Le.new n)
/-! ### in -/
theorem any_mem [Enc α] [DecidableEq α] [F : Flat α] (x : α) : ∀ xs : List α, ((xs.map enc).any fun z => PyData.eqv z (enc x)) = decide (x ∈ xs)
  | [] => rfl
  | y :: xs => by
    rw [List.map_cons, List.any_cons, any_mem x xs, F.eqv, Bool.eq_iff_iff]
    simp only [Bool.or_eq_true, decide_eq_true_eq, List.mem_cons]
    exact ⟨fun h => h.elim (fun e => .inl e.symm) .inr, fun h => h.elim (fun e => .inl e.symm) .inr⟩
theorem e_in [Enc α] [DecidableEq α] [F : Flat α] {ma : S → Res (α × S)} {mb : S → Res (List α × S)} (hu : X.A.units + 65 < cLine) (ha : E X Γ ρ a ma) (hb : E X Γ ρ b mb) (hd : F.d + 1 ≤ 64 := by decide) (hm : behindInMarks .In b = false := by rfl) : E X Γ ρ (.Compare a [.In] [b] pos) (sbind ma fun x => sbind mb fun y => spure (decide (x ∈ y))) :=
  e_cmp (g := fun (x : α) (y : List α) => some (decide (x ∈ y))) (op_inD hu) (fun H x y a b c Q rx ry e q => by
    cases e
    refine ⟨_, b.map enc, rx.dp, ry.dp, flat_shaped (Nat.le_of_succ_le hd) a, flat_shaped (α := List α) hd b, ?_⟩
    rw [any_mem]
    exact q.here (.bl _)) pd_ok ha hb hm
theorem e_notIn [Enc α] [DecidableEq α] [F : Flat α] {ma : S → Res (α × S)} {mb : S → Res (List α × S)} (hu : X.A.units + 65 < cLine) (ha : E X Γ ρ a ma) (hb : E X Γ ρ b mb) (hd : F.d + 1 ≤ 64 := by decide) (hm : behindInMarks .NotIn b = false := by rfl) : E X Γ ρ (.Compare a [.NotIn] [b] pos) (sbind ma fun x => sbind mb fun y => spure (!decide (x ∈ y))) :=
  e_cmp (g := fun (x : α) (y : List α) => some (!decide (x ∈ y))) (op_notInD hu) (fun H x y a b c Q rx ry e q => by
    cases e
    refine ⟨_, b.map enc, rx.dp, ry.dp, flat_shaped (Nat.le_of_succ_le hd) a, flat_shaped (α := List α) hd b, ?_⟩
    rw [any_mem]
    exact q.here (.bl _)) pd_ok ha hb hm
theorem e_inT [Enc α] [DecidableEq α] [F : Flat α] {ma : S → Res (α × S)} {mb : S → Res (Tup α × S)} (hu : X.A.units + 65 < cLine) (ha : E X Γ ρ a ma) (hb : E X Γ ρ b mb) (hd : F.d + 1 ≤ 64 := by decide) (hm : behindInMarks .In b = false := by rfl) : E X Γ ρ (.Compare a [.In] [b] pos) (sbind ma fun x => sbind mb fun y => spure (decide (x ∈ y.l))) :=
  e_cmp (g := fun (x : α) (y : Tup α) => some (decide (x ∈ y.l))) (op_inTD hu) (fun H x y a b c Q rx ry e q => by
    cases e
    refine ⟨_, b.l.map enc, rx.dp, ry.dp, flat_shaped (Nat.le_of_succ_le hd) a, flat_shaped (α := Tup α) hd b, ?_⟩
    rw [any_mem]
    exact q.here (.bl _)) pd_ok ha hb hm
theorem e_notInT [Enc α] [DecidableEq α] [F : Flat α] {ma : S → Res (α × S)} {mb : S → Res (Tup α × S)} (hu : X.A.units + 65 < cLine) (ha : E X Γ ρ a ma) (hb : E X Γ ρ b mb) (hd : F.d + 1 ≤ 64 := by decide) (hm : behindInMarks .NotIn b = false := by rfl) : E X Γ ρ (.Compare a [.NotIn] [b] pos) (sbind ma fun x => sbind mb fun y => spure (!decide (x ∈ y.l))) :=
  e_cmp (g := fun (x : α) (y : Tup α) => some (!decide (x ∈ y.l))) (op_notInTD hu) (fun H x y a b c Q rx ry e q => by
    cases e
    refine ⟨_, b.l.map enc, rx.dp, ry.dp, flat_shaped (Nat.le_of_succ_le hd) a, flat_shaped (α := Tup α) hd b, ?_⟩
    rw [any_mem]
    exact q.here (.bl _)) pd_ok ha hb hm
end
end DL

set_option Elab.async false
set_option linter.all false
set_option maxRecDepth 100000
set_option maxHeartbeats 4000000
namespace DL
open PySem PySem.Spec PyProof.Rows L2 Enc

/-! ### arguments -/
def tA (K : PySem.W.Frag) (Γ : Cn) {S τ : Type} (ρ : S → List Slot) (m : S → Res (τ × S)) (encs : τ → List PyData) : TA := fun σ H Q =>
  ∃ s f0, GoodF K Γ.ps Γ.H0 f0 (ρ s) σ H ∧ RunF K Γ f0 ρ (m s) σ H fun f H' r => ∀ vs, RpAll K H' vs (encs r.1) → Q vs H'
def EA (X : Cx) (Γ : Cn) {S τ : Type} (ρ : S → List Slot) (es : List Expr) (m : S → Res (τ × S)) (encs : τ → List PyData) : Prop := PA X es (tA X.K Γ ρ m encs)
theorem PA.imp {X : Cx} {e : List Expr} {t t' : TA} (h : PA X e t) (i : ∀ σ H Q, t' σ H Q → t σ H Q) : PA X e t' := ⟨fun pos pins s σ H Q I q => h.run pos pins s σ H Q I (i σ H Q q)⟩
section
variable {X : Cx} {Γ : Cn} {S α β γ δ τ : Type} {ρ : S → List Slot} {a b e : Expr} {es : List Expr} {pos p : Pos} {x : Str}
theorem EA.congr {m m' : S → Res (τ × S)} {encs : τ → List PyData} (h : EA X Γ ρ es m encs) (i : ∀ s, m' s = m s) : EA X Γ ρ es m' encs := by
  have : m' = m := funext i
  rw [this]; exact h
theorem ea_nil : EA X Γ ρ [] (spure ()) (fun _ : Unit => []) := PA.imp pa_nil fun σ H Q ⟨s, f, g, q⟩ => RunF.same q g (Same.refl _) [] .nil
theorem ea_cons [Enc α] {ma : S → Res (α × S)} {ms : S → Res (τ × S)} {encs : τ → List PyData} (ha : E X Γ ρ e ma) (hs : EA X Γ ρ es ms encs) (he : starEach (e :: es) X.env = (false, eval e X.env) :: starEach es X.env := by rfl) :
    EA X Γ ρ (e :: es) (sbind ma fun a => sbind ms fun t => spure (a, t)) (fun r : α × τ => enc r.1 :: encs r.2) :=
  PA.imp (pa_cons ha hs he) fun σ H Q ⟨s, f0, g, q⟩ => ⟨s, f0, g, q.chain.mono fun f1 H1 r1 g1 l1 q v rx => ⟨r1.2, f1, g1, q.chain.mono fun f2 H2 r2 g2 l2 q vs rs => RunF.same q g2 (Same.refl _) (v :: vs) (.cons (rx.mono l2.le) rs)⟩⟩
theorem ea_one [Enc α] {ma : S → Res (α × S)} (ha : E X Γ ρ e ma) (he : starEach [e] X.env = (false, eval e X.env) :: starEach [] X.env := by rfl) : EA X Γ ρ [e] ma (fun a : α => [enc a]) :=
  PA.imp (pa_cons ha pa_nil he) fun σ H Q ⟨s, f0, g, q⟩ => ⟨s, f0, g, q.mono fun f1 H1 r1 g1 l1 q v rx => q [v] (.cons rx .nil)⟩
/-! ### displays -/
theorem map_nil' {K : PySem.W.Frag} {H : Hp} : RpAll K H [] [] := .nil
/-- [e1, .., en]: the items of one kind -/
def consM [Enc α] (m : S → Res (α × S)) (ms : S → Res (List α × S)) : S → Res (List α × S) := sbind m fun a => sbind ms fun as => spure (a :: as)
theorem el_nil [Enc α] : EA X Γ ρ [] (spure []) (fun l : List α => l.map enc) := PA.imp pa_nil fun σ H Q ⟨s, f, g, q⟩ => RunF.same q g (Same.refl _) [] .nil
theorem el_cons [Enc α] {ma : S → Res (α × S)} {ms : S → Res (List α × S)} (ha : E X Γ ρ e ma) (hs : EA X Γ ρ es ms (fun l : List α => l.map enc)) (he : starEach (e :: es) X.env = (false, eval e X.env) :: starEach es X.env := by rfl) :
    EA X Γ ρ (e :: es) (sbind ma fun a => sbind ms fun as => spure (a :: as)) (fun l : List α => l.map enc) :=
  PA.imp (pa_cons ha hs he) fun σ H Q ⟨s, f0, g, q⟩ => ⟨s, f0, g, q.chain.mono fun f1 H1 r1 g1 l1 q v rx => ⟨r1.2, f1, g1, q.chain.mono fun f2 H2 r2 g2 l2 q vs rs => RunF.same q g2 (Same.refl _) (v :: vs) (.cons (rx.mono l2.le) rs)⟩⟩
/-- a display of n items -/
structure Disp (n : Nat) {S α : Type} (ms : S → Res (List α × S)) : Prop where
  len : ∀ s r, ms s = .ok r → r.1.length = n
theorem disp_nil : Disp 0 (spure (S := S) ([] : List α)) := ⟨fun s r h => by cases h; rfl⟩
theorem disp_cons {n : Nat} {ma : S → Res (α × S)} {ms : S → Res (List α × S)} (h : Disp n ms) : Disp (n + 1) (sbind ma fun a => sbind ms fun as => spure (a :: as)) := ⟨fun s r q => by
  simp only [sbind] at q
  cases e : ma s with
  | ok r1 =>
    rw [e, Res.ok_bind] at q
    cases e2 : ms r1.2 with
    | ok r2 =>
      rw [e2, Res.ok_bind] at q
      cases q
      exact congrArg (· + 1) (h.len _ _ e2)
    | err c as => rw [e2] at q; cases q
    | bad => rw [e2] at q; cases q
  | err c as => rw [e] at q; cases q
  | bad => rw [e] at q; cases q⟩
structure LD (X : Cx) (Γ : Cn) {S α : Type} [Enc α] (ρ : S → List Slot) (es : List Expr) (ms : S → Res (List α × S)) : Prop where
  a : EA X Γ ρ es ms (fun l : List α => l.map enc)
  d : Disp es.length ms
theorem ld_nil [Enc α] : LD X Γ ρ [] (spure ([] : List α)) := ⟨el_nil, disp_nil⟩
theorem ld_cons [Enc α] {ma : S → Res (α × S)} {ms : S → Res (List α × S)} (ha : E X Γ ρ e ma) (hs : LD X Γ ρ es ms) (he : starEach (e :: es) X.env = (false, eval e X.env) :: starEach es X.env := by rfl) :
    LD X Γ ρ (e :: es) (sbind ma fun a => sbind ms fun as => spure (a :: as)) := ⟨el_cons ha hs.a he, disp_cons hs.d⟩
theorem e_lst [Enc α] {ms : S → Res (List α × S)} (h : LD X Γ ρ es ms) (hz : es.length ≤ 1000 := by decide) : EL X Γ ρ (.List es pos) ms :=
  PE.imp (pe_lst h.a) fun σ H Q ⟨s, f0, g, q⟩ => ⟨s, f0, g, by
    have hl := h.d.len s
    cases e : ms s with
    | ok r =>
      rw [e] at q
      intro H1 f1 g1 l1 vs rs
      have hv : vs.length ≤ sizeLine := by
        have := rs.length
        rw [List.length_map, hl _ e] at this
        rw [this]; exact Nat.le_trans hz (by decide)
      refine ⟨hv, fun d n => q _ f1 (g1.same' (same_new n)) (l1.trans (Stp.new n)) _ ⟨d, vs, rfl, l1.le.dom d n, fun k hk => ?_, upd_same, hv, rs.mono (Le.new n)⟩⟩
      obtain ⟨u, e, _⟩ := g1.live hk
      rw [n] at e; cases e
    | err c as => rw [e] at q; exact q
    | bad => rw [e] at q; exact q⟩
/-- (e1, .., en), of a kind whose items are told -/
theorem e_tup [Enc α] {ms : S → Res (τ × S)} {encs : τ → List PyData} (f : τ → α) (h : EA X Γ ρ es ms encs) (he : ∀ t, enc (f t) = .tuple (encs t) := by intro _; rfl) (hl : ∀ t, (encs t).length ≤ 1000 := by intro _; exact (by decide)) {k : Nat} : E X Γ ρ (.Tuple es k pos) (sbind ms fun t => spure (f t)) :=
  PE.imp (pe_tup h) fun σ H Q ⟨s, f0, g, q⟩ => ⟨s, f0, g, q.chain.mono fun f1 H1 r1 g1 l1 q vs rs => by
    have hv : vs.length ≤ sizeLine := by rw [rs.length]; exact Nat.le_trans (hl r1.1) (by decide)
    refine ⟨hv, fun d n => RunF.same q g1 (same_new n) _ ?_⟩
    show Rp X.K _ _ (enc (f r1.1))
    rw [he]
    exact .tup upd_same (rs.mono (Le.new n))⟩
theorem e_pair [Enc α] [Enc β] {ma : S → Res (α × S)} {mb : S → Res (β × S)} (ha : E X Γ ρ a ma) (hb : E X Γ ρ b mb) {k : Nat} (he : starEach [a, b] X.env = (false, eval a X.env) :: starEach [b] X.env := by rfl) (he2 : starEach [b] X.env = (false, eval b X.env) :: starEach [] X.env := by rfl) :
    E X Γ ρ (.Tuple [a, b] k pos) (sbind ma fun x => sbind mb fun y => spure (x, y)) :=
  (e_tup (α := α × β) (fun r : α × β => r) (ea_cons ha (ea_one hb he2) he) (hl := fun _ => (by decide : 2 ≤ 1000))).congr fun s => by
    simp only [sbind]
    cases ma s with
    | ok r => simp only [Res.ok_bind]; cases mb r.2 <;> rfl
    | err => rfl
    | bad => rfl
theorem e_t3 {c : Expr} [Enc α] [Enc β] [Enc γ] {ma : S → Res (α × S)} {mb : S → Res (β × S)} {mc : S → Res (γ × S)} (ha : E X Γ ρ a ma) (hb : E X Γ ρ b mb) (hc : E X Γ ρ c mc) {k : Nat} (he : starEach [a, b, c] X.env = (false, eval a X.env) :: starEach [b, c] X.env := by rfl) (he2 : starEach [b, c] X.env = (false, eval b X.env) :: starEach [c] X.env := by rfl) (he3 : starEach [c] X.env = (false, eval c X.env) :: starEach [] X.env := by rfl) :
    E X Γ ρ (.Tuple [a, b, c] k pos) (sbind ma fun x => sbind mb fun y => sbind mc fun z => spure (T3.mk x y z)) :=
  (e_tup (α := T3 α β γ) (fun r : α × (β × γ) => T3.mk r.1 r.2.1 r.2.2) (ea_cons ha (ea_cons hb (ea_one hc he3) he2) he) (hl := fun _ => (by decide : 3 ≤ 1000))).congr fun s => by
    simp only [sbind]
    cases ma s with
    | ok r =>
      simp only [Res.ok_bind]
      cases mb r.2 with
      | ok r2 => simp only [Res.ok_bind]; cases mc r2.2 <;> rfl
      | err => rfl
      | bad => rfl
    | err => rfl
    | bad => rfl
theorem e_tupL [Enc α] {ms : S → Res (List α × S)} (h : LD X Γ ρ es ms) (hz : es.length ≤ 1000 := by decide) {k : Nat} : E X Γ ρ (.Tuple es k pos) (sbind ms fun t => spure (Tup.mk t)) :=
  PE.imp (pe_tup h.a) fun σ H Q ⟨s, f0, g, q⟩ => ⟨s, f0, g, by
    have hl := h.d.len s
    have q := q.chain
    cases e : ms s with
    | ok r =>
      rw [e] at q
      intro H1 f1 g1 l1 vs rs
      have hv : vs.length ≤ sizeLine := by
        have := rs.length
        rw [List.length_map, hl _ e] at this
        rw [this]; exact Nat.le_trans hz (by decide)
      exact ⟨hv, fun d n => RunF.same (q H1 f1 g1 l1) g1 (same_new n) _ (.tup upd_same (rs.mono (Le.new n)))⟩
    | err c as => rw [e] at q; exact q
    | bad => rw [e] at q; exact q⟩
/-! ### calls of built-ins -/
theorem tCB_run {r : List V → Hp → VK → Prop} {P : PK γ} (hP : PKok P) {g : τ → Option γ} {encs : τ → List PyData} {m : S → Res (τ × S)} (hr : AOk X.K P encs r g) {σ : L2.St} {H : Hp} {Q : VK}
    (h : tE X.K Γ P ρ (sbind m fun t => slift (ofOpt (g t))) σ H Q) : tCB r (tA X.K Γ ρ m encs) σ H Q := by
  obtain ⟨s, f0, G, q⟩ := h
  refine ⟨s, f0, G, q.chain.mono fun f1 H1 r1 g1 l1 q vs rs => ?_⟩
  obtain ⟨c, ec, q⟩ := run_end (X := X) hP g1 l1 q
  exact hr H1 vs r1.1 c Q rs ec q
theorem e_callB {id : String} {r : List V → Hp → VK → Prop} {P : PK γ} {g : τ → Option γ} {encs : τ → List PyData} {m : S → Res (τ × S)} (hc : CallR X (.builtin id) r) (hr : AOk X.K P encs r g) (hP : PKok P) (hg : Gl X x) (hm : X.mg x = none) (hv : bootBuiltins x = some (.builtin id)) (ha : EA X Γ ρ (e :: es) m encs)
    (hn : x ≠ "__name__" := by decide) (hdb : (x == ("__debug__" : Str)) = false := by decide) (he : starEach (e :: es) X.env = (false, eval e X.env) :: starEach es X.env := by rfl) (hpl : (backTo pos (starEach es X.env)).any (·.1) = false := by rfl) :
    EP X Γ P ρ (.Call (.Name x p) (e :: es) [] pos) (sbind m fun t => slift (ofOpt (g t))) := PE.imp (pe_callB hc hg hm hv ha hn hdb he hpl) fun σ H Q h => tCB_run hP hr h
theorem e_callT {T : String} {r : List V → Hp → VK → Prop} {P : PK γ} {g : τ → Option γ} {encs : τ → List PyData} {m : S → Res (τ × S)} (hc : CallR X (.type T) r) (hr : AOk X.K P encs r g) (hP : PKok P) (hg : Gl X x) (hm : X.mg x = none) (hv : bootBuiltins x = some (.type T)) (ha : EA X Γ ρ (e :: es) m encs)
    (hn : x ≠ "__name__" := by decide) (hdb : (x == ("__debug__" : Str)) = false := by decide) (he : starEach (e :: es) X.env = (false, eval e X.env) :: starEach es X.env := by rfl) (hpl : (backTo pos (starEach es X.env)).any (·.1) = false := by rfl) :
    EP X Γ P ρ (.Call (.Name x p) (e :: es) [] pos) (sbind m fun t => slift (ofOpt (g t))) := PE.imp (pe_callTy hc hg hm hv ha hn hdb he hpl) fun σ H Q h => tCB_run hP hr h
/-- one argument, an answer always -/
abbrev enc1 [Enc α] : α → List PyData := fun a => [enc a]
abbrev enc2 [Enc α] [Enc β] : α × β → List PyData := fun r => [enc r.1, enc r.2]
theorem RpAll.one {K : PySem.W.Frag} {H : Hp} {vs : List V} {d : PyData} (h : RpAll K H vs [d]) : ∃ v, vs = [v] ∧ Rp K H v d := by
  cases h with
  | cons a b => cases b; exact ⟨_, rfl, a⟩
theorem RpAll.two {K : PySem.W.Frag} {H : Hp} {vs : List V} {d d' : PyData} (h : RpAll K H vs [d, d']) : ∃ v w, vs = [v, w] ∧ Rp K H v d ∧ Rp K H w d' := by
  cases h with
  | cons a b =>
    obtain ⟨w, rfl, r⟩ := b.one
    exact ⟨_, w, rfl, a, r⟩
theorem e_len [Enc α] {ma : S → Res (List α × S)} (hm : X.mg "len" = none) (ha : E X Γ ρ e ma) (hg : Gl X "len" := by rfl) (he : starEach [e] X.env = (false, eval e X.env) :: starEach [] X.env := by rfl) : E X Γ ρ (.Call (.Name "len" p) [e] [] pos) (sbind ma fun x => spure ((x.length : Int))) :=
  e_callB (g := fun x : List α => some ((x.length : Int))) (encs := enc1) call_len_seq (fun H vs t c Q rs ec q => by
    cases ec
    obtain ⟨v, rfl, r⟩ := rs.one
    obtain ⟨l, xs, rfl, hf, hr, hz⟩ := Rp.lst_inv r
    have e1 := hr.length
    rw [List.length_map] at e1
    exact ⟨l, xs, rfl, .inl hf.sq, by rw [e1]; exact q.here (.int _)⟩) pd_ok hg hm PySem.boot_len (ea_one ha he) (he := he)
theorem e_lenT {ds : α → List PyData} [Enc α] (hd : ∀ a : α, enc a = .tuple (ds a)) {ma : S → Res (α × S)} (hm : X.mg "len" = none) (ha : E X Γ ρ e ma) (hg : Gl X "len" := by rfl) (he : starEach [e] X.env = (false, eval e X.env) :: starEach [] X.env := by rfl) : E X Γ ρ (.Call (.Name "len" p) [e] [] pos) (sbind ma fun x => spure (((ds x).length : Int))) :=
  e_callB (g := fun x : α => some (((ds x).length : Int))) (encs := enc1) call_len_seq (fun H vs t c Q rs ec q => by
    cases ec
    obtain ⟨v, rfl, r⟩ := rs.one
    rw [hd] at r
    obtain ⟨l, xs, rfl, hf, hr⟩ := r.tup_inv
    exact ⟨l, xs, rfl, .inr hf, by rw [hr.length]; exact q.here (.int _)⟩) pd_ok hg hm PySem.boot_len (ea_one ha he) (he := he)
theorem e_abs {ma : S → Res (Int × S)} (hm : X.mg "abs" = none) (ha : E X Γ ρ e ma) (hg : Gl X "abs" := by rfl) (he : starEach [e] X.env = (false, eval e X.env) :: starEach [] X.env := by rfl) : E X Γ ρ (.Call (.Name "abs" p) [e] [] pos) (sbind ma fun x => spure (if x < 0 then -x else x)) :=
  e_callB (g := fun x : Int => some (if x < 0 then -x else x)) (encs := enc1) call_abs (fun H vs t c Q rs ec q => by
    cases ec
    obtain ⟨v, rfl, r⟩ := rs.one
    exact ⟨t, by rw [Rp.int_inv r], q.here (.int _)⟩) pd_ok hg hm (by decide +kernel) (ea_one ha he) (he := he)
theorem e_intI {ma : S → Res (Int × S)} (hm : X.mg "int" = none) (ha : E X Γ ρ e ma) (hg : Gl X "int" := by rfl) (he : starEach [e] X.env = (false, eval e X.env) :: starEach [] X.env := by rfl) : E X Γ ρ (.Call (.Name "int" p) [e] [] pos) ma :=
  (e_callT (g := fun x : Int => some x) (encs := enc1) call_int1 (fun H vs t c Q rs ec q => by
    cases ec
    obtain ⟨v, rfl, r⟩ := rs.one
    exact .inl ⟨t, by rw [Rp.int_inv r], q.here (.int _)⟩) (pd_ok (α := Int)) hg hm (by decide +kernel) (ea_one ha he) (he := he)).congr fun s => by
      show ma s = (ma s >>= fun r => Res.ok (r.1, r.2))
      cases ma s <;> rfl
theorem e_intB {ma : S → Res (Bool × S)} (hm : X.mg "int" = none) (ha : E X Γ ρ e ma) (hg : Gl X "int" := by rfl) (he : starEach [e] X.env = (false, eval e X.env) :: starEach [] X.env := by rfl) : E X Γ ρ (.Call (.Name "int" p) [e] [] pos) (sbind ma fun x => spure (if x = true then (1 : Int) else 0)) :=
  e_callT (g := fun x : Bool => some (if x = true then (1 : Int) else 0)) (encs := enc1) call_int1 (fun H vs t c Q rs ec q => by
    cases ec
    obtain ⟨v, rfl, r⟩ := rs.one
    exact .inr ⟨t, by rw [Rp.bl_inv r], q.here (.int _)⟩) (pd_ok (α := Int)) hg hm (by decide +kernel) (ea_one ha he) (he := he)
theorem e_max2 {ma mb : S → Res (Int × S)} (hc : X.calm = true) (hm : X.mg "max" = none) (ha : E X Γ ρ a ma) (hb : E X Γ ρ b mb) (hg : Gl X "max" := by rfl) (he : starEach [a, b] X.env = (false, eval a X.env) :: starEach [b] X.env := by rfl) (he2 : starEach [b] X.env = (false, eval b X.env) :: starEach [] X.env := by rfl) (hpl : (backTo pos (starEach [b] X.env)).any (·.1) = false := by rfl) :
    E X Γ ρ (.Call (.Name "max" p) [a, b] [] pos) (sbind ma fun x => sbind mb fun y => spure (max x y)) :=
  (e_callB (g := fun r : Int × Int => some (max r.1 r.2)) (encs := enc2) (call_max2 hc) (fun H vs t c Q rs ec q => by
    cases ec
    obtain ⟨v, w, rfl, r1, r2⟩ := rs.two
    have e : (if t.2 > t.1 then t.2 else t.1) = max t.1 t.2 := by rw [Int.max_def]; split <;> split <;> omega
    exact ⟨t.1, t.2, by rw [Rp.int_inv r1, Rp.int_inv r2], by rw [e]; exact q.here (.int _)⟩) pd_ok hg hm (by decide +kernel) (ea_cons ha (ea_one hb he2) he) (he := he) (hpl := hpl)).congr fun s => by
    simp only [sbind, slift, ofOpt_some]
    cases ma s with
    | ok r => simp only [Res.ok_bind]; cases mb r.2 <;> rfl
    | err => rfl
    | bad => rfl
theorem e_min2 {ma mb : S → Res (Int × S)} (hc : X.calm = true) (hm : X.mg "min" = none) (ha : E X Γ ρ a ma) (hb : E X Γ ρ b mb) (hg : Gl X "min" := by rfl) (he : starEach [a, b] X.env = (false, eval a X.env) :: starEach [b] X.env := by rfl) (he2 : starEach [b] X.env = (false, eval b X.env) :: starEach [] X.env := by rfl) (hpl : (backTo pos (starEach [b] X.env)).any (·.1) = false := by rfl) :
    E X Γ ρ (.Call (.Name "min" p) [a, b] [] pos) (sbind ma fun x => sbind mb fun y => spure (min x y)) :=
  (e_callB (g := fun r : Int × Int => some (min r.1 r.2)) (encs := enc2) (call_min2 hc) (fun H vs t c Q rs ec q => by
    cases ec
    obtain ⟨v, w, rfl, r1, r2⟩ := rs.two
    have e : (if t.2 < t.1 then t.2 else t.1) = min t.1 t.2 := by rw [Int.min_def]; split <;> split <;> omega
    exact ⟨t.1, t.2, by rw [Rp.int_inv r1, Rp.int_inv r2], by rw [e]; exact q.here (.int _)⟩) pd_ok hg hm (by decide +kernel) (ea_cons ha (ea_one hb he2) he) (he := he) (hpl := hpl)).congr fun s => by
    simp only [sbind, slift, ofOpt_some]
    cases ma s with
    | ok r => simp only [Res.ok_bind]; cases mb r.2 <;> rfl
    | err => rfl
    | bad => rfl
/-- list(xs) -/
theorem e_listOf [Enc α] {ma : S → Res (List α × S)} (hm : X.mg "list" = none) (ha : E X Γ ρ e ma) (hg : Gl X "list" := by rfl) (he : starEach [e] X.env = (false, eval e X.env) :: starEach [] X.env := by rfl) : EL X Γ ρ (.Call (.Name "list" p) [e] [] pos) ma :=
  (e_callT (g := fun x : List α => some x) (encs := enc1) call_list_of (fun H vs t c Q rs ec q => by
    cases ec
    obtain ⟨v, rfl, r⟩ := rs.one
    obtain ⟨l, xs, rfl, hf, hr, hz⟩ := Rp.lst_inv r
    exact ⟨l, xs, rfl, .inl hf.sq, fun d n => q.new n hr hz⟩) (pl_ok (α := α)) hg hm (by decide +kernel) (ea_one ha he) (he := he)).congr fun s => by
      show ma s = (ma s >>= fun r => Res.ok (r.1, r.2))
      cases ma s <;> rfl
theorem e_tupleOf [Enc α] {ma : S → Res (List α × S)} (hm : X.mg "tuple" = none) (ha : E X Γ ρ e ma) (hg : Gl X "tuple" := by rfl) (he : starEach [e] X.env = (false, eval e X.env) :: starEach [] X.env := by rfl) : E X Γ ρ (.Call (.Name "tuple" p) [e] [] pos) (sbind ma fun x => spure (Tup.mk x)) :=
  e_callT (g := fun x : List α => some (Tup.mk x)) (encs := enc1) call_tuple_of (fun H vs t c Q rs ec q => by
    cases ec
    obtain ⟨v, rfl, r⟩ := rs.one
    obtain ⟨l, xs, rfl, hf, hr, hz⟩ := Rp.lst_inv r
    exact ⟨l, xs, rfl, .inl ⟨hf.sq, fun d n => q.newT rfl n hr⟩⟩) (pd_ok (α := Tup α)) hg hm (by decide +kernel) (ea_one ha he) (he := he)
/-- sum, max, min of a list of ints -/
theorem RpAll.ints {K : PySem.W.Frag} {H : Hp} : ∀ {ns : List Int} {vs : List V}, RpAll K H vs (ns.map enc) → vs = ns.map V.int
  | [], _, h => by cases h; rfl
  | n :: ns, _, h => by
    cases h with
    | cons a b =>
      have a' : Rp K H _ (.int n) := a
      cases a'
      rw [RpAll.ints b]; rfl
theorem rpAll_ints {K : PySem.W.Frag} {H : Hp} : ∀ ns : List Int, RpAll K H (ns.map V.int) (ns.map enc)
  | [] => .nil
  | n :: ns => .cons (.int n) (rpAll_ints ns)
theorem e_sum {ma : S → Res (List Int × S)} (hc : X.calm = true) (hm : X.mg "sum" = none) (ha : E X Γ ρ e ma) (hg : Gl X "sum" := by rfl) (he : starEach [e] X.env = (false, eval e X.env) :: starEach [] X.env := by rfl) : E X Γ ρ (.Call (.Name "sum" p) [e] [] pos) (sbind ma fun x => spure x.sum) :=
  e_callB (g := fun x : List Int => some x.sum) (encs := enc1) (cr_sum hc) (fun H vs t c Q rs ec q => by
    cases ec
    obtain ⟨v, rfl, r⟩ := rs.one
    obtain ⟨l, xs, rfl, hf, hr, hz⟩ := Rp.lst_inv r
    rw [hr.ints] at hf
    exact ⟨l, t, rfl, hf.sq, q.here (.int _)⟩) pd_ok hg hm (by decide +kernel) (ea_one ha he) (he := he)
/-- greatest, least -/
def maxL : List Int → Option Int
  | [] => none
  | x :: xs => some (xs.foldl max x)
def minL : List Int → Option Int
  | [] => none
  | x :: xs => some (xs.foldl min x)
theorem foldl_max : ∀ (xs : List Int) (x : Int), (xs.foldl max x = x ∨ xs.foldl max x ∈ xs) ∧ x ≤ xs.foldl max x ∧ ∀ y ∈ xs, y ≤ xs.foldl max x
  | [], x => ⟨.inl rfl, Int.le_refl _, by simp⟩
  | y :: xs, x => by
    obtain ⟨h1, h2, h3⟩ := foldl_max xs (max x y)
    rw [List.foldl_cons]
    refine ⟨?_, by omega, fun z hz => ?_⟩
    · rcases h1 with e | m
      · by_cases h : x ≤ y
        · right; rw [e, Int.max_eq_right h]; exact List.mem_cons_self
        · left; rw [e, Int.max_eq_left (by omega)]
      · right; exact List.mem_cons_of_mem _ m
    · rcases List.mem_cons.mp hz with e | m
      · subst e; omega
      · exact h3 z m
theorem foldl_min : ∀ (xs : List Int) (x : Int), (xs.foldl min x = x ∨ xs.foldl min x ∈ xs) ∧ xs.foldl min x ≤ x ∧ ∀ y ∈ xs, xs.foldl min x ≤ y
  | [], x => ⟨.inl rfl, Int.le_refl _, by simp⟩
  | y :: xs, x => by
    obtain ⟨h1, h2, h3⟩ := foldl_min xs (min x y)
    rw [List.foldl_cons]
    refine ⟨?_, by omega, fun z hz => ?_⟩
    · rcases h1 with e | m
      · by_cases h : x ≤ y
        · left; rw [e, Int.min_eq_left h]
        · right; rw [e, Int.min_eq_right (by omega)]; exact List.mem_cons_self
      · right; exact List.mem_cons_of_mem _ m
    · rcases List.mem_cons.mp hz with e | m
      · subst e; omega
      · exact h3 z m
theorem maxL_spec {ns : List Int} {m : Int} (h : maxL ns = some m) : m ∈ ns ∧ ∀ y ∈ ns, y ≤ m := by
  cases ns with
  | nil => cases h
  | cons x xs =>
    cases h
    obtain ⟨h1, h2, h3⟩ := foldl_max xs x
    refine ⟨h1.elim (fun e => by rw [e]; exact List.mem_cons_self) fun e => List.mem_cons_of_mem _ e, fun y hy => ?_⟩
    rcases List.mem_cons.mp hy with e | e
    · subst e; exact h2
    · exact h3 y e
theorem minL_spec {ns : List Int} {m : Int} (h : minL ns = some m) : m ∈ ns ∧ ∀ y ∈ ns, m ≤ y := by
  cases ns with
  | nil => cases h
  | cons x xs =>
    cases h
    obtain ⟨h1, h2, h3⟩ := foldl_min xs x
    refine ⟨h1.elim (fun e => by rw [e]; exact List.mem_cons_self) fun e => List.mem_cons_of_mem _ e, fun y hy => ?_⟩
    rcases List.mem_cons.mp hy with e | e
    · subst e; exact h2
    · exact h3 y e
theorem e_max {ma : S → Res (List Int × S)} (hc : X.calm = true) (hm : X.mg "max" = none) (ha : E X Γ ρ e ma) (hg : Gl X "max" := by rfl) (he : starEach [e] X.env = (false, eval e X.env) :: starEach [] X.env := by rfl) : E X Γ ρ (.Call (.Name "max" p) [e] [] pos) (sbind ma fun x => slift (ofOpt (maxL x))) :=
  e_callB (g := maxL) (encs := enc1) (cr_max hc) (fun H vs t c Q rs ec q => by
    obtain ⟨v, rfl, r⟩ := rs.one
    obtain ⟨l, xs, rfl, hf, hr, hz⟩ := Rp.lst_inv r
    rw [hr.ints] at hf
    have n0 : 0 < t.length := by cases t with | nil => cases ec | cons _ _ => exact Nat.succ_pos _
    obtain ⟨s1, s2⟩ := maxL_spec ec
    refine ⟨l, t, rfl, hf.sq, n0, fun m hm hle => ?_⟩
    have em : m = c := Int.le_antisymm (s2 m hm) (hle c s1)
    rw [em]; exact q.here (.int _)) pd_ok hg hm (by decide +kernel) (ea_one ha he) (he := he)
theorem e_min {ma : S → Res (List Int × S)} (hc : X.calm = true) (hm : X.mg "min" = none) (ha : E X Γ ρ e ma) (hg : Gl X "min" := by rfl) (he : starEach [e] X.env = (false, eval e X.env) :: starEach [] X.env := by rfl) : E X Γ ρ (.Call (.Name "min" p) [e] [] pos) (sbind ma fun x => slift (ofOpt (minL x))) :=
  e_callB (g := minL) (encs := enc1) (cr_min hc) (fun H vs t c Q rs ec q => by
    obtain ⟨v, rfl, r⟩ := rs.one
    obtain ⟨l, xs, rfl, hf, hr, hz⟩ := Rp.lst_inv r
    rw [hr.ints] at hf
    have n0 : 0 < t.length := by cases t with | nil => cases ec | cons _ _ => exact Nat.succ_pos _
    obtain ⟨s1, s2⟩ := minL_spec ec
    refine ⟨l, t, rfl, hf.sq, n0, fun m hm hle => ?_⟩
    have em : m = c := Int.le_antisymm (hle c s1) (s2 m hm)
    rw [em]; exact q.here (.int _)) pd_ok hg hm (by decide +kernel) (ea_one ha he) (he := he)
/-- sorted(xs), ints -/
def isort (xs : List Int) : List Int := xs.mergeSort (fun a b => decide (a ≤ b))
theorem isort_perm (xs : List Int) : (isort xs).Perm xs := List.mergeSort_perm xs _
theorem isort_pw (xs : List Int) : (isort xs).Pairwise (· ≤ ·) := by
  have h := List.pairwise_mergeSort (le := fun a b : Int => decide (a ≤ b)) (fun a b c h1 h2 => by simp only [decide_eq_true_eq] at *; omega) (fun a b => by simp only [Bool.or_eq_true, decide_eq_true_eq]; omega) xs
  exact h.imp fun h => by simpa using h
theorem sorted_unique {xs ys : List Int} (p : xs.Perm ys) (h1 : xs.Pairwise (· ≤ ·)) (h2 : ys.Pairwise (· ≤ ·)) : xs = ys :=
  p.eq_of_pairwise (fun a b _ _ h1 h2 => Int.le_antisymm h1 h2) h1 h2
theorem e_sorted {ma : S → Res (List Int × S)} (hm : X.mg "sorted" = none) (ha : E X Γ ρ e ma) (hg : Gl X "sorted" := by rfl) (he : starEach [e] X.env = (false, eval e X.env) :: starEach [] X.env := by rfl) : EL X Γ ρ (.Call (.Name "sorted" p) [e] [] pos) (sbind ma fun x => spure (isort x)) :=
  e_callB (g := fun x => some (isort x)) (encs := enc1) cr_sortedI (fun H vs t c Q rs ec q => by
    cases ec
    obtain ⟨v, rfl, r⟩ := rs.one
    obtain ⟨l, xs, rfl, hf, hr, hz⟩ := Rp.lst_inv r
    have ei := hr.ints
    rw [ei] at hf hz
    rw [List.length_map] at hz
    refine ⟨l, t, rfl, hf.sq, fun ns' p hp hs n => ?_⟩
    have e : ns' = isort t := sorted_unique (hp.trans (isort_perm t).symm) hs (isort_pw t)
    subst e
    exact q.new n (rpAll_ints _) (by rw [List.length_map, (isort_perm t).length_eq]; exact hz)) (pl_ok (α := Int)) hg hm (by decide +kernel) (ea_one ha he) (he := he)
/-- all(xs), any(xs) of a list of bools -/
theorem RpAll.bls {K : PySem.W.Frag} {H : Hp} : ∀ {ns : List Bool} {vs : List V}, RpAll K H vs (ns.map enc) → vs = ns.map V.bl
  | [], _, h => by cases h; rfl
  | n :: ns, _, h => by
    cases h with
    | cons a b =>
      have a' : Rp K H _ (.bool n) := a
      cases a'
      rw [RpAll.bls b]; rfl
theorem e_all {ma : S → Res (List Bool × S)} (hc : X.calm = true) (hm : X.mg "all" = none) (ha : E X Γ ρ e ma) (hg : Gl X "all" := by rfl) (he : starEach [e] X.env = (false, eval e X.env) :: starEach [] X.env := by rfl) : E X Γ ρ (.Call (.Name "all" p) [e] [] pos) (sbind ma fun x => spure (x.all id)) :=
  e_callB (g := fun x : List Bool => some (x.all id)) (encs := enc1) (cr_all hc) (fun H vs t c Q rs ec q => by
    cases ec
    obtain ⟨v, rfl, r⟩ := rs.one
    obtain ⟨l, xs, rfl, hf, hr, hz⟩ := Rp.lst_inv r
    rw [hr.bls] at hf
    exact ⟨l, t, rfl, hf.sq, q.here (.bl _)⟩) pd_ok hg hm (by decide +kernel) (ea_one ha he) (he := he)
theorem e_any {ma : S → Res (List Bool × S)} (hc : X.calm = true) (hm : X.mg "any" = none) (ha : E X Γ ρ e ma) (hg : Gl X "any" := by rfl) (he : starEach [e] X.env = (false, eval e X.env) :: starEach [] X.env := by rfl) : E X Γ ρ (.Call (.Name "any" p) [e] [] pos) (sbind ma fun x => spure (x.any id)) :=
  e_callB (g := fun x : List Bool => some (x.any id)) (encs := enc1) (cr_any hc) (fun H vs t c Q rs ec q => by
    cases ec
    obtain ⟨v, rfl, r⟩ := rs.one
    obtain ⟨l, xs, rfl, hf, hr, hz⟩ := Rp.lst_inv r
    rw [hr.bls] at hf
    exact ⟨l, t, rfl, hf.sq, q.here (.bl _)⟩) pd_ok hg hm (by decide +kernel) (ea_one ha he) (he := he)
end
end DL

set_option Elab.async false
set_option linter.all false
set_option maxRecDepth 100000
set_option maxHeartbeats 4000000
namespace DL
open PySem PySem.Spec PyProof.Rows L2 Enc

/-! ### what is walked -/
structure ItOk {α : Type} [Enc α] (K : PySem.W.Frag) (J : It) (xs : List α) (H : Hp) : Prop where
  sz : xs.length ≤ sizeLine
  go : ∀ i H', Le H H' → i < xs.length → J.go i H'
  yld : ∀ i H' v H'' a, Le H H' → xs[i]? = some a → J.yld i H' v H'' → Same H' H'' ∧ Rp K H'' v (enc a)
  stop : ∀ i H', Le H H' → xs.length ≤ i → J.stop i H'
def tI (K : PySem.W.Frag) (Γ : Cn) {S α : Type} [Enc α] (ρ : S → List Slot) (m : S → Res (List α × S)) : TI := fun σ H R =>
  ∃ s f0, GoodF K Γ.ps Γ.H0 f0 (ρ s) σ H ∧ RunF K Γ f0 ρ (m s) σ H fun f H' r => ∀ J, ItOk K J r.1 H' → R J H'
def EI (X : Cx) (Γ : Cn) {S α : Type} [Enc α] (ρ : S → List Slot) (tg e : Expr) (m : S → Res (List α × S)) : Prop := PI X tg e (tI X.K Γ ρ m)
theorem PI.imp {X : Cx} {tg e : Expr} {t t' : TI} (h : PI X tg e t) (i : ∀ σ H Q, t' σ H Q → t σ H Q) : PI X tg e t' := ⟨fun pins s σ H Q I q => h.run pins s σ H Q I (i σ H Q q)⟩
def rangeL (a b : Int) : List Int := (List.range (b - a).toNat).map fun (i : Nat) => a + (i : Int)
def rangeO (a b : Int) : Option (List Int) := chk (-(2 ^ 62) ≤ a ∧ a < 2 ^ 62 ∧ -(2 ^ 62) ≤ b ∧ b < 2 ^ 62 ∧ b - a ≤ 16777216) (rangeL a b)
theorem rangeL_length (a b : Int) : (rangeL a b).length = (b - a).toNat := by unfold rangeL; rw [List.length_map, List.length_range]
theorem rangeL_get {a b : Int} {i : Nat} {x : Int} (h : (rangeL a b)[i]? = some x) : x = a + i := by
  unfold rangeL at h
  rw [List.getElem?_map] at h
  obtain ⟨j, h1, h2⟩ := Option.map_eq_some_iff.mp h
  obtain ⟨h3, h4⟩ := List.getElem?_eq_some_iff.mp h1
  rw [List.getElem_range] at h4
  subst h4; exact h2.symm
/-- a, a - 1, .. above b -/
def downL (a b : Int) : List Int := (List.range (a - b).toNat).map fun (i : Nat) => a - (i : Int)
def downO (a b : Int) : Option (List Int) := chk (-(2 ^ 62) ≤ a ∧ a < 2 ^ 62 ∧ -(2 ^ 62) ≤ b ∧ b < 2 ^ 62 ∧ a - b ≤ 16777216) (downL a b)
theorem downL_length (a b : Int) : (downL a b).length = (a - b).toNat := by unfold downL; rw [List.length_map, List.length_range]
theorem downL_get {a b : Int} {i : Nat} {x : Int} (h : (downL a b)[i]? = some x) : x = a - i := by
  unfold downL at h
  rw [List.getElem?_map] at h
  obtain ⟨j, h1, h2⟩ := Option.map_eq_some_iff.mp h
  obtain ⟨h3, h4⟩ := List.getElem?_eq_some_iff.mp h1
  rw [List.getElem_range] at h4
  subst h4; exact h2.symm
/-- (0, x0), (1, x1), .. -/
def enumL {α : Type} (xs : List α) : List (Int × α) := xs.zipIdx.map fun p => ((p.2 : Int), p.1)
theorem enumL_length {α : Type} (xs : List α) : (enumL xs).length = xs.length := by unfold enumL; rw [List.length_map, List.length_zipIdx]
theorem enumL_get {α : Type} {xs : List α} {i : Nat} {x : Int × α} (h : (enumL xs)[i]? = some x) : x.1 = i ∧ xs[i]? = some x.2 := by
  unfold enumL at h
  rw [List.getElem?_map, List.getElem?_zipIdx] at h
  cases e : xs[i]? with
  | none => rw [e] at h; cases h
  | some y => rw [e] at h; cases h; exact ⟨by simp, rfl⟩
theorem run_opt {K : PySem.W.Frag} {Γ : Cn} {S α : Type} {ρ : S → List Slot} {o : Option α} {s : S} {f : Nat → Foot} {σ : L2.St} {H : Hp} {φ : (Nat → Foot) → Hp → α × S → Prop}
    (h : RunF K Γ f ρ (slift (ofOpt o) s) σ H φ) : ∃ c, o = some c ∧ RunF K Γ f ρ (.ok (c, s)) σ H φ := by
  cases o with
  | none => exact h.elim
  | some c => exact ⟨c, rfl, h⟩
section
variable {X : Cx} {Γ : Cn} {S α β γ : Type} {ρ : S → List Slot} {a b c e tg : Expr} {pos p tpos : Pos}
theorem EI.congr [Enc α] {m m' : S → Res (List α × S)} (h : EI X Γ ρ tg e m) (i : ∀ s, m' s = m s) : EI X Γ ρ tg e m' := by
  have : m' = m := funext i
  rw [this]; exact h
theorem RpAll.getE {K : PySem.W.Frag} {H : Hp} [Enc α] {xs : List α} {vs : List V} (h : RpAll K H vs (xs.map enc)) {i : Nat} {a : α} (e : xs[i]? = some a) : ∃ v, vs[i]? = some v ∧ Rp K H v (enc a) :=
  h.get (by rw [List.getElem?_map, e]; rfl)
theorem RpAll.lenE {K : PySem.W.Frag} {H : Hp} [Enc α] {xs : List α} {vs : List V} (h : RpAll K H vs (xs.map enc)) : vs.length = xs.length := by rw [h.length, List.length_map]
theorem FzL.inj {H : Hp} {a : Addr} {xs ys : List V} {K : PySem.W.Frag} (h : FzL H a xs) (h' : Rd H a (.lst ys)) : ys = xs := by
  obtain ⟨o, e⟩ := h
  rcases h' with q | ⟨o', q⟩
  · rw [e] at q; cases q
  · rw [e] at q; cases q; rfl
theorem ei_list [Enc α] {m : S → Res (List α × S)} (h : E X Γ ρ e m) : EI X Γ ρ tg e m :=
  PI.imp (pi_list h) fun σ H R ⟨s, f0, g, q⟩ => ⟨s, f0, g, q.mono fun f H1 r g l q v rx => by
    obtain ⟨p, vs, rfl, hf, hr, hz⟩ := rx.lst_inv
    have hl := hr.lenE
    refine ⟨p, rfl, ⟨vs, hf.sq⟩, q _ ⟨by omega, fun i H' l hi => ?_, fun i H' v H'' a l e y => ?_, fun i H' l hi => ⟨vs, (l.fz hf).sq, by omega⟩⟩⟩
    · exact ⟨vs, vs[i]'(by omega), (l.fz hf).sq, List.getElem?_eq_getElem (by omega)⟩
    · obtain ⟨rfl, y⟩ := y
      obtain ⟨v', e1, r1⟩ := (hr.mono l).getE e
      have := y vs (l.fz hf).sq
      rw [e1] at this
      cases this
      exact ⟨Same.refl _, r1⟩⟩
theorem ei_tup [Enc α] {m : S → Res (Tup α × S)} (h : E X Γ ρ e m) (hz : ∀ s r, m s = .ok r → r.1.l.length ≤ sizeLine) : EI X Γ ρ tg e (sbind m fun t => spure t.l) :=
  PI.imp (pi_tup h) fun σ H R ⟨s, f0, g, q⟩ => ⟨s, f0, g, by
    have hz := hz s
    have q := q.chain
    cases e : m s with
    | ok r =>
      rw [e] at q
      intro H1 f1 g1 l1 v rx
      have rx' : Rp X.K H1 v (.tuple (r.1.l.map enc)) := rx
      obtain ⟨p, vs, rfl, hf, hr⟩ := rx'.tup_inv
      have hl := hr.lenE
      refine ⟨p, rfl, ⟨vs, hf⟩, RunF.same (q H1 f1 g1 l1) g1 (Same.refl _) _ ⟨hz r e, fun i H' l hi => ?_, fun i H' v H'' a l e y => ?_, fun i H' l hi => ⟨vs, l.sqT hf, by have hi' : r.1.l.length ≤ i := hi; omega⟩⟩⟩
      · have hi' : i < r.1.l.length := hi
        exact ⟨vs, vs[i]'(by omega), l.sqT hf, List.getElem?_eq_getElem (by omega)⟩
      · obtain ⟨rfl, y⟩ := y
        obtain ⟨v', e1, r1⟩ := (hr.mono l).getE e
        have := y vs (l.sqT hf)
        rw [e1] at this
        cases this
        exact ⟨Same.refl _, r1⟩
    | err c as => rw [e] at q; exact q
    | bad => rw [e] at q; exact q⟩
theorem itr_ok {K : PySem.W.Frag} {H : Hp} {lo hi : Int} (h : hi - lo ≤ 16777216) : ItOk K (Itr lo (hi - lo).toNat) (rangeL lo hi) H := by
  refine ⟨by rw [rangeL_length, sizeLine_eq]; omega, fun i H' _ hi => by rw [rangeL_length] at hi; exact hi, fun i H' v H'' a _ e y => ?_, fun i H' _ hi => by rw [rangeL_length] at hi; exact hi⟩
  obtain ⟨rfl, rfl⟩ := y
  rw [rangeL_get e]
  exact ⟨Same.refl _, .int _⟩
theorem ei_range1 {m : S → Res (Int × S)} (hm : X.mg "range" = none) (h : E X Γ ρ a m) (hg : Gl X "range" := by rfl) (he : starEach [a] X.env = (false, eval a X.env) :: starEach [] X.env := by rfl) : EI X Γ ρ tg (.Call (.Name "range" p) [a] [] pos) (sbind m fun n => slift (ofOpt (rangeO 0 n))) :=
  PI.imp (pi_range1 hg hm (ea_one h he) he) fun σ H R ⟨s, f0, g, q⟩ => ⟨s, f0, g, q.chain.mono fun f H1 r g l q vs rs => by
    obtain ⟨v, rfl, rv⟩ := rs.one
    obtain ⟨c, ec, q⟩ := run_opt q
    obtain ⟨⟨h1, h2, h3, h4, h5⟩, rfl⟩ := chk_some ec
    have := itr_ok (K := X.K) (H := H1) (lo := 0) (hi := r.1) h5
    rw [Int.sub_zero] at this
    exact ⟨r.1, by rw [Rp.int_inv rv], h3, h4, RunF.same q g (Same.refl _) _ this⟩⟩
theorem ei_range2 {ma mb : S → Res (Int × S)} (hm : X.mg "range" = none) (ha : E X Γ ρ a ma) (hb : E X Γ ρ b mb) (hg : Gl X "range" := by rfl) (he : starEach [a, b] X.env = (false, eval a X.env) :: starEach [b] X.env := by rfl) (he2 : starEach [b] X.env = (false, eval b X.env) :: starEach [] X.env := by rfl) :
    EI X Γ ρ tg (.Call (.Name "range" p) [a, b] [] pos) (sbind ma fun i => sbind mb fun j => slift (ofOpt (rangeO i j))) :=
  PI.imp (pi_range2 hg hm (pa_cons ha (pa_cons hb pa_nil he2) he) (by rw [he, he2]; rfl) he2) fun σ H R ⟨s, f0, g, q⟩ => ⟨s, f0, g, q.chain.mono fun f1 H1 r1 g1 l1 q v rx => ⟨r1.2, f1, g1, q.chain.mono fun f2 H2 r2 g2 l2 q w ry => by
    obtain ⟨c, ec, q⟩ := run_opt q
    obtain ⟨⟨h1, h2, h3, h4, h5⟩, rfl⟩ := chk_some ec
    exact ⟨r1.1, r2.1, by rw [Rp.int_inv rx, Rp.int_inv ry], ⟨h1, h2, h3, h4⟩, RunF.same q g2 (Same.refl _) _ (itr_ok h5)⟩⟩⟩
/-- range(a, b, -1) -/
theorem ei_down {k : Nat} {p1 p2 : Pos} {ma mb : S → Res (Int × S)} (hm : X.mg "range" = none) (ha : E X Γ ρ a ma) (hb : E X Γ ρ b mb) (hg : Gl X "range" := by rfl)
    (he : starEach [a, b, .UnaryOp .USub (.Constant (.int 1) k p1) p2] X.env = (false, eval a X.env) :: starEach [b, .UnaryOp .USub (.Constant (.int 1) k p1) p2] X.env := by rfl)
    (he2 : starEach [b, .UnaryOp .USub (.Constant (.int 1) k p1) p2] X.env = (false, eval b X.env) :: starEach [.UnaryOp .USub (.Constant (.int 1) k p1) p2] X.env := by rfl)
    (he3 : starEach [.UnaryOp .USub (.Constant (.int 1) k p1) p2] X.env = (false, eval (.UnaryOp .USub (.Constant (.int 1) k p1) p2) X.env) :: starEach [] X.env := by rfl)
    (hpl : (backTo pos (starEach [b, .UnaryOp .USub (.Constant (.int 1) k p1) p2] X.env)).any (·.1) = false := by rfl) :
    EI X Γ ρ tg (.Call (.Name "range" p) [a, b, .UnaryOp .USub (.Constant (.int 1) k p1) p2] [] pos) (sbind ma fun i => sbind mb fun j => slift (ofOpt (downO i j))) :=
  PI.imp (pi_range3 hg hm (pa_cons ha (pa_cons hb (pa_cons (pe_un un_neg pe_int) pa_nil he3) he2) he) he hpl) fun σ H R ⟨s, f0, g, q⟩ => ⟨s, f0, g, q.chain.mono fun f1 H1 r1 g1 l1 q v rx => ⟨r1.2, f1, g1, q.chain.mono fun f2 H2 r2 g2 l2 q w ry => by
    obtain ⟨c, ec, q⟩ := run_opt q
    obtain ⟨⟨h1, h2, h3, h4, h5⟩, rfl⟩ := chk_some ec
    refine ⟨1, rfl, r1.1, r2.1, -1, (r1.1 - r2.1).toNat, by rw [Rp.int_inv rx, Rp.int_inv ry], RgC.neg h1 h2 h3 h4, RunF.same q g2 (Same.refl _) _ ?_⟩
    refine ⟨by rw [downL_length, sizeLine_eq]; omega, fun i H' _ hi => by rw [downL_length] at hi; exact hi, fun i H' v H'' a _ e y => ?_, fun i H' _ hi => by rw [downL_length] at hi; exact hi⟩
    obtain ⟨rfl, rfl⟩ := y
    rw [downL_get e]
    refine ⟨Same.refl _, ?_⟩
    have : r1.1 + (i : Int) * -1 = r1.1 - i := by omega
    rw [this]
    exact .int _⟩⟩
theorem ei_enum [Enc α] {elts : List Expr} {kk : Nat} {m : S → Res (List α × S)} (hm : X.mg "enumerate" = none) (h : E X Γ ρ e m) (hg : Gl X "enumerate" := by rfl) (he : starEach [e] X.env = (false, eval e X.env) :: starEach [] X.env := by rfl) : EI X Γ ρ (.Tuple elts kk tpos) (.Call (.Name "enumerate" p) [e] [] pos) (sbind m fun xs => spure (enumL xs)) :=
  PI.imp (pi_enum hg hm (ea_one h he) he) fun σ H R ⟨s, f0, g, q⟩ => ⟨s, f0, g, q.chain.mono fun f H1 r g l q vs rs => by
    obtain ⟨v, rfl, rv⟩ := rs.one
    obtain ⟨p, vs, rfl, hf, hr, hz⟩ := Rp.lst_inv rv
    have hl := hr.lenE
    refine ⟨p, vs, rfl, hf.sq, RunF.same q g (Same.refl _) _ ⟨by show (enumL r.1).length ≤ _; rw [enumL_length]; omega, fun i H' l hi => ?_, fun i H' v H'' a l e y => ?_, fun i H' l hi => ⟨vs, (l.fz hf).sq, ?_⟩⟩⟩
    · have hi : i < (enumL r.1).length := hi
      rw [enumL_length] at hi
      exact ⟨vs, vs[i]'(by omega), (l.fz hf).sq, List.getElem?_eq_getElem (by omega)⟩
    · obtain ⟨T, x, rfl, hT, rfl, y⟩ := y
      obtain ⟨e1, e2⟩ := enumL_get e
      obtain ⟨v', e3, r1⟩ := (hr.mono l).getE e2
      have := y vs (l.fz hf).sq
      rw [e3] at this
      cases this
      have hi : Rp X.K (upd H' T (.tup [.int (i : Nat), x])) (V.int (i : Int)) (enc a.1) := by rw [e1]; exact .int _
      exact ⟨same_new hT, .tup upd_same (.cons hi (.cons (r1.mono (Le.new hT)) .nil))⟩
    · have hi : (enumL r.1).length ≤ i := hi
      rw [enumL_length] at hi
      omega⟩
theorem ei_rev [Enc α] {m : S → Res (List α × S)} (hm : X.mg "reversed" = none) (h : E X Γ ρ e m) (hg : Gl X "reversed" := by rfl) (he : starEach [e] X.env = (false, eval e X.env) :: starEach [] X.env := by rfl) : EI X Γ ρ tg (.Call (.Name "reversed" p) [e] [] pos) (sbind m fun xs => spure xs.reverse) :=
  PI.imp (RT.pi_revA hg hm h he) fun σ H R ⟨s, f0, g, q⟩ => ⟨s, f0, g, q.chain.mono fun f H1 r g l q v rx => by
    obtain ⟨p, vs, rfl, hf, hr, hz⟩ := Rp.lst_inv rx
    have hl := hr.lenE
    refine ⟨p, vs, rfl, .inl ⟨hf.sq, RunF.same q g (Same.refl _) _ ⟨by show r.1.reverse.length ≤ _; rw [List.length_reverse]; omega, fun i H' l hi => ?_, fun i H' v H'' a l e y => ?_, fun i H' l hi => ?_⟩⟩⟩
    · have hi : i < r.1.reverse.length := hi
      rw [List.length_reverse] at hi
      exact ⟨by omega, vs, vs[vs.length - 1 - i]'(by omega), (l.fz hf).sq, List.getElem?_eq_getElem (by omega)⟩
    · obtain ⟨rfl, y⟩ := y
      have e : r.1.reverse[i]? = some a := e
      have hi : i < r.1.length := by
        have := (List.getElem?_eq_some_iff.mp e).1
        rw [List.length_reverse] at this; exact this
      rw [List.getElem?_reverse hi] at e
      obtain ⟨v', e3, r1⟩ := (hr.mono l).getE e
      have := y vs (l.fz hf).sq
      rw [hl, e3] at this
      cases this
      exact ⟨Same.refl _, r1⟩
    · have hi : r.1.reverse.length ≤ i := hi
      rw [List.length_reverse] at hi
      show vs.length ≤ i
      omega⟩
theorem ei_zip [Enc α] [Enc β] {elts : List Expr} {kk : Nat} {ma : S → Res (List α × S)} {mb : S → Res (List β × S)} (hm : X.mg "zip" = none) (ha : E X Γ ρ a ma) (hb : E X Γ ρ b mb) (hg : Gl X "zip" := by rfl) (he : starEach [a, b] X.env = (false, eval a X.env) :: starEach [b] X.env := by rfl) (he2 : starEach [b] X.env = (false, eval b X.env) :: starEach [] X.env := by rfl) (hpl : (backTo pos (starEach [b] X.env)).any (·.1) = false := by rfl) :
    EI X Γ ρ (.Tuple elts kk tpos) (.Call (.Name "zip" p) [a, b] [] pos) (sbind ma fun xs => sbind mb fun ys => spure (xs.zip ys)) :=
  PI.imp (pi_zip hg hm (pa_cons ha (pa_cons hb pa_nil he2) he) he hpl) fun σ H R ⟨s, f0, g, q⟩ => ⟨s, f0, g, q.chain.mono fun f1 H1 r1 g1 l1 q v rx => ⟨r1.2, f1, g1, q.chain.mono fun f2 H2 r2 g2 l2 q w ry => by
    obtain ⟨p1, vs, rfl, hf, hr, hz⟩ := Rp.lst_inv (rx.mono l2.le)
    obtain ⟨p2, ws, rfl, hf2, hr2, hz2⟩ := Rp.lst_inv ry
    have hl := hr.lenE
    have hl2 := hr2.lenE
    refine ⟨p1, p2, vs, ws, rfl, hf.sq, hf2.sq, RunF.same q g2 (Same.refl _) _ ⟨by show (r1.1.zip r2.1).length ≤ _; rw [List.length_zip]; omega, fun i H' l hi => ?_, fun i H' v H'' a l e y => ?_, fun i H' l hi => ?_⟩⟩
    · have hi : i < (r1.1.zip r2.1).length := hi
      rw [List.length_zip] at hi
      exact ⟨vs, ws, vs[i]'(by omega), ws[i]'(by omega), (l.fz hf).sq, (l.fz hf2).sq, List.getElem?_eq_getElem (by omega), List.getElem?_eq_getElem (by omega)⟩
    · obtain ⟨T, x, y', rfl, hT, rfl, y1, y2⟩ := y
      have e : (r1.1.zip r2.1)[i]? = some a := e
      obtain ⟨e1, e2⟩ := List.getElem?_zip_eq_some.mp e
      obtain ⟨v', e3, q1⟩ := (hr.mono l).getE e1
      obtain ⟨w', e4, q2⟩ := (hr2.mono l).getE e2
      have z1 := y1 vs (l.fz hf).sq
      have z2 := y2 ws (l.fz hf2).sq
      rw [e3] at z1
      rw [e4] at z2
      cases z1
      cases z2
      exact ⟨same_new hT, .tup upd_same (.cons (q1.mono (Le.new hT)) (.cons (q2.mono (Le.new hT)) .nil))⟩
    · have hi : (r1.1.zip r2.1).length ≤ i := hi
      rw [List.length_zip] at hi
      exact ⟨vs, ws, (l.fz hf).sq, (l.fz hf2).sq, by omega⟩⟩⟩
/-- list(range(..)) -/
theorem e_listRange1 {m : S → Res (Int × S)} {p' pos' : Pos} (hc : X.calm = true) (hm : X.mg "range" = none) (hl : X.mg "list" = none) (h : E X Γ ρ a m) (hg : Gl X "range" := by rfl) (hgl : Gl X "list" := by rfl) (he : starEach [a] X.env = (false, eval a X.env) :: starEach [] X.env := by rfl)
    (he2 : starEach [.Call (.Name "range" p) [a] [] pos] X.env = (false, eval (.Call (.Name "range" p) [a] [] pos) X.env) :: starEach [] X.env := by rfl) : EL X Γ ρ (.Call (.Name "list" p') [.Call (.Name "range" p) [a] [] pos] [] pos') (sbind m fun n => slift (ofOpt (rangeO 0 n))) :=
  PE.imp (pe_listRg hc hgl hl (prg_1 hg hm h he) he2) fun σ H Q ⟨s, f0, g, q⟩ => ⟨s, f0, g, q.chain.mono fun f1 H1 r1 g1 l1 q v rx => by
    obtain ⟨c, ec, q⟩ := run_opt q
    obtain ⟨⟨h1, h2, h3, h4, h5⟩, rfl⟩ := chk_some ec
    refine ⟨r1.1, Rp.int_inv rx, ⟨h1, h2, h3, h4, by omega⟩, fun d n => RunF.same q g1 (same_new n) _ ⟨d, _, rfl, l1.le.dom d n, fun k hk => ?_, upd_same, by rw [rgV_length, sizeLine_eq]; omega, ?_⟩⟩
    · obtain ⟨u, e, _⟩ := g1.live hk
      rw [n] at e; cases e
    · have : rgV 0 r1.1 = (rangeL 0 r1.1).map V.int := by unfold rgV rangeL; rw [List.map_map]; rfl
      rw [this]; exact rpAll_ints _⟩
theorem e_listRange2 {ma mb : S → Res (Int × S)} {p' pos' : Pos} (hc : X.calm = true) (hm : X.mg "range" = none) (hl : X.mg "list" = none) (ha : E X Γ ρ a ma) (hb : E X Γ ρ b mb) (hg : Gl X "range" := by rfl) (hgl : Gl X "list" := by rfl) (he : starEach [a, b] X.env = (false, eval a X.env) :: starEach [b] X.env := by rfl) (he3 : starEach [b] X.env = (false, eval b X.env) :: starEach [] X.env := by rfl) (hpl : (backTo pos (starEach [b] X.env)).any (·.1) = false := by rfl)
    (he2 : starEach [.Call (.Name "range" p) [a, b] [] pos] X.env = (false, eval (.Call (.Name "range" p) [a, b] [] pos) X.env) :: starEach [] X.env := by rfl) : EL X Γ ρ (.Call (.Name "list" p') [.Call (.Name "range" p) [a, b] [] pos] [] pos') (sbind ma fun i => sbind mb fun j => slift (ofOpt (rangeO i j))) :=
  PE.imp (pe_listRg hc hgl hl (prg_2 hg hm ha hb he he3 hpl) he2) fun σ H Q ⟨s, f0, g, q⟩ => ⟨s, f0, g, q.chain.mono fun f1 H1 r1 g1 l1 q v rx => ⟨r1.2, f1, g1, q.chain.mono fun f2 H2 r2 g2 l2 q w ry => by
    obtain ⟨c, ec, q⟩ := run_opt q
    obtain ⟨⟨h1, h2, h3, h4, h5⟩, rfl⟩ := chk_some ec
    refine ⟨r1.1, r2.1, Rp.int_inv rx, Rp.int_inv ry, ⟨h1, h2, h3, h4, by omega⟩, fun d n => RunF.same q g2 (same_new n) _ ⟨d, _, rfl, (l1.trans l2).le.dom d n, fun k hk => ?_, upd_same, by rw [rgV_length, sizeLine_eq]; omega, ?_⟩⟩
    · obtain ⟨u, e, _⟩ := g2.live hk
      rw [n] at e; cases e
    · have : rgV r1.1 r2.1 = (rangeL r1.1 r2.1).map V.int := by unfold rgV rangeL; rw [List.map_map]; rfl
      rw [this]; exact rpAll_ints _⟩⟩

/-! ### targets -/
structure Off (vs : List Nat) (σ σ' : L2.St) : Prop where
  len : σ'.length = σ.length
  at' : ∀ i, i ∉ vs → σ'[i]? = σ[i]?
theorem Off.refl (vs : List Nat) (σ : L2.St) : Off vs σ σ := ⟨rfl, fun _ _ => rfl⟩
theorem Off.trans {vs : List Nat} {σ σ1 σ2 : L2.St} (a : Off vs σ σ1) (b : Off vs σ1 σ2) : Off vs σ σ2 := ⟨b.len.trans a.len, fun i h => (b.at' i h).trans (a.at' i h)⟩
theorem Off.set {vs : List Nat} {σ : L2.St} {i : Nat} {x : Option V} (h : i ∈ vs) : Off vs σ (σ.set i x) := ⟨List.length_set, fun j hj => List.getElem?_set_ne (fun e => hj (by rw [← e]; exact h))⟩
theorem wipe_get (σ : L2.St) : ∀ (vs : List Nat) (i : Nat), i ∉ vs → (wipe σ vs)[i]? = σ[i]?
  | [], _, _ => rfl
  | v :: vs, i, h => by
    unfold wipe
    rw [List.getElem?_set_ne (fun e => h (by rw [← e]; exact List.mem_cons_self)), wipe_get σ vs i fun q => h (List.mem_cons_of_mem _ q)]
theorem wipe_at (σ : L2.St) : ∀ (vs : List Nat) (i : Nat), i ∈ vs → i < σ.length → (wipe σ vs)[i]? = some none
  | v :: vs, i, h, hl => by
    unfold wipe
    by_cases e : v = i
    · subst e; rw [List.getElem?_set_self (by rw [wipe_length]; exact hl)]
    · rw [List.getElem?_set_ne e]
      rcases List.mem_cons.mp h with q | q
      · exact absurd q.symm e
      · exact wipe_at σ vs i q hl
theorem Off.wipe {vs : List Nat} {σ σ' : L2.St} (h : Off vs σ σ') : wipe σ' vs = wipe σ vs := by
  apply List.ext_getElem?
  intro i
  by_cases hi : i ∈ vs
  · by_cases hl : i < σ.length
    · rw [wipe_at σ' vs i hi (by rw [h.len]; exact hl), wipe_at σ vs i hi hl]
    · rw [List.getElem?_eq_none (by rw [wipe_length, h.len]; omega), List.getElem?_eq_none (by rw [wipe_length]; omega)]
  · rw [wipe_get σ' vs i hi, wipe_get σ vs i hi, h.at' i hi]
theorem wipe_wipe (σ : L2.St) (vs : List Nat) : wipe (wipe σ vs) vs = wipe σ vs := Off.wipe ⟨wipe_length σ vs, fun i h => wipe_get σ vs i h⟩
def Sub (f f' : Nat → Foot) : Prop := ∀ i a, a ∈ f' i → ∃ j, a ∈ f j
theorem Sub.refl (f : Nat → Foot) : Sub f f := fun i a h => ⟨i, h⟩
theorem Sub.trans {f f1 f2 : Nat → Foot} (a : Sub f f1) (b : Sub f1 f2) : Sub f f2 := fun i c h => by
  obtain ⟨j, q⟩ := b i c h
  exact a j c q
/-- the store changed off vs alone -/
structure OffR (vs : List Nat) (ρ ρ' : List Slot) : Prop where
  len : ρ'.length = ρ.length
  at' : ∀ i, i ∉ vs → ρ'[i]? = ρ[i]?
theorem OffR.refl (vs : List Nat) (ρ : List Slot) : OffR vs ρ ρ := ⟨rfl, fun _ _ => rfl⟩
theorem OffR.trans {vs : List Nat} {ρ ρ1 ρ2 : List Slot} (a : OffR vs ρ ρ1) (b : OffR vs ρ1 ρ2) : OffR vs ρ ρ2 := ⟨b.len.trans a.len, fun i h => (b.at' i h).trans (a.at' i h)⟩
theorem OffR.set {vs : List Nat} {ρ : List Slot} {i : Nat} {x : Slot} (h : i ∈ vs) : OffR vs ρ (ρ.set i x) := ⟨List.length_set, fun j hj => List.getElem?_set_ne (fun e => hj (by rw [← e]; exact h))⟩
/-- what of the value goes into the slots -/
def tG (K : PySem.W.Frag) (Γ : Cn) [Enc α] (vs : List Nat) (ρ : List Slot) (ρ' : α → List Slot) : TG := fun v σ H Q =>
  ∃ a f, GoodF K Γ.ps Γ.H0 f ρ σ H ∧ Rp K H v (enc a) ∧ ∀ σ' f', Off vs σ σ' → Sub f f' → GoodF K Γ.ps Γ.H0 f' (ρ' a) σ' H → Q σ' H
structure G (X : Cx) (Γ : Cn) [Enc α] (vs : List Nat) (ρ : List Slot) (tg : Expr) (ρ' : α → List Slot) : Prop where
  pg : PG X tg (tG X.K Γ vs ρ ρ')
  off : ∀ a, OffR vs ρ (ρ' a)
theorem PG.imp {X : Cx} {tg : Expr} {t t' : TG} (h : PG X tg t) (i : ∀ v σ H Q, t' v σ H Q → t v σ H Q) : PG X tg t' := ⟨fun pins s σ H v u Q I r q => h.run pins s σ H v u Q I r (i v σ H Q q)⟩
theorem g_name [Enc α] {vs : List Nat} {ρ : List Slot} {x : Str} (i : Nat) (hN : X.N.Nodup) (hi : X.N[i]? = some x := by rfl) (hx : Loc X.env.scope x := by first | exact Or.inl rfl | exact Or.inr rfl) (hv : i ∈ vs := by decide) (hl : i < ρ.length := by exact DL.lt_by rfl) (hf : X.fn x = true ∨ X.env.scope.names.lookup x = some .local := by first | exact .inl rfl | exact .inr rfl | assumption) :
    G X Γ (α := α) vs ρ (.Name x pos) (fun a => ρ.set i (.dat (enc a))) :=
  ⟨PG.imp (pg_name hN hi hx hf) fun v σ H Q ⟨a, f, g, r, q⟩ => q _ _ (Off.set hv) (fun j b hb => by
    by_cases e : j = i
    · simp only [if_pos e] at hb; cases hb
    · simp only [if_neg e] at hb; exact ⟨j, hb⟩) (g.set (fp := []) hl ⟨rfl, v, rfl, r⟩ fun _ _ _ z => by cases z), fun a => OffR.set hv⟩
/-- several targets, of a tuple's items -/
def tGs (K : PySem.W.Frag) (Γ : Cn) {τ : Type} (encs : τ → List PyData) (vs : List Nat) (ρ : List Slot) (ρ' : τ → List Slot) : TGs := fun us σ H Q =>
  ∃ t f, GoodF K Γ.ps Γ.H0 f ρ σ H ∧ RpAll K H us (encs t) ∧ ∀ σ' f', Off vs σ σ' → Sub f f' → GoodF K Γ.ps Γ.H0 f' (ρ' t) σ' H → Q σ' H
structure Gs (X : Cx) (Γ : Cn) {τ : Type} (encs : τ → List PyData) (vs : List Nat) (ρ : List Slot) (tgs : List Expr) (ρ' : τ → List Slot) : Prop where
  pg : PGs X tgs (tGs X.K Γ encs vs ρ ρ')
  off : ∀ a, OffR vs ρ (ρ' a)
theorem PGs.imp {X : Cx} {tg : List Expr} {t t' : TGs} (h : PGs X tg t) (i : ∀ v σ H Q, t' v σ H Q → t v σ H Q) : PGs X tg t' := ⟨fun pins s σ H v u Q I r q => h.run pins s σ H v u Q I r (i v σ H Q q)⟩
theorem gs_nil {vs : List Nat} {ρ : List Slot} : Gs X Γ (fun _ : Unit => []) vs ρ [] (fun _ => ρ) := ⟨PGs.imp pgs_nil fun us σ H Q ⟨t, f, g, r, q⟩ => by
  cases r
  exact ⟨rfl, q σ f (Off.refl _ _) (Sub.refl f) g⟩, fun _ => OffR.refl _ _⟩
theorem gs_cons {τ : Type} [Enc α] {encs : τ → List PyData} {vs : List Nat} {ρ : List Slot} {ρ1 : α → List Slot} {ρ2 : α → τ → List Slot} {es : List Expr} (h : G X Γ vs ρ e ρ1) (hs : ∀ a, Gs X Γ encs vs (ρ1 a) es (ρ2 a))
    (he : (assignEach (e :: es) X.env).map (·.2) = assign e X.env :: (assignEach es X.env).map (·.2) := by rfl) : Gs X Γ (fun r : α × τ => enc r.1 :: encs r.2) vs ρ (e :: es) (fun r => ρ2 r.1 r.2) := by
  have hs' : PGs X es (fun us σ H Q => ∃ a, tGs X.K Γ encs vs (ρ1 a) (ρ2 a) us σ H Q) := ⟨fun pins s σ H v u Q I r ⟨a, q⟩ => (hs a).pg.run pins s σ H v u Q I r q⟩
  refine ⟨PGs.imp (pgs_cons h.pg hs' he) fun us σ H Q ⟨t, f, g, r, q⟩ => ?_, fun r => (h.off r.1).trans ((hs r.1).off r.2)⟩
  obtain ⟨a, t⟩ := t
  cases r with
  | cons r1 r2 => exact ⟨_, _, rfl, a, f, g, r1, fun σ1 f1 o1 u1 g1 => ⟨a, t, f1, g1, r2, fun σ2 f2 o2 u2 g2 => q σ2 f2 (o1.trans o2) (u1.trans u2) g2⟩⟩
theorem g_pair [Enc α] [Enc β] {vs : List Nat} {ρ : List Slot} {ρ1 : α → List Slot} {ρ2 : α → β → List Slot} {k : Nat} (hc : X.calm = true) (h1 : G X Γ vs ρ a ρ1) (h2 : ∀ x, G X Γ vs (ρ1 x) b (ρ2 x))
    (he : (assignEach [a, b] X.env).map (·.2) = assign a X.env :: (assignEach [b] X.env).map (·.2) := by rfl) (he2 : (assignEach [b] X.env).map (·.2) = assign b X.env :: (assignEach [] X.env).map (·.2) := by rfl)
    (hn : (assignEach [a, b] X.env).length = 2 := by rfl) (hst : (assignEach [a, b] X.env).findIdx? (·.1) = none := by rfl) : G X Γ (α := α × β) vs ρ (.Tuple [a, b] k pos) (fun r => ρ2 r.1 r.2) :=
  ⟨PG.imp (pg_tup hc (gs_cons h1 (fun x => gs_cons (h2 x) (fun y => gs_nil) he2) he).pg hn hst) fun v σ H Q ⟨t, f, g, r, q⟩ => by
    obtain ⟨x, y⟩ := t
    have r' : Rp X.K H v (.tuple [enc x, enc y]) := r
    obtain ⟨l, ws, rfl, hs, hr⟩ := r'.tup_inv
    exact ⟨l, ws, rfl, hs, hr.length, (x, (y, ())), f, g, hr, fun σ' f' o u g' => q σ' f' o u g'⟩, fun r => (h1.off r.1).trans ((h2 r.1).off r.2)⟩
theorem g_t3 [Enc α] [Enc β] [Enc γ] {vs : List Nat} {ρ : List Slot} {ρ1 : α → List Slot} {ρ2 : α → β → List Slot} {ρ3 : α → β → γ → List Slot} {k : Nat} (hc : X.calm = true) (h1 : G X Γ vs ρ a ρ1) (h2 : ∀ x, G X Γ vs (ρ1 x) b (ρ2 x)) (h3 : ∀ x y, G X Γ vs (ρ2 x y) c (ρ3 x y))
    (he : (assignEach [a, b, c] X.env).map (·.2) = assign a X.env :: (assignEach [b, c] X.env).map (·.2) := by rfl) (he2 : (assignEach [b, c] X.env).map (·.2) = assign b X.env :: (assignEach [c] X.env).map (·.2) := by rfl) (he3 : (assignEach [c] X.env).map (·.2) = assign c X.env :: (assignEach [] X.env).map (·.2) := by rfl)
    (hn : (assignEach [a, b, c] X.env).length = 3 := by rfl) (hst : (assignEach [a, b, c] X.env).findIdx? (·.1) = none := by rfl) : G X Γ (α := T3 α β γ) vs ρ (.Tuple [a, b, c] k pos) (fun r => ρ3 r.a r.b r.c) :=
  ⟨PG.imp (pg_tup hc (gs_cons h1 (fun x => gs_cons (h2 x) (fun y => gs_cons (h3 x y) (fun z => gs_nil) he3) he2) he).pg hn hst) fun v σ H Q ⟨t, f, g, r, q⟩ => by
    obtain ⟨x, y, z⟩ := t
    have r' : Rp X.K H v (.tuple [enc x, enc y, enc z]) := r
    obtain ⟨l, ws, rfl, hs, hr⟩ := r'.tup_inv
    exact ⟨l, ws, rfl, hs, hr.length, (x, (y, (z, ()))), f, g, hr, fun σ' f' o u g' => q σ' f' o u g'⟩, fun r => (h1.off r.a).trans (((h2 r.a).off r.b).trans ((h3 r.a r.b).off r.c))⟩
end
end DL

set_option Elab.async false
set_option linter.all false
set_option maxRecDepth 100000
set_option maxHeartbeats 4000000
namespace DL
open PySem PySem.Spec PyProof.Rows L2 Enc

/-- within a comprehension nothing may be raised -/
def nb {α : Type} : Res α → Res α
  | .ok a => .ok a
  | _ => .bad
@[simp] theorem nb_ok {α : Type} (a : α) : nb (.ok a) = .ok a := rfl
@[simp] theorem nb_bad {α : Type} : nb (.bad : Res α) = .bad := rfl
def compS {S α β : Type} (t : α → S → Res (Bool × S)) (f : α → S → Res (β × S)) : List α → S → Res (List β × S)
  | [], s => .ok ([], s)
  | x :: xs, s => nb (t x s) >>= fun r => if r.1 = true then nb (f x r.2) >>= fun y => compS t f xs y.2 >>= fun ys => .ok (y.1 :: ys.1, ys.2) else compS t f xs r.2
def wipeR (ρ : List Slot) : List Nat → List Slot
  | [] => ρ
  | v :: vs => (wipeR ρ vs).set v .any
theorem wipeR_length (ρ : List Slot) : ∀ vs, (wipeR ρ vs).length = ρ.length
  | [] => rfl
  | v :: vs => by unfold wipeR; rw [List.length_set, wipeR_length ρ vs]
theorem wipeR_off (ρ : List Slot) : ∀ vs, OffR vs ρ (wipeR ρ vs)
  | [] => OffR.refl _ _
  | v :: vs => ⟨wipeR_length ρ _, fun i h => by
    unfold wipeR
    rw [List.getElem?_set_ne (fun e => h (by rw [← e]; exact List.mem_cons_self))]
    exact (wipeR_off ρ vs).at' i fun q => h (List.mem_cons_of_mem _ q)⟩
theorem wipeR_at (ρ : List Slot) : ∀ (vs : List Nat) (i : Nat), i ∈ vs → i < ρ.length → (wipeR ρ vs)[i]? = some .any
  | v :: vs, i, h, hl => by
    unfold wipeR
    by_cases e : v = i
    · subst e; rw [List.getElem?_set_self (by rw [wipeR_length]; exact hl)]
    · rw [List.getElem?_set_ne e]
      rcases List.mem_cons.mp h with q | q
      · exact absurd q.symm e
      · exact wipeR_at ρ vs i q hl
section
variable {K : PySem.W.Frag} {ps : List Addr} {H0 H H' : Hp} {f : Nat → Foot} {ρ ρ' : List Slot} {σ σ' : L2.St} {vs : List Nat}
/-- the block's start -/
theorem GoodF.blk (g : GoodF K ps H0 f ρ σ H) : ∃ f', Sub f f' ∧ GoodF K ps H0 f' (wipeR ρ vs) (wipe σ vs) H := by
  refine ⟨fun i => if i ∈ vs then [] else f i, fun i a h => ?_, by rw [wipe_length, wipeR_length]; exact g.len, g.same, g.io, fun i s hs => ?_, fun i hi => ?_, fun i j a h1 h2 => ?_⟩
  · by_cases e : i ∈ vs
    · simp only [if_pos e] at h; cases h
    · simp only [if_neg e] at h; exact ⟨i, h⟩
  · by_cases e : i ∈ vs
    · have hl : i < ρ.length := by
        have := (List.getElem?_eq_some_iff.mp hs).1
        rw [wipeR_length] at this; exact this
      rw [wipeR_at ρ vs i e hl] at hs
      cases hs
      exact ⟨none, wipe_at σ vs i e (by rw [g.len]; exact hl), by simp only [if_pos e]; exact rfl⟩
    · rw [(wipeR_off ρ vs).at' i e] at hs
      rw [wipe_get σ vs i e]
      simp only [if_neg e]
      exact g.slot i s hs
  · by_cases e : i ∈ vs
    · simp only [if_pos e]
    · rw [(wipeR_off ρ vs).at' i e] at hi
      simp only [if_neg e]
      exact g.out i hi
  · by_cases e : i ∈ vs
    · simp only [if_pos e] at h1; cases h1
    · by_cases e' : j ∈ vs
      · simp only [if_pos e'] at h2; cases h2
      · simp only [if_neg e] at h1
        simp only [if_neg e'] at h2
        exact g.sep i j a h1 h2
/-- the slots of a block's own names hold, in the def, data or nothing -/
def VsOk {S : Type} (ρ : S → List Slot) (vs : List Nat) : Prop := ∀ i, i ∈ vs → ∃ x : Slot, (x = .any ∨ ∃ d, x = .dat d) ∧ ∀ s, (ρ s)[i]? = some x
theorem vs_nil {S : Type} {ρ : S → List Slot} : VsOk ρ [] := fun _ h => by cases h
theorem vs_any {S : Type} {ρ : S → List Slot} {i : Nat} {vs : List Nat} (h : ∀ s, (ρ s)[i]? = some .any) (t : VsOk ρ vs) : VsOk ρ (i :: vs) := fun j hj => (List.mem_cons.mp hj).elim (fun e => ⟨.any, .inl rfl, by rw [e]; exact h⟩) (t j)
theorem vs_dat {S : Type} {ρ : S → List Slot} {i : Nat} {vs : List Nat} {d : PyData} (h : ∀ s, (ρ s)[i]? = some (.dat d)) (t : VsOk ρ vs) : VsOk ρ (i :: vs) := fun j hj => (List.mem_cons.mp hj).elim (fun e => ⟨.dat d, .inr ⟨d, rfl⟩, by rw [e]; exact h⟩) (t j)
/-- back from the block -/
theorem GoodF.back {S : Type} {ρ : S → List Slot} {s s' : S} {ρb : List Slot} (ok : VsOk ρ vs) {f0 : Nat → Foot} (g0 : GoodF K ps H0 f0 (ρ s) σ H) (l : Le H H') (g : GoodF K ps H0 f ρb σ' H') (o : Off vs σ σ') (or : OffR vs (ρ s') ρb) : ∃ f', Sub f f' ∧ GoodF K ps H0 f' (ρ s') σ H' := by
  refine ⟨fun i => if i ∈ vs then [] else f i, fun i a h => ?_, ?_, g.same, g.io, fun i s hs => ?_, fun i hi => ?_, fun i j a h1 h2 => ?_⟩
  · by_cases e : i ∈ vs
    · simp only [if_pos e] at h; cases h
    · simp only [if_neg e] at h; exact ⟨i, h⟩
  · have := g.len
    rw [o.len, or.len] at this
    exact this
  · by_cases e : i ∈ vs
    · obtain ⟨x, hx, hall⟩ := ok i e
      rw [hall s'] at hs
      cases hs
      obtain ⟨v, h1, h2⟩ := g0.slot i s (hall _)
      refine ⟨v, h1, ?_⟩
      simp only [if_pos e]
      rcases hx with rfl | ⟨d, rfl⟩
      · exact rfl
      · obtain ⟨_, y, e1, e2⟩ := h2
        exact ⟨rfl, y, e1, e2.mono l⟩
    · rw [← or.at' i e] at hs
      rw [← o.at' i e]
      simp only [if_neg e]
      exact g.slot i s hs
  · by_cases e : i ∈ vs
    · simp only [if_pos e]
    · rw [← or.at' i e] at hi
      simp only [if_neg e]
      exact g.out i hi
  · by_cases e : i ∈ vs
    · simp only [if_pos e] at h1; cases h1
    · by_cases e' : j ∈ vs
      · simp only [if_pos e'] at h2; cases h2
      · simp only [if_neg e] at h1
        simp only [if_neg e'] at h2
        exact g.sep i j a h1 h2
theorem Stp.sub {f f1 f2 f3 : Nat → Foot} (h : Stp f1 H f2 H') (a : Sub f f1) (b : Sub f2 f3) : Stp f H f3 H' := by
  refine ⟨h.le, fun c o e n => h.keep c o e fun i hi => ?_, fun i c hc => ?_⟩
  · obtain ⟨j, q⟩ := a i c hi
    exact n j q
  · obtain ⟨j, q⟩ := b i c hc
    rcases h.foot j c q with ⟨k, q⟩ | q
    · exact .inl (a k c q)
    · exact .inr q
end
def Cn.calm (Γ : Cn) : Cn := { Γ with W := fun _ _ _ _ => False }
section
variable {X : Cx} {Γ : Cn} {S α β : Type} {ρ : S → List Slot}
theorem compS_noerr {t : α → S → Res (Bool × S)} {f : α → S → Res (β × S)} {c : String} {as : List PyData} : ∀ (xs : List α) (s : S), compS t f xs s ≠ .err c as
  | [], s => fun h => by cases h
  | x :: xs, s => fun h => by
    unfold compS at h
    cases e : t x s with
    | ok r =>
      rw [e, nb_ok, Res.ok_bind] at h
      split at h
      · cases e2 : f x r.2 with
        | ok y =>
          rw [e2, nb_ok, Res.ok_bind] at h
          cases e3 : compS t f xs y.2 with
          | ok ys => rw [e3] at h; cases h
          | err => exact compS_noerr xs y.2 e3
          | bad => rw [e3] at h; cases h
        | err => rw [e2] at h; cases h
        | bad => rw [e2] at h; cases h
      · exact compS_noerr xs r.2 h
    | err => rw [e] at h; cases h
    | bad => rw [e] at h; cases h
/-- one turn -/
theorem compS_cons {t : α → S → Res (Bool × S)} {f : α → S → Res (β × S)} {x : α} {xs : List α} {s : S} {R : List β × S} (h : compS t f (x :: xs) s = .ok R) :
    ∃ r, t x s = .ok r ∧ ((r.1 = true ∧ ∃ y ys, f x r.2 = .ok y ∧ compS t f xs y.2 = .ok ys ∧ R = (y.1 :: ys.1, ys.2)) ∨ (r.1 = false ∧ compS t f xs r.2 = .ok R)) := by
  unfold compS at h
  cases e : t x s with
  | ok r =>
    rw [e, nb_ok, Res.ok_bind] at h
    refine ⟨r, rfl, ?_⟩
    split at h
    · next hb =>
      cases e2 : f x r.2 with
      | ok y =>
        rw [e2, nb_ok, Res.ok_bind] at h
        cases e3 : compS t f xs y.2 with
        | ok ys => rw [e3] at h; cases h; exact .inl ⟨hb, y, ys, rfl, e3, rfl⟩
        | err => rw [e3] at h; cases h
        | bad => rw [e3] at h; cases h
      | err => rw [e2] at h; cases h
      | bad => rw [e2] at h; cases h
    · next hb => exact .inr ⟨by simpa using hb, h⟩
  | err => rw [e] at h; cases h
  | bad => rw [e] at h; cases h
theorem drop_get {xs : List α} {i : Nat} (h : i < xs.length) : xs.drop i = xs[i] :: xs.drop (i + 1) := List.drop_eq_getElem_cons h
abbrev BlkE (X : Cx) (scope : Scope) := fun (s : Shared) (H : Hp) (C : Addr) (cl : List (Str × Addr)) (fp : List Addr) => X.blk s H scope (compEnvC scope cl C X.env) fp
theorem lc_read [Enc α] [Enc β] {own : List (Str × Nat)} {m : S → Res (List α × S)} {ρb : S → α → List Slot} {t : α → S → Res (Bool × S)} {f : α → S → Res (β × S)}
    (vok : VsOk ρ (own.map (·.2))) (offb : ∀ s x, OffR (own.map (·.2)) (ρ s) (ρb s x)) {σ : L2.St} {H : Hp} {Q : VK} (h : tE X.K Γ (PL (α := β) X.K) ρ (sbind m fun xs => compS t f xs) σ H Q) :
    tLc (tI X.K Γ ρ m) (fun v σ H Q => ∃ s, tG X.K Γ.calm (own.map (·.2)) (wipeR (ρ s) (own.map (·.2))) (ρb s) v σ H Q) (fun σ H Q => ∃ x, tT X.K Γ.calm (fun s => ρb s x) (t x) σ H Q) (fun σ H Q => ∃ x, tE X.K Γ.calm (PD X.K) (fun s => ρb s x) (f x) σ H Q) (own.map (·.2)) σ H Q := by
  obtain ⟨s, f0, g0, q⟩ := h
  refine ⟨s, f0, g0, q.chain.mono fun f1 H1 r1 g1 l1 q J hJ D hD => ?_⟩
  obtain ⟨xs, s1⟩ := r1
  have q : RunF X.K Γ f1 ρ (compS t f xs s1) σ H1 fun f H' r => ∀ v, PL X.K f H H' v r.1 → Q v H' := q
  cases eR : compS t f xs s1 with
  | err c as => exact absurd eR (compS_noerr xs s1)
  | bad => rw [eR] at q; exact q.elim
  | ok R =>
    rw [eR] at q
    have n0 := (show Good X.K Γ.ps Γ.H0 (ρ s1) σ H1 from ⟨f1, g1⟩).newAt hD
    have nf1 : ∀ k, D ∉ f1 k := fun k hk => by
      obtain ⟨u, e, _⟩ := g1.live hk
      rw [hD] at e; cases e
    -- the invariant
    refine ⟨fun i mm H' => mm = xs.length - i ∧ i ≤ xs.length ∧ ∃ (s2 : S) (f2 : Nat → Foot) (acc : List β) (vs' : List V) (ys : List β × S), GoodF X.K Γ.ps Γ.H0 f2 (ρ s2) σ H' ∧ Stp f1 H1 f2 H' ∧ H' D = some (.lst vs') ∧ RpAll X.K H' vs' (acc.map enc) ∧ acc.length ≤ i ∧ (∀ k, D ∉ f2 k) ∧
      compS t f (xs.drop i) s2 = .ok ys ∧ R = (acc ++ ys.1, ys.2), ⟨xs.length, by simp, Nat.zero_le _, s1, f1, [], [], R, g1.same' (same_new hD), Stp.new hD, upd_same, .nil, Nat.le_refl _, nf1, by simpa using eR, by simp⟩, ?_⟩
    rintro i mm H' ⟨rfl, hle, s2, f2, acc, vs', ys, g2, l2, hDD, hr, hal, nf2, eC, eR'⟩
    by_cases hlt : i < xs.length
    · refine .inr ⟨hJ.go i H' l2.le hlt, fun H'' => i + 1 ≤ xs.length ∧ ∃ (s2 : S) (f2 : Nat → Foot) (acc : List β) (vs' : List V) (ys : List β × S), GoodF X.K Γ.ps Γ.H0 f2 (ρ s2) σ H'' ∧ Stp f1 H1 f2 H'' ∧ H'' D = some (.lst vs') ∧ RpAll X.K H'' vs' (acc.map enc) ∧ acc.length ≤ i + 1 ∧ (∀ k, D ∉ f2 k) ∧
        compS t f (xs.drop (i + 1)) s2 = .ok ys ∧ R = (acc ++ ys.1, ys.2), fun H'' ⟨h1, h2⟩ => ⟨xs.length - (i + 1), by omega, rfl, h1, h2⟩, fun x H3 hy => ?_⟩
      obtain ⟨sm, rx⟩ := hJ.yld i H' x H3 xs[i] l2.le (List.getElem?_eq_getElem hlt) hy
      rw [drop_get hlt] at eC
      obtain ⟨b, et, hb⟩ := compS_cons eC
      have g3 := g2.same' sm
      have l3 := l2.trans (Stp.same sm)
      obtain ⟨fb, sb, gb⟩ := g3.blk (vs := own.map (·.2))
      refine ⟨s2, xs[i], fb, gb, rx, fun σ4 f4 o4 u4 g4 => ⟨by rw [o4.wipe, wipe_wipe], xs[i], s2, f4, g4, ?_⟩⟩
      have o4' : Off (own.map (·.2)) σ σ4 := (Off.trans ⟨wipe_length σ _, fun i h => wipe_get σ _ i h⟩ o4)
      show RunF X.K Γ.calm f4 (fun s => ρb s xs[i]) (t xs[i] s2) σ4 H3 _
      rw [et]
      intro H5 f5 g5 l5
      have nf4 : ∀ k, D ∉ f4 k := fun k hk => by
        obtain ⟨j, h⟩ := (sb.trans u4) k D hk
        exact nf2 j h
      have hD3 : H3 D = some (.lst vs') := sm _ _ hDD
      have hD5 : H5 D = some (.lst vs') := l5.keep _ _ hD3 nf4
      have nf5 : ∀ k, D ∉ f5 k := fun k hk => by
        rcases l5.foot k D hk with ⟨j, h⟩ | h
        · exact nf4 j h
        · rw [hD3] at h; cases h
      obtain ⟨bv, s5⟩ := b
      rcases hb with ⟨hb, y, ys', ef, eC', eq⟩ | ⟨hb, eC'⟩
      · have hb : bv = true := hb
        subst hb
        have ef : f xs[i] s5 = .ok y := ef
        refine iteT ⟨xs[i], s5, f5, g5, ?_⟩
        show RunF X.K Γ.calm f5 (fun s => ρb s xs[i]) (f xs[i] s5) σ4 H5 _
        rw [ef]
        intro H6 f6 g6 l6 v rv
        have hD6 : H6 D = some (.lst vs') := l6.keep _ _ hD5 nf5
        have nf6 : ∀ k, D ∉ f6 k := fun k hk => by
          rcases l6.foot k D hk with ⟨j, h⟩ | h
          · exact nf5 j h
          · rw [hD5] at h; cases h
        obtain ⟨f7, u7, g7⟩ := GoodF.back vok g3 ((l5.trans l6).le) g6 o4' (offb y.2 xs[i])
        have nf7 : ∀ k, D ∉ f7 k := fun k hk => by
          obtain ⟨j, h⟩ := u7 k D hk
          exact nf6 j h
        have l7 : Stp f2 H3 f7 H6 := (l5.trans l6).sub (sb.trans u4) u7
        have T := l3.trans l7
        have hvl := hr.length
        rw [List.length_map] at hvl
        have hsz : xs.length ≤ sizeLine := hJ.sz
        refine ⟨vs', hD6, by omega, hlt, y.2, f7, acc ++ [y.1], vs' ++ [v], ys', g7.freeze hD6 nf7 n0.1, ?_, upd_same, ?_, by rw [List.length_append]; exact Nat.succ_le_succ hal, nf7, eC', ?_⟩
        · have neD : ∀ a o, H1 a = some o → a ≠ D := fun a o e z => by rw [z, hD] at e; cases e
          refine ⟨⟨fun a o im e => ?_, fun a e => ?_⟩, fun a o e n => ?_, T.foot⟩
          · rw [upd_ne (neD a o e)]; exact T.le.imm a o im e
          · by_cases z : a = D
            · rw [z]; exact hD
            · rw [upd_ne z] at e; exact T.le.dom a e
          · rw [upd_ne (neD a o e)]; exact T.keep a o e n
        · have lu := Le.upd (u := .lst (vs' ++ [v])) hD6 notImm
          rw [List.map_append]
          exact ((hr.mono ((Le.of_same sm).trans (l5.trans l6).le)).mono lu).append (.cons (rv.mono lu) .nil)
        · rw [eR', eq]; simp
      · have hb : bv = false := hb
        subst hb
        obtain ⟨f7, u7, g7⟩ := GoodF.back vok g3 l5.le g5 o4' (offb s5 xs[i])
        have nf7 : ∀ k, D ∉ f7 k := fun k hk => by
          obtain ⟨j, h⟩ := u7 k D hk
          exact nf5 j h
        exact iteF ⟨hlt, s5, f7, acc, vs', ys, g7, l3.trans (l5.sub (sb.trans u4) u7), hD5, hr.mono ((Le.of_same sm).trans l5.le), by omega, nf7, eC', eR'⟩
    · have e : i = xs.length := by omega
      subst e
      refine .inl ⟨hJ.stop _ _ l2.le (Nat.le_refl _), ?_⟩
      rw [List.drop_length] at eC
      cases eC
      obtain ⟨Ra, Rs⟩ := R
      cases eR'
      have hvl := hr.length
      rw [List.length_map] at hvl
      have hsz : xs.length ≤ sizeLine := hJ.sz
      exact q H' f2 g2 l2 _ ⟨D, vs', rfl, l1.le.dom D hD, nf2, hDD, by omega, by simpa using hr⟩
/-- the parts of a comprehension -/
structure CP (X : Cx) (Γ : Cn) [Enc α] [Enc β] (ρ : S → List Slot) (elt tg iter : Expr) (ifs : List Expr) (scope : Scope) (own : List (Str × Nat)) (m : S → Res (List α × S)) (t : α → S → Res (Bool × S)) (f : α → S → Res (β × S)) : Prop where
  hc : X.calm = true
  hN : X.N.Nodup
  hi : EI X Γ ρ tg iter m
  ok : BlkOk X.N X.env.scope scope own
  vok : VsOk ρ (own.map (·.2))
  blk : ∃ ρb : S → α → List Slot, (∀ s1 H C cl fp s, G (BlkE X scope s1 H C cl fp) Γ.calm (own.map (·.2)) (wipeR (ρ s) (own.map (·.2))) tg (ρb s)) ∧
    (∀ s1 H C cl fp x, PTs (BlkE X scope s1 H C cl fp) ifs (tT X.K Γ.calm (fun s => ρb s x) (t x))) ∧ ∀ s1 H C cl fp x, E (BlkE X scope s1 H C cl fp) Γ.calm (fun s => ρb s x) elt (f x)
theorem CP.congr [Enc α] [Enc β] {elt tg iter : Expr} {ifs : List Expr} {scope : Scope} {own : List (Str × Nat)} {m : S → Res (List α × S)} {t t' : α → S → Res (Bool × S)} {f f' : α → S → Res (β × S)} (c : CP X Γ ρ elt tg iter ifs scope own m t f) (h1 : t' = t) (h2 : f' = f) : CP X Γ ρ elt tg iter ifs scope own m t' f' := by
  rw [h1, h2]; exact c
theorem CP.g [Enc α] {tg : Expr} {scope : Scope} {own : List (Str × Nat)} {ρb : S → α → List Slot}
    (hg : ∀ s1 H C cl fp s, G (BlkE X scope s1 H C cl fp) Γ.calm (own.map (·.2)) (wipeR (ρ s) (own.map (·.2))) tg (ρb s)) : ∀ (s1 : Shared) (H : Hp) (C : Addr) (cl : List (Str × Addr)) (fp : List Addr), PG (BlkE X scope s1 H C cl fp) tg (fun v σ H Q => ∃ s, tG X.K Γ.calm (own.map (·.2)) (wipeR (ρ s) (own.map (·.2))) (ρb s) v σ H Q) :=
    fun s1 H C cl fp => ⟨fun pins s2 σ H v u Q I r ⟨s, q⟩ => (hg s1 _ C cl fp s).pg.run pins s2 σ H v u Q I r q⟩
/-- [elt for tg in iter if ..], as a value -/
theorem CP.e [Enc α] [Enc β] {elt tg iter : Expr} {ifs : List Expr} {scope : Scope} {own : List (Str × Nat)} {pos : Pos} {m : S → Res (List α × S)} {t : α → S → Res (Bool × S)} {f : α → S → Res (β × S)} (c : CP X Γ ρ elt tg iter ifs scope own m t f)
    (hs : ∀ x, foldedSetIterable iter X.env x = pure x := by intro _; rfl) : EL X Γ ρ (.ListComp elt [⟨tg, iter, ifs, 0⟩] scope pos) (sbind m fun xs => compS t f xs) := by
  obtain ⟨hc, hN, hi, ok, vok, ρb, hg, ht, he⟩ := c
  have hg' := CP.g (own := own) hg
  have ht' : ∀ (s1 : Shared) (H : Hp) (C : Addr) (cl : List (Str × Addr)) (fp : List Addr), PTs (BlkE X scope s1 H C cl fp) ifs (fun σ H Q => ∃ x, tT X.K Γ.calm (fun s => ρb s x) (t x) σ H Q) :=
    fun s1 H C cl fp => ⟨fun pins s2 σ H Q I ⟨x, q⟩ => (ht s1 _ C cl fp x).run pins s2 σ H Q I q⟩
  have he' : ∀ (s1 : Shared) (H : Hp) (C : Addr) (cl : List (Str × Addr)) (fp : List Addr), PE (BlkE X scope s1 H C cl fp) elt (fun σ H Q => ∃ x, tE X.K Γ.calm (PD X.K) (fun s => ρb s x) (f x) σ H Q) :=
    fun s1 H C cl fp => ⟨fun pins s2 σ H Q I ⟨x, q⟩ => (he s1 _ C cl fp x).run pins s2 σ H Q I q⟩
  refine ⟨fun pins0 sh0 σ0 H0' Q0 I0 q0 => ?_⟩
  have offb : ∀ s x, OffR (own.map (·.2)) (ρ s) (ρb s x) := fun s x => (wipeR_off (ρ s) _).trans ((hg sh0 (fun _ => none) 0 [] [] s).off x)
  exact (pe_lc hc hN hi ok hg' ht' he' hs).run pins0 sh0 σ0 H0' Q0 I0 (lc_read vok offb q0)
/-- name = a value, as a step -/
def AE (X : Cx) (Γ : Cn) (P : PK α) (ρ : S → List Slot) (i : Nat) (st : Stmt) (m : S → Res (α × S)) : Prop := PS X st (tAsg (tE X.K Γ P ρ m) (gName i))
theorem AE.congr {P : PK α} {i : Nat} {st : Stmt} {m m' : S → Res (α × S)} (h : AE X Γ P ρ i st m) (e : ∀ s, m' s = m s) : AE X Γ P ρ i st m' := by
  have : m' = m := funext e
  rw [this]; exact h
theorem PS.imp {X : Cx} {st : Stmt} {t t' : TS} (h : PS X st t) (i : ∀ D σ H, t' D σ H → t D σ H) : PS X st t' := ⟨fun pins s σ H D I q => h.run pins s σ H D I (i D σ H q)⟩
theorem CP.a [Enc α] [Enc β] {i : Nat} {y : Str} {py : Pos} {elt tg iter : Expr} {ifs : List Expr} {scope : Scope} {own : List (Str × Nat)} {pos spos : Pos} {m : S → Res (List α × S)} {t : α → S → Res (Bool × S)} {f : α → S → Res (β × S)} (c : CP X Γ ρ elt tg iter ifs scope own m t f)
    (hy : X.N[i]? = some y := by rfl) (hyl : X.env.scope.names.lookup y = some .local := by rfl) (hsw : swapsWith (.ListComp elt [⟨tg, iter, ifs, 0⟩] scope pos) (some (.Name y py)) spos.line X.env = pure true := by exact sw_true rfl rfl rfl (by decide +kernel))
    (hs : ∀ x, foldedSetIterable iter X.env x = pure x := by intro _; rfl) : AE X Γ (PL (α := β) X.K) ρ i (.Assign [.Name y py] (.ListComp elt [⟨tg, iter, ifs, 0⟩] scope pos) spos) (sbind m fun xs => compS t f xs) := by
  obtain ⟨hc, hN, hi, ok, vok, ρb, hg, ht, he⟩ := c
  have hg' := CP.g (own := own) hg
  have ht' : ∀ (s1 : Shared) (H : Hp) (C : Addr) (cl : List (Str × Addr)) (fp : List Addr), PTs (BlkE X scope s1 H C cl fp) ifs (fun σ H Q => ∃ x, tT X.K Γ.calm (fun s => ρb s x) (t x) σ H Q) :=
    fun s1 H C cl fp => ⟨fun pins s2 σ H Q I ⟨x, q⟩ => (ht s1 _ C cl fp x).run pins s2 σ H Q I q⟩
  have he' : ∀ (s1 : Shared) (H : Hp) (C : Addr) (cl : List (Str × Addr)) (fp : List Addr), PE (BlkE X scope s1 H C cl fp) elt (fun σ H Q => ∃ x, tE X.K Γ.calm (PD X.K) (fun s => ρb s x) (f x) σ H Q) :=
    fun s1 H C cl fp => ⟨fun pins s2 σ H Q I ⟨x, q⟩ => (he s1 _ C cl fp x).run pins s2 σ H Q I q⟩
  refine ⟨fun pins0 sh0 σ0 H0' D0 I0 q0 => ?_⟩
  have offb : ∀ s x, OffR (own.map (·.2)) (ρ s) (ρb s x) := fun s x => (wipeR_off (ρ s) _).trans ((hg sh0 (fun _ => none) 0 [] [] s).off x)
  exact (ps_setLc hc hN hy hyl hsw hi ok hg' ht' he' hs).run pins0 sh0 σ0 H0' D0 I0 (lc_read vok offb q0)
/-! ### the forms of mirrors -/
def mapR (f : α → Res β) : List α → Res (List β)
  | [] => .ok []
  | x :: xs => nb (f x) >>= fun y => mapR f xs >>= fun ys => .ok (y :: ys)
def filtR (t : α → Res Bool) (f : α → Res β) : List α → Res (List β)
  | [] => .ok []
  | x :: xs => nb (t x) >>= fun b => if b = true then nb (f x) >>= fun y => filtR t f xs >>= fun ys => .ok (y :: ys) else filtR t f xs
def mapS (f : α → S → Res (β × S)) : List α → S → Res (List β × S) := compS (fun _ => spure true) f
theorem compS_map (h : α → β) : ∀ (xs : List α) (s : S), compS (fun _ => spure true) (fun x => spure (h x)) xs s = .ok (xs.map h, s)
  | [], s => rfl
  | x :: xs, s => by unfold compS; simp [compS_map h xs s]
theorem compS_filt (p : α → Bool) (h : α → β) : ∀ (xs : List α) (s : S), compS (fun x => spure (p x)) (fun x => spure (h x)) xs s = .ok ((xs.filter p).map h, s)
  | [], s => rfl
  | x :: xs, s => by unfold compS; by_cases e : p x = true <;> simp [compS_filt p h xs s, e]
theorem compS_mapR (f : α → Res β) : ∀ (xs : List α) (s : S), compS (fun _ => spure true) (fun x => slift (f x)) xs s = slift (mapR f xs) s
  | [], s => rfl
  | x :: xs, s => by
    unfold compS mapR
    cases e : f x with
    | ok y =>
      simp [compS_mapR f xs s]
      cases mapR f xs <;> rfl
    | err => rfl
    | bad => rfl
theorem compS_filtR (t : α → Res Bool) (f : α → Res β) : ∀ (xs : List α) (s : S), compS (fun x => slift (t x)) (fun x => slift (f x)) xs s = slift (filtR t f xs) s
  | [], s => rfl
  | x :: xs, s => by
    unfold compS filtR
    cases e : t x with
    | ok b =>
      cases b with
      | true =>
        cases e2 : f x with
        | ok y =>
          simp [compS_filtR t f xs s]
          cases filtR t f xs <;> rfl
        | err => rfl
        | bad => rfl
      | false => simp [compS_filtR t f xs s]
    | err => rfl
    | bad => rfl
theorem t_none {Γ : Cn} {ρ : S → List Slot} : PTs X [] (tT X.K Γ ρ (spure true)) := ⟨fun pins s σ H Q I ⟨s1, f, g, q⟩ => pts_nil.run pins s σ H Q I (RunF.same q g (Same.refl _))⟩
theorem t_one {Γ : Cn} {ρ : S → List Slot} {c : Expr} {m : S → Res (Bool × S)} (h : B X Γ ρ c m) : PTs X [c] (tT X.K Γ ρ m) := pts_one h
end
end DL

set_option Elab.async false
set_option linter.all false
set_option maxRecDepth 100000
set_option maxHeartbeats 4000000
namespace DL
open PySem PySem.Spec PyProof.Rows L2 Enc

/-- how a block ends: it goes on, it returns, it leaves its loop, it goes to the loop's next turn -/
inductive Ctl (β γ R : Type) where
  | nx (b : β)
  | rt (r : R)
  | bk (g : γ)
  | ct (g : γ)
def seqC {β γ δ R : Type} (m : Res (Ctl β γ R)) (k : β → Res (Ctl δ γ R)) : Res (Ctl δ γ R) := m >>= fun c => match c with
  | .nx b => k b
  | .rt r => .ok (.rt r)
  | .bk g => .ok (.bk g)
  | .ct g => .ok (.ct g)
def exitC {β γ R : Type} (m : Res (Ctl Empty γ R)) : Res (Ctl β γ R) := m >>= fun c => match c with
  | .nx b => nomatch b
  | .rt r => .ok (.rt r)
  | .bk g => .ok (.bk g)
  | .ct g => .ok (.ct g)
def forR {α γ δ R : Type} (body : α → γ → Res (Ctl γ γ R)) : List α → γ → Res (Ctl γ δ R)
  | [], g => .ok (.nx g)
  | x :: xs, g => body x g >>= fun c => match c with
    | .nx g' => forR body xs g'
    | .ct g' => forR body xs g'
    | .bk g' => .ok (.nx g')
    | .rt r => .ok (.rt r)
def whileR {γ δ R : Type} (cond : γ → Res Bool) (body : γ → Res (Ctl γ γ R)) : Nat → γ → Res (Ctl γ δ R)
  | 0, _ => .bad
  | n + 1, g => cond g >>= fun b => if b = true then body g >>= fun c => match c with
      | .nx g' => whileR cond body n g'
      | .ct g' => whileR cond body n g'
      | .bk g' => .ok (.nx g')
      | .rt r => .ok (.rt r)
    else .ok (.nx g)
def fnE {R : Type} (m : Res (Ctl Empty Empty R)) : Res R := m >>= fun c => match c with
  | .rt r => .ok r
  | .nx b => nomatch b
  | .bk b => nomatch b
  | .ct b => nomatch b
/-- a def that may run out at its end: it answers None -/
def fnN {R : Type} (m : Res (Ctl R Empty R)) : Res R := m >>= fun c => match c with
  | .rt r => .ok r
  | .nx b => .ok b
  | .bk b => nomatch b
  | .ct b => nomatch b
section
variable {α β γ δ R : Type}
@[simp] theorem seqC_nx (b : β) (k : β → Res (Ctl δ γ R)) : seqC (.ok (.nx b)) k = k b := rfl
@[simp] theorem seqC_rt (r : R) (k : β → Res (Ctl δ γ R)) : seqC (.ok (.rt r)) k = .ok (.rt r) := rfl
@[simp] theorem seqC_bk (g : γ) (k : β → Res (Ctl δ γ R)) : seqC (.ok (.bk g)) k = .ok (.bk g) := rfl
@[simp] theorem seqC_ct (g : γ) (k : β → Res (Ctl δ γ R)) : seqC (.ok (.ct g)) k = .ok (.ct g) := rfl
@[simp] theorem seqC_bad (k : β → Res (Ctl δ γ R)) : seqC .bad k = .bad := rfl
@[simp] theorem seqC_err (c : String) (as : List PyData) (k : β → Res (Ctl δ γ R)) : seqC (.err c as) k = .err c as := rfl
@[simp] theorem seqC_bind (m : Res α) (f : α → Res (Ctl β γ R)) (k : β → Res (Ctl δ γ R)) : seqC (m >>= f) k = m >>= fun a => seqC (f a) k := by cases m <;> rfl
@[simp] theorem seqC_ite {c : Prop} [Decidable c] (a b : Res (Ctl β γ R)) (k : β → Res (Ctl δ γ R)) : seqC (if c then a else b) k = if c then seqC a k else seqC b k := by split <;> rfl
@[simp] theorem exitC_rt (r : R) : exitC (β := β) (γ := γ) (.ok (.rt r)) = .ok (.rt r) := rfl
@[simp] theorem exitC_bk (g : γ) : exitC (β := β) (R := R) (.ok (.bk g)) = .ok (.bk g) := rfl
@[simp] theorem exitC_ct (g : γ) : exitC (β := β) (R := R) (.ok (.ct g)) = .ok (.ct g) := rfl
@[simp] theorem exitC_bad : exitC (β := β) (γ := γ) (R := R) .bad = .bad := rfl
@[simp] theorem exitC_err (c : String) (as : List PyData) : exitC (β := β) (γ := γ) (R := R) (.err c as) = .err c as := rfl
@[simp] theorem exitC_bind (m : Res α) (f : α → Res (Ctl Empty γ R)) : exitC (β := β) (m >>= f) = m >>= fun a => exitC (f a) := by cases m <;> rfl
@[simp] theorem exitC_ite {c : Prop} [Decidable c] (a b : Res (Ctl Empty γ R)) : exitC (β := β) (if c then a else b) = if c then exitC a else exitC b := by split <;> rfl
@[simp] theorem fnE_rt (r : R) : fnE (.ok (.rt r)) = .ok r := rfl
@[simp] theorem fnE_bad : fnE (R := R) .bad = .bad := rfl
@[simp] theorem fnE_err (c : String) (as : List PyData) : fnE (R := R) (.err c as) = .err c as := rfl
@[simp] theorem fnE_bind (m : Res α) (f : α → Res (Ctl Empty Empty R)) : fnE (m >>= f) = m >>= fun a => fnE (f a) := by cases m <;> rfl
@[simp] theorem fnE_ite {c : Prop} [Decidable c] (a b : Res (Ctl Empty Empty R)) : fnE (if c then a else b) = if c then fnE a else fnE b := by split <;> rfl
@[simp] theorem fnN_rt (r : R) : fnN (.ok (.rt r)) = .ok r := rfl
@[simp] theorem fnN_nx (r : R) : fnN (.ok (.nx r)) = .ok r := rfl
@[simp] theorem fnN_bad : fnN (R := R) .bad = .bad := rfl
@[simp] theorem fnN_err (c : String) (as : List PyData) : fnN (R := R) (.err c as) = .err c as := rfl
@[simp] theorem fnN_bind (m : Res α) (f : α → Res (Ctl R Empty R)) : fnN (m >>= f) = m >>= fun a => fnN (f a) := by cases m <;> rfl
@[simp] theorem fnN_ite {c : Prop} [Decidable c] (a b : Res (Ctl R Empty R)) : fnN (if c then a else b) = if c then fnN a else fnN b := by split <;> rfl
@[simp] theorem forR_nil (body : α → γ → Res (Ctl γ γ R)) (g : γ) : forR (δ := δ) body [] g = .ok (.nx g) := rfl
end

/-! ### weaker stores -/
structure Wk (ρ ρ' : List Slot) : Prop where
  len : ρ'.length = ρ.length
  le : ∀ (i : Nat) (s : Slot), ρ'[i]? = some s → s = Slot.any ∨ ρ[i]? = some s
theorem wk_nil : Wk [] [] := ⟨rfl, fun _ _ h => .inr h⟩
theorem wk_refl (ρ : List Slot) : Wk ρ ρ := ⟨rfl, fun _ _ h => .inr h⟩
theorem wk_same {s : Slot} {ρ ρ' : List Slot} (h : Wk ρ ρ') : Wk (s :: ρ) (s :: ρ') := ⟨congrArg (· + 1) h.len, fun i x e => by
  cases i with
  | zero => exact .inr e
  | succ i => exact h.le i x e⟩
theorem wk_any {s : Slot} {ρ ρ' : List Slot} (h : Wk ρ ρ') : Wk (s :: ρ) (.any :: ρ') := ⟨congrArg (· + 1) h.len, fun i x e => by
  cases i with
  | zero => cases e; exact .inl rfl
  | succ i => exact h.le i x e⟩
theorem wk_alls : ∀ ρ : List Slot, Wk ρ (List.replicate ρ.length .any)
  | [] => wk_nil
  | _ :: ρ => wk_any (wk_alls ρ)
section
variable {K : PySem.W.Frag} {ps : List Addr} {H0 H H' : Hp} {f : Nat → Foot} {ρ ρ' : List Slot} {σ σ' : L2.St}
open Classical in
theorem GoodF.weak (w : Wk ρ ρ') (g : GoodF K ps H0 f ρ σ H) : ∃ f', Sub f f' ∧ GoodF K ps H0 f' ρ' σ H := by
  refine ⟨fun i => if ρ'[i]? = some .any then [] else f i, fun i a h => ?_, by rw [w.len]; exact g.len, g.same, g.io, fun i s hs => ?_, fun i hi => ?_, fun i j a h1 h2 => ?_⟩
  · dsimp only at h
    split at h
    · cases h
    · exact ⟨i, h⟩
  · have hl : i < ρ.length := by
      have := (List.getElem?_eq_some_iff.mp hs).1
      rw [w.len] at this; exact this
    obtain ⟨v, e, q⟩ := g.slot i ρ[i] (List.getElem?_eq_getElem hl)
    refine ⟨v, e, ?_⟩
    by_cases ha : ρ'[i]? = some .any
    · simp only [if_pos ha]
      rw [ha] at hs
      cases hs
      exact rfl
    · simp only [if_neg ha]
      rcases w.le i s hs with z | z
      · subst z; exact absurd hs ha
      · rw [List.getElem?_eq_getElem hl] at z
        cases z
        exact q
  · have : ρ[i]? = none := by
      rw [List.getElem?_eq_none_iff] at hi ⊢
      rw [w.len] at hi; exact hi
    rw [g.out i this]
    split <;> rfl
  · split at h1
    · cases h1
    · split at h2
      · cases h2
      · exact g.sep i j a h1 h2
theorem Good.weak (w : Wk ρ ρ') (g : Good K ps H0 ρ σ H) : Good K ps H0 ρ' σ H := by
  obtain ⟨f, g⟩ := g
  obtain ⟨f', _, g'⟩ := g.weak w
  exact ⟨f', g'⟩
end

/-! ### statements -/
/-- at a return -/
def Fin (Γ : Cn) (H : Hp) : Prop := (∀ b o, b ∉ Γ.ps → Γ.H0 b = some o → H b = some o) ∧ ∀ p ∈ Γ.ps, ∃ o, H p = some o
def Post (K : PySem.W.Frag) (Γ : Cn) {β γ R : Type} (ρn : β → List Slot) (ρg : γ → List Slot) (rt : R → V → Hp → Prop) (D : Ends) (H : Hp) : Ctl β γ R → Prop
  | .nx b => ∀ σ' H', Good K Γ.ps Γ.H0 (ρn b) σ' H' → Le H H' → D.nx σ' H'
  | .rt r => ∀ v H', Fin Γ H' → rt r v H' → D.rt v H'
  | .bk g => ∀ σ' H', Good K Γ.ps Γ.H0 (ρg g) σ' H' → Le H H' → D.bk σ' H'
  | .ct g => ∀ σ' H', Good K Γ.ps Γ.H0 (ρg g) σ' H' → Le H H' → D.ct σ' H'
def ErrS (K : PySem.W.Frag) (Γ : Cn) (H : Hp) (c : String) (as : List PyData) : Prop := ∀ C d σ H', Good K Γ.ps Γ.H0 Γ.ρE σ H' → Le H H' → ErrAt K Γ.cl c as C d H' → Γ.W C d σ H'
theorem ErrS.le {K : PySem.W.Frag} {Γ : Cn} {H H1 : Hp} {c : String} {as : List PyData} (h : ErrS K Γ H c as) (l : Le H H1) : ErrS K Γ H1 c as := fun C d σ H' g l' e => h C d σ H' g (l.trans l') e
def tS (K : PySem.W.Frag) (Γ : Cn) {β γ R : Type} (ρ : List Slot) (m : Res (Ctl β γ R)) (ρn : β → List Slot) (ρg : γ → List Slot) (rt : R → V → Hp → Prop) : TS := fun D σ H =>
  Good K Γ.ps Γ.H0 ρ σ H ∧ wpR m (Post K Γ ρn ρg rt D H) (ErrS K Γ H)
theorem ErrS.w {K : PySem.W.Frag} {Γ : Cn} {H : Hp} {c : String} {as : List PyData} (h : ErrS K Γ H c as) (σ : L2.St) : ErrW K Γ H σ c as := fun C d H' g l e => h C d σ H' g l e
abbrev Ss (X : Cx) (Γ : Cn) {β γ R : Type} (ρ : List Slot) (st : List Stmt) (m : Res (Ctl β γ R)) (ρn : β → List Slot) (ρg : γ → List Slot) (rt : R → V → Hp → Prop) : Prop := PSs X st (tS X.K Γ ρ m ρn ρg rt)
abbrev S1 (X : Cx) (Γ : Cn) {β γ R : Type} (ρ : List Slot) (st : Stmt) (m : Res (Ctl β γ R)) (ρn : β → List Slot) (ρg : γ → List Slot) (rt : R → V → Hp → Prop) : Prop := PS X st (tS X.K Γ ρ m ρn ρg rt)
theorem PSs.imp {X : Cx} {st : List Stmt} {t t' : TS} (h : PSs X st t) (i : ∀ D σ H, t' D σ H → t D σ H) : PSs X st t' := ⟨fun pins s σ H D I q => h.run pins s σ H D I (i D σ H q)⟩
theorem PSs.ex {X : Cx} {st : List Stmt} {ι : Sort _} {t : ι → TS} (h : ∀ i, PSs X st (t i)) : PSs X st (fun D σ H => ∃ i, t i D σ H) := ⟨fun pins s σ H D I ⟨i, q⟩ => (h i).run pins s σ H D I q⟩
section
variable {X : Cx} {Γ : Cn} {S α β γ δ R : Type} {ρ : List Slot} {ρS : S → List Slot} {st : Stmt} {rest body : List Stmt} {ρn : β → List Slot} {ρg : γ → List Slot} {rt : R → V → Hp → Prop} {e e1 e2 tg iter : Expr} {pos : Pos}
theorem Post.le {D : Ends} {H H' : Hp} {c : Ctl β γ R} (h : Post X.K Γ ρn ρg rt D H c) (l : Le H H') : Post X.K Γ ρn ρg rt D H' c := by
  cases c with
  | nx b => exact fun σ' H'' g l' => h σ' H'' g (l.trans l')
  | rt r => exact h
  | bk b => exact fun σ' H'' g l' => h σ' H'' g (l.trans l')
  | ct b => exact fun σ' H'' g l' => h σ' H'' g (l.trans l')
theorem s_nil {b : β} (w : Wk ρ (ρn b)) : Ss X Γ ρ [] (.ok (.nx b)) ρn ρg rt := PSs.imp pss_nil fun D σ H ⟨g, q⟩ => q σ H (g.weak w) (Le.refl H)
theorem s_cons {m : Res (Ctl δ γ R)} {ρ1 : δ → List Slot} {k : δ → Res (Ctl β γ R)} (h1 : S1 X Γ ρ st m ρ1 ρg rt) (h2 : ∀ b, Ss X Γ (ρ1 b) rest (k b) ρn ρg rt) : Ss X Γ ρ (st :: rest) (seqC m k) ρn ρg rt :=
  PSs.imp (pss_cons h1 (PSs.ex h2)) fun D σ H ⟨g, q⟩ => ⟨g, by
    unfold seqC at q
    rw [wpR_bind] at q
    refine wpR_mono q (fun c q => ?_) fun _ _ z => z
    cases c with
    | nx b => exact fun σ' H' g' l => ⟨b, g', wpR_mono q (fun c q => q.le l) fun _ _ z => z.le l⟩
    | rt r => exact q
    | bk b => exact q
    | ct b => exact q⟩
/-- what an expression's answer leads to -/
theorem tE_of {P : PK α} {mS : S → Res (α × S)} {s0 : S} {σ : L2.St} {H : Hp} {Q : VK} {k : α → S → Res (Ctl β γ R)} {D : Ends} (h : tS X.K Γ (ρS s0) (mS s0 >>= fun r => k r.1 r.2) ρn ρg rt D σ H)
    (i : ∀ a s v H' f, GoodF X.K Γ.ps Γ.H0 f (ρS s) σ H' → Le H H' → P f H H' v a → wpR (k a s) (Post X.K Γ ρn ρg rt D H') (ErrS X.K Γ H') → Q v H') : tE X.K Γ P ρS mS σ H Q := by
  obtain ⟨⟨f0, g⟩, q⟩ := h
  rw [wpR_bind] at q
  exact ⟨s0, f0, g, wpR_mono q (fun r q H' f g l v p => i r.1 r.2 v H' f g l.le p (wpR_mono q (fun c q => q.le l.le) fun _ _ z => z.le l.le)) fun _ _ z => z.w σ⟩
theorem tT_of {mS : S → Res (Bool × S)} {s0 : S} {σ : L2.St} {H : Hp} {Q : Bool → Hp → Prop} {k : Bool → S → Res (Ctl β γ R)} {D : Ends} (h : tS X.K Γ (ρS s0) (mS s0 >>= fun r => k r.1 r.2) ρn ρg rt D σ H)
    (i : ∀ a s H', Good X.K Γ.ps Γ.H0 (ρS s) σ H' → Le H H' → wpR (k a s) (Post X.K Γ ρn ρg rt D H') (ErrS X.K Γ H') → Q a H') : tT X.K Γ ρS mS σ H Q := by
  obtain ⟨⟨f0, g⟩, q⟩ := h
  rw [wpR_bind] at q
  exact ⟨s0, f0, g, wpR_mono q (fun r q H' f g l => i r.1 r.2 H' ⟨f, g⟩ l.le (wpR_mono q (fun c q => q.le l.le) fun _ _ z => z.le l.le)) fun _ _ z => z.w σ⟩
theorem lift_bind {m : Res α} {k : α → Res δ} : (slift (S := Unit) m () >>= fun r => k r.1) = (m >>= k) := by cases m <;> rfl
/-! #### name = value -/
theorem ae {x : Str} {pos' : Pos} {P : PK α} {mS : S → Res (α × S)} (i : Nat) (hN : X.N.Nodup) (he : EP X Γ P ρS e mS) (hi : X.N[i]? = some x := by rfl) (hx : Loc X.env.scope x := by first | exact Or.inl rfl | exact Or.inr rfl) (hs : swapsWith e (some (.Name x pos')) pos.line X.env = pure false := by rfl) (hf : X.fn x = true ∨ X.env.scope.names.lookup x = some .local := by first | exact .inl rfl | exact .inr rfl | assumption) :
    AE X Γ P ρS i (.Assign [.Name x pos'] e pos) mS := ps_set hN hi hx he hs hf
theorem s_setS [Enc α] {i : Nat} {mS : S → Res (α × S)} {k : α → S → Res (Ctl β γ R)} (s0 : S) (h : AE X Γ (PD X.K) ρS i st mS) (h2 : ∀ a s, Ss X Γ ((ρS s).set i (.dat (enc a))) rest (k a s) ρn ρg rt) (hl : ∀ s, i < (ρS s).length := by intro _; exact DL.lt_by rfl) :
    Ss X Γ (ρS s0) (st :: rest) (mS s0 >>= fun r => k r.1 r.2) ρn ρg rt :=
  PSs.imp (pss_cons h (PSs.ex fun a => PSs.ex (h2 a))) fun D σ H q => tE_of q fun a s v H' f g l p q => ⟨a, s, Good.set ⟨f, g⟩ (hl s) p, q⟩
theorem s_setLS [Enc α] {i : Nat} {mS : S → Res (List α × S)} {k : List α → S → Res (Ctl β γ R)} (s0 : S) (h : AE X Γ (PL (α := α) X.K) ρS i st mS) (h2 : ∀ a s, Ss X Γ ((ρS s).set i (.own (.lst (a.map enc)))) rest (k a s) ρn ρg rt) (hl : ∀ s, i < (ρS s).length := by intro _; exact DL.lt_by rfl) :
    Ss X Γ (ρS s0) (st :: rest) (mS s0 >>= fun r => k r.1 r.2) ρn ρg rt :=
  PSs.imp (pss_cons h (PSs.ex fun a => PSs.ex (h2 a))) fun D σ H hq => by
    have G0 := hq.1
    refine tE_of hq fun a s v H' f g l p q => ⟨a, s, ?_, q⟩
    obtain ⟨d, vs, rfl, hn, nf, hv, hz, hr⟩ := p
    exact ⟨_, g.set (fp := [d]) (hl s) ⟨fun b hb => by
      have : b = d := by simpa using hb
      rw [this]; exact G0.newAt hn, .ref d, rfl, d, vs, rfl, rfl, hv, hr⟩ fun j b _ hb => by
      have : b = d := by simpa using hb
      rw [this]; exact nf j⟩
theorem s_set [Enc α] {i : Nat} {m : Res α} {k : α → Res (Ctl β γ R)} (h : AE X Γ (PD X.K) (fun _ : Unit => ρ) i st (slift m)) (h2 : ∀ a, Ss X Γ (ρ.set i (.dat (enc a))) rest (k a) ρn ρg rt) (hl : i < ρ.length := by exact DL.lt_by rfl) :
    Ss X Γ ρ (st :: rest) (m >>= k) ρn ρg rt := by
  have := s_setS (ρn := ρn) (ρg := ρg) (rt := rt) () h (fun a _ => h2 a) (fun _ => hl)
  rwa [lift_bind] at this
theorem s_setL [Enc α] {i : Nat} {m : Res (List α)} {k : List α → Res (Ctl β γ R)} (h : AE X Γ (PL (α := α) X.K) (fun _ : Unit => ρ) i st (slift m)) (h2 : ∀ a, Ss X Γ (ρ.set i (.own (.lst (a.map enc)))) rest (k a) ρn ρg rt) (hl : i < ρ.length := by exact DL.lt_by rfl) :
    Ss X Γ ρ (st :: rest) (m >>= k) ρn ρg rt := by
  have := s_setLS (ρn := ρn) (ρg := ρg) (rt := rt) () h (fun a _ => h2 a) (fun _ => hl)
  rwa [lift_bind] at this
/-- a list of one's own becomes data -/
theorem pss_frz {t : TS} (h : PSs X rest t) : PSs X rest (fun D σ H => ∃ a xs, H a = some (.lst xs) ∧ ∀ o, t D σ (upd H a (.frz o (.lst xs)))) :=
  ⟨fun pins s σ H D I ⟨a, xs, e, q⟩ => by
    obtain ⟨o, I'⟩ := Inv.freeze I e
    exact h.run pins s σ _ D I' (q o)⟩
end
end DL

set_option Elab.async false
set_option linter.all false
set_option maxRecDepth 100000
set_option maxHeartbeats 4000000
namespace DL
open PySem PySem.Spec PyProof.Rows L2 Enc
section
variable {X : Cx} {Γ : Cn} {S α β γ δ R : Type} {ρ : List Slot} {ρS : S → List Slot} {st : Stmt} {rest body pa pb : List Stmt} {ρn : β → List Slot} {ρg : γ → List Slot} {rt : R → V → Hp → Prop} {e e1 e2 tg iter c : Expr} {pos : Pos}
theorem S1.congr {m m' : Res (Ctl β γ R)} (h : S1 X Γ ρ st m ρn ρg rt) (e : m' = m) : S1 X Γ ρ st m' ρn ρg rt := by rw [e]; exact h
theorem Ss.congr {m m' : Res (Ctl β γ R)} (h : Ss X Γ ρ body m ρn ρg rt) (e : m' = m) : Ss X Γ ρ body m' ρn ρg rt := by rw [e]; exact h
/-- one statement is a block -/
theorem s_one {m : Res (Ctl β γ R)} (h : S1 X Γ ρ st m ρn ρg rt) : Ss X Γ ρ [st] m ρn ρg rt := pss_one h
theorem iteTe {α : Type} {a b : Res α} {φ : α → Prop} {ψ : String → List PyData → Prop} (h : wpR (if true = true then a else b) φ ψ) : wpR a φ ψ := h
/-! #### pass, break, continue, return -/
theorem s_pass {b : β} (w : Wk ρ (ρn b)) : S1 X Γ ρ (.Pass pos) (.ok (.nx b)) ρn ρg rt := PS.imp ps_pass fun D σ H ⟨g, q⟩ => q σ H (g.weak w) (Le.refl H)
theorem s_doc {x : Str} {j : Nat} {pos' : Pos} {b : β} (w : Wk ρ (ρn b)) : S1 X Γ ρ (.Expr (.Constant (.str x) j pos) pos') (.ok (.nx b)) ρn ρg rt := PS.imp ps_doc fun D σ H ⟨g, q⟩ => q σ H (g.weak w) (Le.refl H)
theorem s_break {b : γ} (w : Wk ρ (ρg b)) : Ss X Γ ρ [.Break pos] (.ok (.bk b)) ρn ρg rt := pss_one (PS.imp ps_break fun D σ H ⟨g, q⟩ => q σ H (g.weak w) (Le.refl H))
theorem s_cont {b : γ} (w : Wk ρ (ρg b)) : Ss X Γ ρ [.Continue pos] (.ok (.ct b)) ρn ρg rt := pss_one (PS.imp ps_continue fun D σ H ⟨g, q⟩ => q σ H (g.weak w) (Le.refl H))
theorem Good.fin {σ : L2.St} {H : Hp} (g : Good X.K Γ.ps Γ.H0 ρ σ H) : Fin Γ H := by
  obtain ⟨f, g⟩ := g
  exact ⟨g.same, g.io⟩
theorem s_retS [Enc α] {mS : S → Res (α × S)} (s0 : S) (k : α → S → R) (he : E X Γ ρS e mS) (hk : ∀ a s σ H v, Good X.K Γ.ps Γ.H0 (ρS s) σ H → Rp X.K H v (enc a) → rt (k a s) v H) : Ss X Γ (ρS s0) [.Return (some e) pos] (mS s0 >>= fun r => .ok (.rt (k r.1 r.2))) ρn ρg rt :=
  pss_one (PS.imp (ps_ret he) fun D σ H q => tE_of (k := fun a s => .ok (.rt (k a s))) q fun a s v H' f g l p q => q v H' (Good.fin ⟨f, g⟩) (hk a s σ H' v ⟨f, g⟩ p))
/-- a def that answers data -/
abbrev rtD (K : PySem.W.Frag) (α : Type) [Enc α] : α → V → Hp → Prop := fun a v H => Rp K H v (enc a)
theorem s_ret [Enc α] {m : Res α} (he : Em X Γ (fun _ : Unit => ρ) e m) : Ss X Γ ρ [.Return (some e) pos] (m >>= fun a => .ok (.rt a)) ρn ρg (rtD X.K α) := by
  have := s_retS (ρn := ρn) (ρg := ρg) (pos := pos) (rt := rtD X.K α) () (fun a _ => a) he fun a s σ H v _ r => r
  exact this.congr (lift_bind (k := fun a => Res.ok (Ctl.rt (β := β) (γ := γ) a))).symm
theorem s_retN : Ss X Γ ρ [.Return none pos] (.ok (.rt ())) ρn ρg (rtD X.K Unit) := pss_one (PS.imp ps_retN fun D σ H ⟨g, q⟩ => q .non H g.fin .non)
/-! #### if -/
theorem s_ifS {A Bm : S → Res (Ctl β γ R)} {mS : S → Res (Bool × S)} (s0 : S) (hc : B X Γ ρS c mS) (ha : ∀ s, Ss X Γ (ρS s) pa (A s) ρn ρg rt) (hb : ∀ s, Ss X Γ (ρS s) pb (Bm s) ρn ρg rt) :
    S1 X Γ (ρS s0) (.If c pa pb pos) (mS s0 >>= fun r => if r.1 = true then A r.2 else Bm r.2) ρn ρg rt :=
  PS.imp (ps_if hc (PSs.ex ha) (PSs.ex hb)) fun D σ H q => tT_of (k := fun b s => if b = true then A s else Bm s) q fun a s H' g l q => by
    cases a with
    | true => exact iteT ⟨s, g, q⟩
    | false => exact iteF ⟨s, g, q⟩
theorem s_if {A Bm : Res (Ctl β γ R)} {m : Res Bool} (hc : B X Γ (fun _ : Unit => ρ) c (slift m)) (ha : Ss X Γ ρ pa A ρn ρg rt) (hb : Ss X Γ ρ pb Bm ρn ρg rt) :
    S1 X Γ ρ (.If c pa pb pos) (m >>= fun t => if t = true then A else Bm) ρn ρg rt := by
  have := s_ifS (pos := pos) (A := fun _ => A) (Bm := fun _ => Bm) () hc (fun _ => ha) (fun _ => hb)
  exact this.congr (lift_bind (k := fun t => if t = true then A else Bm)).symm
/-- a branch that ends the block, then the rest -/
theorem s_ifES {A : S → Res (Ctl Empty γ R)} {k : S → Res (Ctl β γ R)} {mS : S → Res (Bool × S)} (s0 : S) (hc : B X Γ ρS c mS) (ha : ∀ s, Ss X Γ (ρS s) pa (A s) (fun b => nomatch b) ρg rt) (hb : ∀ s, Ss X Γ (ρS s) rest (k s) ρn ρg rt) :
    Ss X Γ (ρS s0) (.If c pa [] pos :: rest) (mS s0 >>= fun r => if r.1 = true then exitC (A r.2) else k r.2) ρn ρg rt :=
  PSs.imp (pss_cons (ps_if hc (PSs.ex ha) pss_nil) (PSs.ex hb)) fun D σ H q => by
    unfold tSeq tIfS
    refine tT_of (k := fun b s => if b = true then exitC (A s) else k s) q fun a s H' g l q => ?_
    cases a with
    | true =>
      refine iteT ⟨s, g, ?_⟩
      have q : wpR (exitC (A s)) (Post X.K Γ ρn ρg rt D H') (ErrS X.K Γ H') := q
      unfold exitC at q
      rw [wpR_bind] at q
      refine wpR_mono q (fun c q => ?_) fun _ _ z => z
      cases c with
      | nx b => exact nomatch b
      | rt r => exact q
      | bk b => exact q
      | ct b => exact q
    | false => exact iteF ⟨s, g, q⟩
theorem s_ifE {A : Res (Ctl Empty γ R)} {k : Res (Ctl β γ R)} {m : Res Bool} (hc : B X Γ (fun _ : Unit => ρ) c (slift m)) (ha : Ss X Γ ρ pa A (fun b => nomatch b) ρg rt) (hb : Ss X Γ ρ rest k ρn ρg rt) :
    Ss X Γ ρ (.If c pa [] pos :: rest) (m >>= fun t => if t = true then exitC A else k) ρn ρg rt := by
  have := s_ifES (pos := pos) (A := fun _ => A) (k := fun _ => k) () hc (fun _ => ha) (fun _ => hb)
  exact this.congr (lift_bind (k := fun t => if t = true then exitC A else k)).symm
/-! #### for, while -/
theorem s_forS [Enc α] {ρo : δ → List Slot} {ρl : γ → List Slot} {ρb : γ → α → List Slot} {vs : List Nat} {bodyM : α → γ → Res (Ctl γ γ R)} {mS : S → Res (List α × S)} (s0 : S) (g0 : S → γ) (hp : PassesOwn (model X.prog X.w) X.A X.env X.xe) (hc : X.calm = true)
    (hi : EI X Γ ρS tg iter mS) (hw : ∀ s, Wk (ρS s) (ρl (g0 s))) (hg : ∀ g, G X Γ vs (ρl g) tg (ρb g)) (hb : ∀ x g, Ss X Γ (ρb g x) body (bodyM x g) ρl ρl rt)
    (hs : ∀ x, foldedSetIterable iter X.env x = pure x := by intro _; rfl) : S1 X Γ (ρS s0) (.For tg iter body [] pos) (mS s0 >>= fun r => forR bodyM r.1 (g0 r.2)) ρl ρo rt := by
  have hg' : PG X tg (fun v σ H Q => ∃ g, tG X.K Γ vs (ρl g) (ρb g) v σ H Q) := ⟨fun pins s2 σ H v u Q I r ⟨s, q⟩ => (hg s).pg.run pins s2 σ H v u Q I r q⟩
  refine PS.imp (ps_for hp hc hi hg' (PSs.ex fun x => PSs.ex (hb x)) hs) fun D σ H hq => ?_
  obtain ⟨⟨f0, g⟩, q⟩ := hq
  rw [wpR_bind] at q
  refine ⟨s0, f0, g, wpR_mono q (fun r q H1 f1 g1 l1 J hJ => ?_) fun _ _ z => z.w σ⟩
  obtain ⟨xs, s1⟩ := r
  have q : wpR (forR bodyM xs (g0 s1)) (Post X.K Γ ρl ρo rt D H) (ErrS X.K Γ H) := q
  refine ⟨fun i m σ' H' => m = xs.length - i ∧ i ≤ xs.length ∧ ∃ g, Good X.K Γ.ps Γ.H0 (ρl g) σ' H' ∧ Le H1 H' ∧ wpR (forR (δ := δ) bodyM (xs.drop i) g) (Post X.K Γ ρl ρo rt D H') (ErrS X.K Γ H'), ⟨xs.length, by simp, Nat.zero_le _, g0 s1, Good.weak (hw s1) ⟨f1, g1⟩, Le.refl _, ?_⟩, ?_⟩
  · rw [List.drop_zero]
    exact wpR_mono q (fun c q => q.le l1.le) fun _ _ z => z.le l1.le
  · rintro i m σ2 H2 ⟨rfl, hle, g2, G2, L2', q2⟩
    by_cases hlt : i < xs.length
    · refine .inr ⟨hJ.go i H2 L2' hlt, fun σ' H' => i + 1 ≤ xs.length ∧ ∃ g, Good X.K Γ.ps Γ.H0 (ρl g) σ' H' ∧ Le H1 H' ∧ wpR (forR (δ := δ) bodyM (xs.drop (i + 1)) g) (Post X.K Γ ρl ρo rt D H') (ErrS X.K Γ H'), fun σ' H' ⟨h1, h2⟩ => ⟨xs.length - (i + 1), by omega, rfl, h1, h2⟩, fun v H3 hy => ?_⟩
      obtain ⟨sm, rx⟩ := hJ.yld i H2 v H3 xs[i] L2' (List.getElem?_eq_getElem hlt) hy
      obtain ⟨f2, G2⟩ := G2
      rw [drop_get hlt] at q2
      unfold forR at q2
      rw [wpR_bind] at q2
      refine ⟨g2, xs[i], f2, G2.same' sm, rx, fun σ4 f4 o4 u4 g4 => ⟨xs[i], g2, ⟨f4, g4⟩, wpR_mono q2 (fun c q2 => ?_) fun _ _ z => z.le (Le.of_same sm)⟩⟩
      have L3 : Le H2 H3 := Le.of_same sm
      cases c with
      | nx g' => exact fun σ' H' G' L' => ⟨hlt, g', G', L2'.trans (L3.trans L'), wpR_mono q2 (fun c q => q.le (L3.trans L')) fun _ _ z => z.le (L3.trans L')⟩
      | ct g' => exact fun σ' H' G' L' => ⟨hlt, g', G', L2'.trans (L3.trans L'), wpR_mono q2 (fun c q => q.le (L3.trans L')) fun _ _ z => z.le (L3.trans L')⟩
      | bk g' => exact fun σ' H' G' L' => q2 σ' H' G' (L3.trans L')
      | rt r => exact q2
    · have e : i = xs.length := by omega
      subst e
      refine .inl ⟨hJ.stop _ _ L2' (Nat.le_refl _), ?_⟩
      rw [List.drop_length] at q2
      exact q2 σ2 H2 G2 (Le.refl _)
theorem s_for [Enc α] {ρo : δ → List Slot} {ρl : γ → List Slot} {ρb : γ → α → List Slot} {vs : List Nat} {bodyM : α → γ → Res (Ctl γ γ R)} {m : Res (List α)} (g0 : γ) (hp : PassesOwn (model X.prog X.w) X.A X.env X.xe) (hc : X.calm = true)
    (hi : EI X Γ (fun _ : Unit => ρ) tg iter (slift m)) (hw : Wk ρ (ρl g0)) (hg : ∀ g, G X Γ vs (ρl g) tg (ρb g)) (hb : ∀ x g, Ss X Γ (ρb g x) body (bodyM x g) ρl ρl rt)
    (hs : ∀ x, foldedSetIterable iter X.env x = pure x := by intro _; rfl) : S1 X Γ ρ (.For tg iter body [] pos) (m >>= fun xs => forR bodyM xs g0) ρl ρo rt :=
  (s_forS (pos := pos) () (fun _ => g0) hp hc hi (fun _ => hw) hg hb hs).congr (lift_bind (k := fun xs => forR bodyM xs g0)).symm
theorem s_while {ρo : δ → List Slot} {ρl : γ → List Slot} {cond : γ → Res Bool} {bodyM : γ → Res (Ctl γ γ R)} (g0 : γ) (n : Nat) (hp : PassesOwn (model X.prog X.w) X.A X.env X.xe)
    (hw : Wk ρ (ρl g0)) (hc : B X Γ ρl c (fun g => cond g >>= fun b => .ok (b, g))) (hb : ∀ g, Ss X Γ (ρl g) body (bodyM g) ρl ρl rt) : S1 X Γ ρ (.While c body [] pos) (whileR cond bodyM n g0) ρl ρo rt := by
  refine PS.imp (ps_while hp hc (PSs.ex hb)) fun D σ H ⟨G0, q⟩ => ?_
  refine ⟨fun m σ' H' => ∃ g, Good X.K Γ.ps Γ.H0 (ρl g) σ' H' ∧ Le H H' ∧ wpR (whileR (δ := δ) cond bodyM m g) (Post X.K Γ ρl ρo rt D H') (ErrS X.K Γ H'), ⟨n, g0, G0.weak hw, Le.refl _, q⟩, ?_⟩
  rintro m σ1 H1 ⟨g, ⟨f1, G1⟩, L1, q1⟩
  cases m with
  | zero => exact q1.elim
  | succ m =>
    unfold whileR at q1
    rw [wpR_bind] at q1
    refine ⟨g, f1, G1, ?_⟩
    have q1' : wpR (cond g >>= fun b => Res.ok (b, g)) (fun r => wpR (if r.1 = true then bodyM g >>= fun c => match c with
      | .nx g' => whileR (δ := δ) cond bodyM m g'
      | .ct g' => whileR cond bodyM m g'
      | .bk g' => .ok (.nx g')
      | .rt r => .ok (.rt r)
    else .ok (.nx g)) (Post X.K Γ ρl ρo rt D H1) (ErrS X.K Γ H1) ∧ r.2 = g) (ErrS X.K Γ H1) := by
      rw [wpR_bind]
      exact wpR_mono q1 (fun b q => ⟨q, rfl⟩) fun _ _ z => z
    refine wpR_mono q1' (fun r q2 H2 f2 g2 l2 => ?_) fun _ _ z => (z.w σ1)
    obtain ⟨b, g'⟩ := r
    obtain ⟨q2, e⟩ := q2
    have e : g' = g := e
    subst e
    cases b with
    | true =>
      refine iteT ⟨fun σ' H' => ∃ g, Good X.K Γ.ps Γ.H0 (ρl g) σ' H' ∧ Le H H' ∧ wpR (whileR (δ := δ) cond bodyM m g) (Post X.K Γ ρl ρo rt D H') (ErrS X.K Γ H'), fun σ' H' h => ⟨m, Nat.lt_succ_self m, h⟩, g', ⟨f2, g2⟩, ?_⟩
      have q2 := iteTe q2
      rw [wpR_bind] at q2
      refine wpR_mono q2 (fun c q2 => ?_) fun _ _ z => z.le l2.le
      cases c with
      | nx g' => exact fun σ' H' G' L' => ⟨g', G', L1.trans (l2.le.trans L'), wpR_mono q2 (fun c q => q.le (l2.le.trans L')) fun _ _ z => z.le (l2.le.trans L')⟩
      | ct g' => exact fun σ' H' G' L' => ⟨g', G', L1.trans (l2.le.trans L'), wpR_mono q2 (fun c q => q.le (l2.le.trans L')) fun _ _ z => z.le (l2.le.trans L')⟩
      | bk g' => exact fun σ' H' G' L' => q2 σ' H' G' (l2.le.trans L')
      | rt r => exact q2
    | false => exact iteF (q2 σ1 H2 ⟨f2, g2⟩ l2.le)
end
end DL

set_option Elab.async false
set_option linter.all false
set_option maxRecDepth 100000
set_option maxHeartbeats 4000000
namespace DL
open PySem PySem.Spec PyProof.Rows L2 Enc

/-! ### a list of one's own, read and changed -/
/-- a slot with a list that may be changed -/
def IsL (s : Slot) (xs : List PyData) : Prop := s = .own (.lst xs) ∨ ∃ p, s = .io p (.lst xs)
def Slot.put : Slot → List PyData → Slot
  | .io p _, xs => .io p (.lst xs)
  | _, xs => .own (.lst xs)
section
variable {K : PySem.W.Frag} {ps : List Addr} {H0 H H' : Hp} {f : Nat → Foot} {ρ ρ' : List Slot} {σ σ' : L2.St}
theorem GoodF.ownL {i : Nat} {s : Slot} {xs : List PyData} (g : GoodF K ps H0 f ρ σ H) (h : ρ[i]? = some s) (hs : IsL s xs) :
    ∃ p vs, σ[i]? = some (some (.ref p)) ∧ f i = [p] ∧ H p = some (.lst vs) ∧ RpAll K H vs xs ∧ (p ∉ ps → H0 p = none) := by
  obtain ⟨v, e, q⟩ := g.slot i s h
  rcases hs with rfl | ⟨p', rfl⟩
  · obtain ⟨q1, x, rfl, p, vs, rfl, hf, hp, hr⟩ := q
    exact ⟨p, vs, e, hf, hp, hr, fun _ => (q1 p (by rw [hf]; exact List.mem_singleton.mpr rfl)).1⟩
  · obtain ⟨hf, hp, rfl, p, vs, e1, e2, hp2, hr⟩ := q
    cases e1
    exact ⟨p', vs, e, hf, hp2, hr, fun n => absurd hp n⟩
/-- its content is changed -/
theorem GoodF.putL {i : Nat} {s : Slot} {xs ys : List PyData} {p : Addr} {vs ws : List V} (g : GoodF K ps H0 f ρ σ H) (h : ρ[i]? = some s) (hs : IsL s xs) (hf : f i = [p]) (hp : H p = some (.lst vs)) (hw : RpAll K H ws ys) :
    GoodF K ps H0 f (ρ.set i (s.put ys)) σ (upd H p (.lst ws)) ∧ Stp f H f (upd H p (.lst ws)) := by
  have lu : Le H (upd H p (.lst ws)) := Le.upd hp notImm
  have hi : i < ρ.length := (List.getElem?_eq_some_iff.mp h).1
  obtain ⟨v, e, q⟩ := g.slot i s h
  have n0 : p ∈ ps ∨ H0 p = none := by
    rcases hs with rfl | ⟨p', rfl⟩
    · obtain ⟨q1, x, rfl, p, vs, rfl, hf', _⟩ := q
      exact .inr (q1 _ (by rw [hf]; exact List.mem_singleton.mpr rfl)).1
    · obtain ⟨hf', hp', _⟩ := q
      rw [hf] at hf'
      cases hf'
      exact .inl hp'
  have kp : ∀ j a, j ≠ i → a ∈ f j → upd H p (.lst ws) a = H a := fun j a hj ha => upd_ne fun z => hj (g.sep j i a ha (by rw [hf, z]; exact List.mem_singleton.mpr rfl))
  refine ⟨⟨by rw [List.length_set]; exact g.len, fun b o hb eb => ?_, fun a ha => ?_, fun j s' hj => ?_, fun j hj => ?_, g.sep⟩, lu, fun a o ea na => ?_, fun j a ha => .inl ⟨j, ha⟩⟩
  · rw [upd_ne (fun z => ?_)]
    · exact g.same b o hb eb
    · subst z
      rcases n0 with z | z
      · exact hb z
      · rw [z] at eb; cases eb
  · by_cases z : a = p
    · subst z; exact ⟨_, upd_same⟩
    · rw [upd_ne z]; exact g.io a ha
  · by_cases z : j = i
    · subst z
      rw [List.getElem?_set_self hi] at hj
      cases hj
      refine ⟨v, e, ?_⟩
      rcases hs with rfl | ⟨p', rfl⟩
      · obtain ⟨q1, x, rfl, p2, vs2, rfl, hf', _, _⟩ := q
        rw [hf] at hf'
        cases hf'
        exact ⟨q1, _, rfl, p, ws, rfl, hf, upd_same, hw.mono lu⟩
      · obtain ⟨hf', hp', rfl, p2, vs2, e1, _, _, _⟩ := q
        rw [hf] at hf'
        cases hf'
        exact ⟨hf, hp', rfl, p, ws, rfl, hf, upd_same, hw.mono lu⟩
    · rw [List.getElem?_set_ne (Ne.symm z)] at hj
      obtain ⟨v', e', q'⟩ := g.slot j s' hj
      exact ⟨v', e', q'.keep lu fun a ha => kp j a z ha⟩
  · have z : j ≠ i := fun z => by subst z; rw [List.getElem?_set_self hi] at hj; cases hj
    rw [List.getElem?_set_ne (Ne.symm z)] at hj
    exact g.out j hj
  · rw [upd_ne (fun z => na i (by rw [hf, z]; exact List.mem_singleton.mpr rfl))]
    exact ea
end
/-- a place of the state: a list that may be changed -/
structure Lens {S α : Type} [Enc α] (ρ : S → List Slot) (i : Nat) (get : S → List α) (put : S → List α → S) : Prop where
  ok : ∀ s, ∃ sl, (ρ s)[i]? = some sl ∧ IsL sl ((get s).map enc) ∧ ∀ l, ρ (put s l) = (ρ s).set i (sl.put (l.map enc))
/-- a place that only is read -/
structure View {S α : Type} [Enc α] (ρ : S → List Slot) (i : Nat) (get : S → List α) : Prop where
  ok : ∀ s, ∃ sl, (ρ s)[i]? = some sl ∧ IsL sl ((get s).map enc)
theorem Lens.view {S α : Type} [Enc α] {ρ : S → List Slot} {i : Nat} {get : S → List α} {put : S → List α → S} (l : Lens ρ i get put) : View ρ i get := ⟨fun s => by
  obtain ⟨sl, a, b, _⟩ := l.ok s
  exact ⟨sl, a, b⟩⟩
theorem view_own {S α : Type} [Enc α] {ρ : S → List Slot} {i : Nat} {get : S → List α} (h : ∀ s, (ρ s)[i]? = some (.own (.lst ((get s).map enc))) := by intro _; rfl) : View ρ i get := ⟨fun s => ⟨_, h s, .inl rfl⟩⟩
theorem lens_own {S α : Type} [Enc α] {ρ : S → List Slot} {i : Nat} {get : S → List α} {put : S → List α → S} (h : ∀ s, (ρ s)[i]? = some (.own (.lst ((get s).map enc))) := by intro _; rfl) (hp : ∀ s l, ρ (put s l) = (ρ s).set i (.own (.lst (l.map enc))) := by intro _ _; rfl) : Lens ρ i get put := ⟨fun s => ⟨_, h s, .inl rfl, hp s⟩⟩
def appO {α : Type} (xs : List α) (a : α) : Option (List α) := chk (xs.length < 16777216) (xs ++ [a])
def extO {α : Type} (xs ys : List α) : Option (List α) := chk (xs.length + ys.length ≤ 16777216) (xs ++ ys)
def insO {α : Type} (xs : List α) (i : Int) (a : α) : Option (List α) := chk (xs.length < 16777216 ∧ 0 ≤ i ∧ i < 2 ^ 63) (xs.take i.toNat ++ [a] ++ xs.drop i.toNat)
def setO {α : Type} (xs : List α) (i : Int) (a : α) : Option (List α) := (ixN xs.length i).map fun j => xs.set j a
def popO {α : Type} (xs : List α) : Option (α × List α) := xs.getLast?.map fun a => (a, xs.dropLast)
def popAtO {α : Type} (xs : List α) (i : Int) : Option (α × List α) := if -(2 ^ 62) ≤ i ∧ i < 2 ^ 62 then (ixN xs.length i).bind fun j => xs[j]?.map fun a => (a, xs.eraseIdx j) else none
section
variable {X : Cx} {Γ : Cn} {S α β γ δ R : Type} {ρ : List Slot} {ρS : S → List Slot} {st : Stmt} {rest body pa pb : List Stmt} {ρn : β → List Slot} {ρg : γ → List Slot} {rt : R → V → Hp → Prop} {e e1 e2 tg iter c o : Expr} {pos cpos apos p : Pos} {x : Str}
/-- the variable, as the value of a method call or of an index -/
theorem pv {i : Nat} (hi : X.N[i]? = some x := by rfl) (hv : Vis X.env.scope x := by first | exact Or.inl rfl | exact Or.inr (Or.inl rfl) | exact Or.inr (Or.inr rfl)) (hd : (x == ("__debug__" : Str)) = false := by decide) (hcd : (x == ("__classdict__" : Str)) = false := by decide) : PE X (.Name x pos) (tVar i) := pe_var hi hv hd hcd
abbrev VarAt (X : Cx) (i : Nat) (o : Expr) : Prop := PE X o (tVar i)
/-- xs[e] -/
theorem e_ixO [Enc α] {i : Nat} {get : S → List α} {m : S → Res (Int × S)} (ho : VarAt X i o) (w : View ρS i get) (he : E X Γ ρS e m) (hs : PlainIx e := by intro _ _; rfl) : E X Γ ρS (.Subscript o e pos) (sbind m fun j s => ofOpt (atI (get s) j) >>= fun a => .ok (a, s)) :=
  PE.imp (pe_ix ix_list ho he hs) fun σ H Q ⟨s, f0, g, q⟩ => by
    obtain ⟨sl, h1, h2⟩ := w.ok s
    obtain ⟨p, vs, e1, hf, hp, hr, _⟩ := g.ownL h1 h2
    refine ⟨_, e1, s, f0, g, q.chain.mono fun f H1 r g1 l1 q v rx => ?_⟩
    obtain ⟨sl', h1', h2'⟩ := w.ok r.2
    obtain ⟨p', vs', e1', hf', hp', hr', _⟩ := g1.ownL h1' h2'
    rw [e1] at e1'
    cases e1'
    obtain ⟨a, ea, q⟩ := run_opt (o := atI (get r.2) r.1) (s := r.2) q
    have hj := Rp.int_inv rx
    obtain ⟨j, es, ej, hl, _, _⟩ := atI_get ea
    obtain ⟨y, ey, ry⟩ := RpAll.getE hr' ej
    have ea' : atI vs' r.1 = some y := by
      unfold atI at ea ⊢
      rw [RpAll.lenE hr']
      obtain ⟨k, hk, hk2⟩ := Option.bind_eq_some_iff.mp ea
      rw [hk]
      obtain ⟨z, ez, rz⟩ := RpAll.getE hr' hk2
      show vs'[k]? = some y
      rw [ez]
      have : k = j := by
        have := ixN_seq hk
        rw [this.1] at es
        exact Option.some.inj es
      subst this
      rw [ez] at ey
      exact ey
    exact ⟨p, vs', r.1, y, rfl, hj, SqL.of hp', ea', RunF.same q g1 (Same.refl _) _ ry⟩
theorem e_lenO [Enc α] {i : Nat} {get : S → List α} (ho : VarAt X i o) (w : View ρS i get) (hm : X.mg "len" = none) (hg : Gl X "len" := by rfl) (he : starEach [o] X.env = (false, eval o X.env) :: starEach [] X.env := by rfl) (hpl : (backTo pos (starEach [] X.env)).any (·.1) = false := by rfl) :
    E X Γ ρS (.Call (.Name "len" p) [o] [] pos) (fun s => .ok (((get s).length : Int), s)) :=
  PE.imp (pe_callB call_len_seq hg hm PySem.boot_len (pa_cons ho pa_nil he) (by decide) (by decide) he hpl) fun σ H Q ⟨s, f0, g, q⟩ => by
    obtain ⟨sl, h1, h2⟩ := w.ok s
    obtain ⟨p, vs, e1, hf, hp, hr, _⟩ := g.ownL h1 h2
    refine ⟨_, e1, p, vs, rfl, .inl (SqL.of hp), ?_⟩
    rw [RpAll.lenE hr]
    exact RunF.same q g (Same.refl _) _ (.int _)
/-- if xs: -/
theorem b_listO [Enc α] {i : Nat} {get : S → List α} (ho : VarAt X i o) (w : View ρS i get) (he : ∀ whole, isTrue o X.env whole = (do let v ← whole; standAt o.pos; holding [v] (truthy v)) := by intro _; rfl) : B X Γ ρS o (fun s => .ok (!(get s).isEmpty, s)) :=
  PT.imp (pt_truth ho he) fun σ H Q ⟨s, f0, g, q⟩ => by
    obtain ⟨sl, h1, h2⟩ := w.ok s
    obtain ⟨p, vs, e1, hf, hp, hr, _⟩ := g.ownL h1 h2
    refine ⟨_, e1, !(get s).isEmpty, .inl ⟨vs, SqL.of hp, ?_⟩, RunF.same q g (Same.refl _)⟩
    have := RpAll.lenE hr
    cases vs <;> cases hl : get s <;> simp_all
/-! #### statements -/
/-- xs.append(e) -/
theorem s_appendS [Enc α] {i : Nat} {sl : S → Slot} {get : S → List α} {mS : S → Res (α × S)} {k : List α → S → Res (Ctl β γ R)} (s0 : S) (ho : VarAt X i o) (h1 : ∀ s, (ρS s)[i]? = some (sl s)) (h2 : ∀ s, IsL (sl s) ((get s).map enc)) (he : E X Γ ρS e mS)
    (hk : ∀ l s, Ss X Γ ((ρS s).set i ((sl s).put (l.map enc))) rest (k l s) ρn ρg rt)
    (hb : attributeBase o "append" X.env (eval o X.env) = eval o X.env := by rfl)
    (hfew : ((backTo cpos (starEach [e] X.env)).all (fun x => !x.1) && (backToKw cpos (keywordEach [] X.env)).all (fun x => x.1.isSome) && decide ([e].length + ([] : List Keyword).length + (if ([] : List Keyword).isEmpty then 0 else 1) < 30)) = true := by rfl)
    (hline : (apos.endLine == cpos.line) = true := by rfl) (hs : starEach [e] X.env = (false, eval e X.env) :: starEach [] X.env := by rfl) (hplain : (backTo cpos (starEach [] X.env)).any (·.1) = false := by rfl) (hsw : swapsWith (.Call (.Attribute o "append" apos) [e] [] cpos) none pos.line X.env = pure false := by rfl) :
    Ss X Γ (ρS s0) (.Expr (.Call (.Attribute o "append" apos) [e] [] cpos) pos :: rest) (mS s0 >>= fun r => ofOpt (appO (get r.2) r.1) >>= fun l => k l r.2) ρn ρg rt :=
  PSs.imp (pss_cons (ps_expr (pe_bm PySem.F.plainAttrs_list PySem.F.slot_list_append PySem.F.type_list_append mt_append ho (pa_cons he pa_nil hs) hb hfew hline hs hplain) hsw) (PSs.ex fun l => PSs.ex (hk l))) fun D σ H q => by
    obtain ⟨⟨f0, g⟩, q⟩ := q
    obtain ⟨p, vs, e1, hf, hp, hr, _⟩ := g.ownL (h1 s0) (h2 s0)
    rw [wpR_bind] at q
    refine ⟨_, e1, .inl ⟨rfl, _, SqL.of hp⟩, s0, f0, g, wpR_mono q (fun r q H1 f1 g1 l1 v rx => ?_) fun _ _ z => z.w σ⟩
    obtain ⟨p', vs', e1', hf', hp', hr', _⟩ := g1.ownL (h1 r.2) (h2 r.2)
    rw [e1] at e1'
    cases e1'
    rw [wpR_bind] at q
    obtain ⟨l, el, q⟩ := wpR_ofOpt q
    obtain ⟨hz, rfl⟩ := chk_some el
    obtain ⟨g2, l2⟩ := g1.putL (ys := (get r.2 ++ [r.1]).map enc) (ws := vs' ++ [v]) (h1 r.2) (h2 r.2) hf' hp' (by rw [List.map_append]; exact hr'.append (.cons rx .nil))
    exact ⟨p, vs', v, rfl, rfl, hp', by rw [RpAll.lenE hr', sizeLine_eq]; exact hz, _, r.2, ⟨f1, g2⟩, wpR_mono q (fun c q => q.le (l1.le.trans l2.le)) fun _ _ z => z.le (l1.le.trans l2.le)⟩
theorem s_append [Enc α] {i : Nat} {xs : List α} {m : Res α} {k : List α → Res (Ctl β γ R)} (ho : VarAt X i o) (he : Em X Γ (fun _ : Unit => ρ) e m) (hk : ∀ l, Ss X Γ (ρ.set i (.own (.lst (l.map enc)))) rest (k l) ρn ρg rt) (h1 : ρ[i]? = some (.own (.lst (xs.map enc))) := by rfl)
    (hb : attributeBase o "append" X.env (eval o X.env) = eval o X.env := by rfl)
    (hfew : ((backTo cpos (starEach [e] X.env)).all (fun x => !x.1) && (backToKw cpos (keywordEach [] X.env)).all (fun x => x.1.isSome) && decide ([e].length + ([] : List Keyword).length + (if ([] : List Keyword).isEmpty then 0 else 1) < 30)) = true := by rfl)
    (hline : (apos.endLine == cpos.line) = true := by rfl) (hs : starEach [e] X.env = (false, eval e X.env) :: starEach [] X.env := by rfl) (hplain : (backTo cpos (starEach [] X.env)).any (·.1) = false := by rfl) (hsw : swapsWith (.Call (.Attribute o "append" apos) [e] [] cpos) none pos.line X.env = pure false := by rfl) :
    Ss X Γ ρ (.Expr (.Call (.Attribute o "append" apos) [e] [] cpos) pos :: rest) (m >>= fun a => ofOpt (appO xs a) >>= k) ρn ρg rt :=
  (s_appendS (sl := fun _ => .own (.lst (xs.map enc))) (get := fun _ => xs) () ho (fun _ => h1) (fun _ => .inl rfl) he (fun l _ => hk l) hb hfew hline hs hplain hsw).congr (lift_bind (k := fun a => ofOpt (appO xs a) >>= k)).symm
/-- xs.extend(e) -/
def rExtendZ : V → List V → Hp → VK → Prop := fun x vs H Q => ∃ l b xs zs, x = .ref l ∧ vs = [.ref b] ∧ H l = some (.lst xs) ∧ FzL H b zs ∧ xs.length + zs.length ≤ sizeLine ∧ Q .non (upd H l (.lst (xs ++ zs)))
theorem mt_extendZ : MtM X "list.extend" rExtendZ := by
  intro pins s σ H x vs v us Q I rx rv h
  obtain ⟨l, b, xs, zs, rfl, rfl, hH, hB, hz, q⟩ := h
  cases rx
  obtain ⟨u, rfl, ru⟩ := rv.one
  cases ru
  obtain ⟨z, its, n, r, hl, e⟩ := I.lstM hH
  obtain ⟨z2, its2, n2, r2, hl2, e2⟩ := Inv.fzM I hB
  have hsz : its.toArray.size + its2.toArray.size ≤ sizeLine := by rw [List.size_toArray, List.size_toArray]; omega
  have hlong : ¬ (!its.toArray.isEmpty && Builtin.List.listTooLong (its.toArray.size + its2.toArray.size)) = true := by
    rw [notLongL hsz, Bool.and_false]
    exact Bool.false_ne_true
  refine call_meets F.slot_list_extend ⟨_, e, rfl⟩ F.entry_list_extend (F.args_list_extend_2 _ _)
    (AutoSeq1.list_extend_list_list_0 l its.toArray n b its2.toArray n2 hlong (by rw [List.size_toArray]; omega) (by omega)) ⟨e, e2, ?_⟩
  refine ⟨.non, _, I.lset (its' := its ++ its2) hH e (by simp) (r.append r2) ?_, rfl, q⟩
  rw [List.length_append]
  omega
theorem s_extendS [Enc α] {i : Nat} {sl : S → Slot} {get : S → List α} {mS : S → Res (List α × S)} {k : List α → S → Res (Ctl β γ R)} (s0 : S) (ho : VarAt X i o) (h1 : ∀ s, (ρS s)[i]? = some (sl s)) (h2 : ∀ s, IsL (sl s) ((get s).map enc)) (he : E X Γ ρS e mS)
    (hk : ∀ l s, Ss X Γ ((ρS s).set i ((sl s).put (l.map enc))) rest (k l s) ρn ρg rt)
    (hb : attributeBase o "extend" X.env (eval o X.env) = eval o X.env := by rfl)
    (hfew : ((backTo cpos (starEach [e] X.env)).all (fun x => !x.1) && (backToKw cpos (keywordEach [] X.env)).all (fun x => x.1.isSome) && decide ([e].length + ([] : List Keyword).length + (if ([] : List Keyword).isEmpty then 0 else 1) < 30)) = true := by rfl)
    (hline : (apos.endLine == cpos.line) = true := by rfl) (hs : starEach [e] X.env = (false, eval e X.env) :: starEach [] X.env := by rfl) (hplain : (backTo cpos (starEach [] X.env)).any (·.1) = false := by rfl) (hsw : swapsWith (.Call (.Attribute o "extend" apos) [e] [] cpos) none pos.line X.env = pure false := by rfl) :
    Ss X Γ (ρS s0) (.Expr (.Call (.Attribute o "extend" apos) [e] [] cpos) pos :: rest) (mS s0 >>= fun r => ofOpt (extO (get r.2) r.1) >>= fun l => k l r.2) ρn ρg rt :=
  PSs.imp (pss_cons (ps_expr (pe_bm PySem.F.plainAttrs_list PySem.F.slot_list_extend PySem.F.type_list_extend mt_extendZ ho (pa_cons he pa_nil hs) hb hfew hline hs hplain) hsw) (PSs.ex fun l => PSs.ex (hk l))) fun D σ H q => by
    obtain ⟨⟨f0, g⟩, q⟩ := q
    obtain ⟨p, vs, e1, hf, hp, hr, _⟩ := g.ownL (h1 s0) (h2 s0)
    rw [wpR_bind] at q
    refine ⟨_, e1, .inl ⟨rfl, _, SqL.of hp⟩, s0, f0, g, wpR_mono q (fun r q H1 f1 g1 l1 v rx => ?_) fun _ _ z => z.w σ⟩
    obtain ⟨p', vs', e1', hf', hp', hr', _⟩ := g1.ownL (h1 r.2) (h2 r.2)
    rw [e1] at e1'
    cases e1'
    rw [wpR_bind] at q
    obtain ⟨l, el, q⟩ := wpR_ofOpt q
    obtain ⟨hz, rfl⟩ := chk_some el
    obtain ⟨b, ws, rfl, hb, hw, _⟩ := rx.lst_inv
    obtain ⟨g2, l2⟩ := g1.putL (ys := (get r.2 ++ r.1).map enc) (ws := vs' ++ ws) (h1 r.2) (h2 r.2) hf' hp' (by rw [List.map_append]; exact hr'.append hw)
    exact ⟨p, b, vs', ws, rfl, rfl, hp', hb, by rw [RpAll.lenE hr', RpAll.lenE hw, sizeLine_eq]; exact hz, _, r.2, ⟨f1, g2⟩, wpR_mono q (fun c q => q.le (l1.le.trans l2.le)) fun _ _ z => z.le (l1.le.trans l2.le)⟩
theorem s_extend [Enc α] {i : Nat} {xs : List α} {m : Res (List α)} {k : List α → Res (Ctl β γ R)} (ho : VarAt X i o) (he : Em X Γ (fun _ : Unit => ρ) e m) (hk : ∀ l, Ss X Γ (ρ.set i (.own (.lst (l.map enc)))) rest (k l) ρn ρg rt) (h1 : ρ[i]? = some (.own (.lst (xs.map enc))) := by rfl)
    (hb : attributeBase o "extend" X.env (eval o X.env) = eval o X.env := by rfl)
    (hfew : ((backTo cpos (starEach [e] X.env)).all (fun x => !x.1) && (backToKw cpos (keywordEach [] X.env)).all (fun x => x.1.isSome) && decide ([e].length + ([] : List Keyword).length + (if ([] : List Keyword).isEmpty then 0 else 1) < 30)) = true := by rfl)
    (hline : (apos.endLine == cpos.line) = true := by rfl) (hs : starEach [e] X.env = (false, eval e X.env) :: starEach [] X.env := by rfl) (hplain : (backTo cpos (starEach [] X.env)).any (·.1) = false := by rfl) (hsw : swapsWith (.Call (.Attribute o "extend" apos) [e] [] cpos) none pos.line X.env = pure false := by rfl) :
    Ss X Γ ρ (.Expr (.Call (.Attribute o "extend" apos) [e] [] cpos) pos :: rest) (m >>= fun a => ofOpt (extO xs a) >>= k) ρn ρg rt :=
  (s_extendS (sl := fun _ => .own (.lst (xs.map enc))) (get := fun _ => xs) () ho (fun _ => h1) (fun _ => .inl rfl) he (fun l _ => hk l) hb hfew hline hs hplain hsw).congr (lift_bind (k := fun a => ofOpt (extO xs a) >>= k)).symm
/-- xs.insert(i, e) -/
theorem s_insert [Enc α] {i : Nat} {xs : List α} {m : Res (Int × α)} {k : List α → Res (Ctl β γ R)} {es : List Expr} (ho : VarAt X i o) (he : EA X Γ (fun _ : Unit => ρ) (e :: es) (slift m) enc2) (hk : ∀ l, Ss X Γ (ρ.set i (.own (.lst (l.map enc)))) rest (k l) ρn ρg rt) (h1 : ρ[i]? = some (.own (.lst (xs.map enc))) := by rfl)
    (hb : attributeBase o "insert" X.env (eval o X.env) = eval o X.env := by rfl)
    (hfew : ((backTo cpos (starEach (e :: es) X.env)).all (fun x => !x.1) && (backToKw cpos (keywordEach [] X.env)).all (fun x => x.1.isSome) && decide ((e :: es).length + ([] : List Keyword).length + (if ([] : List Keyword).isEmpty then 0 else 1) < 30)) = true := by rfl)
    (hline : (apos.endLine == cpos.line) = true := by rfl) (hs : starEach (e :: es) X.env = (false, eval e X.env) :: starEach es X.env := by rfl) (hplain : (backTo cpos (starEach es X.env)).any (·.1) = false := by rfl) (hsw : swapsWith (.Call (.Attribute o "insert" apos) (e :: es) [] cpos) none pos.line X.env = pure false := by rfl) :
    Ss X Γ ρ (.Expr (.Call (.Attribute o "insert" apos) (e :: es) [] cpos) pos :: rest) (m >>= fun r => ofOpt (insO xs r.1 r.2) >>= k) ρn ρg rt :=
  PSs.imp (pss_cons (ps_expr (pe_bm PySem.F.plainAttrs_list PySem.F.slot_list_insert PySem.F.type_list_insert mt_insert ho he hb hfew hline hs hplain) hsw) (PSs.ex hk)) fun D σ H q => by
    obtain ⟨⟨f0, g⟩, q⟩ := q
    have h2 : IsL (.own (.lst (xs.map enc))) (xs.map enc) := .inl rfl
    obtain ⟨p, vs, e1, hf, hp, hr, _⟩ := g.ownL h1 h2
    rw [← lift_bind, wpR_bind] at q
    refine ⟨_, e1, .inl ⟨rfl, _, SqL.of hp⟩, (), f0, g, wpR_mono q (fun r q H1 f1 g1 l1 v rx => ?_) fun _ _ z => z.w σ⟩
    obtain ⟨p', vs', e1', hf', hp', hr', _⟩ := g1.ownL h1 h2
    rw [e1] at e1'
    cases e1'
    rw [wpR_bind] at q
    obtain ⟨l, el, q⟩ := wpR_ofOpt q
    obtain ⟨⟨hz, h3, h4⟩, rfl⟩ := chk_some el
    obtain ⟨w1, w2, rfl, r1, r2⟩ := rx.two
    have hi := Rp.int_inv r1
    obtain ⟨g2, l2⟩ := g1.putL (ys := (xs.take r.1.1.toNat ++ [r.1.2] ++ xs.drop r.1.1.toNat).map enc) (ws := vs'.take r.1.1.toNat ++ [w2] ++ vs'.drop r.1.1.toNat) h1 h2 hf' hp' (by
      rw [List.map_append, List.map_append, List.map_take, List.map_drop]; exact ((hr'.take _).append (.cons r2 .nil)).append (hr'.drop _))
    exact ⟨p, vs', r.1.1, w2, rfl, by rw [hi], hp', by rw [RpAll.lenE hr', sizeLine_eq]; exact hz, h3, h4, _, ⟨f1, g2⟩, wpR_mono q (fun c q => q.le (l1.le.trans l2.le)) fun _ _ z => z.le (l1.le.trans l2.le)⟩
/-- xs[i] = e -/
theorem s_setItemG [Enc α] {i : Nat} {sl : Slot} {xs : List α} {m : Res α} {mi : Res Int} {k : List α → Res (Ctl β γ R)} {ie : Expr} (ho : VarAt X i o) (he : Em X Γ (fun _ : Unit => ρ) e m) (hi : Em X Γ (fun _ : Unit => ρ) ie mi) (h1 : ρ[i]? = some sl) (h2 : IsL sl (xs.map enc)) (hk : ∀ l : List α, Ss X Γ (ρ.set i (sl.put (l.map enc))) rest (k l) ρn ρg rt)
    (ha : ∀ v, assign (.Subscript o ie p) X.env v = (do
      let ov ← holding [v] (eval o X.env)
      let iv ← holding [v, ov] (eval ie X.env)
      standAt p
      holding [v, ov, iv] (setItem ov iv v)
      release [v, ov, iv] []) := by intro _; rfl)
    (hs : swapsWithSole [.Subscript o ie p] e pos.line X.env = pure false := by rfl) (hw : swappedStores [.Subscript o ie p] e X.env = pure none := by rfl) (h3 : (assignEach [.Subscript o ie p] X.env).map (·.2) = [assign (.Subscript o ie p) X.env] := by rfl) :
    Ss X Γ ρ (.Assign [.Subscript o ie p] e pos :: rest) (m >>= fun a => mi >>= fun j => ofOpt (setO xs j a) >>= k) ρn ρg rt :=
  PSs.imp (pss_cons (ps_asg he (pg_sub ho hi set_list ha) hs hw h3) (PSs.ex hk)) fun D σ H q => by
    obtain ⟨⟨f0, g⟩, q⟩ := q
    rw [← lift_bind, wpR_bind] at q
    refine ⟨(), f0, g, wpR_mono q (fun r q H1 f1 g1 l1 v rx => ?_) fun _ _ z => z.w σ⟩
    obtain ⟨p, vs, e1, hf, hp, hr, _⟩ := g1.ownL h1 h2
    rw [← lift_bind, wpR_bind] at q
    refine ⟨_, e1, (), f1, g1, wpR_mono q (fun r' q H2 f2 g2 l2 v' rx' => ?_) fun _ _ z => ((z.le l1.le).w σ)⟩
    obtain ⟨p', vs', e1', hf', hp', hr', _⟩ := g2.ownL h1 h2
    rw [e1] at e1'
    cases e1'
    rw [wpR_bind] at q
    obtain ⟨l, el, q⟩ := wpR_ofOpt q
    obtain ⟨j, ej, rfl⟩ := Option.map_eq_some_iff.mp el
    have hj := Rp.int_inv rx'
    obtain ⟨g3, l3⟩ := g2.putL (ys := (xs.set j r.1).map enc) (ws := vs'.set j v) h1 h2 hf' hp' (by rw [List.map_set]; exact RpAll.set j (rx.mono l2.le) hr')
    exact ⟨p, vs', r'.1, j, rfl, hj, hp', by rw [RpAll.lenE hr']; exact ej, _, ⟨f2, g3⟩, wpR_mono q (fun c q => q.le ((l1.le.trans l2.le).trans l3.le)) fun _ _ z => z.le ((l1.le.trans l2.le).trans l3.le)⟩
theorem s_setItem [Enc α] {i : Nat} {xs : List α} {m : Res α} {mi : Res Int} {k : List α → Res (Ctl β γ R)} {ie : Expr} (ho : VarAt X i o) (he : Em X Γ (fun _ : Unit => ρ) e m) (hi : Em X Γ (fun _ : Unit => ρ) ie mi) (hk : ∀ l : List α, Ss X Γ (ρ.set i (.own (.lst (l.map enc)))) rest (k l) ρn ρg rt) (h1 : ρ[i]? = some (.own (.lst (xs.map enc))) := by rfl)
    (ha : ∀ v, assign (.Subscript o ie p) X.env v = (do
      let ov ← holding [v] (eval o X.env)
      let iv ← holding [v, ov] (eval ie X.env)
      standAt p
      holding [v, ov, iv] (setItem ov iv v)
      release [v, ov, iv] []) := by intro _; rfl)
    (hs : swapsWithSole [.Subscript o ie p] e pos.line X.env = pure false := by rfl) (hw : swappedStores [.Subscript o ie p] e X.env = pure none := by rfl) (h3 : (assignEach [.Subscript o ie p] X.env).map (·.2) = [assign (.Subscript o ie p) X.env] := by rfl) :
    Ss X Γ ρ (.Assign [.Subscript o ie p] e pos :: rest) (m >>= fun a => mi >>= fun j => ofOpt (setO xs j a) >>= k) ρn ρg rt := s_setItemG ho he hi h1 (.inl rfl) hk ha hs hw h3
end
end DL

set_option Elab.async false
set_option linter.all false
set_option maxRecDepth 100000
set_option maxHeartbeats 4000000
namespace DL
open PySem PySem.Spec PyProof.Rows L2 Enc
theorem map_eraseIdx' {α β : Type} (f : α → β) : ∀ (l : List α) (k : Nat), (l.map f).eraseIdx k = (l.eraseIdx k).map f
  | [], _ => rfl
  | _ :: _, 0 => rfl
  | x :: l, k + 1 => congrArg (f x :: ·) (map_eraseIdx' f l k)
theorem pss_frz' {X : Cx} {rest : List Stmt} {t : TS} (h : PSs X rest t) : PSs X rest (fun D σ H => ∃ a xs, H a = some (.lst xs) ∧ (xs.length ≤ sizeLine → ∀ o, t D σ (upd H a (.frz o (.lst xs))))) :=
  ⟨fun pins s σ H D I ⟨a, xs, e, q⟩ => by
    obtain ⟨o, I'⟩ := Inv.freeze I e
    exact h.run pins s σ _ D I' (q (I.lstM e).1 o)⟩
theorem GoodF.frzAt {K : PySem.W.Frag} {ps : List Addr} {H0 H : Hp} {f : Nat → Foot} {ρ : List Slot} {σ : L2.St} {i : Nat} {xs : List PyData} {d : PyData} {p : Addr} {vs : List V} {u : HO} (g : GoodF K ps H0 f ρ σ H) (h : ρ[i]? = some (.own (.lst xs))) (hf : f i = [p]) (hp : H p = some (.lst vs))
    (e1 : σ[i]? = some (some (.ref p))) (hr : Rp K (upd H p u) (.ref p) d) : Good K ps H0 (ρ.set i (.dat d)) σ (upd H p u) := by
  have lu : Le H (upd H p u) := Le.upd hp notImm
  have hi : i < ρ.length := (List.getElem?_eq_some_iff.mp h).1
  obtain ⟨v, e, q1, x, rfl, p', vs', rfl, hf', hp', _⟩ := g.slot i _ h
  rw [hf] at hf'
  cases hf'
  obtain ⟨n0, np⟩ := q1 p (by rw [hf]; exact List.mem_singleton.mpr rfl)
  have kp : ∀ j a, j ≠ i → a ∈ f j → upd H p u a = H a := fun j a hj ha => upd_ne fun z => hj (g.sep j i a ha (by rw [hf, z]; exact List.mem_singleton.mpr rfl))
  refine ⟨fun j => if j = i then [] else f j, by rw [List.length_set]; exact g.len, fun b o hb eb => ?_, fun a ha => ?_, fun j s' hj => ?_, fun j hj => ?_, fun j k a h1 h2 => ?_⟩
  · rw [upd_ne (fun z => by subst z; rw [n0] at eb; cases eb)]
    exact g.same b o hb eb
  · rw [upd_ne (fun z => by subst z; exact np ha)]; exact g.io a ha
  · by_cases z : j = i
    · subst z
      rw [List.getElem?_set_self hi] at hj
      cases hj
      exact ⟨_, e1, by simp only [if_pos], _, rfl, hr⟩
    · rw [List.getElem?_set_ne (Ne.symm z)] at hj
      obtain ⟨v', e', q'⟩ := g.slot j s' hj
      simp only [if_neg z]
      exact ⟨v', e', q'.keep lu fun a ha => kp j a z ha⟩
  · by_cases z : j = i
    · simp only [if_pos z]
    · rw [List.getElem?_set_ne (Ne.symm z)] at hj
      simp only [if_neg z]
      exact g.out j hj
  · by_cases hj : j = i
    · simp only [if_pos hj] at h1; cases h1
    · by_cases hk : k = i
      · simp only [if_pos hk] at h2; cases h2
      · simp only [if_neg hj] at h1
        simp only [if_neg hk] at h2
        exact g.sep j k a h1 h2
section
variable {X : Cx} {Γ : Cn} {S α β γ δ R : Type} {ρ : List Slot} {ρS : S → List Slot} {st : Stmt} {rest body pa pb : List Stmt} {ρn : β → List Slot} {ρg : γ → List Slot} {rt : R → V → Hp → Prop} {e e1 e2 tg iter c o : Expr} {pos cpos apos p : Pos} {x : Str}
/-- xs[i] by values -/
def rGetL (K : PySem.W.Frag) : V → V → Hp → VK → Prop := fun x y H Q => ∃ p xs i v, x = .ref p ∧ y = .int i ∧ SqL K H p xs ∧ atI xs i = some v ∧ Q v H
theorem get_list : PGet X (rGetL X.K) := by
  intro pins s σ H x y v u Q I rx ry h
  obtain ⟨p, xs, i, z, rfl, rfl, hq, he, q⟩ := h
  cases rx
  obtain ⟨t, rfl⟩ := ry
  obtain ⟨its, r, pl, hz⟩ := I.list hq
  obtain ⟨j, h1, h2, h3, h4, h5⟩ := atI_get he
  obtain ⟨w, ew, rw'⟩ := r.get h2
  have hl := r.length
  have hn := line63
  have fin : L2.EP X pins σ Q w s := ⟨z, H, I, rw', q⟩
  by_cases h0 : 0 ≤ i
  · have hj : i.toNat = j := by
      rw [seqIndex_of h0 h5] at h1
      exact Option.some.inj h1
    exact wpAny_mono (wpAny_getItem_list (Q := fun r s' => r = w ∧ L2.EP X pins σ Q r s') pl.isList h0 (by omega) (by rw [hj]; simpa using ew) ⟨rfl, fin⟩) (fun _ _ q => q.2) fun _ _ z => z
  · have hj : (i + (its.toArray.size : Int)).toNat = j := by
      rw [seqIndex_neg (by omega) h4] at h1
      rw [List.size_toArray, ← hl]
      exact Option.some.inj h1
    exact wpAny_mono (wpAny_getItem_list_neg (Q := fun r s' => r = w ∧ L2.EP X pins σ Q r s') pl.isList (by omega) (by rw [List.size_toArray, ← hl]; omega) (by omega) (by rw [hj]; simpa using ew) ⟨rfl, fin⟩) (fun _ _ q => q.2) fun _ _ z => z
/-- an index into a list of one's own -/
theorem own_at [Enc α] {K : PySem.W.Frag} {H : Hp} {get : List α} {vs' : List V} {i : Int} {a : α} (hr' : RpAll K H vs' (get.map enc)) (ea : atI get i = some a) : ∃ y, atI vs' i = some y ∧ Rp K H y (enc a) := by
  unfold atI at ea ⊢
  rw [RpAll.lenE hr']
  obtain ⟨k, hk, hk2⟩ := Option.bind_eq_some_iff.mp ea
  rw [hk]
  exact RpAll.getE hr' hk2
/-- xs[i] += e, ints -/
theorem s_augItem {i : Nat} {xs : List Int} {op : Operator} {f : Int → Int → Int} {m mi : Res Int} {k : List Int → Res (Ctl β γ R)} {ie : Expr} (hip : PIp X op (ipI f)) (ho : VarAt X i o) (hi : Em X Γ (fun _ : Unit => ρ) ie mi) (he : Em X Γ (fun _ : Unit => ρ) e m) (hk : ∀ l : List Int, Ss X Γ (ρ.set i (.own (.lst (l.map enc)))) rest (k l) ρn ρg rt) (h1 : ρ[i]? = some (.own (.lst (xs.map enc))) := by rfl)
    (ha : ∀ ov iv new, augStore ie ov iv new = (do holding [new, ov, iv] (setItem ov iv new); release [new, ov, iv] []; pure .next) := by intros; rfl) :
    Ss X Γ ρ (.AugAssign (.Subscript o ie p) op e pos :: rest) (mi >>= fun j => ofOpt (atI xs j) >>= fun a => m >>= fun b => ofOpt (setO xs j (f a b)) >>= k) ρn ρg rt :=
  PSs.imp (pss_cons (ps_augS ho hi get_list he hip set_list ha) (PSs.ex hk)) fun D σ H q => by
    obtain ⟨⟨f0, g⟩, q⟩ := q
    have h2 : IsL (.own (.lst (xs.map enc))) (xs.map enc) := .inl rfl
    obtain ⟨p, vs, e1, hf, hp, hr, _⟩ := g.ownL h1 h2
    rw [← lift_bind, wpR_bind] at q
    refine ⟨_, e1, (), f0, g, wpR_mono q (fun r q H1 f1 g1 l1 v rx => ?_) fun _ _ z => z.w σ⟩
    obtain ⟨p1, vs1, e1', hf1, hp1, hr1, _⟩ := g1.ownL h1 h2
    rw [e1] at e1'
    cases e1'
    rw [wpR_bind] at q
    obtain ⟨a, ea, q⟩ := wpR_ofOpt q
    have hj := Rp.int_inv rx
    obtain ⟨y, ey, ry⟩ := own_at hr1 ea
    refine ⟨p, vs1, r.1, y, rfl, hj, SqL.of hp1, ey, ?_⟩
    rw [← lift_bind, wpR_bind] at q
    refine ⟨(), f1, g1, wpR_mono q (fun r2 q H2 f2 g2 l2 v2 rx2 => ?_) fun _ _ z => ((z.le l1.le).w σ)⟩
    obtain ⟨p2, vs2, e1', hf2, hp2, hr2, _⟩ := g2.ownL h1 h2
    rw [e1] at e1'
    cases e1'
    rw [wpR_bind] at q
    obtain ⟨l, el, q⟩ := wpR_ofOpt q
    obtain ⟨j, ej, rfl⟩ := Option.map_eq_some_iff.mp el
    have hy := Rp.int_inv ry
    have hv2 := Rp.int_inv rx2
    refine ⟨a, r2.1, hy, hv2, ?_⟩
    obtain ⟨g3, l3⟩ := g2.putL (ys := (xs.set j (f a r2.1)).map enc) (ws := vs2.set j (.int (f a r2.1))) h1 h2 hf2 hp2 (by rw [List.map_set]; exact RpAll.set j (.int _) hr2)
    exact ⟨p, vs2, r.1, j, rfl, hj, hp2, by rw [RpAll.lenE hr2]; exact ej, _, ⟨f2, g3⟩, wpR_mono q (fun c q => q.le ((l1.le.trans l2.le).trans l3.le)) fun _ _ z => z.le ((l1.le.trans l2.le).trans l3.le)⟩
/-- xs[i] += e, the items of any kind, an int at i -/
theorem s_augItemG [Enc α] {i : Nat} {sl : Slot} {xs : List α} {op : Operator} {f : Int → Int → Int} {j n : Int} {a : α} {m : Res Int} (b' : Int → α) {k : List α → Res (Ctl β γ R)} {ie : Expr} (hip : PIp X op (ipI f)) (ho : VarAt X i o) (hi : Ep X Γ (fun _ : Unit => ρ) ie j) (he : Em X Γ (fun _ : Unit => ρ) e m) (h1 : ρ[i]? = some sl) (h2 : IsL sl (xs.map enc)) (hj : atI xs j = some a) (ha' : enc a = .int n) (hb' : ∀ z, enc (b' z) = .int z) (hk : ∀ l : List α, Ss X Γ (ρ.set i (sl.put (l.map enc))) rest (k l) ρn ρg rt)
    (ha : ∀ ov iv new, augStore ie ov iv new = (do holding [new, ov, iv] (setItem ov iv new); release [new, ov, iv] []; pure .next) := by intros; rfl) :
    Ss X Γ ρ (.AugAssign (.Subscript o ie p) op e pos :: rest) (m >>= fun b => ofOpt (setO xs j (b' (f n b))) >>= k) ρn ρg rt :=
  PSs.imp (pss_cons (ps_augS ho hi get_list he hip set_list ha) (PSs.ex hk)) fun D σ H q => by
    obtain ⟨⟨f0, g⟩, q⟩ := q
    obtain ⟨p, vs, e1, hf, hp, hr, _⟩ := g.ownL h1 h2
    refine ⟨_, e1, (), f0, g, fun H1 f1 g1 l1 v rx => ?_⟩
    obtain ⟨p1, vs1, e1', hf1, hp1, hr1, _⟩ := g1.ownL h1 h2
    rw [e1] at e1'
    cases e1'
    have hjv := Rp.int_inv rx
    obtain ⟨y, ey, ry⟩ := own_at hr1 hj
    refine ⟨p, vs1, j, y, rfl, hjv, SqL.of hp1, ey, ?_⟩
    rw [← lift_bind, wpR_bind] at q
    refine ⟨(), f1, g1, wpR_mono q (fun r2 q H2 f2 g2 l2 v2 rx2 => ?_) fun _ _ z => ((z.le l1.le).w σ)⟩
    obtain ⟨p2, vs2, e1', hf2, hp2, hr2, _⟩ := g2.ownL h1 h2
    rw [e1] at e1'
    cases e1'
    rw [wpR_bind] at q
    obtain ⟨l, el, q⟩ := wpR_ofOpt q
    obtain ⟨j', ej, rfl⟩ := Option.map_eq_some_iff.mp el
    rw [ha'] at ry
    have hy : y = .int n := Rp.int_inv (i := n) ry
    have hv2 := Rp.int_inv rx2
    refine ⟨n, r2.1, hy, hv2, ?_⟩
    obtain ⟨g3, l3⟩ := g2.putL (ys := (xs.set j' (b' (f n r2.1))).map enc) (ws := vs2.set j' (.int (f n r2.1))) h1 h2 hf2 hp2 (by rw [List.map_set]; exact RpAll.set j' (by rw [hb']; exact .int _) hr2)
    exact ⟨p, vs2, j, j', rfl, hjv, hp2, by rw [RpAll.lenE hr2]; exact ej, _, ⟨f2, g3⟩, wpR_mono q (fun c q => q.le ((l1.le.trans l2.le).trans l3.le)) fun _ _ z => z.le ((l1.le.trans l2.le).trans l3.le)⟩
/-- xs.pop(i), as a value -/
theorem e_popAtS [Enc α] {i : Nat} {get : S → List α} {put : S → List α → S} {m : S → Res (Int × S)} (ho : VarAt X i o) (w : Lens ρS i get put) (he : E X Γ ρS e m)
    (hb : attributeBase o "pop" X.env (eval o X.env) = eval o X.env := by rfl)
    (hfew : ((backTo cpos (starEach [e] X.env)).all (fun x => !x.1) && (backToKw cpos (keywordEach [] X.env)).all (fun x => x.1.isSome) && decide ([e].length + ([] : List Keyword).length + (if ([] : List Keyword).isEmpty then 0 else 1) < 30)) = true := by rfl)
    (hline : (apos.endLine == cpos.line) = true := by rfl) (hs : starEach [e] X.env = (false, eval e X.env) :: starEach [] X.env := by rfl) (hplain : (backTo cpos (starEach [] X.env)).any (·.1) = false := by rfl) :
    E X Γ ρS (.Call (.Attribute o "pop" apos) [e] [] cpos) (sbind m fun j s => ofOpt (popAtO (get s) j) >>= fun r => .ok (r.1, put s r.2)) :=
  PE.imp (pe_bm PySem.F.plainAttrs_list PySem.F.slot_list_pop PySem.F.type_list_pop mt_popAt ho (pa_cons he pa_nil hs) hb hfew hline hs hplain) fun σ H Q ⟨s, f0, g, q⟩ => by
    obtain ⟨sl, h1, h2, h3⟩ := w.ok s
    obtain ⟨p, vs, e1, hf, hp, hr, _⟩ := g.ownL h1 h2
    refine ⟨_, e1, .inl ⟨rfl, _, SqL.of hp⟩, s, f0, g, q.chain.mono fun f1 H1 r g1 l1 q v rx => ?_⟩
    obtain ⟨sl', h1', h2', h3'⟩ := w.ok r.2
    obtain ⟨p1, vs1, e1', hf1, hp1, hr1, _⟩ := g1.ownL h1' h2'
    rw [e1] at e1'
    cases e1'
    have hj := Rp.int_inv rx
    have q : RunF X.K Γ f1 ρS (ofOpt (popAtO (get r.2) r.1) >>= fun t => .ok (t.1, put r.2 t.2)) σ H1 fun f H' r => ∀ v, PD X.K f H H' v r.1 → Q v H' := q
    cases eo : popAtO (get r.2) r.1 with
    | none => rw [eo] at q; exact q.elim
    | some t =>
      rw [eo] at q
      unfold popAtO at eo
      split at eo
      · next hb =>
        obtain ⟨k, hk, ek⟩ := Option.bind_eq_some_iff.mp eo
        obtain ⟨a, ha, rfl⟩ := Option.map_eq_some_iff.mp ek
        obtain ⟨y, ey, ry⟩ := RpAll.getE hr1 ha
        obtain ⟨g2, l2⟩ := g1.putL (ys := ((get r.2).eraseIdx k).map enc) (ws := vs1.eraseIdx k) h1' h2' hf1 hp1 (by
          have := RpAll.eraseIdx k hr1
          rwa [show ((get r.2).map enc).eraseIdx k = ((get r.2).eraseIdx k).map enc from map_eraseIdx' _ _ _] at this)
        rw [← h3'] at g2
        refine ⟨p, vs1, r.1, k, y, rfl, by rw [hj], hp1, by omega, by omega, ?_, ey, q _ f1 g2 l2 y (ry.mono l2.le)⟩
        rw [RpAll.lenE hr1]
        exact (ixN_seq hk).1
      · cases eo
/-- xs.pop(), as a value -/
theorem e_popS [Enc α] {i : Nat} {get : S → List α} {put : S → List α → S} (ho : VarAt X i o) (w : Lens ρS i get put)
    (hb : attributeBase o "pop" X.env (eval o X.env) = eval o X.env := by rfl) (hline : (apos.endLine == cpos.line) = true := by rfl) :
    E X Γ ρS (.Call (.Attribute o "pop" apos) [] [] cpos) (fun s => ofOpt (popO (get s)) >>= fun r => .ok (r.1, put s r.2)) :=
  PE.imp (pe_bm0 PySem.F.plainAttrs_list PySem.F.slot_list_pop PySem.F.type_list_pop mt_pop ho hb hline) fun σ H Q ⟨s, f0, g, q⟩ => by
    obtain ⟨sl, h1, h2, h3⟩ := w.ok s
    obtain ⟨p, vs, e1, hf, hp, hr, _⟩ := g.ownL h1 h2
    refine ⟨_, e1, .inl ⟨rfl, _, SqL.of hp⟩, ?_⟩
    have q : RunF X.K Γ f0 ρS (ofOpt (popO (get s)) >>= fun t => .ok (t.1, put s t.2)) σ H fun f H' r => ∀ v, PD X.K f H H' v r.1 → Q v H' := q
    cases eo : popO (get s) with
    | none => rw [eo] at q; exact q.elim
    | some t =>
      rw [eo] at q
      unfold popO at eo
      obtain ⟨a, ha, rfl⟩ := Option.map_eq_some_iff.mp eo
      have hl := RpAll.lenE hr
      rw [List.getLast?_eq_getElem?] at ha
      obtain ⟨y, ey, ry⟩ := RpAll.getE hr ha
      obtain ⟨g2, l2⟩ := g.putL (ys := (get s).dropLast.map enc) (ws := vs.dropLast) h1 h2 hf hp (by
        have e1 : vs.dropLast = vs.take ((get s).length - 1) := by rw [List.dropLast_eq_take, hl]
        have e2 : (get s).dropLast = (get s).take ((get s).length - 1) := List.dropLast_eq_take ..
        rw [e1, e2, List.map_take]
        exact hr.take _)
      rw [← h3] at g2
      exact ⟨p, vs, y, rfl, rfl, hp, by rw [hl]; exact ey, q _ f0 g2 l2 y (ry.mono l2.le)⟩
/-- an expression whose value is dropped -/
theorem s_dropS [Enc α] {mS : S → Res (α × S)} {k : α → S → Res (Ctl β γ R)} (s0 : S) (he : E X Γ ρS e mS) (hk : ∀ a s, Ss X Γ (ρS s) rest (k a s) ρn ρg rt) (hsw : swapsWith e none pos.line X.env = pure false := by rfl) :
    Ss X Γ (ρS s0) (.Expr e pos :: rest) (mS s0 >>= fun r => k r.1 r.2) ρn ρg rt :=
  PSs.imp (pss_cons (ps_expr he hsw) (PSs.ex fun a => PSs.ex (hk a))) fun D σ H q => tE_of q fun a s v H' f g l p q => ⟨a, s, ⟨f, g⟩, q⟩
/-- a list of one's own becomes data -/
theorem s_frz [Enc α] {xs : List α} {k : Res (Ctl β γ R)} (i : Nat) (hk : Ss X Γ (ρ.set i (.dat (enc xs))) rest k ρn ρg rt) (h1 : ρ[i]? = some (.own (.lst (xs.map enc))) := by rfl) : Ss X Γ ρ rest k ρn ρg rt :=
  PSs.imp (pss_frz' hk) fun D σ H q => by
    obtain ⟨⟨f, g⟩, q⟩ := q
    obtain ⟨p, vs, e1, hf, hp, hr, _⟩ := g.ownL h1 (.inl rfl)
    refine ⟨p, vs, hp, fun hz o => ?_⟩
    have lu : Le H (upd H p (.frz o (.lst vs))) := Le.upd hp notImm
    exact ⟨g.frzAt h1 hf hp e1 (.lst ⟨o, upd_same⟩ (hr.mono lu) hz), wpR_mono q (fun c q => q.le lu) fun _ _ z => z.le lu⟩
/-- name op= e, ints -/
theorem s_aug {i : Nat} {n : Int} {op : Operator} {f : Int → Int → Int} {m : Res Int} {k : Int → Res (Ctl β γ R)} (hip : PIp X op (ipI f)) (hN : X.N.Nodup) (he : Em X Γ (fun _ : Unit => ρ) e m) (hk : ∀ n : Int, Ss X Γ (ρ.set i (.dat (enc n))) rest (k n) ρn ρg rt) (hi : X.N[i]? = some x := by rfl) (hx : Loc X.env.scope x := by first | exact Or.inl rfl | exact Or.inr rfl)
    (h1 : ρ[i]? = some (.dat (enc n)) := by rfl) (hf : X.fn x = true ∨ X.env.scope.names.lookup x = some .local := by first | exact .inl rfl | exact .inr rfl | assumption) :
    Ss X Γ ρ (.AugAssign (.Name x p) op e pos :: rest) (m >>= fun b => k (f n b)) ρn ρg rt :=
  PSs.imp (pss_cons (ps_aug hN hi hx he hip hf) (PSs.ex hk)) fun D σ H q => by
    obtain ⟨⟨f0, g⟩, q⟩ := q
    obtain ⟨y, ey, ry⟩ := Good.at ⟨f0, g⟩ h1
    rw [← lift_bind, wpR_bind] at q
    refine ⟨y, ey, (), f0, g, wpR_mono q (fun r q H1 f1 g1 l1 v rx => ?_) fun _ _ z => z.w σ⟩
    exact ⟨n, r.1, Rp.int_inv ry, Rp.int_inv rx, f n r.1, Good.set ⟨f1, g1⟩ (List.getElem?_eq_some_iff.mp h1).1 (.int _), wpR_mono q (fun c q => q.le l1.le) fun _ _ z => z.le l1.le⟩
/-- a tuple's items into names -/
theorem s_setTS [Enc α] {vs : List Nat} {ρ' : S → α → List Slot} {mS : S → Res (α × S)} {k : α → S → Res (Ctl β γ R)} (s0 : S) (he : E X Γ ρS e mS) (hg : ∀ s, G X Γ vs (ρS s) tg (ρ' s)) (hk : ∀ a s, Ss X Γ (ρ' s a) rest (k a s) ρn ρg rt)
    (hs : swapsWithSole [tg] e pos.line X.env = pure false := by rfl) (hw : swappedStores [tg] e X.env = pure none := by rfl) (h3 : (assignEach [tg] X.env).map (·.2) = [assign tg X.env] := by rfl) :
    Ss X Γ (ρS s0) (.Assign [tg] e pos :: rest) (mS s0 >>= fun r => k r.1 r.2) ρn ρg rt := by
  have hg' : PG X tg (fun v σ H Q => ∃ s, tG X.K Γ vs (ρS s) (ρ' s) v σ H Q) := ⟨fun pins s2 σ H v u Q I r ⟨s, q⟩ => (hg s).pg.run pins s2 σ H v u Q I r q⟩
  exact PSs.imp (pss_cons (ps_asg he hg' hs hw h3) (PSs.ex fun a => PSs.ex (hk a))) fun D σ H q => tE_of q fun a s v H' f g l p q => ⟨s, a, f, g, p, fun σ' f' o u g' => ⟨a, s, ⟨f', g'⟩, q⟩⟩
theorem s_setT [Enc α] {vs : List Nat} {ρ' : α → List Slot} {m : Res α} {k : α → Res (Ctl β γ R)} (he : Em X Γ (fun _ : Unit => ρ) e m) (hg : G X Γ vs ρ tg ρ') (hk : ∀ a, Ss X Γ (ρ' a) rest (k a) ρn ρg rt)
    (hs : swapsWithSole [tg] e pos.line X.env = pure false := by rfl) (hw : swappedStores [tg] e X.env = pure none := by rfl) (h3 : (assignEach [tg] X.env).map (·.2) = [assign tg X.env] := by rfl) :
    Ss X Γ ρ (.Assign [tg] e pos :: rest) (m >>= k) ρn ρg rt :=
  (s_setTS () he (fun _ => hg) (fun a _ => hk a) hs hw h3).congr (lift_bind (k := k)).symm
/-- xs[i], xs[j] = a, b -/
theorem s_swap [Enc α] {i : Nat} {xs : List α} {m : Res (α × α)} {m1 m2 : Res Int} {k : List α → Res (Ctl β γ R)} {i1 i2 : Expr} {es : List Expr} {p1 p2 pt pe : Pos} {kt ke : Nat} {o2 : Expr} (hc : X.calm = true) (ho : VarAt X i o) (ho2 : VarAt X i o2) (he : EA X Γ (fun _ : Unit => ρ) (e :: es) (slift m) enc2) (hi1 : Em X Γ (fun _ : Unit => ρ) i1 m1) (hi2 : ∀ l : List α, Em X Γ (fun _ : Unit => ρ.set i (.own (.lst (l.map enc)))) i2 m2)
    (hk : ∀ l, Ss X Γ (ρ.set i (.own (.lst (l.map enc)))) rest (k l) ρn ρg rt) (h1 : ρ[i]? = some (.own (.lst (xs.map enc))) := by rfl)
    (ha : ∀ v, assign (.Subscript o i1 p1) X.env v = (do
      let ov ← holding [v] (eval o X.env)
      let iv ← holding [v, ov] (eval i1 X.env)
      standAt p1
      holding [v, ov, iv] (setItem ov iv v)
      release [v, ov, iv] []) := by intro _; rfl)
    (ha2 : ∀ v, assign (.Subscript o2 i2 p2) X.env v = (do
      let ov ← holding [v] (eval o2 X.env)
      let iv ← holding [v, ov] (eval i2 X.env)
      standAt p2
      holding [v, ov, iv] (setItem ov iv v)
      release [v, ov, iv] []) := by intro _; rfl)
    (hs1 : (assignEach [.Subscript o i1 p1, .Subscript o2 i2 p2] X.env).map (·.2) = assign (.Subscript o i1 p1) X.env :: (assignEach [.Subscript o2 i2 p2] X.env).map (·.2) := by rfl) (hs2 : (assignEach [.Subscript o2 i2 p2] X.env).map (·.2) = assign (.Subscript o2 i2 p2) X.env :: (assignEach [] X.env).map (·.2) := by rfl)
    (hn : (assignEach [.Subscript o i1 p1, .Subscript o2 i2 p2] X.env).length = 2 := by rfl) (hst : (assignEach [.Subscript o i1 p1, .Subscript o2 i2 p2] X.env).findIdx? (·.1) = none := by rfl)
    (hs : swapsWithSole [.Tuple [.Subscript o i1 p1, .Subscript o2 i2 p2] kt pt] (.Tuple (e :: es) ke pe) pos.line X.env = pure false := by rfl) (hw : swappedStores [.Tuple [.Subscript o i1 p1, .Subscript o2 i2 p2] kt pt] (.Tuple (e :: es) ke pe) X.env = pure none := by rfl) (h3 : (assignEach [.Tuple [.Subscript o i1 p1, .Subscript o2 i2 p2] kt pt] X.env).map (·.2) = [assign (.Tuple [.Subscript o i1 p1, .Subscript o2 i2 p2] kt pt) X.env] := by rfl) :
    Ss X Γ ρ (.Assign [.Tuple [.Subscript o i1 p1, .Subscript o2 i2 p2] kt pt] (.Tuple (e :: es) ke pe) pos :: rest) (m >>= fun ab => m1 >>= fun j1 => ofOpt (setO xs j1 ab.1) >>= fun l => m2 >>= fun j2 => ofOpt (setO l j2 ab.2) >>= k) ρn ρg rt := by
  have hi2' : PE X i2 (fun σ H Q => ∃ l : List α, tE X.K Γ (PD X.K) (fun _ : Unit => ρ.set i (.own (.lst (l.map enc)))) (slift m2) σ H Q) := ⟨fun pins s σ H Q I ⟨l, q⟩ => (hi2 l).run pins s σ H Q I q⟩
  refine PSs.imp (pss_cons (ps_asg (pe_tup he) (pg_tup hc (pgs_cons (pg_sub ho hi1 set_list ha) (pgs_cons (pg_sub ho2 hi2' set_list ha2) pgs_nil hs2) hs1) hn hst) hs hw h3) (PSs.ex hk)) fun D σ H q => ?_
  obtain ⟨⟨f0, g⟩, q⟩ := q
  have hil : i < ρ.length := (List.getElem?_eq_some_iff.mp h1).1
  have h2 : ∀ l : List α, IsL (.own (.lst (l.map enc))) (l.map enc) := fun l => .inl rfl
  rw [← lift_bind, wpR_bind] at q
  refine ⟨(), f0, g, wpR_mono q (fun r q H1 f1 g1 l1 ws rx => ?_) fun _ _ z => z.w σ⟩
  obtain ⟨a, b, rfl, ra, rb⟩ := rx.two
  refine ⟨by rw [sizeLine_eq, List.length_cons, List.length_cons, List.length_nil]; omega, fun d hd => ?_⟩
  have g1' := g1.same' (same_new (o := .tup [a, b]) hd)
  have ln : Le H1 (upd H1 d (.tup [a, b])) := Le.new hd
  refine ⟨d, [a, b], rfl, .inl (.inl upd_same), rfl, a, [b], rfl, ?_⟩
  obtain ⟨pp, vs, e1, hf, hp, hr, _⟩ := g1'.ownL h1 (h2 xs)
  rw [← lift_bind, wpR_bind] at q
  refine ⟨_, e1, (), f1, g1', wpR_mono q (fun r1 q H2 f2 g2 l2 v1 rx1 => ?_) fun _ _ z => ((z.le (l1.le.trans ln)).w σ)⟩
  obtain ⟨p1, vs1, e1', hf1, hp1, hr1, _⟩ := g2.ownL h1 (h2 xs)
  rw [e1] at e1'
  cases e1'
  rw [wpR_bind] at q
  obtain ⟨l, el, q⟩ := wpR_ofOpt q
  obtain ⟨j, ej, rfl⟩ := Option.map_eq_some_iff.mp el
  have hj := Rp.int_inv rx1
  obtain ⟨g3, l3⟩ := g2.putL (ys := (xs.set j r.1.1).map enc) (ws := vs1.set j a) h1 (h2 xs) hf1 hp1 (by rw [List.map_set]; exact RpAll.set j (ra.mono (ln.trans l2.le)) hr1)
  refine ⟨pp, vs1, r1.1, j, rfl, hj, hp1, by rw [RpAll.lenE hr1]; exact ej, b, [], rfl, ?_⟩
  have h1' : (ρ.set i (.own (.lst ((xs.set j r.1.1).map enc))))[i]? = some (.own (.lst ((xs.set j r.1.1).map enc))) := List.getElem?_set_self hil
  rw [← lift_bind, wpR_bind] at q
  refine ⟨_, e1, xs.set j r.1.1, (), f2, g3, wpR_mono q (fun r2 q H4 f4 g4 l4 v2 rx2 => ?_) fun _ _ z => ((z.le (((l1.le.trans ln).trans l2.le).trans l3.le)).w σ)⟩
  obtain ⟨p2, vs2, e1', hf2, hp2, hr2, _⟩ := g4.ownL h1' (h2 _)
  rw [e1] at e1'
  cases e1'
  rw [wpR_bind] at q
  obtain ⟨l', el', q⟩ := wpR_ofOpt q
  obtain ⟨j2, ej2, rfl⟩ := Option.map_eq_some_iff.mp el'
  have hj2 := Rp.int_inv rx2
  obtain ⟨g5, l5⟩ := g4.putL (ys := ((xs.set j r.1.1).set j2 r.1.2).map enc) (ws := vs2.set j2 b) h1' (h2 _) hf2 hp2 (by rw [List.map_set (i := j2)]; exact RpAll.set j2 (rb.mono ((ln.trans l2.le).trans (l3.le.trans l4.le))) hr2)
  rw [List.set_set] at g5
  exact ⟨pp, vs2, r2.1, j2, rfl, hj2, hp2, by rw [RpAll.lenE hr2]; exact ej2, rfl, _, ⟨f4, g5⟩, wpR_mono q (fun c q => q.le ((((l1.le.trans ln).trans l2.le).trans l3.le).trans (l4.le.trans l5.le))) fun _ _ z => z.le ((((l1.le.trans ln).trans l2.le).trans l3.le).trans (l4.le.trans l5.le))⟩
end
end DL

set_option Elab.async false
set_option linter.all false
set_option maxRecDepth 100000
set_option maxHeartbeats 4000000
namespace DL
open PySem PySem.Spec PyProof.Rows L2 Enc

/-! ### what a def promises: no error leaves it -/
def spN {τ β : Type} [Enc β] (K : PySem.W.Frag) (encs : τ → List PyData) (m : τ → Res β) : Sp := fun vs H Q _ =>
  ∃ t, RpAll K H vs (encs t) ∧ wpR (nb (m t)) (fun b => ∀ v H', Same H H' → Rp K H' v (enc b) → Q v H') fun _ _ => False
structure DefN {τ β : Type} [Enc β] (P : Program) (w : World) (K : PySem.W.Frag) (mg : Str → Option Value) (base : Heap) (k : Nat) (x : Str) (encs : τ → List PyData) (m : τ → Res β) : Prop where
  ex : ∃ f fd ps, mg x = some (.ref f) ∧ PySem.W.keepIn K (.ref f) = true ∧ Binds K fd ps [] ∧ FnOk P w K mg base CX0 k f fd ps (spN K encs m)
theorem nb_wp {β : Type} {m : Res β} {φ : β → Prop} {ψ : String → List PyData → Prop} (h : wpR (nb m) φ ψ) : ∃ b, m = .ok b ∧ φ b := by
  cases m with
  | ok b => exact ⟨b, rfl, h⟩
  | err c as => exact h.elim
  | bad => exact h.elim
section
variable {X : Cx} {Γ : Cn} {S α β τ : Type} {ρ : S → List Slot} {e : Expr} {es : List Expr} {pos p : Pos} {x : Str} {k : Nat}
/-- what runs at a call -/
theorem run_callN [Enc β] {encs : τ → List PyData} {m : τ → Res β} {s : S} {t : τ} {f1 : Nat → Foot} {σ : L2.St} {H H1 : Hp} {vs : List V} {Q : VK} {E : XK} (g1 : GoodF X.K Γ.ps Γ.H0 f1 (ρ s) σ H1)
    (q : RunF X.K Γ f1 ρ (slift (nb (m t)) s) σ H1 fun f H' r => ∀ v, PD X.K f H H' v r.1 → Q v H') (rs : RpAll X.K H1 vs (encs t)) : spN X.K encs m vs H1 Q E := by
  refine ⟨t, rs, ?_⟩
  cases e : m t with
  | ok b =>
    intro v H' sm r
    have q : RunF X.K Γ f1 ρ (.ok (b, s)) σ H1 fun f H' r => ∀ v, PD X.K f H H' v r.1 → Q v H' := by
      have : slift (nb (m t)) s = .ok (b, s) := by rw [e]; rfl
      rw [this] at q; exact q
    exact RunF.same q g1 sm v r
  | err c as => rw [e] at q; exact q.elim
  | bad => rw [e] at q; exact q.elim
theorem e_callN [Enc β] {encs : τ → List PyData} {m : τ → Res β} {ma : S → Res (τ × S)} (d : DefN X.prog X.w X.K X.mg X.base k x encs m) (hr : Room k X.A) (ha : EA X Γ ρ (e :: es) ma encs) (hg : Gl X x := by rfl)
    (hdb : (x == ("__debug__" : Str)) = false := by decide) (he : starEach (e :: es) X.env = (false, eval e X.env) :: starEach es X.env := by rfl) (hpl : (backTo pos (starEach es X.env)).any (·.1) = false := by rfl) :
    E X Γ ρ (.Call (.Name x p) (e :: es) [] pos) (sbind ma fun t => slift (nb (m t))) := by
  obtain ⟨f, fd, ps, hm, hk, hb, F⟩ := d.ex
  refine PE.imp (pe_call (E := E0) F hr hg hm hk hb .nil pass0 ha hdb he hpl) fun σ H Q ⟨s, f0, g, q⟩ => ⟨s, f0, g, q.chain.mono fun f1 H1 r1 g1 l1 q vs rs => ?_⟩
  show spN X.K encs m (vs ++ []) H1 Q E0
  rw [List.append_nil]
  exact run_callN (E := E0) (H := H) g1 q rs
theorem e_callN0 [Enc β] {encs : Unit → List PyData} {m : Unit → Res β} (d : DefN X.prog X.w X.K X.mg X.base k x encs m) (hr : Room k X.A) (h0 : encs () = []) (hg : Gl X x := by rfl)
    (hdb : (x == ("__debug__" : Str)) = false := by decide) :
    E X Γ ρ (.Call (.Name x p) [] [] pos) (slift (nb (m ()))) := by
  obtain ⟨f, fd, ps, hm, hk, hb, F⟩ := d.ex
  refine PE.imp (pe_call0 (E := E0) F hr hg hm hk hb .nil pass0 hdb) fun σ H Q ⟨s, f0, g, q⟩ => ?_
  exact run_callN (E := E0) (H := H) (t := ()) (vs := []) g q (by rw [h0]; exact .nil)
end

/-! ### a def's body -/
def fnD {β R : Type} (d : R) (m : Res (Ctl β Empty R)) : Res R := m >>= fun c => match c with
  | .rt r => .ok r
  | .nx _ => .ok d
  | .bk b => nomatch b
  | .ct b => nomatch b
section
variable {α β R : Type}
@[simp] theorem fnD_rt (d r : R) : fnD (β := β) d (.ok (.rt r)) = .ok r := rfl
@[simp] theorem fnD_nx (d : R) (b : β) : fnD d (.ok (.nx b)) = .ok d := rfl
@[simp] theorem fnD_bad (d : R) : fnD (β := β) d .bad = .bad := rfl
@[simp] theorem fnD_err (d : R) (c : String) (as : List PyData) : fnD (β := β) d (.err c as) = .err c as := rfl
@[simp] theorem fnD_bind (d : R) (m : Res α) (f : α → Res (Ctl β Empty R)) : fnD d (m >>= f) = m >>= fun a => fnD d (f a) := by cases m <;> rfl
@[simp] theorem fnD_ite (d : R) {c : Prop} [Decidable c] (a b : Res (Ctl β Empty R)) : fnD d (if c then a else b) = if c then fnD d a else fnD d b := by split <;> rfl
end
theorem fnD_E {R : Type} (d : R) (m : Res (Ctl Empty Empty R)) : fnD d m = fnE m := by
  cases m with
  | ok c => cases c with
    | rt r => rfl
    | nx b => exact nomatch b
    | bk b => exact nomatch b
    | ct b => exact nomatch b
  | err c as => rfl
  | bad => rfl
/-- the store at the entry -/
abbrev ρ0 (ds : List PyData) (n : Nat) : List Slot := ds.map Slot.dat ++ List.replicate n .any
theorem good_start {K : PySem.W.Frag} {H : Hp} {vs : List V} {ds : List PyData} {N : List Str} (r : RpAll K H vs ds) : Good K [] H (ρ0 ds (N.length - vs.length)) (L2.start N vs) H := by
  have hl := r.length
  refine ⟨fun _ => [], ?_, fun b o _ h => h, fun p h => (by cases h), fun i s hs => ?_, fun _ _ => rfl, fun _ _ _ h => (by cases h)⟩
  · unfold L2.start ρ0
    rw [List.length_append, List.length_append, List.length_map, List.length_map, List.length_replicate, List.length_replicate, hl]
  · unfold L2.start ρ0 at *
    by_cases hi : i < ds.length
    · rw [List.getElem?_append_left (by rw [List.length_map]; exact hi), List.getElem?_map] at hs
      obtain ⟨d, hd, rfl⟩ := Option.map_eq_some_iff.mp hs
      obtain ⟨v, e, q⟩ := r.get hd
      exact ⟨some v, by rw [List.getElem?_append_left (by rw [List.length_map]; omega), List.getElem?_map, e]; rfl, rfl, v, rfl, q⟩
    · rw [List.getElem?_append_right (by rw [List.length_map]; omega), List.getElem?_replicate] at hs
      split at hs
      · next h =>
        cases hs
        rw [List.length_map] at h
        exact ⟨none, by rw [List.getElem?_append_right (by rw [List.length_map]; omega), List.getElem?_replicate, List.length_map, if_pos (by omega)], rfl⟩
      · cases hs
abbrev noW : WX := fun _ _ _ _ => False
section
variable {P : Program} {w : World} {K : PySem.W.Frag} {mg : Str → Option Value} {base : Heap} {qual x : Str} {st : Stmt} {f : Addr} {fd : FuncData} {N ps : List Str} {k : Nat} {τ β R : Type}
/-- a def that lets no error out -/
theorem fnN_ok [Enc R] {encs : τ → List PyData} {M : τ → Res (Ctl β Empty R)} {ρn : τ → β → List Slot} (d0 : R) (F : Fun K x qual st f fd) (Sc : FnScope N ps (defScope st)) (n : Nat) (hn : ∀ t, (encs t).length = ps.length) (hn2 : n = N.length - ps.length := by rfl)
    (hb : ∀ cdv A outer s H t, Room k (A.deeper (envOfC qual (defScope st) s.heap.objs.size f cdv)) → ∀ E cl, Ss (cxOf CX0 P w K mg base N qual (defScope st) f cdv A outer s H E).nox ⟨noW, [], H, ρ0 (encs t) n, cl⟩ (ρ0 (encs t) n) (defBody st) (M t) (ρn t) (fun b => nomatch b) (rtD K R))
    (hd : (Nonempty β → enc d0 = .none)) : FnOk P w K mg base CX0 (k + 1) f fd ps (spN K encs fun t => fnD d0 (M t)) := by
  refine F.ok Sc (fun vs H Q E h => ?_) (fun cdv A outer s H vs Q E hr h => ?_)
  · obtain ⟨t, r, _⟩ := h
    rw [r.length, hn]
  · obtain ⟨t, r, q⟩ := h
    refine ⟨_, hb cdv A outer s H t hr E (fun _ => none), ?_⟩
    obtain ⟨b, eb, q⟩ := nb_wp q
    have eb : fnD d0 (M t) = .ok b := eb
    have hl : vs.length = ps.length := by rw [r.length, hn]
    have G := good_start (N := N) r
    rw [hl, ← hn2] at G
    refine ⟨G, ?_⟩
    cases eM : M t with
    | ok c =>
      rw [eM] at eb
      cases c with
      | rt r =>
        cases eb
        intro v H' fin rv
        exact q v H' (fun b o h => fin.1 b o (by simp) h) rv
      | nx b' =>
        cases eb
        intro σ' H' g' l
        refine q .non H' (fun b o h => g'.fin.1 b o (by simp) h) ?_
        rw [hd ⟨b'⟩]
        exact .non
      | bk b => exact nomatch b
      | ct b => exact nomatch b
    | err c as => rw [eM] at eb; cases eb
    | bad => rw [eM] at eb; cases eb
end

/-! ### the feed of draws -/
structure Fd where
  script : List Int
  pos : Int
  big : Int
  seed : Int
def encF (f : Fd) : List PyData := [.list (f.script.map .int), .int f.pos, .int f.big, .int f.seed]
def spF {τ β : Type} [Enc β] (K : PySem.W.Frag) (encs : τ → List PyData) (m : τ → Fd → Res (β × Fd)) : Sp := fun vs H Q _ =>
  ∃ p ws us fd t, vs = .ref p :: ws ∧ H p = some (.lst us) ∧ RpAll K H us (encF fd) ∧ RpAll K H ws (encs t) ∧
    wpR (nb (m t fd)) (fun r => ∀ v H' us', (∀ a o, a ≠ p → H a = some o → H' a = some o) → H' p = some (.lst us') → RpAll K H' us' (encF r.2) → Rp K H' v (enc r.1) → Q v H') fun _ _ => False
structure DefF {τ β : Type} [Enc β] (P : Program) (w : World) (K : PySem.W.Frag) (mg : Str → Option Value) (base : Heap) (k : Nat) (x : Str) (encs : τ → List PyData) (m : τ → Fd → Res (β × Fd)) : Prop where
  ex : ∃ f fd ps, mg x = some (.ref f) ∧ PySem.W.keepIn K (.ref f) = true ∧ Binds K fd ps [] ∧ FnOk P w K mg base CX0 k f fd ps (spF K encs m)
structure LensF {S : Type} (ρ : S → List Slot) (i : Nat) (get : S → Fd) (put : S → Fd → S) : Prop where
  ok : ∀ s, ∃ sl, (ρ s)[i]? = some sl ∧ IsL sl (encF (get s)) ∧ ∀ l, ρ (put s l) = (ρ s).set i (sl.put (encF l))
theorem lensF_own {S : Type} {ρ : S → List Slot} {i : Nat} {get : S → Fd} {put : S → Fd → S} (h : ∀ s, (ρ s)[i]? = some (.own (.lst (encF (get s)))) := by intro _; rfl) (hp : ∀ s l, ρ (put s l) = (ρ s).set i (.own (.lst (encF l))) := by intro _ _; rfl) : LensF ρ i get put := ⟨fun s => ⟨_, h s, .inl rfl, hp s⟩⟩
theorem lensF_io {S : Type} {ρ : S → List Slot} {i : Nat} {get : S → Fd} {put : S → Fd → S} {p : Addr} (h : ∀ s, (ρ s)[i]? = some (.io p (.lst (encF (get s)))) := by intro _; rfl) (hp : ∀ s l, ρ (put s l) = (ρ s).set i (.io p (.lst (encF l))) := by intro _ _; rfl) : LensF ρ i get put := ⟨fun s => ⟨_, h s, .inr ⟨p, rfl⟩, hp s⟩⟩
/-- all stays but a list of ours -/
theorem GoodF.putH {K : PySem.W.Frag} {ps : List Addr} {H0 H H' : Hp} {f : Nat → Foot} {ρ : List Slot} {σ : L2.St} {i : Nat} {s : Slot} {xs ys : List PyData} {p : Addr} {vs ws : List V} (g : GoodF K ps H0 f ρ σ H) (h : ρ[i]? = some s) (hs : IsL s xs) (hf : f i = [p]) (hp : H p = some (.lst vs))
    (hk : ∀ a o, a ≠ p → H a = some o → H' a = some o) (hp' : H' p = some (.lst ws)) (hw : RpAll K H' ws ys) :
    GoodF K ps H0 f (ρ.set i (s.put ys)) σ H' ∧ Stp f H f H' := by
  have lu : Le H H' := ⟨fun a o im e => hk a o (fun z => by subst z; rw [hp] at e; cases e; exact im) e, fun a e => by
    cases q : H a with
    | none => rfl
    | some o =>
      by_cases z : a = p
      · subst z; rw [hp'] at e; cases e
      · rw [hk a o z q] at e; cases e⟩
  have hi : i < ρ.length := (List.getElem?_eq_some_iff.mp h).1
  obtain ⟨v, e, q⟩ := g.slot i s h
  have n0 : p ∈ ps ∨ H0 p = none := by
    rcases hs with rfl | ⟨p', rfl⟩
    · obtain ⟨q1, x, rfl, p, vs, rfl, hf', _⟩ := q
      exact .inr (q1 _ (by rw [hf]; exact List.mem_singleton.mpr rfl)).1
    · obtain ⟨hf', hp', _⟩ := q
      rw [hf] at hf'
      cases hf'
      exact .inl hp'
  have nep : ∀ j a, j ≠ i → a ∈ f j → a ≠ p := fun j a hj ha z => hj (g.sep j i a ha (by rw [hf, z]; exact List.mem_singleton.mpr rfl))
  have kp : ∀ j a, j ≠ i → a ∈ f j → H' a = H a := fun j a hj ha => by
    obtain ⟨u, eu, _⟩ := g.live ha
    rw [eu]; exact hk a u (nep j a hj ha) eu
  refine ⟨⟨by rw [List.length_set]; exact g.len, fun b o hb eb => ?_, fun a ha => ?_, fun j s' hj => ?_, fun j hj => ?_, g.sep⟩, lu, fun a o ea na => ?_, fun j a ha => .inl ⟨j, ha⟩⟩
  · refine hk b o (fun z => ?_) (g.same b o hb eb)
    subst z
    rcases n0 with z | z
    · exact hb z
    · rw [z] at eb; cases eb
  · by_cases z : a = p
    · subst z; exact ⟨_, hp'⟩
    · obtain ⟨o, eo⟩ := g.io a ha
      exact ⟨o, hk a o z eo⟩
  · by_cases z : j = i
    · subst z
      rw [List.getElem?_set_self hi] at hj
      cases hj
      refine ⟨v, e, ?_⟩
      rcases hs with rfl | ⟨p', rfl⟩
      · obtain ⟨q1, x, rfl, p2, vs2, rfl, hf', _, _⟩ := q
        rw [hf] at hf'
        cases hf'
        exact ⟨q1, _, rfl, p, ws, rfl, hf, hp', hw⟩
      · obtain ⟨hf', hpp, rfl, p2, vs2, e1, _, _, _⟩ := q
        rw [hf] at hf'
        cases hf'
        exact ⟨hf, hpp, rfl, p, ws, rfl, hf, hp', hw⟩
    · rw [List.getElem?_set_ne (Ne.symm z)] at hj
      obtain ⟨v', e', q'⟩ := g.slot j s' hj
      exact ⟨v', e', q'.keep lu fun a ha => kp j a z ha⟩
  · have z : j ≠ i := fun z => by subst z; rw [List.getElem?_set_self hi] at hj; cases hj
    rw [List.getElem?_set_ne (Ne.symm z)] at hj
    exact g.out j hj
  · exact hk a o (fun z => na i (by rw [hf, z]; exact List.mem_singleton.mpr rfl)) ea
section
variable {X : Cx} {Γ : Cn} {S α β τ : Type} {ρ : S → List Slot} {e o : Expr} {es : List Expr} {pos p : Pos} {x : Str} {k : Nat}
/-- g(feed, e, ..) -/
theorem e_callF [Enc β] {i : Nat} {get : S → Fd} {put : S → Fd → S} {encs : τ → List PyData} {m : τ → Fd → Res (β × Fd)} {ma : S → Res (τ × S)} (d : DefF X.prog X.w X.K X.mg X.base k x encs m) (hr : Room k X.A) (ho : VarAt X i o) (w : LensF ρ i get put) (ha : EA X Γ ρ es ma encs) (hg : Gl X x := by rfl)
    (hdb : (x == ("__debug__" : Str)) = false := by decide) (he : starEach (o :: es) X.env = (false, eval o X.env) :: starEach es X.env := by rfl) (hpl : (backTo pos (starEach es X.env)).any (·.1) = false := by rfl) :
    E X Γ ρ (.Call (.Name x p) (o :: es) [] pos) (sbind ma fun t s => nb (m t (get s)) >>= fun r => .ok (r.1, put s r.2)) := by
  obtain ⟨f, fd, ps, hm, hk, hb, F⟩ := d.ex
  refine PE.imp (pe_call (E := E0) F hr hg hm hk hb .nil pass0 (pa_cons ho ha he) hdb he hpl) fun σ H Q ⟨s, f0, g, q⟩ => ?_
  obtain ⟨sl, h1, h2, h3⟩ := w.ok s
  obtain ⟨p, vs, e1, hf, hp, hr', _⟩ := g.ownL h1 h2
  refine ⟨_, e1, s, f0, g, q.chain.mono fun f1 H1 r1 g1 l1 q ws rs => ?_⟩
  obtain ⟨sl', h1', h2', h3'⟩ := w.ok r1.2
  obtain ⟨p', vs', e1', hf', hp', hr1, _⟩ := g1.ownL h1' h2'
  rw [e1] at e1'
  cases e1'
  show spF X.K encs m ((.ref p :: ws) ++ []) H1 Q E0
  rw [List.append_nil]
  refine ⟨p, ws, vs', get r1.2, r1.1, rfl, hp', hr1, rs, ?_⟩
  have q : RunF X.K Γ f1 ρ (nb (m r1.1 (get r1.2)) >>= fun r => .ok (r.1, put r1.2 r.2)) σ H1 fun f H' r => ∀ v, PD X.K f H H' v r.1 → Q v H' := q
  cases em : m r1.1 (get r1.2) with
  | ok r =>
    rw [em] at q
    intro v H' us' hk hp2 hu rv
    obtain ⟨g2, l2⟩ := g1.putH (ys := encF r.2) h1' h2' hf' hp' hk hp2 hu
    rw [← h3'] at g2
    exact q H' f1 g2 l2 v rv
  | err c as => rw [em] at q; exact q.elim
  | bad => rw [em] at q; exact q.elim
end
theorem good_startF {K : PySem.W.Frag} {H : Hp} {p : Addr} {us ws : List V} {fd : Fd} {ds : List PyData} {N : List Str} (hp : H p = some (.lst us)) (hu : RpAll K H us (encF fd)) (r : RpAll K H ws ds) : Good K [p] H (.io p (.lst (encF fd)) :: ρ0 ds (N.length - (ws.length + 1))) (L2.start N (.ref p :: ws)) H := by
  have hl := r.length
  refine ⟨fun i => if i = 0 then [p] else [], ?_, fun b o _ h => h, fun q h => ?_, fun i s hs => ?_, fun i hi => ?_, fun i j a h1 h2 => ?_⟩
  · unfold L2.start ρ0
    simp [hl]
  · have : q = p := by simpa using h
    subst this
    exact ⟨_, hp⟩
  · cases i with
    | zero =>
      cases hs
      exact ⟨some (.ref p), rfl, rfl, List.mem_singleton.mpr rfl, rfl, p, us, rfl, rfl, hp, hu⟩
    | succ i =>
      have hs : (ρ0 ds (N.length - (ws.length + 1)))[i]? = some s := hs
      have e : (L2.start N (.ref p :: ws))[i + 1]? = (ws.map some ++ List.replicate (N.length - (ws.length + 1)) none)[i]? := rfl
      rw [e]
      unfold ρ0 at hs
      by_cases hi : i < ds.length
      · rw [List.getElem?_append_left (by rw [List.length_map]; exact hi), List.getElem?_map] at hs
        obtain ⟨d, hd, rfl⟩ := Option.map_eq_some_iff.mp hs
        obtain ⟨v, e, q⟩ := r.get hd
        exact ⟨some v, by rw [List.getElem?_append_left (by rw [List.length_map]; omega), List.getElem?_map, e]; rfl, rfl, v, rfl, q⟩
      · rw [List.getElem?_append_right (by rw [List.length_map]; omega), List.getElem?_replicate] at hs
        split at hs
        · next h =>
          cases hs
          rw [List.length_map] at h
          exact ⟨none, by rw [List.getElem?_append_right (by rw [List.length_map]; omega), List.getElem?_replicate, List.length_map, if_pos (by omega)], rfl⟩
        · cases hs
  · cases i with
    | zero => cases hi
    | succ i => rfl
  · by_cases h : i = 0
    · by_cases h' : j = 0
      · rw [h, h']
      · simp only [if_neg h'] at h2; cases h2
    · simp only [if_neg h] at h1; cases h1
/-- how a def with a feed returns -/
def rtF (K : PySem.W.Frag) (p : Addr) (R : Type) [Enc R] : R × Fd → V → Hp → Prop := fun r v H => Rp K H v (enc r.1) ∧ ∃ us, H p = some (.lst us) ∧ RpAll K H us (encF r.2)
section
variable {P : Program} {w : World} {K : PySem.W.Frag} {mg : Str → Option Value} {base : Heap} {qual x : Str} {st : Stmt} {f : Addr} {fd : FuncData} {N ps : List Str} {k : Nat} {τ β R : Type}
theorem fnF_ok [Enc R] {encs : τ → List PyData} {M : τ → Fd → Res (Ctl Empty Empty (R × Fd))} (F : Fun K x qual st f fd) (Sc : FnScope N ps (defScope st)) (n : Nat) (hn : ∀ t, (encs t).length + 1 = ps.length) (hn2 : n = N.length - ps.length := by rfl)
    (hb : ∀ cdv A outer s H t fd0 p, Room k (A.deeper (envOfC qual (defScope st) s.heap.objs.size f cdv)) → ∀ E cl, Ss (cxOf CX0 P w K mg base N qual (defScope st) f cdv A outer s H E).nox ⟨noW, [p], H, .io p (.lst (encF fd0)) :: ρ0 (encs t) n, cl⟩ (.io p (.lst (encF fd0)) :: ρ0 (encs t) n) (defBody st) (M t fd0) (fun b : Empty => nomatch b) (fun b => nomatch b) (rtF K p R)) :
    FnOk P w K mg base CX0 (k + 1) f fd ps (spF K encs fun t fd0 => fnE (M t fd0)) := by
  refine F.ok Sc (fun vs H Q E h => ?_) (fun cdv A outer s H vs Q E hr h => ?_)
  · obtain ⟨p, ws, us, fd0, t, rfl, _, _, r, _⟩ := h
    rw [List.length_cons, r.length, hn]
  · obtain ⟨p, ws, us, fd0, t, rfl, hp, hu, r, q⟩ := h
    refine ⟨_, hb cdv A outer s H t fd0 p hr E (fun _ => none), ?_⟩
    obtain ⟨b, eb, q⟩ := nb_wp q
    have eb : fnE (M t fd0) = .ok b := eb
    have hl : ws.length + 1 = ps.length := by rw [r.length, hn]
    have G := good_startF (N := N) hp hu r
    rw [hl, ← hn2] at G
    refine ⟨G, ?_⟩
    cases eM : M t fd0 with
    | ok c =>
      rw [eM] at eb
      cases c with
      | rt r =>
        cases eb
        rintro v H' fin ⟨rv, us', hp', hu'⟩
        exact q v H' us' (fun a o na h => fin.1 a o (by simpa using na) h) hp' hu' rv
      | nx b => exact nomatch b
      | bk b => exact nomatch b
      | ct b => exact nomatch b
    | err c as => rw [eM] at eb; cases eb
    | bad => rw [eM] at eb; cases eb
end
section
variable {X : Cx} {Γ : Cn} {S α β γ : Type} {ρS : S → List Slot} {e : Expr} {pos : Pos} {ρn : β → List Slot} {ρg : γ → List Slot}
/-- return e, in a def with a feed -/
theorem s_retF [Enc α] {p : Addr} {mS : S → Res (α × S)} {get : S → Fd} (s0 : S) (i : Nat) (he : E X Γ ρS e mS) (hi : ∀ s, (ρS s)[i]? = some (.io p (.lst (encF (get s)))) := by intro _; rfl) :
    Ss X Γ (ρS s0) [.Return (some e) pos] (mS s0 >>= fun r => .ok (.rt (r.1, get r.2))) ρn ρg (rtF X.K p α) :=
  s_retS s0 (fun a s => (a, get s)) he fun a s σ H v g r => by
    obtain ⟨f, g⟩ := g
    obtain ⟨p', vs, e1, hf, hp, hr, _⟩ := g.ownL (hi s) (.inr ⟨p, rfl⟩)
    obtain ⟨v', e', q1, _, q3, _⟩ := g.slot i _ (hi s)
    rw [hf] at q1
    cases q1
    exact ⟨r, vs, hp, hr⟩
end
end DL

set_option Elab.async false
set_option linter.all false
set_option maxRecDepth 100000
set_option maxHeartbeats 4000000
namespace DL
open PySem PySem.Spec PyProof.Rows L2 Enc

/-! ### the rules as the printer writes them -/
def app1 {α β : Type} (k : α → β) (a : α) : β := k a
@[simp] theorem app1_eq {α β : Type} (k : α → β) (a : α) : app1 k a = k a := rfl
def sseq {S α δ : Type} (m : Res (α × S)) (k : α → S → Res δ) : Res δ := m >>= fun r => k r.1 r.2
section
variable {X : Cx} {Γ : Cn} {S α β γ δ R : Type} {st : Stmt} {rest body pa pb : List Stmt} {ρn : β → List Slot} {ρg : γ → List Slot} {rt : R → V → Hp → Prop} {e e1 e2 tg iter c o : Expr} {pos cpos apos p : Pos} {x : Str}
/-- name = e -/
theorem p_set [Enc α] {mS : S → Res (α × S)} {k : α → S → Res (Ctl β γ R)} (ρS : S → List Slot) (s0 : S) (i : Nat) (h : AE X Γ (PD X.K) ρS i st mS) (h2 : ∀ a s, Ss X Γ ((ρS s).set i (.dat (enc a))) rest (k a s) ρn ρg rt) (hl : ∀ s, i < (ρS s).length := by intro _; exact DL.lt_by rfl) :
    Ss X Γ (ρS s0) (st :: rest) (sseq (mS s0) k) ρn ρg rt := s_setS s0 h h2 hl
theorem p_setL [Enc α] {mS : S → Res (List α × S)} {k : List α → S → Res (Ctl β γ R)} (ρS : S → List Slot) (s0 : S) (i : Nat) (h : AE X Γ (PL (α := α) X.K) ρS i st mS) (h2 : ∀ a s, Ss X Γ ((ρS s).set i (.own (.lst (a.map enc)))) rest (k a s) ρn ρg rt) (hl : ∀ s, i < (ρS s).length := by intro _; exact DL.lt_by rfl) :
    Ss X Γ (ρS s0) (st :: rest) (sseq (mS s0) k) ρn ρg rt := s_setLS s0 h h2 hl
theorem p_setT [Enc α] {vs : List Nat} {ρ' : S → α → List Slot} {mS : S → Res (α × S)} {k : α → S → Res (Ctl β γ R)} (ρS : S → List Slot) (s0 : S) (he : E X Γ ρS e mS) (hg : ∀ s, G X Γ vs (ρS s) tg (ρ' s)) (hk : ∀ a s, Ss X Γ (ρ' s a) rest (k a s) ρn ρg rt)
    (hs : swapsWithSole [tg] e pos.line X.env = pure false := by rfl) (hw : swappedStores [tg] e X.env = pure none := by rfl) (h3 : (assignEach [tg] X.env).map (·.2) = [assign tg X.env] := by rfl) :
    Ss X Γ (ρS s0) (.Assign [tg] e pos :: rest) (sseq (mS s0) k) ρn ρg rt := s_setTS s0 he hg hk hs hw h3
theorem p_ret [Enc α] {mS : S → Res (α × S)} (ρS : S → List Slot) (s0 : S) (he : E X Γ ρS e mS) : Ss X Γ (ρS s0) [.Return (some e) pos] (sseq (mS s0) fun a _ => .ok (.rt a)) ρn ρg (rtD X.K α) :=
  s_retS s0 (fun a _ => a) he fun a s σ H v _ r => r
theorem p_retF [Enc α] {p : Addr} {mS : S → Res (α × S)} (ρS : S → List Slot) (s0 : S) (i : Nat) (get : S → Fd) (he : E X Γ ρS e mS) (hi : ∀ s, (ρS s)[i]? = some (.io p (.lst (encF (get s)))) := by intro _; rfl) :
    Ss X Γ (ρS s0) [.Return (some e) pos] (sseq (mS s0) fun a s => .ok (.rt (a, get s))) ρn ρg (rtF X.K p α) := s_retF s0 i he hi
theorem p_drop [Enc α] {mS : S → Res (α × S)} {k : α → S → Res (Ctl β γ R)} (ρS : S → List Slot) (s0 : S) (he : E X Γ ρS e mS) (hk : ∀ a s, Ss X Γ (ρS s) rest (k a s) ρn ρg rt) (hsw : swapsWith e none pos.line X.env = pure false := by rfl) :
    Ss X Γ (ρS s0) (.Expr e pos :: rest) (sseq (mS s0) k) ρn ρg rt := s_dropS s0 he hk hsw
theorem p_if {A Bm : S → Res (Ctl δ γ R)} {mS : S → Res (Bool × S)} {k : δ → Res (Ctl β γ R)} (ρS : S → List Slot) (s0 : S) (ρm : δ → List Slot) (hc : B X Γ ρS c mS) (ha : ∀ s, Ss X Γ (ρS s) pa (A s) ρm ρg rt) (hb : ∀ s, Ss X Γ (ρS s) pb (Bm s) ρm ρg rt) (hk : ∀ b, Ss X Γ (ρm b) rest (k b) ρn ρg rt) :
    Ss X Γ (ρS s0) (.If c pa pb pos :: rest) (seqC (sseq (mS s0) fun b s => if b = true then A s else Bm s) k) ρn ρg rt := s_cons (s_ifS s0 hc ha hb) hk
/-- an if at a block's end -/
theorem p_ifZ {A Bm : S → Res (Ctl β γ R)} {mS : S → Res (Bool × S)} (ρS : S → List Slot) (s0 : S) (hc : B X Γ ρS c mS) (ha : ∀ s, Ss X Γ (ρS s) pa (A s) ρn ρg rt) (hb : ∀ s, Ss X Γ (ρS s) pb (Bm s) ρn ρg rt) :
    Ss X Γ (ρS s0) [.If c pa pb pos] (sseq (mS s0) fun b s => if b = true then A s else Bm s) ρn ρg rt := s_one (s_ifS s0 hc ha hb)
theorem p_ifE {A : S → Res (Ctl Empty γ R)} {k : S → Res (Ctl β γ R)} {mS : S → Res (Bool × S)} (ρS : S → List Slot) (s0 : S) (hc : B X Γ ρS c mS) (ha : ∀ s, Ss X Γ (ρS s) pa (A s) (fun b => nomatch b) ρg rt) (hb : ∀ s, Ss X Γ (ρS s) rest (k s) ρn ρg rt) :
    Ss X Γ (ρS s0) (.If c pa [] pos :: rest) (sseq (mS s0) fun b s => if b = true then exitC (A s) else k s) ρn ρg rt := s_ifES s0 hc ha hb
theorem p_for [Enc α] {ρo : δ → List Slot} {ρb : γ → α → List Slot} {vs : List Nat} {bodyM : α → γ → Res (Ctl γ γ R)} {mS : S → Res (List α × S)} {k : γ → Res (Ctl β δ R)} (ρS : S → List Slot) (s0 : S) (ρl : γ → List Slot) (g0 : S → γ) (hp : PassesOwn (model X.prog X.w) X.A X.env X.xe) (hc : X.calm = true)
    (hi : EI X Γ ρS tg iter mS) (hw : ∀ s, Wk (ρS s) (ρl (g0 s))) (hg : ∀ g, G X Γ vs (ρl g) tg (ρb g)) (hb : ∀ x g, Ss X Γ (ρb g x) body (bodyM x g) ρl ρl rt) (hk : ∀ g, Ss X Γ (ρl g) rest (k g) ρn ρo rt)
    (hs : ∀ x, foldedSetIterable iter X.env x = pure x := by intro _; rfl) : Ss X Γ (ρS s0) (.For tg iter body [] pos :: rest) (seqC (sseq (mS s0) fun xs s => forR bodyM xs (g0 s)) k) ρn ρo rt := s_cons (s_forS s0 g0 hp hc hi hw hg hb hs) hk
theorem p_while {ρo : δ → List Slot} {cond : γ → Res Bool} {bodyM : γ → Res (Ctl γ γ R)} {k : γ → Res (Ctl β δ R)} {ρ : List Slot} (ρl : γ → List Slot) (g0 : γ) (n : Nat) (hp : PassesOwn (model X.prog X.w) X.A X.env X.xe)
    (hw : Wk ρ (ρl g0)) (hc : B X Γ ρl c (fun g => cond g >>= fun b => .ok (b, g))) (hb : ∀ g, Ss X Γ (ρl g) body (bodyM g) ρl ρl rt) (hk : ∀ g, Ss X Γ (ρl g) rest (k g) ρn ρo rt) : Ss X Γ ρ (.While c body [] pos :: rest) (seqC (whileR cond bodyM n g0) k) ρn ρo rt := s_cons (s_while g0 n hp hw hc hb) hk
theorem p_append [Enc α] {mS : S → Res (α × S)} {k : List α → S → Res (Ctl β γ R)} (ρS : S → List Slot) (s0 : S) (i : Nat) (get : S → List α) (ho : VarAt X i o) (he : E X Γ ρS e mS)
    (hk : ∀ l s, Ss X Γ ((ρS s).set i (.own (.lst (l.map enc)))) rest (k l s) ρn ρg rt) (h1 : ∀ s, (ρS s)[i]? = some (.own (.lst ((get s).map enc))) := by intro _; rfl)
    (hb : attributeBase o "append" X.env (eval o X.env) = eval o X.env := by rfl)
    (hfew : ((backTo cpos (starEach [e] X.env)).all (fun x => !x.1) && (backToKw cpos (keywordEach [] X.env)).all (fun x => x.1.isSome) && decide ([e].length + ([] : List Keyword).length + (if ([] : List Keyword).isEmpty then 0 else 1) < 30)) = true := by rfl)
    (hline : (apos.endLine == cpos.line) = true := by rfl) (hs : starEach [e] X.env = (false, eval e X.env) :: starEach [] X.env := by rfl) (hplain : (backTo cpos (starEach [] X.env)).any (·.1) = false := by rfl) (hsw : swapsWith (.Call (.Attribute o "append" apos) [e] [] cpos) none pos.line X.env = pure false := by rfl) :
    Ss X Γ (ρS s0) (.Expr (.Call (.Attribute o "append" apos) [e] [] cpos) pos :: rest) (sseq (mS s0) fun a s => ofOpt (appO (get s) a) >>= fun l => k l s) ρn ρg rt :=
  s_appendS (sl := fun s => .own (.lst ((get s).map enc))) (get := get) s0 ho h1 (fun _ => .inl rfl) he hk hb hfew hline hs hplain hsw
theorem p_extend [Enc α] {mS : S → Res (List α × S)} {k : List α → S → Res (Ctl β γ R)} (ρS : S → List Slot) (s0 : S) (i : Nat) (get : S → List α) (ho : VarAt X i o) (he : E X Γ ρS e mS)
    (hk : ∀ l s, Ss X Γ ((ρS s).set i (.own (.lst (l.map enc)))) rest (k l s) ρn ρg rt) (h1 : ∀ s, (ρS s)[i]? = some (.own (.lst ((get s).map enc))) := by intro _; rfl)
    (hb : attributeBase o "extend" X.env (eval o X.env) = eval o X.env := by rfl)
    (hfew : ((backTo cpos (starEach [e] X.env)).all (fun x => !x.1) && (backToKw cpos (keywordEach [] X.env)).all (fun x => x.1.isSome) && decide ([e].length + ([] : List Keyword).length + (if ([] : List Keyword).isEmpty then 0 else 1) < 30)) = true := by rfl)
    (hline : (apos.endLine == cpos.line) = true := by rfl) (hs : starEach [e] X.env = (false, eval e X.env) :: starEach [] X.env := by rfl) (hplain : (backTo cpos (starEach [] X.env)).any (·.1) = false := by rfl) (hsw : swapsWith (.Call (.Attribute o "extend" apos) [e] [] cpos) none pos.line X.env = pure false := by rfl) :
    Ss X Γ (ρS s0) (.Expr (.Call (.Attribute o "extend" apos) [e] [] cpos) pos :: rest) (sseq (mS s0) fun a s => ofOpt (extO (get s) a) >>= fun l => k l s) ρn ρg rt :=
  s_extendS (sl := fun s => .own (.lst ((get s).map enc))) (get := get) s0 ho h1 (fun _ => .inl rfl) he hk hb hfew hline hs hplain hsw
/-- the value in one store, S the unit -/
theorem un_lift [Enc α] {ρ : List Slot} {m : Unit → Res (α × Unit)} (h : E X Γ (fun _ : Unit => ρ) e m) : Em X Γ (fun _ : Unit => ρ) e (m () >>= fun r => .ok r.1) := EP.congr h fun s => by
  show (m () >>= fun r => Res.ok r.1) >>= (fun a => Res.ok (a, ())) = m ()
  cases m () <;> rfl
theorem un_liftA {τ : Type} {ρ : List Slot} {es : List Expr} {encs : τ → List PyData} {m : Unit → Res (τ × Unit)} (h : EA X Γ (fun _ : Unit => ρ) es m encs) : EA X Γ (fun _ : Unit => ρ) es (slift (m () >>= fun r => .ok r.1)) encs := EA.congr h fun s => by
  show (m () >>= fun r => Res.ok r.1) >>= (fun a => Res.ok (a, ())) = m ()
  cases m () <;> rfl
abbrev val1 {α : Type} (m : Unit → Res (α × Unit)) : Res α := m () >>= fun r => .ok r.1
theorem p_insert [Enc α] {ρ : List Slot} {m : Unit → Res ((Int × α) × Unit)} {k : List α → Res (Ctl β γ R)} {es : List Expr} (i : Nat) (xs : List α) (ho : VarAt X i o) (he : EA X Γ (fun _ : Unit => ρ) (e :: es) m enc2) (hk : ∀ l, Ss X Γ (ρ.set i (.own (.lst (l.map enc)))) rest (k l) ρn ρg rt) (h1 : ρ[i]? = some (.own (.lst (xs.map enc))) := by rfl)
    (hb : attributeBase o "insert" X.env (eval o X.env) = eval o X.env := by rfl)
    (hfew : ((backTo cpos (starEach (e :: es) X.env)).all (fun x => !x.1) && (backToKw cpos (keywordEach [] X.env)).all (fun x => x.1.isSome) && decide ((e :: es).length + ([] : List Keyword).length + (if ([] : List Keyword).isEmpty then 0 else 1) < 30)) = true := by rfl)
    (hline : (apos.endLine == cpos.line) = true := by rfl) (hs : starEach (e :: es) X.env = (false, eval e X.env) :: starEach es X.env := by rfl) (hplain : (backTo cpos (starEach es X.env)).any (·.1) = false := by rfl) (hsw : swapsWith (.Call (.Attribute o "insert" apos) (e :: es) [] cpos) none pos.line X.env = pure false := by rfl) :
    Ss X Γ ρ (.Expr (.Call (.Attribute o "insert" apos) (e :: es) [] cpos) pos :: rest) (val1 m >>= fun r => ofOpt (insO xs r.1 r.2) >>= k) ρn ρg rt := s_insert ho (un_liftA he) hk h1 hb hfew hline hs hplain hsw
theorem p_setItem [Enc α] {ρ : List Slot} {m : Unit → Res (α × Unit)} {mi : Unit → Res (Int × Unit)} {k : List α → Res (Ctl β γ R)} {ie : Expr} (i : Nat) (xs : List α) (ho : VarAt X i o) (he : E X Γ (fun _ : Unit => ρ) e m) (hi : E X Γ (fun _ : Unit => ρ) ie mi) (hk : ∀ l : List α, Ss X Γ (ρ.set i (.own (.lst (l.map enc)))) rest (k l) ρn ρg rt) (h1 : ρ[i]? = some (.own (.lst (xs.map enc))) := by rfl)
    (ha : ∀ v, assign (.Subscript o ie p) X.env v = (do
      let ov ← holding [v] (eval o X.env)
      let iv ← holding [v, ov] (eval ie X.env)
      standAt p
      holding [v, ov, iv] (setItem ov iv v)
      release [v, ov, iv] []) := by intro _; rfl)
    (hs : swapsWithSole [.Subscript o ie p] e pos.line X.env = pure false := by rfl) (hw : swappedStores [.Subscript o ie p] e X.env = pure none := by rfl) (h3 : (assignEach [.Subscript o ie p] X.env).map (·.2) = [assign (.Subscript o ie p) X.env] := by rfl) :
    Ss X Γ ρ (.Assign [.Subscript o ie p] e pos :: rest) (val1 m >>= fun a => val1 mi >>= fun j => ofOpt (setO xs j a) >>= k) ρn ρg rt := s_setItem ho (un_lift he) (un_lift hi) hk h1 ha hs hw h3
theorem p_augItem {ρ : List Slot} {op : Operator} {f : Int → Int → Int} {m mi : Unit → Res (Int × Unit)} {k : List Int → Res (Ctl β γ R)} {ie : Expr} (i : Nat) (xs : List Int) (hip : PIp X op (ipI f)) (ho : VarAt X i o) (hi : E X Γ (fun _ : Unit => ρ) ie mi) (he : E X Γ (fun _ : Unit => ρ) e m) (hk : ∀ l : List Int, Ss X Γ (ρ.set i (.own (.lst (l.map enc)))) rest (k l) ρn ρg rt) (h1 : ρ[i]? = some (.own (.lst (xs.map enc))) := by rfl)
    (ha : ∀ ov iv new, augStore ie ov iv new = (do holding [new, ov, iv] (setItem ov iv new); release [new, ov, iv] []; pure .next) := by intros; rfl) :
    Ss X Γ ρ (.AugAssign (.Subscript o ie p) op e pos :: rest) (val1 mi >>= fun j => ofOpt (atI xs j) >>= fun a => val1 m >>= fun b => ofOpt (setO xs j (f a b)) >>= k) ρn ρg rt := s_augItem hip ho (un_lift hi) (un_lift he) hk h1 ha
theorem p_aug {ρ : List Slot} {n : Int} {op : Operator} {f : Int → Int → Int} {m : Unit → Res (Int × Unit)} {k : Int → Res (Ctl β γ R)} (i : Nat) (n : Int) (hip : PIp X op (ipI f)) (hN : X.N.Nodup) (he : E X Γ (fun _ : Unit => ρ) e m) (hk : ∀ n : Int, Ss X Γ (ρ.set i (.dat (enc n))) rest (k n) ρn ρg rt) (hi : X.N[i]? = some x := by rfl) (hx : Loc X.env.scope x := by first | exact Or.inl rfl | exact Or.inr rfl)
    (h1 : ρ[i]? = some (.dat (enc n)) := by rfl) (hf : X.fn x = true ∨ X.env.scope.names.lookup x = some .local := by first | exact .inl rfl | exact .inr rfl | assumption) :
    Ss X Γ ρ (.AugAssign (.Name x p) op e pos :: rest) (val1 m >>= fun b => app1 k (f n b)) ρn ρg rt := s_aug hip hN (un_lift he) hk hi hx h1 hf
theorem p_swap [Enc α] {ρ : List Slot} {m : Unit → Res ((α × α) × Unit)} {m1 m2 : Unit → Res (Int × Unit)} {k : List α → Res (Ctl β γ R)} {i1 i2 : Expr} {es : List Expr} {p1 p2 pt pe : Pos} {kt ke : Nat} {o2 : Expr} (i : Nat) (xs : List α) (hc : X.calm = true) (ho : VarAt X i o) (ho2 : VarAt X i o2) (he : EA X Γ (fun _ : Unit => ρ) (e :: es) m enc2) (hi1 : E X Γ (fun _ : Unit => ρ) i1 m1) (hi2 : ∀ l : List α, E X Γ (fun _ : Unit => ρ.set i (.own (.lst (l.map enc)))) i2 m2)
    (hk : ∀ l, Ss X Γ (ρ.set i (.own (.lst (l.map enc)))) rest (k l) ρn ρg rt) (h1 : ρ[i]? = some (.own (.lst (xs.map enc))) := by rfl)
    (ha : ∀ v, assign (.Subscript o i1 p1) X.env v = (do
      let ov ← holding [v] (eval o X.env)
      let iv ← holding [v, ov] (eval i1 X.env)
      standAt p1
      holding [v, ov, iv] (setItem ov iv v)
      release [v, ov, iv] []) := by intro _; rfl)
    (ha2 : ∀ v, assign (.Subscript o2 i2 p2) X.env v = (do
      let ov ← holding [v] (eval o2 X.env)
      let iv ← holding [v, ov] (eval i2 X.env)
      standAt p2
      holding [v, ov, iv] (setItem ov iv v)
      release [v, ov, iv] []) := by intro _; rfl)
    (hs1 : (assignEach [.Subscript o i1 p1, .Subscript o2 i2 p2] X.env).map (·.2) = assign (.Subscript o i1 p1) X.env :: (assignEach [.Subscript o2 i2 p2] X.env).map (·.2) := by rfl) (hs2 : (assignEach [.Subscript o2 i2 p2] X.env).map (·.2) = assign (.Subscript o2 i2 p2) X.env :: (assignEach [] X.env).map (·.2) := by rfl)
    (hn : (assignEach [.Subscript o i1 p1, .Subscript o2 i2 p2] X.env).length = 2 := by rfl) (hst : (assignEach [.Subscript o i1 p1, .Subscript o2 i2 p2] X.env).findIdx? (·.1) = none := by rfl)
    (hs : swapsWithSole [.Tuple [.Subscript o i1 p1, .Subscript o2 i2 p2] kt pt] (.Tuple (e :: es) ke pe) pos.line X.env = pure false := by rfl) (hw : swappedStores [.Tuple [.Subscript o i1 p1, .Subscript o2 i2 p2] kt pt] (.Tuple (e :: es) ke pe) X.env = pure none := by rfl) (h3 : (assignEach [.Tuple [.Subscript o i1 p1, .Subscript o2 i2 p2] kt pt] X.env).map (·.2) = [assign (.Tuple [.Subscript o i1 p1, .Subscript o2 i2 p2] kt pt) X.env] := by rfl) :
    Ss X Γ ρ (.Assign [.Tuple [.Subscript o i1 p1, .Subscript o2 i2 p2] kt pt] (.Tuple (e :: es) ke pe) pos :: rest) (val1 m >>= fun ab => val1 m1 >>= fun j1 => ofOpt (setO xs j1 ab.1) >>= fun l => val1 m2 >>= fun j2 => ofOpt (setO l j2 ab.2) >>= k) ρn ρg rt :=
  s_swap hc ho ho2 (un_liftA he) (un_lift hi1) (fun l => un_lift (hi2 l)) hk h1 ha ha2 hs1 hs2 hn hst hs hw h3
/-- the two items of a pair, as arguments -/
theorem ea_two [Enc α] [Enc β] {ρS : S → List Slot} {a b : Expr} {ma : S → Res (α × S)} {mb : S → Res (β × S)} (ha : E X Γ ρS a ma) (hb : E X Γ ρS b mb) (he : starEach [a, b] X.env = (false, eval a X.env) :: starEach [b] X.env := by rfl) (he2 : starEach [b] X.env = (false, eval b X.env) :: starEach [] X.env := by rfl) :
    EA X Γ ρS [a, b] (sbind ma fun x => sbind mb fun y => spure (x, y)) enc2 :=
  PA.imp (pa_cons ha (pa_cons hb pa_nil he2) he) fun σ H Q ⟨s, f0, g, q⟩ => ⟨s, f0, g, q.chain.mono fun f1 H1 r1 g1 l1 q v rx => ⟨r1.2, f1, g1, q.chain.mono fun f2 H2 r2 g2 l2 q w ry => RunF.same q g2 (Same.refl _) [v, w] (.cons (rx.mono l2.le) (.cons ry .nil))⟩⟩
end
end DL

set_option Elab.async false
set_option linter.all false
set_option maxRecDepth 100000
set_option maxHeartbeats 4000000
namespace DL
open PySem PySem.Spec PyProof.Rows L2 Enc
theorem room65 {k : Nat} {A : Around} (hr : Room k A) : A.units + 65 < cLine := by have := hr.un; omega
/-- a def of the text -/
structure FnTx (K : PySem.W.Frag) (mg : Str → Option Value) (x : Str) (st : Stmt) (ps : List Str) : Prop where
  ex : ∃ f fd, mg x = some (.ref f) ∧ Fun K x x st f fd ∧ Binds K fd ps []
section
variable {P : Program} {w : World} {K : PySem.W.Frag} {mg : Str → Option Value} {base : Heap} {qual x : Str} {st : Stmt} {f : Addr} {fd : FuncData} {N ps : List Str} {k : Nat} {τ β R : Type}
theorem fnNE_ok [Enc R] {encs : τ → List PyData} {M : τ → Res (Ctl Empty Empty R)} (F : Fun K x qual st f fd) (Sc : FnScope N ps (defScope st)) (n : Nat) (hn : ∀ t, (encs t).length = ps.length) (hn2 : n = N.length - ps.length)
    (hb : ∀ cdv A outer s H t, Room k (A.deeper (envOfC qual (defScope st) s.heap.objs.size f cdv)) → ∀ E cl, Ss (cxOf CX0 P w K mg base N qual (defScope st) f cdv A outer s H E).nox ⟨noW, [], H, ρ0 (encs t) n, cl⟩ (ρ0 (encs t) n) (defBody st) (M t) (fun b : Empty => nomatch b) (fun b => nomatch b) (rtD K R)) :
    FnOk P w K mg base CX0 (k + 1) f fd ps (spN K encs fun t => fnE (M t)) := by
  refine F.ok Sc (fun vs H Q E h => ?_) (fun cdv A outer s H vs Q E hr h => ?_)
  · obtain ⟨t, r, _⟩ := h
    rw [r.length, hn]
  · obtain ⟨t, r, q⟩ := h
    refine ⟨_, hb cdv A outer s H t hr E (fun _ => none), ?_⟩
    obtain ⟨b, eb, q⟩ := nb_wp q
    have eb : fnE (M t) = .ok b := eb
    have hl : vs.length = ps.length := by rw [r.length, hn]
    have G := good_start (N := N) r
    rw [hl, ← hn2] at G
    refine ⟨G, ?_⟩
    cases eM : M t with
    | ok c =>
      rw [eM] at eb
      cases c with
      | rt r =>
        cases eb
        intro v H' fin rv
        exact q v H' (fun b o h => fin.1 b o (by simp) h) rv
      | nx b' => exact nomatch b'
      | bk b => exact nomatch b
      | ct b => exact nomatch b
    | err c as => rw [eM] at eb; cases eb
    | bad => rw [eM] at eb; cases eb
end
section
variable {X : Cx} {Γ : Cn} {S α β γ : Type} {ρ : S → List Slot} {a b c e o : Expr} {pos p cpos apos : Pos}
/-- not e, e a test, as a value -/
theorem e_notL [Enc α] {m : S → Res (List α × S)} (h : E X Γ ρ e m) : E X Γ ρ (.UnaryOp .Not e pos) (sbind m fun x => spure x.isEmpty) :=
  PE.imp (pe_notT h) fun σ H Q ⟨s, f0, g, q⟩ => ⟨s, f0, g, q.chain.mono fun f1 H1 r g1 l1 q v rx => by
    obtain ⟨p, xs, rfl, hf, hr, _⟩ := rx.lst_inv
    refine ⟨!r.1.isEmpty, .inl ⟨xs, hf.sq, ?_⟩, ?_⟩
    · have := hr.length
      cases xs <;> cases hl : r.1 <;> simp_all
    · rw [Bool.not_not]
      exact RunF.same q g1 (Same.refl _) _ (.bl _)⟩
theorem e_notO [Enc α] {i : Nat} {get : S → List α} (ho : VarAt X i o) (w : View ρ i get) : E X Γ ρ (.UnaryOp .Not o pos) (fun s => .ok ((get s).isEmpty, s)) :=
  PE.imp (pe_notT ho) fun σ H Q ⟨s, f0, g, q⟩ => by
    obtain ⟨sl, h1, h2⟩ := w.ok s
    obtain ⟨p, vs, e1, hf, hp, hr, _⟩ := g.ownL h1 h2
    refine ⟨_, e1, !(get s).isEmpty, .inl ⟨vs, SqL.of hp, ?_⟩, ?_⟩
    · have := RpAll.lenE hr
      cases vs <;> cases hl : get s <;> simp_all
    · rw [Bool.not_not]
      exact RunF.same q g (Same.refl _) _ (.bl _)
/-- a op1 b op2 c, ints -/
structure ChOp (op : CmpOp) (p : Int → Int → Prop) [∀ x y, Decidable (p x y)] : Prop where
  ok : ∀ X : Cx, OpR X (compareOp op) (rI0 fun i j => .bl (decide (p i j)))
theorem ch_lt : ChOp .Lt (fun x y => x < y) := ⟨fun X => op_lt⟩
theorem ch_le : ChOp .LtE (fun x y => x ≤ y) := ⟨fun X => op_le⟩
theorem ch_gt : ChOp .Gt (fun x y => y < x) := ⟨fun X => op_gt⟩
theorem ch_ge : ChOp .GtE (fun x y => y ≤ x) := ⟨fun X => op_ge⟩
theorem e_chain {op op' : CmpOp} {p1 p2 : Int → Int → Prop} [∀ x y, Decidable (p1 x y)] [∀ x y, Decidable (p2 x y)] {ma mb mc : S → Res (Int × S)} (h1 : ChOp op p1) (h2 : ChOp op' p2) (ha : E X Γ ρ a ma) (hb : E X Γ ρ b mb) (hc : E X Γ ρ c mc)
    (hm : lastMarks [op, op'] [b, c] = false := by with_unfolding_all rfl) :
    E X Γ ρ (.Compare a [op, op'] [b, c] pos) (sbind ma fun x => sbind mb fun y => if decide (p1 x y) = true then sbind mc fun z => spure (decide (p2 y z)) else spure false) :=
  PE.imp (pe_chain (h1.ok X) (h2.ok X) ha hb hc hm) fun σ H Q ⟨s, f0, g, q⟩ => ⟨s, f0, g, q.chain.mono fun f1 H1 r1 g1 l1 q v rx => ⟨r1.2, f1, g1, q.chain.mono fun f2 H2 r2 g2 l2 q w ry => by
    refine ⟨r1.1, r2.1, Rp.int_inv rx, Rp.int_inv ry, _, rfl, ?_⟩
    have q : RunF X.K Γ f2 ρ ((if decide (p1 r1.1 r2.1) = true then sbind mc fun z => spure (decide (p2 r2.1 z)) else spure false) r2.2) σ H2 fun f H' r => ∀ v, PD X.K f H H' v r.1 → Q v H' := q
    cases hd : decide (p1 r1.1 r2.1) with
    | true =>
      rw [hd] at q
      have q : RunF X.K Γ f2 ρ ((sbind mc fun z => spure (decide (p2 r2.1 z))) r2.2) σ H2 fun f H' r => ∀ v, PD X.K f H H' v r.1 → Q v H' := q
      exact iteT ⟨r2.2, f2, g2, q.chain.mono fun f3 H3 r3 g3 l3 q w3 rz => ⟨r2.1, r3.1, Rp.int_inv ry, Rp.int_inv rz, RunF.same q g3 (Same.refl _) _ (.bl _)⟩⟩
    | false =>
      rw [hd] at q
      exact iteF (RunF.same (show RunF X.K Γ f2 ρ (.ok (false, r2.2)) σ H2 _ from q) g2 (Same.refl _) _ (.bl _))⟩⟩
/-- the first place of an equal item -/
def indexO [DecidableEq α] (xs : List α) (x : α) : Option Int := if x ∈ xs then some ((xs.idxOf x : Nat) : Int) else none
theorem idx_spec [DecidableEq α] {xs : List α} {x : α} (h : x ∈ xs) : xs[xs.idxOf x]? = some x ∧ ∀ (m : Nat) (z : α), m < xs.idxOf x → xs[m]? = some z → z ≠ x := by
  induction xs with
  | nil => cases h
  | cons y ys ih =>
    by_cases e : y = x
    · subst e
      rw [List.idxOf_cons_self]
      exact ⟨rfl, fun m z hm => by omega⟩
    · have hx : x ∈ ys := (List.mem_cons.mp h).resolve_left fun z => e z.symm
      obtain ⟨h1, h2⟩ := ih hx
      have ec : (y :: ys).idxOf x = ys.idxOf x + 1 := by rw [List.idxOf_cons, beq_eq_false_iff_ne.mpr e]; rfl
      rw [ec]
      refine ⟨h1, fun m z hm hz => ?_⟩
      cases m with
      | zero => cases hz; exact e
      | succ m => exact h2 m z (by omega) hz
theorem e_index [Enc α] [DecidableEq α] [F : Flat α] {ma : S → Res (List α × S)} {mb : S → Res (α × S)} (hu : X.A.units + 65 < cLine) (ha : E X Γ ρ o ma) (hb : E X Γ ρ e mb) (hd : F.d + 1 ≤ 64 := by decide)
    (hbase : attributeBase o "index" X.env (eval o X.env) = eval o X.env := by rfl)
    (hfew : ((backTo cpos (starEach [e] X.env)).all (fun x => !x.1) && (backToKw cpos (keywordEach [] X.env)).all (fun x => x.1.isSome) && decide ([e].length + ([] : List Keyword).length + (if ([] : List Keyword).isEmpty then 0 else 1) < 30)) = true := by rfl)
    (hline : (apos.endLine == cpos.line) = true := by rfl) (hs : starEach [e] X.env = (false, eval e X.env) :: starEach [] X.env := by rfl) (hplain : (backTo cpos (starEach [] X.env)).any (·.1) = false := by rfl) :
    E X Γ ρ (.Call (.Attribute o "index" apos) [e] [] cpos) (sbind ma fun x => sbind mb fun y => slift (ofOpt (indexO x y))) :=
  PE.imp (pe_bm PySem.F.plainAttrs_list PySem.F.slot_list_index PySem.F.type_list_index (mt_indexD hu) ha (pa_cons hb pa_nil hs) hbase hfew hline hs hplain) fun σ H Q ⟨s, f0, g, q⟩ => ⟨s, f0, g, q.chain.mono fun f1 H1 r1 g1 l1 q v rx => by
    obtain ⟨p, xs, rfl, hf, hr, hz⟩ := rx.lst_inv
    refine ⟨.inl ⟨rfl, _, hf.sq⟩, r1.2, f1, g1, q.chain.mono fun f2 H2 r2 g2 l2 q w ry => ?_⟩
    obtain ⟨cc, ec, q⟩ := run_opt q
    unfold indexO at ec
    split at ec
    · next hm =>
      cases ec
      obtain ⟨h1, h2⟩ := idx_spec hm
      refine ⟨p, w, enc r2.1, r1.1.map enc, r1.1.idxOf r2.1, enc r2.1, rfl, rfl, (Rp.mono l2.le rx).dp, Rp.dp ry, flat_shaped (α := List α) hd r1.1, flat_shaped (Nat.le_of_succ_le hd) r2.1, by rw [List.getElem?_map, h1]; rfl, by rw [F.eqv]; exact decide_eq_true rfl, fun m z' hm' hz' => ?_, RunF.same q g2 (Same.refl _) _ (.int _)⟩
      rw [List.getElem?_map] at hz'
      obtain ⟨z, hz1, rfl⟩ := Option.map_eq_some_iff.mp hz'
      rw [F.eqv]
      exact decide_eq_false (h2 m z hm' hz1)
    · cases ec⟩
/-- e in xs, xs one's own -/
theorem e_inO [Enc α] [DecidableEq α] [F : Flat α] {i : Nat} {get : S → List α} {ma : S → Res (α × S)} (hu : X.A.units + 65 < cLine) (ha : E X Γ ρ a ma) (ho : VarAt X i o) (w : View ρ i get) (hd : F.d + 1 ≤ 64 := by decide) (hm : behindInMarks .In o = false := by rfl) : E X Γ ρ (.Compare a [.In] [o] pos) (sbind ma fun x s => .ok (decide (x ∈ get s), s)) :=
  PE.imp (pe_cmpR (op_inD hu) ha ho hm) fun σ H Q ⟨s, f0, g, q⟩ => ⟨s, f0, g, q.chain.mono fun f1 H1 r g1 l1 q v rx => by
    obtain ⟨sl, h1, h2⟩ := w.ok r.2
    obtain ⟨p, vs, e1, hf, hp, hr, _⟩ := g1.ownL h1 h2
    refine ⟨_, e1, enc r.1, (get r.2).map enc, Rp.dp rx, .lst (SqL.of hp) (RpAll.dp hr), flat_shaped (Nat.le_of_succ_le hd) r.1, flat_shaped (α := List α) hd (get r.2), ?_⟩
    rw [any_mem]
    exact RunF.same (show RunF X.K Γ f1 ρ (.ok (decide (r.1 ∈ get r.2), r.2)) σ H1 _ from q) g1 (Same.refl _) _ (.bl _)⟩
theorem e_notInO [Enc α] [DecidableEq α] [F : Flat α] {i : Nat} {get : S → List α} {ma : S → Res (α × S)} (hu : X.A.units + 65 < cLine) (ha : E X Γ ρ a ma) (ho : VarAt X i o) (w : View ρ i get) (hd : F.d + 1 ≤ 64 := by decide) (hm : behindInMarks .NotIn o = false := by rfl) : E X Γ ρ (.Compare a [.NotIn] [o] pos) (sbind ma fun x s => .ok (!decide (x ∈ get s), s)) :=
  PE.imp (pe_cmpR (op_notInD hu) ha ho hm) fun σ H Q ⟨s, f0, g, q⟩ => ⟨s, f0, g, q.chain.mono fun f1 H1 r g1 l1 q v rx => by
    obtain ⟨sl, h1, h2⟩ := w.ok r.2
    obtain ⟨p, vs, e1, hf, hp, hr, _⟩ := g1.ownL h1 h2
    refine ⟨_, e1, enc r.1, (get r.2).map enc, Rp.dp rx, .lst (SqL.of hp) (RpAll.dp hr), flat_shaped (Nat.le_of_succ_le hd) r.1, flat_shaped (α := List α) hd (get r.2), ?_⟩
    rw [any_mem]
    exact RunF.same (show RunF X.K Γ f1 ρ (.ok (!decide (r.1 ∈ get r.2), r.2)) σ H1 _ from q) g1 (Same.refl _) _ (.bl _)⟩
end
section
variable {X : Cx} {Γ : Cn} {S α β γ δ R : Type} {st : Stmt} {rest : List Stmt} {ρn : β → List Slot} {ρg : γ → List Slot} {rt : R → V → Hp → Prop} {e : Expr} {pos p pos' : Pos} {x y : Str} {k : Nat}
/-- the def that makes the feed -/
def spMk (K : PySem.W.Frag) : Sp := fun vs H Q _ => ∃ (a : Addr) (script : List Int), vs = [.ref a] ∧ SqL K H a (script.map V.int) ∧ script.length ≤ sizeLine ∧ ∀ H' l us, H l = none → Same H H' → H' l = some (.lst us) → RpAll K H' us (encF ⟨script, 0, 0, 1⟩) → Q (.ref l) H'
structure DefMk (P : Program) (w : World) (K : PySem.W.Frag) (mg : Str → Option Value) (base : Heap) (k : Nat) (x : Str) : Prop where
  ex : ∃ f fd ps, mg x = some (.ref f) ∧ PySem.W.keepIn K (.ref f) = true ∧ Binds K fd ps [] ∧ FnOk P w K mg base CX0 k f fd ps (spMk K)
/-- feed = _law_feed(script), the law's first statement; then the rest, data -/
theorem law_start {rest : List Stmt} {st : Stmt} {N : List Str} {n : Nat} {script : List Int} {a : Addr} {H : Hp} {M : Res (Ctl Empty Empty Bool)} {cl : String → Option (Addr × List Str)} (hN : N.length = n + 2) (h1 : PS X st (tAsg (tCall (spMk X.K) [] E0 (tCons (tVar 0) tNil)) (gName 1)))
    (hr : ∀ H0, Ss X ⟨noW, [], H0, List.replicate N.length .any, cl⟩ (.any :: .own (.lst (encF ⟨script, 0, 0, 1⟩)) :: List.replicate n .any) rest M (fun b : Empty => nomatch b) (fun b : Empty => nomatch b) (rtD X.K Bool))
    (hS : SqL X.K H a (script.map V.int)) (hl : script.length ≤ sizeLine) (hM : fnE M = .ok true) (Q : VK) (hQ : ∀ H', Q (.bl true) H') :
    ∃ t, PSs X (st :: rest) t ∧ t { nx := fun _ H' => Q .non H', rt := Q } (L2.start N [.ref a]) H := by
  refine ⟨_, pss_cons h1 (PSs.ex hr), ?_⟩
  refine ⟨.ref a, by unfold L2.start; rfl, a, script, rfl, hS, hl, fun H' l us hn sm hl' hu => ⟨H, ?_, ?_⟩⟩
  · have e : (L2.start N [.ref a]).set 1 (some (.ref l)) = some (.ref a) :: some (.ref l) :: List.replicate n none := by
      unfold L2.start
      have : N.length - [V.ref a].length = n + 1 := by rw [hN]; rfl
      rw [this]
      rfl
    rw [e]
    refine ⟨fun i => if i = 1 then [l] else [], by simp, fun b o _ h => sm b o h, fun p h => (by cases h), fun i s hs => ?_, fun i hi => ?_, fun i j b h1 h2 => ?_⟩
    · match i, hs with
      | 0, hs => cases hs; exact ⟨some (.ref a), rfl, rfl⟩
      | 1, hs =>
        cases hs
        exact ⟨some (.ref l), rfl, fun b hb => by
          have : b = l := by simpa using hb
          rw [this]; exact ⟨hn, by simp⟩, .ref l, rfl, l, us, rfl, rfl, hl', hu⟩
      | i + 2, hs =>
        have hs : (List.replicate n Slot.any)[i]? = some s := hs
        rw [List.getElem?_replicate] at hs
        split at hs
        · next h => cases hs; exact ⟨none, by show (List.replicate n none)[i]? = some none; rw [List.getElem?_replicate, if_pos h], by show _ = []; simp⟩
        · cases hs
    · match i, hi with
      | i + 2, _ => simp
    · by_cases h : i = 1
      · by_cases h' : j = 1
        · rw [h, h']
        · simp only [if_neg h'] at h2; cases h2
      · simp only [if_neg h] at h1; cases h1
  · cases M with
    | ok c =>
      cases c with
      | rt r =>
        cases hM
        intro v H2 fin rv
        have : v = .bl true := Rp.bl_inv rv
        rw [this]; exact hQ H2
      | nx b => exact nomatch b
      | bk b => exact nomatch b
      | ct b => exact nomatch b
    | err c as => cases hM
    | bad => cases hM
def spLaw (K : PySem.W.Frag) : Sp := fun vs H Q _ => ∃ (a : Addr) (ns : List Int), vs = [.ref a] ∧ SqL K H a (ns.map V.int) ∧ ns.length ≤ sizeLine ∧ ∀ H', Q (.bl true) H'
end
end DL

set_option Elab.async false
set_option linter.all false
set_option maxRecDepth 100000
set_option maxHeartbeats 4000000
namespace DL
open PySem PySem.Spec PyProof.Rows L2 Enc
/-- a comparison, as a value and as a test -/
structure Cj (X : Cx) (Γ : Cn) {S : Type} (ρ : S → List Slot) (e : Expr) (m : S → Res (Bool × S)) : Prop where
  toE : E X Γ ρ e m
  toB : B X Γ ρ e m
section
variable {X : Cx} {Γ : Cn} {S α β γ : Type} {ρ : S → List Slot} {a b c e o : Expr} {pos p cpos apos : Pos}
theorem tT_test {m : S → Res (Bool × S)} {t : TE} (i : ∀ σ H Q, tE X.K Γ (PD X.K) ρ m σ H Q → t σ H Q) {σ : L2.St} {H : Hp} {Q : Bool → Hp → Prop} (h : tT X.K Γ ρ m σ H Q) : tTest t σ H Q := by
  obtain ⟨s, f0, g, q⟩ := h
  exact i _ _ _ ⟨s, f0, g, q.mono fun f H' r g l q v rx => ⟨r.1, Rp.bl_inv rx, q⟩⟩
theorem Cj.mk2 {m : S → Res (Bool × S)} {t : TE} (he : PE X e t) (ht : PT X e (tTest t)) (i : ∀ σ H Q, tE X.K Γ (PD X.K) ρ m σ H Q → t σ H Q) : Cj X Γ ρ e m := ⟨PE.imp he i, PT.imp ht fun σ H Q h => tT_test i h⟩
theorem Cj.mkB {m : S → Res (Bool × S)} {t : TE} (he : PE X e t) (ht : PT X e (tB t)) (i : ∀ σ H Q, tE X.K Γ (PD X.K) ρ m σ H Q → t σ H Q) : Cj X Γ ρ e m := ⟨PE.imp he i, PT.imp ht fun σ H Q h => tT_test i h⟩
theorem c_cmp [Enc α] [Enc β] {op : CmpOp} {r : R2} {g : α → β → Option Bool} {ma : S → Res (α × S)} {mb : S → Res (β × S)} (ho : OpR X (compareOp op) r) (hr : BOk X.K (PD X.K) r g) (hP : PKok (PD (α := Bool) X.K)) (ha : E X Γ ρ a ma) (hb : E X Γ ρ b mb)
    (hm : behindInMarks op b = false := by rfl) : Cj X Γ ρ (.Compare a [op] [b] pos) (sbind ma fun x => sbind mb fun y => slift (ofOpt (g x y))) := Cj.mk2 (pe_cmpR ho ha hb hm) (pt_cmpR ho ha hb hm) fun σ H Q h => e_two hr hP h
theorem c_lt {ma mb : S → Res (Int × S)} (ha : E X Γ ρ a ma) (hb : E X Γ ρ b mb) : Cj X Γ ρ (.Compare a [.Lt] [b] pos) (sbind ma fun x => sbind mb fun y => spure (decide (x < y))) := c_cmp op_lt bok_bl0 pd_ok ha hb (nomark _)
theorem c_le {ma mb : S → Res (Int × S)} (ha : E X Γ ρ a ma) (hb : E X Γ ρ b mb) : Cj X Γ ρ (.Compare a [.LtE] [b] pos) (sbind ma fun x => sbind mb fun y => spure (decide (x ≤ y))) := c_cmp op_le bok_bl0 pd_ok ha hb (nomark _)
theorem c_gt {ma mb : S → Res (Int × S)} (ha : E X Γ ρ a ma) (hb : E X Γ ρ b mb) : Cj X Γ ρ (.Compare a [.Gt] [b] pos) (sbind ma fun x => sbind mb fun y => spure (decide (y < x))) := c_cmp op_gt bok_bl0 pd_ok ha hb (nomark _)
theorem c_ge {ma mb : S → Res (Int × S)} (ha : E X Γ ρ a ma) (hb : E X Γ ρ b mb) : Cj X Γ ρ (.Compare a [.GtE] [b] pos) (sbind ma fun x => sbind mb fun y => spure (decide (y ≤ x))) := c_cmp op_ge bok_bl0 pd_ok ha hb (nomark _)
theorem c_eq [Enc α] [DecidableEq α] [F : Flat α] {ma mb : S → Res (α × S)} (hu : X.A.units + 64 < cLine) (ha : E X Γ ρ a ma) (hb : E X Γ ρ b mb) (hd : F.d ≤ 64 := by decide) : Cj X Γ ρ (.Compare a [.Eq] [b] pos) (sbind ma fun x => sbind mb fun y => spure (decide (x = y))) :=
  c_cmp (g := fun x y : α => some (decide (x = y))) (op_eqD hu) (fun H x y a b c Q rx ry e q => by
    cases e
    refine ⟨_, _, rx.dp, ry.dp, flat_shaped hd a, flat_shaped hd b, ?_⟩
    rw [F.eqv]
    exact q.here (.bl _)) pd_ok ha hb (nomark _)
theorem c_ne [Enc α] [DecidableEq α] [F : Flat α] {ma mb : S → Res (α × S)} (hu : X.A.units + 64 < cLine) (ha : E X Γ ρ a ma) (hb : E X Γ ρ b mb) (hd : F.d ≤ 64 := by decide) : Cj X Γ ρ (.Compare a [.NotEq] [b] pos) (sbind ma fun x => sbind mb fun y => spure (!decide (x = y))) :=
  c_cmp (g := fun x y : α => some (!decide (x = y))) (op_neD hu) (fun H x y a b c Q rx ry e q => by
    cases e
    refine ⟨_, _, rx.dp, ry.dp, flat_shaped hd a, flat_shaped hd b, ?_⟩
    rw [F.eqv]
    exact q.here (.bl _)) pd_ok ha hb (nomark _)
theorem c_eqD {ma mb : S → Res (PyData × S)} (hu : X.A.units + 64 < cLine) (ha : E X Γ ρ a ma) (hb : E X Γ ρ b mb) : Cj X Γ ρ (.Compare a [.Eq] [b] pos) (sbind ma fun x => sbind mb fun y => slift (ofOpt (eqD x y))) :=
  c_cmp (g := eqD) (op_eqD hu) (fun H x y a b c Q rx ry e q => by
    obtain ⟨⟨h1, h2⟩, rfl⟩ := chk_some e
    exact ⟨_, _, rx.dp, ry.dp, h1, h2, q.here (.bl _)⟩) pd_ok ha hb (nomark _)
theorem c_neD {ma mb : S → Res (PyData × S)} (hu : X.A.units + 64 < cLine) (ha : E X Γ ρ a ma) (hb : E X Γ ρ b mb) : Cj X Γ ρ (.Compare a [.NotEq] [b] pos) (sbind ma fun x => sbind mb fun y => slift (ofOpt (neD x y))) :=
  c_cmp (g := neD) (op_neD hu) (fun H x y a b c Q rx ry e q => by
    obtain ⟨r, e1, e2⟩ := Option.map_eq_some_iff.mp e
    obtain ⟨⟨h1, h2⟩, rfl⟩ := chk_some e1
    subst e2
    exact ⟨_, _, rx.dp, ry.dp, h1, h2, q.here (.bl _)⟩) pd_ok ha hb (nomark _)
theorem c_eqS {ma mb : S → Res (Str × S)} (ha : E X Γ ρ a ma) (hb : E X Γ ρ b mb) : Cj X Γ ρ (.Compare a [.Eq] [b] pos) (sbind ma fun x => sbind mb fun y => spure (decide (x = y))) :=
  c_cmp (g := fun x y : Str => some (decide (x = y))) op_eq (fun H x y a b c Q rx ry e q => by
    cases e
    rw [rx.str_inv, ry.str_inv]
    refine ⟨rfl, ?_⟩
    rw [dec_str, Bool.beq_eq_decide_eq]
    exact q.here (.bl _)) pd_ok ha hb (nomark _)
theorem c_neS {ma mb : S → Res (Str × S)} (ha : E X Γ ρ a ma) (hb : E X Γ ρ b mb) : Cj X Γ ρ (.Compare a [.NotEq] [b] pos) (sbind ma fun x => sbind mb fun y => spure (!decide (x = y))) :=
  c_cmp (g := fun x y : Str => some (!decide (x = y))) op_ne (fun H x y a b c Q rx ry e q => by
    cases e
    rw [rx.str_inv, ry.str_inv]
    refine ⟨rfl, ?_⟩
    rw [dec_str, Bool.beq_eq_decide_eq]
    exact q.here (.bl _)) pd_ok ha hb (nomark _)
theorem c_isN [Enc α] {ma : S → Res (α × S)} {j : Nat} {p : Pos} (ha : E X Γ ρ a ma) : Cj X Γ ρ (.Compare a [.Is] [.Constant .none j p] pos) (sbind ma fun x => spure (isN (enc x))) :=
  Cj.mkB (pe_cmp (pc_isN ha)) (pt_cmp (pc_isN ha)) fun σ H Q ⟨s, f0, g, q⟩ => ⟨s, f0, g, q.chain.mono fun f H' r g l q v rx => by
    show Q (V.bl (decide (v = V.non))) H'
    rw [rx.isN]
    exact RunF.same q g (Same.refl _) _ (.bl _)⟩
theorem c_notN [Enc α] {ma : S → Res (α × S)} {j : Nat} {p : Pos} (ha : E X Γ ρ a ma) : Cj X Γ ρ (.Compare a [.IsNot] [.Constant .none j p] pos) (sbind ma fun x => spure (!isN (enc x))) :=
  Cj.mkB (pe_cmp (pc_notN ha)) (pt_cmp (pc_notN ha)) fun σ H Q ⟨s, f0, g, q⟩ => ⟨s, f0, g, q.chain.mono fun f H' r g l q v rx => by
    show Q (V.bl (!decide (v = V.non))) H'
    rw [rx.isN]
    exact RunF.same q g (Same.refl _) _ (.bl _)⟩
theorem c_isB {ma mb : S → Res (Bool × S)} (ha : E X Γ ρ a ma) (hb : E X Γ ρ b mb) : Cj X Γ ρ (.Compare a [.Is] [b] pos) (sbind ma fun x => sbind mb fun y => spure (decide (x = y))) :=
  c_cmp (g := fun x y : Bool => some (decide (x = y))) op_isBl (fun H x y a b c Q rx ry e q => by
    cases e
    exact ⟨a, b, rx.bl_inv, ry.bl_inv, q.here (.bl _)⟩) pd_ok ha hb (nomark _)
theorem c_notB {ma mb : S → Res (Bool × S)} (ha : E X Γ ρ a ma) (hb : E X Γ ρ b mb) : Cj X Γ ρ (.Compare a [.IsNot] [b] pos) (sbind ma fun x => sbind mb fun y => spure (!decide (x = y))) :=
  c_cmp (g := fun x y : Bool => some (!decide (x = y))) op_notBl (fun H x y a b c Q rx ry e q => by
    cases e
    exact ⟨a, b, rx.bl_inv, ry.bl_inv, q.here (.bl _)⟩) pd_ok ha hb (nomark _)
theorem c_in [Enc α] [DecidableEq α] [F : Flat α] {ma : S → Res (α × S)} {mb : S → Res (List α × S)} (hu : X.A.units + 65 < cLine) (ha : E X Γ ρ a ma) (hb : E X Γ ρ b mb) (hd : F.d + 1 ≤ 64 := by decide) (hm : behindInMarks .In b = false := by rfl) : Cj X Γ ρ (.Compare a [.In] [b] pos) (sbind ma fun x => sbind mb fun y => spure (decide (x ∈ y))) :=
  c_cmp (g := fun (x : α) (y : List α) => some (decide (x ∈ y))) (op_inD hu) (fun H x y a b c Q rx ry e q => by
    cases e
    refine ⟨_, b.map enc, rx.dp, ry.dp, flat_shaped (Nat.le_of_succ_le hd) a, flat_shaped (α := List α) hd b, ?_⟩
    rw [any_mem]
    exact q.here (.bl _)) pd_ok ha hb hm
theorem c_notIn [Enc α] [DecidableEq α] [F : Flat α] {ma : S → Res (α × S)} {mb : S → Res (List α × S)} (hu : X.A.units + 65 < cLine) (ha : E X Γ ρ a ma) (hb : E X Γ ρ b mb) (hd : F.d + 1 ≤ 64 := by decide) (hm : behindInMarks .NotIn b = false := by rfl) : Cj X Γ ρ (.Compare a [.NotIn] [b] pos) (sbind ma fun x => sbind mb fun y => spure (!decide (x ∈ y))) :=
  c_cmp (g := fun (x : α) (y : List α) => some (!decide (x ∈ y))) (op_notInD hu) (fun H x y a b c Q rx ry e q => by
    cases e
    refine ⟨_, b.map enc, rx.dp, ry.dp, flat_shaped (Nat.le_of_succ_le hd) a, flat_shaped (α := List α) hd b, ?_⟩
    rw [any_mem]
    exact q.here (.bl _)) pd_ok ha hb hm
theorem c_inT [Enc α] [DecidableEq α] [F : Flat α] {ma : S → Res (α × S)} {mb : S → Res (Tup α × S)} (hu : X.A.units + 65 < cLine) (ha : E X Γ ρ a ma) (hb : E X Γ ρ b mb) (hd : F.d + 1 ≤ 64 := by decide) (hm : behindInMarks .In b = false := by rfl) : Cj X Γ ρ (.Compare a [.In] [b] pos) (sbind ma fun x => sbind mb fun y => spure (decide (x ∈ y.l))) :=
  c_cmp (g := fun (x : α) (y : Tup α) => some (decide (x ∈ y.l))) (op_inTD hu) (fun H x y a b c Q rx ry e q => by
    cases e
    refine ⟨_, b.l.map enc, rx.dp, ry.dp, flat_shaped (Nat.le_of_succ_le hd) a, flat_shaped (α := Tup α) hd b, ?_⟩
    rw [any_mem]
    exact q.here (.bl _)) pd_ok ha hb hm
theorem c_notInT [Enc α] [DecidableEq α] [F : Flat α] {ma : S → Res (α × S)} {mb : S → Res (Tup α × S)} (hu : X.A.units + 65 < cLine) (ha : E X Γ ρ a ma) (hb : E X Γ ρ b mb) (hd : F.d + 1 ≤ 64 := by decide) (hm : behindInMarks .NotIn b = false := by rfl) : Cj X Γ ρ (.Compare a [.NotIn] [b] pos) (sbind ma fun x => sbind mb fun y => spure (!decide (x ∈ y.l))) :=
  c_cmp (g := fun (x : α) (y : Tup α) => some (!decide (x ∈ y.l))) (op_notInTD hu) (fun H x y a b c Q rx ry e q => by
    cases e
    refine ⟨_, b.l.map enc, rx.dp, ry.dp, flat_shaped (Nat.le_of_succ_le hd) a, flat_shaped (α := Tup α) hd b, ?_⟩
    rw [any_mem]
    exact q.here (.bl _)) pd_ok ha hb hm
theorem c_chain {op op' : CmpOp} {p1 p2 : Int → Int → Prop} [∀ x y, Decidable (p1 x y)] [∀ x y, Decidable (p2 x y)] {ma mb mc : S → Res (Int × S)} (h1 : ChOp op p1) (h2 : ChOp op' p2) (ha : E X Γ ρ a ma) (hb : E X Γ ρ b mb) (hc : E X Γ ρ c mc)
    (hm : lastMarks [op, op'] [b, c] = false := by with_unfolding_all rfl) :
    Cj X Γ ρ (.Compare a [op, op'] [b, c] pos) (sbind ma fun x => sbind mb fun y => if decide (p1 x y) = true then sbind mc fun z => spure (decide (p2 y z)) else spure false) :=
  Cj.mk2 (pe_chain (h1.ok X) (h2.ok X) ha hb hc hm) (pt_chain (h1.ok X) (h2.ok X) ha hb hc hm) fun σ H Q ⟨s, f0, g, q⟩ => ⟨s, f0, g, q.chain.mono fun f1 H1 r1 g1 l1 q v rx => ⟨r1.2, f1, g1, q.chain.mono fun f2 H2 r2 g2 l2 q w ry => by
    refine ⟨r1.1, r2.1, Rp.int_inv rx, Rp.int_inv ry, _, rfl, ?_⟩
    have q : RunF X.K Γ f2 ρ ((if decide (p1 r1.1 r2.1) = true then sbind mc fun z => spure (decide (p2 r2.1 z)) else spure false) r2.2) σ H2 fun f H' r => ∀ v, PD X.K f H H' v r.1 → Q v H' := q
    cases hd : decide (p1 r1.1 r2.1) with
    | true =>
      rw [hd] at q
      have q : RunF X.K Γ f2 ρ ((sbind mc fun z => spure (decide (p2 r2.1 z))) r2.2) σ H2 fun f H' r => ∀ v, PD X.K f H H' v r.1 → Q v H' := q
      exact iteT ⟨r2.2, f2, g2, q.chain.mono fun f3 H3 r3 g3 l3 q w3 rz => ⟨r2.1, r3.1, Rp.int_inv ry, Rp.int_inv rz, RunF.same q g3 (Same.refl _) _ (.bl _)⟩⟩
    | false =>
      rw [hd] at q
      exact iteF (RunF.same (show RunF X.K Γ f2 ρ (.ok (false, r2.2)) σ H2 _ from q) g2 (Same.refl _) _ (.bl _))⟩⟩
theorem c_inO [Enc α] [DecidableEq α] [F : Flat α] {i : Nat} {get : S → List α} {ma : S → Res (α × S)} (hu : X.A.units + 65 < cLine) (ha : E X Γ ρ a ma) (ho : VarAt X i o) (w : View ρ i get) (hd : F.d + 1 ≤ 64 := by decide) (hm : behindInMarks .In o = false := by rfl) : Cj X Γ ρ (.Compare a [.In] [o] pos) (sbind ma fun x s => .ok (decide (x ∈ get s), s)) :=
  Cj.mk2 (pe_cmpR (op_inD hu) ha ho hm) (pt_cmpR (op_inD hu) ha ho hm) fun σ H Q ⟨s, f0, g, q⟩ => ⟨s, f0, g, q.chain.mono fun f1 H1 r g1 l1 q v rx => by
    obtain ⟨sl, h1, h2⟩ := w.ok r.2
    obtain ⟨p, vs, e1, hf, hp, hr, _⟩ := g1.ownL h1 h2
    refine ⟨_, e1, enc r.1, (get r.2).map enc, Rp.dp rx, .lst (SqL.of hp) (RpAll.dp hr), flat_shaped (Nat.le_of_succ_le hd) r.1, flat_shaped (α := List α) hd (get r.2), ?_⟩
    rw [any_mem]
    exact RunF.same (show RunF X.K Γ f1 ρ (.ok (decide (r.1 ∈ get r.2), r.2)) σ H1 _ from q) g1 (Same.refl _) _ (.bl _)⟩
theorem c_notInO [Enc α] [DecidableEq α] [F : Flat α] {i : Nat} {get : S → List α} {ma : S → Res (α × S)} (hu : X.A.units + 65 < cLine) (ha : E X Γ ρ a ma) (ho : VarAt X i o) (w : View ρ i get) (hd : F.d + 1 ≤ 64 := by decide) (hm : behindInMarks .NotIn o = false := by rfl) : Cj X Γ ρ (.Compare a [.NotIn] [o] pos) (sbind ma fun x s => .ok (!decide (x ∈ get s), s)) :=
  Cj.mk2 (pe_cmpR (op_notInD hu) ha ho hm) (pt_cmpR (op_notInD hu) ha ho hm) fun σ H Q ⟨s, f0, g, q⟩ => ⟨s, f0, g, q.chain.mono fun f1 H1 r g1 l1 q v rx => by
    obtain ⟨sl, h1, h2⟩ := w.ok r.2
    obtain ⟨p, vs, e1, hf, hp, hr, _⟩ := g1.ownL h1 h2
    refine ⟨_, e1, enc r.1, (get r.2).map enc, Rp.dp rx, .lst (SqL.of hp) (RpAll.dp hr), flat_shaped (Nat.le_of_succ_le hd) r.1, flat_shaped (α := List α) hd (get r.2), ?_⟩
    rw [any_mem]
    exact RunF.same (show RunF X.K Γ f1 ρ (.ok (!decide (r.1 ∈ get r.2), r.2)) σ H1 _ from q) g1 (Same.refl _) _ (.bl _)⟩
end
end DL

set_option Elab.async false
set_option linter.all false
set_option maxRecDepth 100000
set_option maxHeartbeats 4000000
namespace DL
open PySem PySem.Spec PyProof.Rows L2 Enc
section
variable {X : Cx} {Γ : Cn} {S α β γ δ R : Type} {ρ : List Slot} {st : Stmt} {rest : List Stmt} {ρn : β → List Slot} {ρg : γ → List Slot} {rt : R → V → Hp → Prop} {e o ie : Expr} {pos p : Pos}
/-- xs[j] = e, what comes of it known -/
theorem s_setItemD [Enc α] [Enc δ] {i : Nat} {sl : Slot} {xs : List α} {j : Int} (cv : δ → α) (ys : δ → List α) {m : Unit → Res (δ × Unit)} {k : δ → Res (Ctl β γ R)} (ho : VarAt X i o) (he : E X Γ (fun _ : Unit => ρ) e m) (hcv : ∀ z, enc (cv z) = enc z) (hi : Ep X Γ (fun _ : Unit => ρ) ie j) (h1 : ρ[i]? = some sl) (h2 : IsL sl (xs.map enc)) (hy : ∀ a, setO xs j (cv a) = some (ys a)) (hk : ∀ a, Ss X Γ (ρ.set i (sl.put ((ys a).map enc))) rest (k a) ρn ρg rt)
    (ha : ∀ v, assign (.Subscript o ie p) X.env v = (do
      let ov ← holding [v] (eval o X.env)
      let iv ← holding [v, ov] (eval ie X.env)
      standAt p
      holding [v, ov, iv] (setItem ov iv v)
      release [v, ov, iv] []) := by intro _; rfl)
    (hs : swapsWithSole [.Subscript o ie p] e pos.line X.env = pure false := by rfl) (hw : swappedStores [.Subscript o ie p] e X.env = pure none := by rfl) (h3 : (assignEach [.Subscript o ie p] X.env).map (·.2) = [assign (.Subscript o ie p) X.env] := by rfl) :
    Ss X Γ ρ (.Assign [.Subscript o ie p] e pos :: rest) (val1 m >>= k) ρn ρg rt :=
  PSs.imp (pss_cons (ps_asg (un_lift he) (pg_sub ho hi set_list ha) hs hw h3) (PSs.ex hk)) fun D σ H q => by
    obtain ⟨⟨f0, g⟩, q⟩ := q
    rw [← lift_bind, wpR_bind] at q
    refine ⟨(), f0, g, wpR_mono q (fun r q H1 f1 g1 l1 v rx => ?_) fun _ _ z => z.w σ⟩
    obtain ⟨p, vs, e1, hf, hp, hr, _⟩ := g1.ownL h1 h2
    refine ⟨_, e1, (), f1, g1, fun H2 f2 g2 l2 v' rx' => ?_⟩
    obtain ⟨p', vs', e1', hf', hp', hr', _⟩ := g2.ownL h1 h2
    rw [e1] at e1'
    cases e1'
    obtain ⟨j', ej, ey⟩ := Option.map_eq_some_iff.mp (hy r.1)
    have hj := Rp.int_inv rx'
    obtain ⟨g3, l3⟩ := g2.putL (ys := (ys r.1).map enc) (ws := vs'.set j' v) h1 h2 hf' hp' (by rw [← ey, List.map_set]; exact RpAll.set j' (by rw [hcv]; exact rx.mono l2.le) hr')
    exact ⟨p, vs', j, j', rfl, hj, hp', by rw [RpAll.lenE hr']; exact ej, _, ⟨f2, g3⟩, wpR_mono q (fun c q => q.le ((l1.le.trans l2.le).trans l3.le)) fun _ _ z => z.le ((l1.le.trans l2.le).trans l3.le)⟩
theorem s_augItemD [Enc α] {i : Nat} {sl : Slot} {xs : List α} {op : Operator} {f : Int → Int → Int} {j n : Int} {a : α} {m : Res Int} (b' : Int → α) (ys : Int → List α) {k : Int → Res (Ctl β γ R)} (hip : PIp X op (ipI f)) (ho : VarAt X i o) (hi : Ep X Γ (fun _ : Unit => ρ) ie j) (he : Em X Γ (fun _ : Unit => ρ) e m) (h1 : ρ[i]? = some sl) (h2 : IsL sl (xs.map enc)) (hj : atI xs j = some a) (ha' : enc a = .int n) (hb' : ∀ z, enc (b' z) = .int z) (hy : ∀ z, setO xs j (b' z) = some (ys z)) (hk : ∀ z, Ss X Γ (ρ.set i (sl.put ((ys z).map enc))) rest (k z) ρn ρg rt)
    (ha : ∀ ov iv new, augStore ie ov iv new = (do holding [new, ov, iv] (setItem ov iv new); release [new, ov, iv] []; pure .next) := by intros; rfl) :
    Ss X Γ ρ (.AugAssign (.Subscript o ie p) op e pos :: rest) (m >>= fun b => app1 k (f n b)) ρn ρg rt :=
  PSs.imp (pss_cons (ps_augS ho hi get_list he hip set_list ha) (PSs.ex hk)) fun D σ H q => by
    obtain ⟨⟨f0, g⟩, q⟩ := q
    obtain ⟨p, vs, e1, hf, hp, hr, _⟩ := g.ownL h1 h2
    refine ⟨_, e1, (), f0, g, fun H1 f1 g1 l1 v rx => ?_⟩
    obtain ⟨p1, vs1, e1', hf1, hp1, hr1, _⟩ := g1.ownL h1 h2
    rw [e1] at e1'
    cases e1'
    have hjv := Rp.int_inv rx
    obtain ⟨y, ey, ry⟩ := own_at hr1 hj
    refine ⟨p, vs1, j, y, rfl, hjv, SqL.of hp1, ey, ?_⟩
    rw [← lift_bind, wpR_bind] at q
    refine ⟨(), f1, g1, wpR_mono q (fun r2 q H2 f2 g2 l2 v2 rx2 => ?_) fun _ _ z => ((z.le l1.le).w σ)⟩
    obtain ⟨p2, vs2, e1', hf2, hp2, hr2, _⟩ := g2.ownL h1 h2
    rw [e1] at e1'
    cases e1'
    obtain ⟨j', ej, eys⟩ := Option.map_eq_some_iff.mp (hy (f n r2.1))
    rw [ha'] at ry
    have hyv : y = .int n := Rp.int_inv (i := n) ry
    have hv2 := Rp.int_inv rx2
    refine ⟨n, r2.1, hyv, hv2, ?_⟩
    obtain ⟨g3, l3⟩ := g2.putL (ys := (ys (f n r2.1)).map enc) (ws := vs2.set j' (.int (f n r2.1))) h1 h2 hf2 hp2 (by rw [← eys, List.map_set]; exact RpAll.set j' (by rw [hb']; exact .int _) hr2)
    exact ⟨p, vs2, j, j', rfl, hjv, hp2, by rw [RpAll.lenE hr2]; exact ej, _, ⟨f2, g3⟩, wpR_mono q (fun c q => q.le ((l1.le.trans l2.le).trans l3.le)) fun _ _ z => z.le ((l1.le.trans l2.le).trans l3.le)⟩
/-- return of a list that is new -/
def rtL (K : PySem.W.Frag) (H0 : Hp) : List PyData → V → Hp → Prop := fun r v H' => ∃ l us, v = .ref l ∧ H0 l = none ∧ H' l = some (.lst us) ∧ RpAll K H' us r
theorem s_retL {m : Res (List PyData)} (he : Lm X Γ (fun _ : Unit => ρ) e m) : Ss X Γ ρ [.Return (some e) pos] (m >>= fun a => .ok (.rt a)) ρn ρg (rtL X.K Γ.H0) :=
  pss_one (PS.imp (ps_ret he) fun D σ H q => by
    have G0 := q.1
    have q : tS X.K Γ ((fun _ : Unit => ρ) ()) (slift m () >>= fun r => Res.ok (Ctl.rt (β := β) (γ := γ) r.1)) ρn ρg (rtL X.K Γ.H0) D σ H := by
      rw [lift_bind (k := fun a => Res.ok (Ctl.rt (β := β) (γ := γ) a))]; exact q
    exact tE_of (k := fun a _ => .ok (.rt a)) q fun a s v H' f g l p q => by
      obtain ⟨d, vs, rfl, hn, nf, hv, hz, hr⟩ := p
      refine q _ H' (Good.fin ⟨f, g⟩) ⟨d, vs, rfl, (G0.newAt hn).1, hv, ?_⟩
      have : a.map enc = a := List.map_id a
      rwa [this] at hr)
end

/-! ### the two defs of the feed -/
abbrev fdS (p : Addr) (f : Fd) : Slot := .io p (.lst ((encF f).map enc))
/-- a draw: 0 ≤ the answer < many -/
def drw (many : Int) (f : Fd) : Int × Fd :=
  let f1 : Fd := if f.big = 0 ∧ f.pos < f.script.length then
      let cell := (f.script.getD f.pos.toNat 0).natAbs
      if (10 : Int) ^ 18 ≤ cell then ⟨f.script, f.pos + 1, cell, f.seed⟩ else ⟨f.script, f.pos + 1, f.big, (f.seed * 48271 + cell * 69621 + (f.pos + 1)) % 2147483647⟩
    else f
  if 0 < f1.big then (f1.big % many, ⟨f1.script, f1.pos, f1.big / many, f1.seed⟩)
  else
    let sd := (f1.seed * 16807 + 12345) % 2147483647
    ((sd * sd + sd) % 2147483629 / 11 % many, ⟨f1.script, f1.pos, f1.big, sd⟩)
structure Fd.Ok (f : Fd) : Prop where
  pos : 0 ≤ f.pos
  seed : 0 ≤ f.seed ∧ f.seed < 2147483647
theorem drw_ok {many : Int} {f : Fd} (h : f.Ok) (hm : 0 < many) : 0 ≤ (drw many f).1 ∧ (drw many f).1 < many ∧ (drw many f).2.Ok := by
  obtain ⟨h1, h2, h3⟩ := h
  have key : ∀ f1 : Fd, f1.Ok → 0 ≤ (if 0 < f1.big then (f1.big % many, (⟨f1.script, f1.pos, f1.big / many, f1.seed⟩ : Fd)) else ((((f1.seed * 16807 + 12345) % 2147483647) * ((f1.seed * 16807 + 12345) % 2147483647) + ((f1.seed * 16807 + 12345) % 2147483647)) % 2147483629 / 11 % many, ⟨f1.script, f1.pos, f1.big, (f1.seed * 16807 + 12345) % 2147483647⟩)).1 ∧ (if 0 < f1.big then (f1.big % many, (⟨f1.script, f1.pos, f1.big / many, f1.seed⟩ : Fd)) else ((((f1.seed * 16807 + 12345) % 2147483647) * ((f1.seed * 16807 + 12345) % 2147483647) + ((f1.seed * 16807 + 12345) % 2147483647)) % 2147483629 / 11 % many, ⟨f1.script, f1.pos, f1.big, (f1.seed * 16807 + 12345) % 2147483647⟩)).1 < many ∧
      (if 0 < f1.big then (f1.big % many, (⟨f1.script, f1.pos, f1.big / many, f1.seed⟩ : Fd)) else ((((f1.seed * 16807 + 12345) % 2147483647) * ((f1.seed * 16807 + 12345) % 2147483647) + ((f1.seed * 16807 + 12345) % 2147483647)) % 2147483629 / 11 % many, ⟨f1.script, f1.pos, f1.big, (f1.seed * 16807 + 12345) % 2147483647⟩)).2.Ok := by
    intro f1 ⟨q1, q2, q3⟩
    split
    · exact ⟨Int.emod_nonneg _ (by omega), Int.emod_lt_of_pos _ hm, q1, q2, q3⟩
    · exact ⟨Int.emod_nonneg _ (by omega), Int.emod_lt_of_pos _ hm, q1, Int.emod_nonneg _ (by omega), Int.emod_lt_of_pos _ (by omega)⟩
  unfold drw
  dsimp only
  refine key _ ?_
  split
  · split
    · exact ⟨by show 0 ≤ f.pos + 1; omega, h2, h3⟩
    · exact ⟨by show 0 ≤ f.pos + 1; omega, Int.emod_nonneg _ (by omega), Int.emod_lt_of_pos _ (by omega)⟩
  · exact ⟨h1, h2, h3⟩
instance (f : Fd) : Decidable f.Ok := decidable_of_iff (0 ≤ f.pos ∧ 0 ≤ f.seed ∧ f.seed < 2147483647) ⟨fun h => ⟨h.1, h.2⟩, fun h => ⟨h.pos, h.seed⟩⟩
/-- a draw, where it can be made -/
def drawR (many : Int) (f : Fd) : Res (Int × Fd) := if 0 < many ∧ many < 1073741824 ∧ f.Ok then .ok (drw many f) else .bad

section
variable {X : Cx} {Γ : Cn} {S β : Type} {ρS : S → List Slot} {o ie : Expr} {pos : Pos}
theorem e_fd [Enc β] {i : Nat} {j : Int} (get : S → Fd) (b : S → β) (ho : VarAt X i o) (w : View ρS i (fun s => encF (get s))) (he : Ep X Γ ρS ie j) (hb : ∀ s, atI (encF (get s)) j = some (enc (b s))) (hs : PlainIx ie := by intro _ _; rfl) : E X Γ ρS (.Subscript o ie pos) (fun s => .ok (b s, s)) :=
  PE.imp (e_ixO ho w he hs) fun σ H Q ⟨s, f0, g, q⟩ => ⟨s, f0, g, by
    show RunF X.K Γ f0 ρS ((fun s => (ofOpt (atI (encF (get s)) j) >>= fun a => .ok (a, s))) s) σ H _
    have e : (fun s => (ofOpt (atI (encF (get s)) j) >>= fun a => Res.ok (a, s))) s = .ok (enc (b s), s) := by
      show (ofOpt (atI (encF (get s)) j) >>= fun a => Res.ok (a, s)) = _
      rw [hb]; rfl
    rw [e]
    exact q⟩
theorem view_io {α : Type} [Enc α] {i : Nat} {p : Addr} {get : S → List α} (h : ∀ s, (ρS s)[i]? = some (.io p (.lst ((get s).map enc))) := by intro _; rfl) : View ρS i get := ⟨fun s => ⟨_, h s, .inr ⟨p, rfl⟩⟩⟩
end
end DL

set_option Elab.async false
set_option linter.all false
set_option maxRecDepth 100000
set_option maxHeartbeats 4000000
namespace DL
open PySem PySem.Spec PyProof.Rows L2 Enc
section
variable {prog : Program} {w : World} {A : Around} {R : Result → Shared → Prop} {I : Addr} {fp wr : List Addr} {n : Nat} {P : Nat → Value → Prop} {St : Nat → Heap → Prop}
/-- the loop of max(.., default=d), from its j-th item on: vb is the best so far -/
theorem mx_loop (d : Value) (W : Walks prog w A.in1 I fp wr n P St) (bt : Nat → Nat → Bool) (hcmp : CmpOf prog w A.in1 .Gt P bt) (S : Addr) (hSf : S ∉ fp) :
    ∀ (k j : Nat) (s : Shared) (vb : Value) (c : Nat), k = n - (j + 1) → j < n → St (j + 1) s.heap → P (argBest bt j) vb →
    s.heap.get? S = some { cls := .type "list", dict := none, data := .seq #[vb, vb] c, slots := #[] } →
    (∀ v h' tk, P (argBest bt (n - 1)) v → (∀ b o, b ∉ wr → b ≠ S → s.heap.get? b = some o → h'.get? b = some o) → R (.ok (.ret v)) { s with heap := h', toks := tk }) →
    codeAny (model prog w) A (.builtin "max.loop" ⟨[.ref I, .none, .ref S], [("default", d)]⟩) R s := by
  have nw : S ∉ wr := fun h => hSf (W.sub _ h)
  have nm : (toString "max" ++ toString ".loop" : String) = "max.loop" := by decide
  intro k
  induction k with
  | zero =>
    intro j s vb c hk hj hst hPb hS hR
    have ej : j + 1 = n := by omega
    refine (codeAny_builtin PySem.F.entry_max_loop) ?_
    rw [Around.under_plainId PySem.F.plain_max_loop]
    show wpAny _ A.in1 (seqItems? (.ref S) >>= fun _ => _) _ _ s
    refine wpAny_bind (wpAny_seqItems hS rfl (?_))
    show wpAny _ A.in1 (tryCatch (pyNext (.ref I)) (fun _ => _) >>= fun _ => _) _ _ s
    refine wpAny_bind (wpAny_tryCatch (W.done s _ _ (ej ▸ hst) (fun h1 tk hk1 => ?_)))
    have hS1 := hk1 S _ nw hS
    show wpAny _ A.in1 (updateSeq S (fun _ => #[]) >>= fun _ => _) _ _ _
    refine wpAny_bind (wpAny_updateSeq hS1 rfl (wpAny_bind (wpAny_letGo (wpAny_pure ?_))))
    exact hR vb _ tk (by rw [← ej]; exact hPb) fun b o hb1 hb2 e => (Heap.get?_update_other _ _ (Ne.symm hb2)).trans (hk1 b o hb1 e)
  | succ k ih =>
    intro j s vb c hk hj hst hPb hS hR
    have lt : j + 1 < n := by omega
    refine (codeAny_builtin PySem.F.entry_max_loop) ?_
    rw [Around.under_plainId PySem.F.plain_max_loop]
    show wpAny _ A.in1 (seqItems? (.ref S) >>= fun _ => _) _ _ s
    refine wpAny_bind (wpAny_seqItems hS rfl (?_))
    show wpAny _ A.in1 (tryCatch (pyNext (.ref I)) (fun _ => _) >>= fun _ => _) _ _ s
    refine wpAny_bind (wpAny_tryCatch (W.item (j + 1) s _ _ lt hst (fun v h1 tk hP hst1 hk1 => ?_)))
    have hS1 := hk1 S _ nw hS
    show wpAny _ A.in1 (tryCatch (holding [v, v] (richCompare .Gt v vb >>= fun _ => _)) (fun _ => _) >>= fun _ => _) _ _ _
    refine wpAny_bind (wpAny_tryCatch (wpAny_holding (wpAny_bind (hcmp (j + 1) (argBest bt j) v vb _ _ _ hP hPb (?_)))))
    refine wpAny_bind (wpAny_holding (wpAny_truthy_bool (?_)))
    refine wpAny_bind (wpAny_letGo (wpAny_pure (?_)))
    cases hb : bt (j + 1) (argBest bt j) with
    | true =>
      simp only [if_true]
      refine wpAny_bind (wpAny_updateSeq hS1 rfl (wpAny_bind (wpAny_letGo ?_)))
      rw [nm]
      refine wpAny_pure ⟨plainId_quiet PySem.F.plain_max_loop _, ih (j + 1) _ v _ (by omega) lt (W.frame _ _ _ hst1 (fun b hbf o e => (Heap.get?_update_other _ _ (fun h : S = b => hSf (by rw [h]; exact hbf))).trans e)) (by simp only [argBest, hb, if_true]; exact hP) (Heap.get?_update_self _ hS1 rfl) (fun v2 h2 tk2 hP2 hk2 => ?_)⟩
      exact hR v2 h2 tk2 hP2 fun b o hb1 hb2 e => hk2 b o hb1 hb2 ((Heap.get?_update_other _ _ (Ne.symm hb2)).trans (hk1 b o hb1 e))
    | false =>
      simp only [Bool.false_eq_true, if_false]
      refine wpAny_bind (wpAny_letGo (?_))
      rw [nm]
      refine wpAny_pure ⟨plainId_quiet PySem.F.plain_max_loop _, ih (j + 1) _ vb c (by omega) lt hst1 (by simp only [argBest, hb, Bool.false_eq_true, if_false]; exact hPb) hS1 (fun v2 h2 tk2 hP2 hk2 => ?_)⟩
      exact hR v2 h2 tk2 hP2 fun b o hb1 hb2 e => hk2 b o hb1 hb2 (hk1 b o hb1 e)
/-- .. from its first item on -/
theorem mx_first (d : Value) (W : Walks prog w A.in1 I fp wr n P St) (bt : Nat → Nat → Bool) (hcmp : CmpOf prog w A.in1 .Gt P bt) (S : Addr) (hSf : S ∉ fp) {s : Shared} {c : Nat} (hst : St 0 s.heap)
    (hS : s.heap.get? S = some { cls := .type "list", dict := none, data := .seq #[] c, slots := #[] })
    (h0 : n = 0 → ∀ h' tk, (∀ b o, b ∉ wr → b ≠ S → s.heap.get? b = some o → h'.get? b = some o) → R (.ok (.ret d)) { s with heap := h', toks := tk })
    (hR : 0 < n → ∀ v h' tk, P (argBest bt (n - 1)) v → (∀ b o, b ∉ wr → b ≠ S → s.heap.get? b = some o → h'.get? b = some o) → R (.ok (.ret v)) { s with heap := h', toks := tk }) :
    codeAny (model prog w) A (.builtin "max.loop" ⟨[.ref I, .none, .ref S], [("default", d)]⟩) R s := by
  have nw : S ∉ wr := fun h => hSf (W.sub _ h)
  have nm : (toString "max" ++ toString ".loop" : String) = "max.loop" := by decide
  refine (codeAny_builtin PySem.F.entry_max_loop) ?_
  rw [Around.under_plainId PySem.F.plain_max_loop]
  show wpAny _ A.in1 (seqItems? (.ref S) >>= fun _ => _) _ _ s
  refine wpAny_bind (wpAny_seqItems hS rfl (?_))
  show wpAny _ A.in1 (tryCatch (pyNext (.ref I)) (fun _ => _) >>= fun _ => _) _ _ s
  by_cases hn : 0 < n
  · refine wpAny_bind (wpAny_tryCatch (W.item 0 s _ _ hn hst (fun v h1 tk hP hst1 hk1 => ?_)))
    have hS1 := hk1 S _ nw hS
    show wpAny _ A.in1 (updateSeq S (fun _ => #[v, v]) >>= fun _ => _) _ _ _
    refine wpAny_bind (wpAny_updateSeq hS1 rfl (?_))
    rw [nm]
    refine wpAny_pure ⟨plainId_quiet PySem.F.plain_max_loop _, mx_loop d W bt hcmp S hSf _ 0 _ v _ rfl hn (W.frame _ _ _ hst1 (fun b hbf o e => (Heap.get?_update_other _ _ (fun h : S = b => hSf (by rw [h]; exact hbf))).trans e)) hP (Heap.get?_update_self _ hS1 rfl) (fun v2 h2 tk2 hP2 hk2 => ?_)⟩
    exact hR hn v2 h2 tk2 hP2 fun b o hb1 hb2 e => hk2 b o hb1 hb2 ((Heap.get?_update_other _ _ (Ne.symm hb2)).trans (hk1 b o hb1 e))
  · have e0 : n = 0 := by omega
    subst e0
    refine wpAny_bind (wpAny_tryCatch (W.done s _ _ hst (fun h1 tk hk1 => ?_)))
    show wpAny _ A.in1 (do rule s!"max.default"; ret d) _ _ _
    refine wpAny_bind (wpAny_rule (wpAny_pure ?_))
    exact h0 rfl h1 tk fun b o hb1 hb2 e => hk1 b o hb1 e
end
theorem mx_args (a d : Value) : argsOk "max" ⟨[a], [(Str.ofString "default", d)]⟩ := by unfold argsOk; kernel_rfl
section
variable {prog : Program} {w : World} {A : Around} {E : Value → Shared → Prop} {s : Shared}
theorem mx_call {x d : Value} {Q : Value → Shared → Prop}
    (h : wpAny (model prog w) A.in1 (pyIter x) (fun it s₂ => ∃ (I : Addr) (fp wr : List Addr) (n : Nat) (P : Nat → Value → Prop) (St : Nat → Heap → Prop) (bt : Nat → Nat → Bool), it = .ref I ∧ Walks prog w A.in1 I fp wr n P St ∧ St 0 s₂.heap ∧ (∀ b ∈ fp, b < s₂.heap.objs.size) ∧ CmpOf prog w A.in1 .Gt P bt ∧
      (n = 0 → ∀ h' tk, (∀ b o, b ∉ wr → s₂.heap.get? b = some o → h'.get? b = some o) → Q d { s₂ with heap := h', toks := tk }) ∧
      (0 < n → ∀ v h' tk, P (argBest bt (n - 1)) v → (∀ b o, b ∉ wr → s₂.heap.get? b = some o → h'.get? b = some o) → Q v { s₂ with heap := h', toks := tk })) E s) :
    wpAny (model prog w) A (call (.builtin "max") [x] [(Str.ofString "default", d)]) Q E s := by
  have nm : (toString "max" ++ toString ".loop" : String) = "max.loop" := by decide
  have core : wpAny (model prog w) A.in1 (Builtin.«max» ⟨[x], [(Str.ofString "default", d)]⟩) (fun fin s' => match fin with
      | .done f => (match (Except.ok f : Result) with | .ok (.ret v) => Q v s' | .ok _ => False | .error e => E e s')
      | .again c' => c'.quiet = true ∧ codeAny (model prog w) A c' (fun r s' => match r with | .ok (.ret v) => Q v s' | .ok _ => False | .error e => E e s') s') E s := by
    show wpAny _ A.in1 (Builtin.Builtins.bindParams "max" ["key", "default"] 0 ⟨[], [(Str.ofString "default", d)]⟩ >>= fun _ => _) _ _ s
    refine wpAny_bind (wpAny_of_eq (show Builtin.Builtins.bindParams "max" ["key", "default"] 0 ⟨[], [(Str.ofString "default", d)]⟩ = pure [none, some d] from by first | rfl | kernel_rfl) ?_)
    refine wpAny_bind (wpAny_pure (?_))
    refine wpAny_bind (wpAny_mono h (fun it s2 h2 => ?_) fun _ _ e => e)
    obtain ⟨I, fp, wr, n, P, St, bt, rfl, W, hst, hfp, hcmp, hQ0, hQ⟩ := h2
    refine wpAny_bind (wpAny_newObj_type (?_))
    have hSf : s2.heap.objs.size ∉ fp := fun hm => Nat.lt_irrefl _ (hfp _ hm)
    rw [nm]
    refine wpAny_pure ⟨plainId_quiet PySem.F.plain_max_loop _, mx_first d W bt hcmp s2.heap.objs.size hSf (W.frame _ _ _ hst (fun b _ o e => Heap.get?_push_of_some _ e)) (Heap.get?_push_size _ rfl) (fun e0 h' tk hk => ?_) (fun hn v h' tk hP hk => ?_)⟩
    · exact hQ0 e0 h' tk fun b o hbw e => hk b o hbw (Nat.ne_of_lt (Heap.lt_size e)) (Heap.get?_push_of_some _ e)
    · exact hQ hn v h' tk hP fun b o hbw e => hk b o hbw (Nat.ne_of_lt (Heap.lt_size e)) (Heap.get?_push_of_some _ e)
  refine wpAny_call (codeAny_call_builtin PySem.F.plain_max PySem.F.entry_max (?_))
  simp only [checkBuiltinCall, PySem.F.kind_max]
  cases hsig : Manifest.signature? "max" with
  | none => exact wpAny_pure core
  | some sig =>
    have hb : Bind.checkArgs "max" sig ⟨[x], [(Str.ofString "default", d)]⟩ = pure () := by simpa only [argsOk, hsig] using mx_args x d
    simp only [hb]
    exact wpAny_pure core
end
/-- the greatest, or d -/
def maxD (ns : List Int) (d : Int) : Option Int := match ns with
  | [] => some d
  | _ => maxL ns
section
variable {X : Cx} {Γ : Cn} {S : Type} {ρ : S → List Slot} {a b : Expr} {p pos kp : Pos}
def rMxD (K : PySem.W.Frag) : List V → List V → Hp → VK → Prop := fun xs zs H Q => ∃ (l : Addr) (ns : List Int) (d : Int), xs = [.ref l] ∧ zs = [.int d] ∧ SqL K H l (ns.map V.int) ∧ (ns = [] → Q (.int d) H) ∧ (∀ m, m ∈ ns → (∀ y, y ∈ ns → y ≤ m) → Q (.int m) H)
theorem cr_mxD (hc : X.calm = true) : CallRK X (.builtin "max") ["default"] (rMxD X.K) := by
  intro pins s σ H xs zs us ws Q I rx rz h
  obtain ⟨l, ns, d, rfl, rfl, hs, q0, q⟩ := h
  obtain ⟨its, rv, hl, _⟩ := I.list hs
  rw [Vals.ref1 rx]
  obtain ⟨dv, rfl, rd⟩ := rz.one
  have hi := rv.ints
  obtain ⟨is, e⟩ := hi.allInts.items
  have hn : numsOf (intItems is).toList = ns := by rw [← e]; exact hi.numsOf
  rw [nums_intItems] at hn
  have hl' := hl.isList
  rw [e] at hl'
  have hh := I.ok.hd hc
  refine mx_call (iter_intList hl' fun s₂ e st hfp hlI => ?_)
  subst e
  refine ⟨_, _, _, _, _, _, _, rfl, Walks.list (A := X.A.in1) hh _ l hlI (intItems is), st, hfp, CmpOf.ints_gt (numAt is) (fun _ _ => intItems_at), fun e0 h' tk hk => ?_, fun hn0 v h' tk hP hk => ?_⟩
  · have : ns = [] := by
      rw [← hn]
      have z : is.size = 0 := by simpa [intItems] using e0
      have : is = #[] := Array.eq_empty_of_size_eq_zero z
      subst this
      rfl
    exact ⟨.int d, H, I.kept (old_kept hk), rd, q0 this⟩
  · have hsz : 0 < is.size := by simpa [intItems] using hn0
    obtain ⟨t, rfl⟩ := intItems_at hP
    obtain ⟨h1, h2⟩ := argBest_gt (numAt is) (is.size - 1)
    have e1 : (intItems is).size = is.size := by simp [intItems]
    rw [e1]
    refine ⟨.int _, H, I.kept (old_kept hk), ⟨_, rfl⟩, q _ ?_ fun y hy => ?_⟩
    · rw [← hn, numAt_eq]; exact PySem.getD_mem (by rw [List.length_map, Array.length_toList]; omega)
    · rw [← hn] at hy
      obtain ⟨j, hj, rfl⟩ := mem_getD hy
      rw [List.length_map, Array.length_toList] at hj
      rw [← numAt_eq]; exact h2 j (by omega)
end
end DL

set_option Elab.async false
set_option linter.all false
set_option maxRecDepth 100000
set_option maxHeartbeats 4000000
namespace DL
open PySem PySem.Spec PyProof.Rows L2 Enc
section
variable {X : Cx} {Γ : Cn} {S α β : Type} {ρ : S → List Slot} {a b e : Expr} {p pos kp : Pos}
theorem e_maxD {ma : S → Res (List Int × S)} {mb : S → Res (Int × S)} (hc : X.calm = true) (hm : X.mg "max" = none) (ha : E X Γ ρ a ma) (hb : E X Γ ρ b mb) (hg : Gl X "max" := by rfl)
    (he : starEach [a] X.env = (false, eval a X.env) :: starEach [] X.env := by rfl) (he2 : backTo pos (starEach [a] X.env) = (false, eval a X.env) :: backTo pos (starEach [] X.env) := by rfl) (hpl : (backTo pos (starEach [a] X.env)).any (·.1) = false := by rfl)
    (hall : (backToKw pos (keywordEach [⟨some "default", b, kp⟩] X.env)).all (·.1.isSome) = true := by rfl) (hnone : (backToKw pos (keywordEach [⟨some "default", b, kp⟩] X.env)).any (·.1.isNone) = false := by rfl) (hks : (backToKw pos (keywordEach [⟨some "default", b, kp⟩] X.env)).filterMap (·.1) = ([("default" : Str)] : List Str) := by rfl) :
    E X Γ ρ (.Call (.Name "max" p) [a] [⟨some "default", b, kp⟩] pos) (sbind ma fun x => sbind mb fun y => slift (ofOpt (maxD x y))) :=
  PE.imp (pe_callBK (cr_mxD hc) hg hm (by decide +kernel) (pa_cons ha pa_nil he) (pk_cons hb pk_nil) (by decide) (by decide) he2 hpl hall hnone hks) fun σ H Q ⟨s, f0, g, q⟩ => ⟨s, f0, g, q.chain.mono fun f1 H1 r1 g1 l1 q v rx => ⟨r1.2, f1, g1, q.chain.mono fun f2 H2 r2 g2 l2 q w ry => by
    obtain ⟨c, ec, q⟩ := run_opt (o := maxD r1.1 r2.1) (s := r2.2) q
    obtain ⟨l, xs, rfl, hf, hr, hz⟩ := Rp.lst_inv (rx.mono l2.le)
    rw [hr.ints] at hf
    refine ⟨l, r1.1, r2.1, rfl, by rw [Rp.int_inv ry], hf.sq, fun e0 => ?_, fun m hm' hle => ?_⟩
    · rw [e0] at ec
      cases ec
      exact RunF.same q g2 (Same.refl _) _ (.int _)
    · have ec' : maxL r1.1 = some c := by
        cases h : r1.1 with
        | nil => rw [h] at hm'; cases hm'
        | cons z zs => rw [h] at ec; exact ec
      obtain ⟨s1, s2⟩ := maxL_spec ec'
      have em : m = c := Int.le_antisymm (s2 m hm') (hle c s1)
      rw [em]
      exact RunF.same q g2 (Same.refl _) _ (.int _)⟩⟩
/-- an Option where the thing itself is wanted -/
theorem E.un [Enc α] {m : S → Res (Option α × S)} (h : E X Γ ρ e m) : E X Γ ρ e (sbind m fun x => slift (ofOpt x)) :=
  PE.imp h fun σ H Q ⟨s, f0, g, q⟩ => ⟨s, f0, g, q.chain.mono fun f1 H1 r g1 l1 q v rx => by
    obtain ⟨c, ec, q⟩ := run_opt (o := r.1) (s := r.2) q
    rw [ec] at rx
    exact RunF.same q g1 (Same.refl _) v rx⟩
/-! ### isinstance of data, by a built-in class -/
/-- the name of data's class -/
def tyN : PyData → String
  | .none => "NoneType"
  | .bool _ => "bool"
  | .int _ => "int"
  | .str _ => "str"
  | .list _ => "list"
  | .tuple _ => "tuple"
  | _ => "?"
theorem Rp.ty {K : PySem.W.Frag} {H : Hp} {v : V} {d : PyData} (h : Rp K H v d) : TyX K H v (.type (tyN d)) := by
  cases h with
  | non => exact .base .non
  | bl b => exact .base (.bl b)
  | int i => exact .base (.int i)
  | str x => exact .base (.str x)
  | lst a _ _ => obtain ⟨o, e⟩ := a; exact .base (.frz e)
  | tup a _ => exact .base (.tup a)
theorem e_isi [Enc α] (T : String) {x : Str} {p2 : Pos} {ma : S → Res (α × S)} (hm : X.mg "isinstance" = none) (hx : X.mg x = none) (ha : E X Γ ρ a ma) (hv : bootBuiltins x = some (.type T) := by decide +kernel) (hn : x ≠ "__name__" := by decide) (hdb : (x == ("__debug__" : Str)) = false := by decide) (hg : Gl X "isinstance" := by rfl) (hg2 : Gl X x := by rfl)
    (he : starEach [a, .Name x p2] X.env = (false, eval a X.env) :: starEach [.Name x p2] X.env := by rfl) (he2 : starEach [.Name x p2] X.env = (false, eval (.Name x p2) X.env) :: starEach [] X.env := by rfl) (hpl : (backTo pos (starEach [.Name x p2] X.env)).any (·.1) = false := by rfl) :
    E X Γ ρ (.Call (.Name "isinstance" p) [a, .Name x p2] [] pos) (sbind ma fun v => slift (ofOpt (kitB (tyN (enc v)) T))) :=
  PE.imp (pe_callB call_isi hg hm (by decide +kernel) (pa_cons ha (pa_cons (pe_bltn (v := V.ty T) hg2 hx hv rfl hn hdb) pa_nil he2) he) (by decide) (by decide) he hpl) fun σ H Q ⟨s, f0, g, q⟩ => ⟨s, f0, g, q.chain.mono fun f1 H1 r g1 l1 q v rx => by
    obtain ⟨b, eb, q⟩ := run_opt (o := kitB (tyN (enc r.1)) T) (s := r.2) q
    exact ⟨v, .ty T, _, .type T, b, rfl, .ty T, rx.ty, kit_ty eb, RunF.same q g1 (Same.refl _) _ (.bl b)⟩⟩
@[simp] theorem enc_int (i : Int) : enc i = PyData.int i := rfl
@[simp] theorem enc_bool (i : Bool) : enc i = PyData.bool i := rfl
@[simp] theorem enc_str (i : Str) : enc i = PyData.str i := rfl
@[simp] theorem enc_list {α : Type} [Enc α] (l : List α) : enc l = PyData.list (l.map enc) := rfl
@[simp] theorem tyN_int (i : Int) : tyN (.int i) = "int" := rfl
@[simp] theorem tyN_bool (i : Bool) : tyN (.bool i) = "bool" := rfl
@[simp] theorem tyN_str (i : Str) : tyN (.str i) = "str" := rfl
@[simp] theorem tyN_list (i : List PyData) : tyN (.list i) = "list" := rfl
@[simp] theorem tyN_tuple (i : List PyData) : tyN (.tuple i) = "tuple" := rfl
@[simp] theorem kitB_ii : kitB "int" "int" = some true := by decide +kernel
@[simp] theorem kitB_ib : kitB "int" "bool" = some false := by decide +kernel
@[simp] theorem kitB_bi : kitB "bool" "int" = some true := by decide +kernel
@[simp] theorem kitB_bb : kitB "bool" "bool" = some true := by decide +kernel
@[simp] theorem kitB_ll : kitB "list" "list" = some true := by decide +kernel
@[simp] theorem kitB_tt : kitB "tuple" "tuple" = some true := by decide +kernel
end
end DL

set_option Elab.async false
set_option linter.all false
set_option maxRecDepth 100000
set_option maxHeartbeats 4000000
namespace DL
open PySem PySem.Spec PyProof.Rows L2 Enc

/-! ### errors: their classes -/
/-- an __init__ that stores its one argument -/
def spI1 (C : Addr) (f : Str) : Sp := fun vs H Q _ => ∃ (a : Addr) (v : V), vs = [.ref a, v] ∧ H a = some (exo a C none) ∧ ∀ d, H d = none → d ≠ a → Q .non (upd (upd H d (exd d [(f, v)])) a (exo a C (some d)))
/-- an __init__ that stores its two arguments -/
def spI2 (C : Addr) (f g : Str) : Sp := fun vs H Q _ => ∃ (a : Addr) (v w : V), vs = [.ref a, v, w] ∧ H a = some (exo a C none) ∧ ∀ d, H d = none → d ≠ a → Q .non (upd (upd (upd H d (exd d [(f, v)])) a (exo a C (some d))) d (exd d [(g, w), (f, v)]))
/-- what the written part tells of an error's class -/
structure XF (K : PySem.W.Frag) (mg : Str → Option Value) (x : Str) (C : Addr) (fl : List Str) : Prop where
  g : mg x = some (.ref C)
  o : OexC K C
  xf : XfC K C
  ec : ExcC K C
  no : ∀ f ∈ fl, PySem.W.findIn K (.ref C) f = some none
structure XM1 (P : Program) (w : World) (K : PySem.W.Frag) (mg : Str → Option Value) (base : Heap) (x : Str) (C : Addr) (f : Str) : Prop where
  xf : XF K mg x C [f]
  mkr : ∃ fI fdI ps, PySem.W.findIn K (.ref C) "__init__" = some (some (.ref fI)) ∧ PySem.W.typeIn K (.ref fI) = some (.type "function") ∧ Binds K fdI ps [] ∧ FnOk P w K mg base CX0 1 fI fdI ps (spI1 C f)
section
variable {P : Program} {w : World} {K : PySem.W.Frag} {mg : Str → Option Value} {base : Heap}
theorem init1_ok {q : Str} {st : Stmt} {fI C : Addr} {fdI : FuncData} {f s0 : Str} (F : Fun K "__init__" q st fI fdI) (Sc : FnScope [s0, f] [s0, f] (defScope st)) (T : OexC K C) (hno : PySem.W.findIn K (.ref C) f = some none)
    (hb : ∀ A outer s H E cdv, PSs (cxOf CX0 P w K mg base [s0, f] q (defScope st) fI cdv A outer s H E).nox (defBody st) (tOst K f (tVar 0) (tVar 1))) : FnOk P w K mg base CX0 1 fI fdI [s0, f] (spI1 C f) := by
  refine F.ok Sc (fun vs H Q E h => ?_) (fun cdv A outer s H vs Q E hr h => ?_)
  · obtain ⟨a, v, rfl, _⟩ := h; rfl
  · obtain ⟨a, v, rfl, ha, q⟩ := h
    exact ⟨_, hb A outer s H E cdv, v, rfl, .ref a, rfl, a, C, rfl, T, hno, .inl ⟨ha, fun dx n ne => q dx n ne⟩⟩
end
section
variable {X : Cx} {x f : Str} {C : Addr} {e : Expr} {es : List Expr} {ta : TA} {p pos : Pos}
/-- C(e, ..), its __init__ keeping sp; the context of what is made is None -/
theorem pmk_oexN {CX : CXT} {fI : Addr} {k : Nat} {fd : FuncData} {ps : List Str} {sp : Sp} (T : OexC X.K C) (iC : PySem.W.findIn X.K (.ref C) "__init__" = some (some (.ref fI))) (tI : PySem.W.typeIn X.K (.ref fI) = some (.type "function"))
    (F1 : FnOk X.prog X.w X.K X.mg X.base CX k fI fd ps sp) (hr : Room (k + 1) X.A) (hb : Binds X.K fd ps []) (hx : Passes CX X (fun _ _ _ => False)) (hg : Gl X x) (hm : X.mg x = some (.ref C)) (ha : PA X (e :: es) ta)
    (hdb : (x == ("__debug__" : Str)) = false := by decide) (he : starEach (e :: es) X.env = (false, eval e X.env) :: starEach es X.env := by rfl) (hpl : (backTo pos (starEach es X.env)).any (·.1) = false := by rfl) :
    L2N.PMk X (.Call (.Name x p) (e :: es) [] pos) (tMkO C sp [] ta) := by
  intro pins s σ H Q I h
  obtain ⟨nm, q, N, bs, bm, sn, sub, ab, col, dd, k0, k1, k2, k3, k5, hC, hbm⟩ := T.cls
  refine wpAny_Call_Name_kw (ld_glob I hg hm (?_) hdb)
  refine PySem.W.callWith_K (h₀ := X.base) I.ok.mod.kin T.kC (thn (ha.run pos pins s σ H _ I h) (fun us s1 hus1 => ?_)) he hpl
  obtain ⟨vs, H1, I1, r1, hz, q1⟩ := hus1
  refine ⟨I1.kIn, ?_⟩
  show wpAny _ _ (call (.ref C) us) _ _ _
  obtain ⟨hp, g, dr, tk, os⟩ := s1
  have le1 : hp.objs.size ≤ hp.objs.size + 1 := Nat.le_succ _
  have hq := q1 (hp.objs.size + 1) (I1.hok.fresh le1)
  rw [List.append_nil] at hq
  have kk : ∀ b o, hp.get? b = some o → ((hp.push (PySem.W.kdv_tup us)).push (PySem.HandSPX.excO C hp.objs.size)).get? b = some o := fun b o z => Heap.get?_push_of_some _ (Heap.get?_push_of_some _ z)
  have hget : ((hp.push (PySem.W.kdv_tup us)).push (PySem.HandSPX.excO C hp.objs.size)).get? (hp.objs.size + 1) = some (PySem.HandSPX.excO C hp.objs.size) := by
    heap_get
  have I2 : Inv X pins σ (upd H1 (hp.objs.size + 1) (exo (hp.objs.size + 1) C none)) ⟨(hp.push (PySem.W.kdv_tup us)).push (PySem.HandSPX.excO C hp.objs.size), g, dr, tk, os⟩ :=
    I1.laid (t' := tk) (a := hp.objs.size + 1) (o := exo (hp.objs.size + 1) C none) (h' := (hp.push (PySem.W.kdv_tup us)).push (PySem.HandSPX.excO C hp.objs.size)) kk le1 (exo_ok hget)
  have r2 : Vals (V.ref (hp.objs.size + 1) :: vs) (Value.ref (hp.objs.size + 1) :: us) := .cons rfl r1
  have hl : (Value.ref (hp.objs.size + 1) :: us).length = ps.length := by
    rw [← r2.length]; exact F1.len _ _ _ _ hq
  have hus : us.length ≤ sizeLine := by rw [← Paired.length r1, sizeLine_eq]; omega
  have b1 := hb _ (Value.ref (hp.objs.size + 1) :: us) I2.kIn (by rw [List.append_nil]; exact hl)
  rw [List.append_nil] at b1
  refine wpAny_call (PySem.HandSPX.call_own F.excBase_ValueError (fun Y => PySem.HandSPX.refsVE_contains Y bm hbm) (I1.kIn _ _ hC) (PySem.W.looks_findIn I1.kIn iC) (fun self => PySem.W.bind_fn I1.kIn self tI) hus
    (codeAny_mono (F1.run _ X.stack _ _ ⟨Value.ref (hp.objs.size + 1) :: us, []⟩ (Value.ref (hp.objs.size + 1) :: us) _ _ (fun _ _ _ => False) (hr.make C us []) (I2.env0.make C us []) b1 r2 hq) (fun r s' hq' => ?_)))
  cases r with
  | error er => exact (hx pins σ _ _ er s' I2 hq')
  | ok fl =>
    cases fl with
    | ret u =>
      obtain ⟨v, H2, os2, bare2, un2, hok2, rv, ev, d, fs, ea, ed, hd1, q2⟩ := hq'
      subst ev
      obtain ⟨h2, g2, d2, t2, os'⟩ := s'
      obtain ⟨t0, G, J, kG, ge, hoe, na⟩ := mk_end0 (d2 := d2) (t2 := t2) I1 le1 kk un2 hok2 os2 bare2 ea ed hd1
      exact ⟨rv, _, _, _, ⟨G, g2, d2, t2, os'⟩, _, .ref C, some d, rfl, J, kG, ge, hoe, ⟨rfl, rfl, fun vs e => by cases e; rfl⟩, rfl, rfl, na, rfl, bare2, raises_own T.exC T.tyC, q2⟩
    | next => exact hq'.elim
    | brk => exact hq'.elim
    | cont => exact hq'.elim
end

/-! ### raise -/
section
variable {X : Cx} {Γ : Cn} {S α β γ R : Type} {ρn : β → List Slot} {ρg : γ → List Slot} {rt : R → V → Hp → Prop} {e : Expr} {p pos pos' : Pos} {x f : Str} {C : Addr}
theorem p_raise1 [Enc α] {mS : S → Res (α × S)} (cn : String) (ρS : S → List Slot) (s0 : S) (M : XM1 X.prog X.w X.K X.mg X.base x C f) (hcl : Γ.cl cn = some (C, [f])) (hr : Room 2 X.A) (hc : X.calm = true) (tk : L2N.Takes X Γ.W) (hw : ∀ s, Wk (ρS s) Γ.ρE) (he : E X Γ ρS e mS)
    (hg : Gl X x := by rfl) (hdb : (x == ("__debug__" : Str)) = false := by decide) (hst : starEach [e] X.env = (false, eval e X.env) :: starEach [] X.env := by rfl) (hpl : (backTo pos (starEach [] X.env)).any (·.1) = false := by rfl) :
    Ss X Γ (ρS s0) [.Raise (some (.Call (.Name x p) [e] [] pos)) none pos'] (sseq (mS s0) fun a _ => .err cn [enc a]) ρn ρg rt := by
  obtain ⟨fI, fdI, ps, iC, tI, hb, F⟩ := M.mkr
  refine pss_one (PS.imp (L2N.ps_raise hc tk (pmk_oexN (CX := CX0) M.xf.o iC tI F hr hb (fun _ _ _ _ _ _ _ h => h.elim) hg M.xf.g (pa_cons he pa_nil hst) hdb hst hpl)) fun D σ H q => ?_)
  refine tE_of (k := fun a _ => .err cn [enc a]) q fun a s v H1 f1 g1 l1 r q => ?_
  refine ⟨by rw [List.length_singleton]; decide, fun b hb => ⟨b, v, rfl, upd_same, fun d hd hdb => ⟨rfl, d, [(f, v)], upd_same, by rw [upd_ne hdb, upd_same], ?_, ?_⟩⟩⟩
  · rw [upd_ne hdb] at hd; exact hd
  · have hd1 : H1 d = none := by rw [upd_ne hdb] at hd; exact hd
    have eH : upd (del (upd (upd (upd H1 b (exo b C none)) d (exd d [(f, v)])) b (exo b C (some d))) b) d (.xd [(f, v)]) = upd H1 d (.xd [(f, v)]) := by
      funext z
      by_cases h1 : z = d
      · subst h1; rw [upd_same, upd_same]
      · rw [upd_ne h1, upd_ne h1]
        by_cases h2 : z = b
        · subst h2; rw [del_same]; exact hb.symm
        · rw [del_ne h2, upd_ne h2, upd_ne h1, upd_ne h2]
    rw [eH]
    have sm : Same H1 (upd H1 d (.xd [(f, v)])) := same_new hd1
    have q : ErrS X.K Γ H1 cn [enc a] := q
    refine q _ _ _ _ (Good.weak (hw s) ⟨f1, g1.same' sm⟩) (Le.of_same sm) ⟨C, [f], hcl, rfl, .inr ⟨d, [(f, v)], rfl, upd_same, fun i g' a' h1 h2 => ?_⟩⟩
    cases i with
    | zero =>
      cases h1
      cases h2
      exact ⟨v, by simp [List.lookup], r.mono (Le.of_same sm)⟩
    | succ i => cases h1
end

/-! ### defs that let errors out -/
def spX {τ β : Type} [Enc β] (K : PySem.W.Frag) (cl : String → Option (Addr × List Str)) (encs : τ → List PyData) (m : τ → Res β) : Sp := fun vs H Q E =>
  ∃ t, RpAll K H vs (encs t) ∧ wpR (m t) (fun b => ∀ v H', Same H H' → Rp K H' v (enc b) → Q v H') fun c as => ∀ C d H', Same H H' → ErrAt K cl c as C d H' → E C d H'
structure DefX {τ β : Type} [Enc β] (P : Program) (w : World) (K : PySem.W.Frag) (mg : Str → Option Value) (base : Heap) (cl : String → Option (Addr × List Str)) (k : Nat) (x : Str) (encs : τ → List PyData) (m : τ → Res β) : Prop where
  ex : ∃ f fd ps, mg x = some (.ref f) ∧ PySem.W.keepIn K (.ref f) = true ∧ Binds K fd ps [] ∧ FnOk P w K mg base (L2N.CX P w) k f fd ps (spX K cl encs m)
section
variable {P : Program} {w : World} {K : PySem.W.Frag} {mg : Str → Option Value} {base : Heap} {qual x : Str} {st : Stmt} {f : Addr} {fd : FuncData} {N ps : List Str} {k : Nat} {τ β R : Type}
/-- the air of a def's body -/
abbrev WofE (E : XK) : WX := fun cls d _ H => E cls d H
theorem fnX_ok [Enc R] {cl : String → Option (Addr × List Str)} {encs : τ → List PyData} {M : τ → Res (Ctl β Empty R)} {ρn : τ → β → List Slot} (d0 : R) (F : Fun K x qual st f fd) (Sc : FnScope N ps (defScope st)) (n : Nat) (hn : ∀ t, (encs t).length = ps.length) (hn2 : n = N.length - ps.length) (hn3 : ps.length ≤ N.length)
    (hb : ∀ cdv A outer s H t, Room k (A.deeper (envOfC qual (defScope st) s.heap.objs.size f cdv)) → ∀ E, Ss (cxOf (L2N.CX P w) P w K mg base N qual (defScope st) f cdv A outer s H E) ⟨WofE E, [], H, List.replicate N.length .any, cl⟩ (ρ0 (encs t) n) (defBody st) (M t) (ρn t) (fun b => nomatch b) (rtD K R))
    (hd : Nonempty β → enc d0 = .none) : FnOk P w K mg base (L2N.CX P w) (k + 1) f fd ps (spX K cl encs fun t => fnD d0 (M t)) := by
  obtain ⟨oc, od, kV, doc, pm, an, cdv, ct, osl, rfl, lk, hcd⟩ := F.ex
  refine fn_of lk hcd Sc (fun vs H Q E h => ?_) (fun A outer s H vs Q E hr h => ?_)
  · obtain ⟨t, r, _⟩ := h
    rw [r.length, hn]
  · obtain ⟨t, r, q⟩ := h
    refine ⟨_, hb cdv A outer s H t hr E, ?_⟩
    have hl : vs.length = ps.length := by rw [r.length, hn]
    have G := good_start (N := N) r
    rw [hl, ← hn2] at G
    refine ⟨G, ?_⟩
    have q : wpR (fnD d0 (M t)) (fun b => ∀ v H', Same H H' → Rp K H' v (enc b) → Q v H') (fun c as => ∀ C d H', Same H H' → ErrAt K cl c as C d H' → E C d H') := q
    cases eM : M t with
    | ok c =>
      rw [eM] at q
      cases c with
      | rt r => exact fun v H' fin rv => q v H' (fun b o h => fin.1 b o (by simp) h) rv
      | nx b' =>
        intro σ' H' g' l
        refine q .non H' (fun b o h => g'.fin.1 b o (by simp) h) ?_
        rw [hd ⟨b'⟩]
        exact .non
      | bk b => exact nomatch b
      | ct b => exact nomatch b
    | err c as =>
      rw [eM] at q
      exact fun C d σ H' g' _ e => q C d H' (fun b o h => g'.fin.1 b o (by simp) h) e
    | bad => rw [eM] at q; exact q
end
section
variable {X : Cx} {Γ : Cn} {S α β τ : Type} {ρ : S → List Slot} {e : Expr} {es : List Expr} {pos p : Pos} {x : Str} {k : Nat}
theorem e_callX [Enc β] {encs : τ → List PyData} {m : τ → Res β} {ma : S → Res (τ × S)} (d : DefX X.prog X.w X.K X.mg X.base Γ.cl k x encs m) (hr : Room k X.A) (tk : L2N.Takes X Γ.W) (hw : ∀ s, Wk (ρ s) Γ.ρE) (ha : EA X Γ ρ (e :: es) ma encs) (hg : Gl X x := by rfl)
    (hdb : (x == ("__debug__" : Str)) = false := by decide) (he : starEach (e :: es) X.env = (false, eval e X.env) :: starEach es X.env := by rfl) (hpl : (backTo pos (starEach es X.env)).any (·.1) = false := by rfl) :
    E X Γ ρ (.Call (.Name x p) (e :: es) [] pos) (sbind ma fun t => slift (m t)) := by
  obtain ⟨f, fd, ps, hm, hk, hb, F⟩ := d.ex
  refine PE.imp (pe_callS (E := WE Γ.W) F hr hg hm hk hb (fun σ => L2N.passAt tk σ) ha hdb he hpl) fun σ H Q ⟨s, f0, g, q⟩ => ⟨s, f0, g, q.chain.mono fun f1 H1 r1 g1 l1 q vs rs => ?_⟩
  refine ⟨r1.1, rs, ?_⟩
  have q : RunF X.K Γ f1 ρ (slift (m r1.1) r1.2) σ H1 fun f H' r => ∀ v, PD X.K f H H' v r.1 → Q v H' := q
  cases em : m r1.1 with
  | ok b =>
    rw [em] at q
    exact fun v H' sm r => RunF.same (show RunF X.K Γ f1 ρ (.ok (b, r1.2)) σ H1 _ from q) g1 sm v r
  | err c as =>
    rw [em] at q
    have q : ErrW X.K Γ H1 σ c as := q
    exact fun C d H' sm ea => q C d H' (Good.weak (hw r1.2) ⟨f1, g1.same' sm⟩) (Le.of_same sm) ea
  | bad => rw [em] at q; exact q
end
end DL

set_option Elab.async false
set_option linter.all false
set_option maxRecDepth 100000
set_option maxHeartbeats 4000000
namespace DL
open PySem PySem.Spec PyProof.Rows L2 Enc

/-! ### try -/
def tryM {β γ R : Type} (mb : Res (Ctl β γ R)) (mt : String → Bool) (hs : String → List PyData → Res (Ctl β γ R)) : Res (Ctl β γ R) := match mb with
  | .ok c => .ok c
  | .err c as => if mt c = true then nb (hs c as) else .err c as
  | .bad => .bad
section
variable {β γ R : Type} (mt : String → Bool) (hs : String → List PyData → Res (Ctl β γ R))
@[simp] theorem tryM_ok (c : Ctl β γ R) : tryM (.ok c) mt hs = .ok c := rfl
@[simp] theorem tryM_err (c : String) (as : List PyData) : tryM (.err c as) mt hs = if mt c = true then nb (hs c as) else .err c as := rfl
@[simp] theorem tryM_bad : tryM .bad mt hs = .bad := rfl
end
theorem Good.none {K : PySem.W.Frag} {ps : List Addr} {H0 H : Hp} {ρ : List Slot} {σ : L2.St} {i : Nat} (g : Good K ps H0 ρ σ H) (h : ρ[i]? = some .any) : Good K ps H0 ρ (σ.set i none) H := by
  obtain ⟨f, g⟩ := g
  refine ⟨f, by rw [List.length_set]; exact g.len, g.same, g.io, fun j s hs => ?_, g.out, g.sep⟩
  obtain ⟨v, e, q⟩ := g.slot j s hs
  by_cases hj : i = j
  · subst hj
    rw [h] at hs
    cases hs
    exact ⟨Option.none, List.getElem?_set_self (List.getElem?_eq_some_iff.mp e).1, q⟩
  · exact ⟨v, by rw [List.getElem?_set_ne hj]; exact e, q⟩
section
variable {X : Cx} {Γ : Cn} {S α β γ δ R : Type} {ρ ρE' : List Slot} {ρn : β → List Slot} {ρg : γ → List Slot} {rt : R → V → Hp → Prop} {e : Expr} {p pos pos' np : Pos} {x n : Str} {i : Nat} {Cx0 : Addr} {body suite rest : List Stmt} {b₀ : Stmt}
theorem s_tryAs {mb : Res (Ctl β γ R)} {hs : String → List PyData → Res (Ctl β γ R)} (mt : String → Bool) (ρE' : List Slot) (hst : X.stack = X.env :: X.outer) (hfr : X.env.frame = some X.env.locals) (hN : X.N.Nodup) (hi : X.N[i]? = some n) (hln : X.env.kindOf n = some .local) (hc : Names X x (.ref Cx0)) (tk : L2N.Takes X Γ.W)
    (hsub : ∀ c C fl, Γ.cl c = some (C, fl) → PySem.W.exmOne X.K (.ref C) (.ref Cx0) = some (mt c)) (hwE : Wk ρE' Γ.ρE) (hEi : i < ρE'.length)
    (hb : ∀ W pn xe, L2N.Takes (X.tr pn xe) W → PassesOwn (model X.prog X.w) X.A X.env xe → Ss (X.tr pn xe) ⟨W, Γ.ps, Γ.H0, ρE', Γ.cl⟩ ρ body mb ρn ρg rt)
    (hsu : ∀ a oe C d pn c fl as, Γ.cl c = some (C, fl) → mt c = true → L2N.Zn (.ref C) d oe → (∃ vs, oe.data = .fields vs) → Ss (X.suite a ((a, oe) :: pn)) ⟨noW, Γ.ps, Γ.H0, [], Γ.cl⟩ (ρE'.set i (.exn a d fl as)) (b₀ :: suite) (hs c as) ρn ρg rt)
    (hni : ∀ b, (ρn b)[i]? = some .any) (hgi : ∀ b, (ρg b)[i]? = some .any) :
    S1 X Γ ρ (.Try body [.ExceptHandler (some (.Name x np)) (some n) (b₀ :: suite) pos'] [] [] pos) (tryM mb mt hs) ρn ρg rt := by
  refine PS.imp (L2N.ps_try_as (tb := fun W => tS X.K ⟨W, Γ.ps, Γ.H0, ρE', Γ.cl⟩ ρ mb ρn ρg rt) (ts := fun a cls d D σ H => ∃ C c fl as, cls = .ref C ∧ Γ.cl c = some (C, fl) ∧ mt c = true ∧ tS X.K ⟨noW, Γ.ps, Γ.H0, [], Γ.cl⟩ (ρE'.set i (.exn a d fl as)) (hs c as) ρn ρg rt D σ H) (Wout := Γ.W)
    hst hfr hN hi hln hc tk (fun W pn xe tk po => hb W pn xe tk po) (fun a oe cls d pn hz hf => ⟨fun pins s σ H D I ⟨C, c, fl, as, e, ecl, hm, q⟩ => by
      subst e
      exact (hsu a oe C d pn c fl as ecl hm hz hf).run pins s σ H D I q⟩)) fun D σ H hq => ?_
  obtain ⟨G, q⟩ := hq
  refine ⟨G, ?_⟩
  cases mb with
  | ok c =>
    have q : Post X.K Γ ρn ρg rt D H c := q
    cases c with
    | nx b => exact q
    | rt r => exact q
    | bk b => exact q
    | ct b => exact q
  | bad => exact q.elim
  | err c as =>
    intro C d σ' H' g l ea
    obtain ⟨A, fl, ecl, rfl, ef⟩ := ea
    refine ⟨mt c, hsub c A fl ecl, fun hm a ha => ?_, fun hm => ?_⟩
    · have q : wpR (if mt c = true then nb (hs c as) else .err c as) (Post X.K Γ ρn ρg rt D H) (ErrS X.K Γ H) := q
      rw [if_pos hm] at q
      refine ⟨A, c, fl, as, rfl, ecl, hm, ?_, ?_⟩
      · obtain ⟨f, g⟩ := g
        exact ⟨_, g.set (fp := []) hEi ⟨rfl, rfl, ef⟩ fun _ _ _ z => by cases z⟩
      · cases hh : hs c as with
        | ok c' =>
          rw [hh] at q
          have q : Post X.K Γ ρn ρg rt D H c' := q
          cases c' with
          | nx b => exact fun σ2 H2 g2 l2 => q _ H2 (g2.none (hni b)) (l.trans l2)
          | rt r => exact q
          | bk b => exact fun σ2 H2 g2 l2 => q _ H2 (g2.none (hgi b)) (l.trans l2)
          | ct b => exact fun σ2 H2 g2 l2 => q _ H2 (g2.none (hgi b)) (l.trans l2)
        | err c' as' => rw [hh] at q; exact q.elim
        | bad => rw [hh] at q; exact q.elim
    · have q : wpR (if mt c = true then nb (hs c as) else .err c as) (Post X.K Γ ρn ρg rt D H) (ErrS X.K Γ H) := q
      rw [hm] at q
      have q : ErrS X.K Γ H c as := q
      exact q _ _ _ _ (g.weak hwE) l ⟨A, fl, ecl, rfl, ef⟩
/-- a try that is followed -/
theorem p_tryAs {ρm : δ → List Slot} {k : δ → Res (Ctl β γ R)} {st : Stmt} {m : Res (Ctl δ γ R)} (h : S1 X Γ ρ st m ρm ρg rt) (hk : ∀ b, Ss X Γ (ρm b) rest (k b) ρn ρg rt) : Ss X Γ ρ (st :: rest) (seqC m k) ρn ρg rt := s_cons h hk
end

/-! ### in a suite -/
def asI (as : List PyData) (j : Nat) : Option Int := match as[j]? with
  | some (.int i) => some i
  | _ => none
@[simp] theorem asI_0 (i : Int) (r : List PyData) : asI (.int i :: r) 0 = some i := rfl
section
variable {X : Cx} {Γ : Cn} {S α β : Type} {ρ : S → List Slot} {o : Expr} {p p2 pos : Pos} {x f : Str} {C a : Addr} {oe : Obj} {d : Option Addr} {pn : List (Addr × Obj)} {i j : Nat} {fl : List Str} {as : List PyData}
theorem e_xfI (j : Nat) (M : XF X.K X.mg x C fl) (hz : L2N.Zn (.ref C) d oe) (hf : ∃ vs, oe.data = .fields vs) (ho : VarAt (X.suite a ((a, oe) :: pn)) i o) (hfl : fl[j]? = some f) (hs : ∀ s, (ρ s)[i]? = some (.exn a d fl as) := by intro _; rfl)
    (hb : attributeBase o f X.env (eval o X.env) = eval o X.env := by rfl) : E (X.suite a ((a, oe) :: pn)) Γ ρ (.Attribute o f pos) (slift (ofOpt (asI as j))) :=
  PE.imp (pe_xf M.xf (M.no f (List.mem_of_getElem? hfl)) hz.zc hf ho hb) fun σ H Q ⟨s, f0, g, q⟩ => by
    obtain ⟨v, e1, _, rfl, ef⟩ := g.slot i _ (hs s)
    obtain ⟨c, ec, q⟩ := run_opt q
    unfold asI at ec
    split at ec
    · next k hk =>
      cases ec
      rcases ef with ⟨e0, _⟩ | ⟨dd, fs, rfl, hd, hall⟩
      · rw [e0] at hk; cases hk
      · obtain ⟨v, h1, h2⟩ := hall j f _ hfl hk
        exact ⟨_, e1, rfl, rfl, dd, fs, v, rfl, hd, h1, RunF.same q g (Same.refl _) v h2⟩
    · cases ec
end
end DL

namespace DL
open PySem PySem.W PySem.Calls PyProof.Rows
section
variable {prog : Program} {w : World} {A : Around} {E : Value → Shared → Prop} {s : Shared} {K : Frag} {x D : Addr} {ox : Obj} {od : Option Obj}
theorem find_class {C : Addr} {name : Str} {a g : Value} (hc : (clsIn K C).isSome = true) (ha : findIn K (.ref C) name = some (some a)) (hg : specialIn K a "__get__" = some (some g)) (ht : takesIn K a = some true) : findObj K C od name = some (.bind g a) := by
  obtain ⟨cd, e⟩ := Option.isSome_iff_exists.mp hc
  unfold findObj
  rw [e, Option.bind_some, ha, Option.bind_some]
  simp [hg, ht]
/-- x.__class__ of an error, with its own dict or none -/
theorem err_class {Q : Option Value → Shared → Prop} (T : L2.ExcC K D) (Y : K.In s.heap) (I : InstAt s.heap x ox D od) (h : Q (some (.ref D)) { s with toks := s.toks + 1 }) : wpAny (model prog w) A (getAttr? (.ref x) "__class__") Q E s := by
  have hf : findObj K D od "__class__" = some (.bind (.builtin "getset_descriptor.__get__") (.builtin "object.__class__")) := find_class (by obtain ⟨cd, hc, _⟩ := any_some T.hd; rw [hc] <;> rfl) T.ha T.hn T.ht
  obtain ⟨hp, g, d, t, os⟩ := s
  have L0 := I.type (M := model prog w)
  have L1 := looks_findIn (M := model prog w) Y T.hg
  have L2 := looks_findIn (M := model prog w) Y T.hk
  have L3 := looks_find (M := model prog w) Y I hf
  have sub : Looks (model prog w) hp (isInstance (.ref x) (.type "BaseException")) true := L0.andThen (looks_subIn Y T.hs)
  have n0 : (false && onTheHeap (Value.builtin "BaseException.__getattribute__")) = false := rfl
  have n2 : (Value.builtin "BaseException.__getattribute__" == Value.builtin "object.__getattribute__") = false := by decide +kernel
  have n1 : (onTheHeap (Value.ref D) && Value.builtin "BaseException.__getattribute__" == Value.builtin "object.__getattribute__") = false := by rw [n2] <;> rfl
  (unfold getAttr? getAttrBy?); unfold getAttrBy
  refine wpAny_bind (wpAny_mkText (wpAny_bind (wpAny_attempt (wpAny_holding (wpAny_bind (L0.at (wpAny_bind (L1.at (?_)))))))))
  show wpAny _ _ (if (onTheHeap (Value.ref D) && Value.builtin "BaseException.__getattribute__" == Value.builtin "object.__getattribute__") = true then _ else _) _ _ (_)
  (rw [n1, if_neg Bool.false_ne_true]); unfold getAttrByItsOwn; unfold hookBefore
  refine wpAny_bind (?_)
  (rw [if_pos (show onTheHeap (Value.ref D) = true from rfl)]); refine L2.at (wpAny_bind (wpAny_attempt (wpAny_holding (?_))))
  unfold callGetattribute; (rw [n0, if_neg Bool.false_ne_true]); unfold boundAndCalled
  (rw [PySem.F.excAttr_ValueError.ga.bind (.ref x)]); refine wpAny_bind (wpAny_pure (?_))
  show wpAny _ _ (call (.builtin "BaseException.__getattribute__") [.ref x, .str "__class__" t]) _ _ (_)
  refine wpAny_call (codeAny_call_builtin PySem.F.excAttr_ValueError.ga.plain PySem.F.entry_bexc_ga (?_))
  refine @check_slot (model prog w) _ _ ⟨hp, g, d, t + 1, os⟩ "BaseException.__getattribute__" "BaseException" "__getattribute__" (.ref x) [.str "__class__" t] [] _ (by decide +kernel) (by decide +kernel) sub (PySem.F.args_bexc_ga (.ref x) (.str "__class__" t)) (?_)
  unfold Builtin.«object.__getattribute__»
  refine wpAny_bind (wpAny_of_eq (a := ((Value.ref x : Value), [Value.str "__class__" t])) (by first | rfl | (simp only [slotArgs]; rfl)) (wpAny_bind (wpAny_pure (wpAny_bind (L0.at (wpAny_bind (L3.at (?_))))))))
  show wpAny _ _ (holding [Value.builtin "object.__class__"] (call (.builtin "getset_descriptor.__get__") [.builtin "object.__class__", .ref x, .ref D]) >>= ret) _ _ (_)
  refine wpAny_bind (wpAny_holding (wpAny_call (class_get (s := ⟨hp, g, d, t + 1, os⟩) (ox := ox) (od := od) Y I T.hm (wpAny_pure (?_)))))
  show wpAny _ _ (handedOut (.ref D)) _ _ (_)
  rw [handedOut_of (v := .ref D) rfl]
  first
    | exact (wpAny_pure (wpAny_pure h))
    | exact (wpAny_pure h)
    | exact (wpAny_pure (wpAny_bind (wpAny_pure (wpAny_pure h))))
theorem kit_err (T : L2.ExcC K D) : KitX K (.ref x) (.ref D) (fun h => ∃ od, InstAt h x ox D od) := by
  have hD : ∃ c' d' cd sl, K.lookup D = some ⟨c', d', .cls cd, sl⟩ := by
    obtain ⟨cdD, hcD, _⟩ := any_some T.hd
    unfold clsIn at hcD
    split at hcD
    · next ho => exact ⟨_, _, _, _, ho⟩
    · cases hcD
  obtain ⟨c', d', cd, sl, ho⟩ := hD
  refine ⟨fun _ _ _ I => ?_, fun _ _ Y _ => ?_, fun h tp dd its n sl' Y htp => ?_, fun Y I k => ?_⟩
  · obtain ⟨od, I⟩ := I; exact I.type
  · intro A' Q' E' s' k q
    unfold isType loadHead
    exact wpAny_bind (wpAny_loadPart (k _ _ (Y _ _ ho)) (wpAny_pure q))
  · refine Bool.eq_false_iff.mpr fun q => ?_
    have e : D = tp := Value.ref.inj (beq_iff_eq.mp q)
    subst e
    have z := (Y _ _ ho).symm.trans htp
    cases z
  · obtain ⟨od, I⟩ := I
    exact err_class T Y I k
end
end DL
namespace DL
open PySem PySem.Spec PyProof.Rows L2 Enc
section
variable {X : Cx} {Γ : Cn} {S : Type} {ρ : S → List Slot} {o : Expr} {p p2 pos : Pos} {x y : Str} {C D a : Addr} {oe : Obj} {d : Option Addr} {pn : List (Addr × Obj)} {i : Nat} {fl fl' : List Str} {as : List PyData}
/-- isinstance(e, D), e the error that the suite holds -/
theorem e_isE {b : Bool} (M : XF X.K X.mg x C fl) (hD : X.mg y = some (.ref D)) (hk : PySem.W.kitOne X.K (.ref C) (.ref D) = some b) (hm : X.mg "isinstance" = none) (hz : L2N.Zn (.ref C) d oe) (hf : ∃ vs, oe.data = .fields vs) (ho : VarAt (X.suite a ((a, oe) :: pn)) i o) (hs : ∀ s, (ρ s)[i]? = some (.exn a d fl' as) := by intro _; rfl)
    (hg : Gl X "isinstance" := by rfl) (hg2 : Gl X y := by rfl) (hdb : (y == ("__debug__" : Str)) = false := by decide) (he : starEach [o, .Name y p2] X.env = (false, eval o X.env) :: starEach [.Name y p2] X.env := by rfl) (he2 : starEach [.Name y p2] X.env = (false, eval (.Name y p2) X.env) :: starEach [] X.env := by rfl) (hpl : (backTo pos (starEach [.Name y p2] X.env)).any (·.1) = false := by rfl) :
    E (X.suite a ((a, oe) :: pn)) Γ ρ (.Call (.Name "isinstance" p) [o, .Name y p2] [] pos) (spure b) := by
  have hc : CallR (X.suite a ((a, oe) :: pn)) (.builtin "isinstance") (fun xs H Q => xs = [.ref a, .ref D] ∧ ErrF X.K H d fl' as ∧ Q (.bl b) H) := by
    intro pins s σ H xs us Q I r h
    obtain ⟨rfl, ef, q⟩ := h
    obtain ⟨u1, u2, rfl, r1, r2⟩ := r.two
    cases r1
    cases r2
    obtain ⟨hget, _⟩ := I.pin (a, oe) (List.mem_append.mpr (.inl List.mem_cons_self))
    obtain ⟨vs, hv⟩ := hf
    have J : ∃ od, PySem.W.InstAt s.heap a oe C od := by
      rcases ef with ⟨_, e0⟩ | ⟨dd, fs, e0, hd, _⟩
      · refine ⟨none, hget, hz.1, by unfold PySem.W.notCls; rw [hv] <;> rfl, ?_⟩
        rw [hz.2.1, e0]; trivial
      · have hx : ObjOk X.prog X.w H s.heap dd (.xd fs) := I.hok dd _ hd
        obtain ⟨mA, hns, hr⟩ := hx
        obtain ⟨od, ho', hl⟩ := lookIn_ns hns
        refine ⟨some od, hget, hz.1, by unfold PySem.W.notCls; rw [hv] <;> rfl, ?_⟩
        rw [hz.2.1, e0]; exact ho'
    exact PySem.W.kia_one (kit_err M.ec) I.kIn J hk (fun z => nomatch z) fun tk => ⟨.bl b, H, I.kept (t' := tk) fun _ _ z => z, rfl, q⟩
  exact PE.imp (pe_callB hc hg hm (by decide +kernel) (pa_cons ho (pa_cons (pe_glob (v := .ref D) hg2 hD rfl hdb) pa_nil he2) he) (by decide) (by decide) he hpl) fun σ H Q ⟨s, f0, g, q⟩ => by
    obtain ⟨v, e1, _, rfl, ef⟩ := g.slot i _ (hs s)
    exact ⟨_, e1, rfl, ef, RunF.same q g (Same.refl _) _ (.bl b)⟩
/-- e is let go: what it holds plays no part -/
theorem e_exn {a' : Addr} : True := trivial
end

/-! ### calls in a suite -/
open L2H
def spH {τ β : Type} [Enc β] (K : PySem.W.Frag) (encs : τ → List PyData) (m : τ → Res β) : Sp := spN K encs m
structure DefH {τ β : Type} [Enc β] (P : Program) (w : World) (K : PySem.W.Frag) (mg : Str → Option Value) (base : Heap) (k : Nat) (x : Str) (encs : τ → List PyData) (m : τ → Res β) : Prop where
  ex : ∃ f fd ps, mg x = some (.ref f) ∧ PySem.W.keepIn K (.ref f) = true ∧ Binds K fd ps [] ∧ FnH P w K mg base CX0 k f fd ps (spN K encs m)
section
variable {P : Program} {w : World} {K : PySem.W.Frag} {mg : Str → Option Value} {base : Heap} {qual x : Str} {st : Stmt} {f : Addr} {fd : FuncData} {N ps : List Str} {k : Nat} {τ R : Type}
theorem fnH_ok [Enc R] {encs : τ → List PyData} {M : τ → Res (Ctl Empty Empty R)} (F : Fun K x qual st f fd) (Sc : FnScope N ps (defScope st)) (n : Nat) (hn : ∀ t, (encs t).length = ps.length) (hn2 : n = N.length - ps.length)
    (hb : ∀ cdv A outer s H t p, Hot1 A p → RoomH k (A.deeper (envOfC qual (defScope st) s.heap.objs.size f cdv)) → ∀ E cl, Ss (cxH CX0 P w K mg base N qual (defScope st) f cdv A outer s H E p).nox ⟨noW, [], H, ρ0 (encs t) n, cl⟩ (ρ0 (encs t) n) (defBody st) (M t) (fun b : Empty => nomatch b) (fun b => nomatch b) (rtD K R)) :
    FnH P w K mg base CX0 (k + 1) f fd ps (spN K encs fun t => fnE (M t)) := by
  obtain ⟨oc, od, kV, doc, pm, an, cdv, ct, osl, rfl, lk, hcd⟩ := F.ex
  refine fn_ofH lk hcd Sc (fun vs H Q E h => ?_) (fun A outer s H vs Q E p hot hr h => ?_)
  · obtain ⟨t, r, _⟩ := h
    rw [r.length, hn]
  · obtain ⟨t, r, q⟩ := h
    refine ⟨_, (hb cdv A outer s H t p hot hr E (fun _ => none)).nox, ?_⟩
    obtain ⟨b, eb, q⟩ := nb_wp q
    have eb : fnE (M t) = .ok b := eb
    have hl : vs.length = ps.length := by rw [r.length, hn]
    have G := good_start (N := N) r
    rw [hl, ← hn2] at G
    refine ⟨G, ?_⟩
    cases eM : M t with
    | ok c =>
      rw [eM] at eb
      cases c with
      | rt r =>
        cases eb
        intro v H' fin rv
        exact q v H' (fun b o h => fin.1 b o (by simp) h) rv
      | nx b' => exact nomatch b'
      | bk b => exact nomatch b
      | ct b => exact nomatch b
    | err c as => rw [eM] at eb; cases eb
    | bad => rw [eM] at eb; cases eb
end
section
variable {X : Cx} {Γ : Cn} {S β τ : Type} {ρ : S → List Slot} {e : Expr} {es : List Expr} {pos p : Pos} {x : Str} {k : Nat}
theorem e_callH [Enc β] {encs : τ → List PyData} {m : τ → Res β} {ma : S → Res (τ × S)} (d : DefH X.prog X.w X.K X.mg X.base k x encs m) (hr : RoomH k X.A) (hc : HotC X) (ha : EA X Γ ρ (e :: es) ma encs) (hg : Gl X x := by rfl)
    (hdb : (x == ("__debug__" : Str)) = false := by decide) (he : starEach (e :: es) X.env = (false, eval e X.env) :: starEach es X.env := by rfl) (hpl : (backTo pos (starEach es X.env)).any (·.1) = false := by rfl) :
    E X Γ ρ (.Call (.Name x p) (e :: es) [] pos) (sbind ma fun t => slift (nb (m t))) := by
  obtain ⟨f, fd, ps, hm, hk, hb, F⟩ := d.ex
  refine PE.imp (pe_callH (E := fun _ => E0) F hr hc hg hm hk hb (fun _ _ _ _ _ _ _ h => h.elim) ha hdb he hpl) fun σ H Q ⟨s, f0, g, q⟩ => ⟨s, f0, g, q.chain.mono fun f1 H1 r1 g1 l1 q vs rs => ?_⟩
  exact run_callN (E := E0) (H := H) g1 q rs
theorem hotC_suite {a C : Addr} {oe : Obj} {d : Option Addr} {pn : List (Addr × Obj)} (hz : L2N.Zn (.ref C) d oe) (hf : ∃ vs, oe.data = .fields vs) : HotC (X.suite a ((a, oe) :: pn)) := by
  obtain ⟨vs, hv⟩ := hf
  exact ⟨(a, oe), ⟨rfl, vs, hv, hz.2.2 vs hv⟩, List.mem_cons_self⟩
theorem roomH_suite {k : Nat} {a : Addr} {q : List (Addr × Obj)} (hr : Room k X.A) : RoomH k (X.suite a q).A := ⟨hr.dp, hr.un⟩
end
end DL

set_option Elab.async false
set_option linter.all false
set_option maxRecDepth 100000
set_option maxHeartbeats 4000000
namespace DL
open PySem PySem.Spec PyProof.Rows L2 Enc
/-! ### sorted lists of pairs -/
def leP (p q : Int × Int) : Bool := decide (p.1 < q.1 ∨ (p.1 = q.1 ∧ p.2 ≤ q.2))
def psort (xs : List (Int × Int)) : List (Int × Int) := xs.mergeSort leP
theorem leP_total (a b : Int × Int) : leP a b || leP b a := by
  unfold leP; simp only [Bool.or_eq_true, decide_eq_true_eq]; omega
theorem leP_trans (a b c : Int × Int) (h1 : leP a b = true) (h2 : leP b c = true) : leP a c = true := by
  unfold leP at *; simp only [decide_eq_true_eq] at *; omega
theorem psort_perm (xs : List (Int × Int)) : (psort xs).Perm xs := List.mergeSort_perm xs _
theorem psort_pw (xs : List (Int × Int)) : (psort xs).Pairwise fun a b => leP a b = true := List.pairwise_mergeSort (le := leP) (fun a b c => leP_trans a b c) leP_total xs
theorem leP_anti {a b : Int × Int} (h1 : leP a b = true) (h2 : leP b a = true) : a = b := by
  unfold leP at *
  simp only [decide_eq_true_eq] at *
  exact Prod.ext (by omega) (by omega)
theorem psorted_unique {xs ys : List (Int × Int)} (p : xs.Perm ys) (h1 : xs.Pairwise fun a b => leP a b = true) (h2 : ys.Pairwise fun a b => leP a b = true) : xs = ys :=
  p.eq_of_pairwise (fun a b _ _ h1 h2 => leP_anti h1 h2) h1 h2
section
variable {X : Cx} {Γ : Cn} {S : Type} {ρ : S → List Slot} {e : Expr} {p pos : Pos}
def keyP (H : Hp) : V → Int × Int
  | .ref t => match H t with
    | some (.tup [.int i, .int j]) => (i, j)
    | _ => (0, 0)
  | _ => (0, 0)
theorem pairs_of {K : PySem.W.Frag} {H : Hp} : ∀ {ts : List (Int × Int)} {vs : List V}, RpAll K H vs (ts.map enc) → vs.map (keyP H) = ts ∧ ∀ x ∈ vs, ∃ t, x = V.ref t ∧ H t = some (.tup [.int (keyP H x).1, .int (keyP H x).2])
  | [], _, h => by cases h; exact ⟨rfl, fun x hx => by cases hx⟩
  | (i, j) :: ts, _, h => by
    cases h with
    | cons a b =>
      obtain ⟨h1, h2⟩ := pairs_of b
      have a' : Rp K H _ (.tuple [.int i, .int j]) := a
      cases a' with
      | @tup ad _ _ q r =>
        obtain ⟨x, y, rfl, rx, ry⟩ := r.two
        cases rx
        cases ry
        have ek : keyP H (.ref ad) = (i, j) := by simp only [keyP, q]
        exact ⟨by rw [List.map_cons, h1, ek], fun z hz => (List.mem_cons.mp hz).elim (fun e => ⟨_, e, by rw [e, ek]; exact q⟩) (h2 z)⟩
theorem pairs_to {K : PySem.W.Frag} {H : Hp} : ∀ {vs : List V}, (∀ x ∈ vs, ∃ t, x = V.ref t ∧ H t = some (.tup [.int (keyP H x).1, .int (keyP H x).2])) → RpAll K H vs ((vs.map (keyP H)).map enc)
  | [], _ => .nil
  | x :: vs, h => by
    obtain ⟨t, e, q⟩ := h x List.mem_cons_self
    refine .cons ?_ (pairs_to fun y hy => h y (List.mem_cons_of_mem _ hy))
    rw [e] at q ⊢
    exact .tup q (.cons (.int _) (.cons (.int _) .nil))
theorem e_sortedP {ma : S → Res (List (Int × Int) × S)} (hm : X.mg "sorted" = none) (ha : E X Γ ρ e ma) (hg : Gl X "sorted" := by rfl) (he : starEach [e] X.env = (false, eval e X.env) :: starEach [] X.env := by rfl) : EL X Γ ρ (.Call (.Name "sorted" p) [e] [] pos) (sbind ma fun x => spure (psort x)) :=
  e_callB (g := fun x => some (psort x)) (encs := enc1) cr_sortedPO (fun H vs t c Q rs ec q => by
    cases ec
    obtain ⟨v, rfl, r⟩ := rs.one
    obtain ⟨l, xs, rfl, hf, hr, hz⟩ := Rp.lst_inv r
    obtain ⟨k1, k2⟩ := pairs_of hr
    refine ⟨l, xs, keyP H, rfl, hf.sq, k2, fun ys d hs hb n => ?_⟩
    have pm : (ys.map (keyP H)).Perm t := by rw [← k1]; exact hb.perm.map _
    have e : ys.map (keyP H) = psort t := by
      refine psorted_unique (pm.trans (psort_perm t).symm) ?_ (psort_pw t)
      rw [List.pairwise_map]
      refine List.Pairwise.imp (fun {a b} h => ?_) hs
      have h' := SrtO.lexB_no.mp h
      unfold leP
      simp only [decide_eq_true_eq]
      omega
    have hr' : RpAll X.K H ys ((psort t).map enc) := by rw [← e]; exact pairs_to fun x hx => k2 x (hb.perm.mem_iff.mp hx)
    exact q.new n hr' (by rw [hb.len]; exact hz)) (pl_ok (α := Int × Int)) hg hm (by decide +kernel) (ea_one ha he) (he := he)
end
theorem takes0N {X : Cx} : L2N.Takes X noW := fun _ _ x => by
  obtain ⟨_, _, _, _, _, _, _, _, _, _, _, _, _, _, _, _, z⟩ := x
  exact z.elim
/-- an int among an error's fields -/
def asF : List Str → List PyData → Str → Option Int
  | g :: gs, a :: r, f => if f = g then (match a with
    | PyData.int i => some i
    | _ => none) else asF gs r f
  | _, _, _ => none
theorem asF_at : ∀ {fl : List Str} {as : List PyData} {f : Str} {i : Int}, asF fl as f = some i → ∃ j : Nat, fl[j]? = some f ∧ as[j]? = some (PyData.int i)
  | [], _, _, _, h => by cases h
  | _ :: _, [], _, _, h => by cases h
  | g :: gs, a :: r, f, i, h => by
    unfold asF at h
    split at h
    · next e =>
      subst e
      cases a with
      | int k => cases h; exact ⟨0, rfl, rfl⟩
      | _ => cases h
    · obtain ⟨j, h1, h2⟩ := asF_at h
      exact ⟨j + 1, h1, h2⟩
section
variable {X : Cx} {Γ : Cn} {S : Type} {ρ : S → List Slot} {o : Expr} {pos : Pos} {x f : Str} {C a : Addr} {oe : Obj} {d : Option Addr} {pn : List (Addr × Obj)} {i : Nat} {fl : List Str} {as : List PyData}
theorem e_xfG (M : XF X.K X.mg x C fl) (hz : L2N.Zn (.ref C) d oe) (hf : ∃ vs, oe.data = .fields vs) (ho : VarAt (X.suite a ((a, oe) :: pn)) i o) (hs : ∀ s, (ρ s)[i]? = some (.exn a d fl as) := by intro _; rfl)
    (hb : attributeBase o f X.env (eval o X.env) = eval o X.env := by rfl) : E (X.suite a ((a, oe) :: pn)) Γ ρ (.Attribute o f pos) (slift (ofOpt (asF fl as f))) := by
  cases e : asF fl as f with
  | none => exact PE.imp (t := fun _ _ _ => False) ⟨fun _ _ _ _ _ _ h => h.elim⟩ fun σ H Q ⟨s, f0, g, q⟩ => q.elim
  | some k =>
    obtain ⟨j, h1, h2⟩ := asF_at e
    refine (e_xfI j M hz hf ho h1 hs hb).congr fun s => ?_
    unfold asI
    rw [h2]
end
section
variable {P : Program} {w : World} {K : PySem.W.Frag} {mg : Str → Option Value} {base : Heap} {qual x : Str} {st : Stmt} {f : Addr} {fd : FuncData} {N ps : List Str} {k : Nat} {τ β R : Type}
theorem gN_ok [Enc R] (cl : String → Option (Addr × List Str)) {encs : τ → List PyData} {M : τ → Res (Ctl β Empty R)} {ρn : τ → β → List Slot} (d0 : R) (F : Fun K x qual st f fd) (Sc : FnScope N ps (defScope st)) (n : Nat) (hn : ∀ t, (encs t).length = ps.length) (hn2 : n = N.length - ps.length)
    (hb : ∀ cdv A outer s H t, Room k (A.deeper (envOfC qual (defScope st) s.heap.objs.size f cdv)) → ∀ E, Ss (cxOf CX0 P w K mg base N qual (defScope st) f cdv A outer s H E).nox ⟨noW, [], H, List.replicate N.length .any, cl⟩ (ρ0 (encs t) n) (defBody st) (M t) (ρn t) (fun b => nomatch b) (rtD K R))
    (hd : Nonempty β → enc d0 = .none) : FnOk P w K mg base CX0 (k + 1) f fd ps (spN K encs fun t => fnD d0 (M t)) := by
  refine F.ok Sc (fun vs H Q E h => ?_) (fun cdv A outer s H vs Q E hr h => ?_)
  · obtain ⟨t, r, _⟩ := h
    rw [r.length, hn]
  · obtain ⟨t, r, q⟩ := h
    refine ⟨_, hb cdv A outer s H t hr E, ?_⟩
    obtain ⟨b, eb, q⟩ := nb_wp q
    have eb : fnD d0 (M t) = .ok b := eb
    have hl : vs.length = ps.length := by rw [r.length, hn]
    have G := good_start (N := N) r
    rw [hl, ← hn2] at G
    refine ⟨G, ?_⟩
    cases eM : M t with
    | ok c =>
      rw [eM] at eb
      cases c with
      | rt r =>
        cases eb
        intro v H' fin rv
        exact q v H' (fun b o h => fin.1 b o (by simp) h) rv
      | nx b' =>
        cases eb
        intro σ' H' g' l
        refine q .non H' (fun b o h => g'.fin.1 b o (by simp) h) ?_
        rw [hd ⟨b'⟩]
        exact .non
      | bk b => exact nomatch b
      | ct b => exact nomatch b
    | err c as => rw [eM] at eb; cases eb
    | bad => rw [eM] at eb; cases eb
theorem gF_ok [Enc R] (cl : String → Option (Addr × List Str)) {encs : τ → List PyData} {M : τ → Fd → Res (Ctl Empty Empty (R × Fd))} (F : Fun K x qual st f fd) (Sc : FnScope N ps (defScope st)) (n : Nat) (hn : ∀ t, (encs t).length + 1 = ps.length) (hn2 : n = N.length - ps.length)
    (hb : ∀ cdv A outer s H t fd0 p, Room k (A.deeper (envOfC qual (defScope st) s.heap.objs.size f cdv)) → ∀ E, Ss (cxOf CX0 P w K mg base N qual (defScope st) f cdv A outer s H E).nox ⟨noW, [p], H, List.replicate N.length .any, cl⟩ (.io p (.lst (encF fd0)) :: ρ0 (encs t) n) (defBody st) (M t fd0) (fun b : Empty => nomatch b) (fun b => nomatch b) (rtF K p R)) :
    FnOk P w K mg base CX0 (k + 1) f fd ps (spF K encs fun t fd0 => fnE (M t fd0)) := by
  refine F.ok Sc (fun vs H Q E h => ?_) (fun cdv A outer s H vs Q E hr h => ?_)
  · obtain ⟨p, ws, us, fd0, t, rfl, _, _, r, _⟩ := h
    rw [List.length_cons, r.length, hn]
  · obtain ⟨p, ws, us, fd0, t, rfl, hp, hu, r, q⟩ := h
    refine ⟨_, hb cdv A outer s H t fd0 p hr E, ?_⟩
    obtain ⟨b, eb, q⟩ := nb_wp q
    have eb : fnE (M t fd0) = .ok b := eb
    have hl : ws.length + 1 = ps.length := by rw [r.length, hn]
    have G := good_startF (N := N) hp hu r
    rw [hl, ← hn2] at G
    refine ⟨G, ?_⟩
    cases eM : M t fd0 with
    | ok c =>
      rw [eM] at eb
      cases c with
      | rt r =>
        cases eb
        rintro v H' fin ⟨rv, us', hp', hu'⟩
        exact q v H' us' (fun a o na h => fin.1 a o (by simpa using na) h) hp' hu' rv
      | nx b => exact nomatch b
      | bk b => exact nomatch b
      | ct b => exact nomatch b
    | err c as => rw [eM] at eb; cases eb
    | bad => rw [eM] at eb; cases eb
end
end DL

set_option Elab.async false
set_option linter.all false
set_option maxRecDepth 100000
set_option maxHeartbeats 4000000
namespace DL
open PySem PySem.Spec PyProof.Rows L2 Enc
theorem nomE {R : Type} (d : R) (m : Res (Ctl Empty Empty R)) : fnD d m = fnE m := fnD_E d m
section
variable {P : Program} {w : World} {K : PySem.W.Frag} {mg : Str → Option Value} {base : Heap} {qual x : Str} {st : Stmt} {f : Addr} {fd : FuncData} {N ps : List Str} {k : Nat} {τ β R : Type}
theorem gNE_ok [Enc R] [Inhabited R] (cl : String → Option (Addr × List Str)) {encs : τ → List PyData} {M : τ → Res (Ctl Empty Empty R)} (F : Fun K x qual st f fd) (Sc : FnScope N ps (defScope st)) (n : Nat) (hn : ∀ t, (encs t).length = ps.length) (hn2 : n = N.length - ps.length)
    (hb : ∀ cdv A outer s H t, Room k (A.deeper (envOfC qual (defScope st) s.heap.objs.size f cdv)) → ∀ E, Ss (cxOf CX0 P w K mg base N qual (defScope st) f cdv A outer s H E).nox ⟨noW, [], H, List.replicate N.length .any, cl⟩ (ρ0 (encs t) n) (defBody st) (M t) (fun b : Empty => nomatch b) (fun b => nomatch b) (rtD K R)) :
    FnOk P w K mg base CX0 (k + 1) f fd ps (spN K encs fun t => fnE (M t)) := by
  have h := gN_ok cl (P := P) (w := w) (mg := mg) (base := base) (encs := encs) (M := M) (ρn := fun _ (b : Empty) => nomatch b) (default : R) F Sc n hn hn2 hb (fun z => z.elim fun b => nomatch b)
  have e : (fun t => fnD (default : R) (M t)) = fun t => fnE (M t) := funext fun t => nomE _ _
  rwa [e] at h
theorem gXE_ok [Enc R] [Inhabited R] (cl : String → Option (Addr × List Str)) {encs : τ → List PyData} {M : τ → Res (Ctl Empty Empty R)} (F : Fun K x qual st f fd) (Sc : FnScope N ps (defScope st)) (n : Nat) (hn : ∀ t, (encs t).length = ps.length) (hn2 : n = N.length - ps.length) (hn3 : ps.length ≤ N.length)
    (hb : ∀ cdv A outer s H t, Room k (A.deeper (envOfC qual (defScope st) s.heap.objs.size f cdv)) → ∀ E, Ss (cxOf (L2N.CX P w) P w K mg base N qual (defScope st) f cdv A outer s H E) ⟨WofE E, [], H, List.replicate N.length .any, cl⟩ (ρ0 (encs t) n) (defBody st) (M t) (fun b : Empty => nomatch b) (fun b => nomatch b) (rtD K R)) :
    FnOk P w K mg base (L2N.CX P w) (k + 1) f fd ps (spX K cl encs fun t => fnE (M t)) := by
  have h := fnX_ok (P := P) (w := w) (mg := mg) (base := base) (cl := cl) (encs := encs) (M := M) (ρn := fun _ (b : Empty) => nomatch b) (default : R) F Sc n hn hn2 hn3 hb (fun z => z.elim fun b => nomatch b)
  have e : (fun t => fnD (default : R) (M t)) = fun t => fnE (M t) := funext fun t => nomE _ _
  rwa [e] at h
end
instance {α β γ : Type} [Inhabited α] [Inhabited β] [Inhabited γ] : Inhabited (T3 α β γ) := ⟨⟨default, default, default⟩⟩
instance {α : Type} : Inhabited (Tup α) := ⟨⟨[]⟩⟩
instance : Inhabited Str := ⟨Str.empty⟩
theorem huH {k : Nat} {A : Around} (hr : L2H.RoomH k A) : A.units + 64 < cLine := by have := hr.un; omega
theorem huH65 {k : Nat} {A : Around} (hr : L2H.RoomH k A) : A.units + 65 < cLine := by have := hr.un; omega
/-- a try none of whose parts is left by its end -/
def tryZ {β γ R : Type} (m : Res (Ctl Empty γ R)) : Res (Ctl β γ R) := exitC m
section
variable {X : Cx} {Γ : Cn} {β γ R : Type} {ρ : List Slot} {st : Stmt} {ρe : Empty → List Slot} {ρn : β → List Slot} {ρg : γ → List Slot} {rt : R → V → Hp → Prop}
theorem s_tryZ {m : Res (Ctl Empty γ R)} (h : S1 X Γ ρ st m ρe ρg rt) : S1 X Γ ρ st (tryZ m) ρn ρg rt := PS.imp h fun D σ H ⟨g, q⟩ => ⟨g, by
  unfold tryZ exitC at q
  rw [wpR_bind] at q
  refine wpR_mono q (fun c q => ?_) fun _ _ z => z
  cases c with
  | nx b => exact nomatch b
  | rt r => exact q
  | bk b => exact q
  | ct b => exact q⟩
end
end DL

set_option Elab.async false
set_option linter.all false
set_option maxRecDepth 100000
set_option maxHeartbeats 4000000
namespace DL
open PySem PySem.Spec PyProof.Rows L2 Enc
/-! ### what the top has written -/
section
variable {K : PySem.W.Frag} {h : Heap} {mg : Str → Option Value}
theorem fnTx_mk (X : K.In h) (G : h.Ns mainGlobals mg) {x : Str} {st : Stmt} {ps : List Str} {f : Addr} {oc kV doc pm cdv ct : Value} {od an : Option Addr} {osl : Array (Option Value)} (a : PySem.W.nsIn K mainGlobals x = some (some (.ref f)))
    (l : K.lookup f = some ⟨oc, od, .func (PySem.W.fnOf x x (defArgs st) (defBody st) (defScope st) .none kV doc pm an cdv ct), osl⟩) (c : PySem.W.codeIn K cdv x = true) (k : PySem.W.keepIn K (.ref f) = true)
    (hb : ∀ (kV doc pm : Value) (an : Option Addr) (cdv ct : Value) (us : List Value), us.length = ps.length → bindArgs (PySem.W.fnOf x x (defArgs st) (defBody st) (defScope st) .none kV doc pm an cdv ct) ⟨us, []⟩ = pure (ps.zip us)) : FnTx K mg x st ps :=
  ⟨f, _, PySem.W.mg_of X G a, fun_mk l c k, (fun_mk (st := st) l c k).binds hb⟩
theorem xf_mk (X : K.In h) (G : h.Ns mainGlobals mg) {x : Str} {C : Addr} {fl : List Str} {nm q : Str} {N : Addr} {bs bm : List Value} {sn : List Str} {sub : List Value} {ab : Bool} {col : Option Bool} {dd : Option Addr} {m0 m1 m2 m3 m5 : Option Value}
    (a : PySem.W.nsIn K mainGlobals x = some (some (.ref C))) (xL : K.lookup C = some (excClassObj nm q C N bs bm true sn sub ab col dd m0 m1 m2 m3 m5 "ValueError.__new__")) (hv : PySem.HandSPX.refsVE bm = true)
    (sa : PySem.W.findIn K (.ref C) "__setattr__" = some (some (.builtin "object.__setattr__"))) (ga : PySem.W.findIn K (.ref C) "__getattribute__" = some (some (.builtin "BaseException.__getattribute__"))) (gg : PySem.W.findIn K (.ref C) "__getattr__" = some none)
    (eC : PySem.W.subIn K (.ref C) (.type "BaseException") = some true) (tC : PySem.W.typeIn K (.ref C) = some (.type "type")) (kC : PySem.W.keepIn K (.ref C) = true) (hC : PySem.W.hasDictIn K C = true)
    (ha : PySem.W.findIn K (.ref C) "__class__" = some (some (.builtin "object.__class__"))) (hn : PySem.W.specialIn K (.builtin "object.__class__") "__get__" = some (some (.builtin "getset_descriptor.__get__"))) (ht : PySem.W.takesIn K (.builtin "object.__class__") = some true) (hm : PySem.W.mroIn K C (.type "object") = some true)
    (no : ∀ f ∈ fl, PySem.W.findIn K (.ref C) f = some none) : XF K mg x C fl :=
  { g := PySem.W.mg_of X G a
    o := { cls := ⟨nm, q, N, bs, bm, sn, sub, ab, col, dd, m0, m1, m2, m3, m5, xL, hv⟩, sa := sa, exC := eC, tyC := tC, kC := kC }
    xf := { ga := ga, gg := gg, exC := eC, hdC := hC }
    ec := { hg := ga, hk := gg, hs := eC, hd := hC, ha := ha, hn := hn, ht := ht, hm := hm }
    no := no }
end
section
variable {P : Program} {w : World} {K : PySem.W.Frag} {mg : Str → Option Value} {base : Heap}
theorem xm1_mk {x f : Str} {C fI : Addr} {st : Stmt} {q : Str} {oc kV doc pm cdv ct : Value} {od an : Option Addr} {osl : Array (Option Value)} (xf : XF K mg x C [f]) (iC : PySem.W.findIn K (.ref C) "__init__" = some (some (.ref fI))) (tI : PySem.W.typeIn K (.ref fI) = some (.type "function"))
    (l : K.lookup fI = some ⟨oc, od, .func (PySem.W.fnOf "__init__" q (defArgs st) (defBody st) (defScope st) .none kV doc pm an cdv ct), osl⟩) (c : PySem.W.codeIn K cdv q = true) (k : PySem.W.keepIn K (.ref fI) = true)
    (hb : ∀ (kV doc pm : Value) (an : Option Addr) (cdv ct : Value) (us : List Value), us.length = ([("self" : Str), f] : List Str).length → bindArgs (PySem.W.fnOf "__init__" q (defArgs st) (defBody st) (defScope st) .none kV doc pm an cdv ct) ⟨us, []⟩ = pure (([("self" : Str), f] : List Str).zip us))
    (Sc : FnScope [("self" : Str), f] [("self" : Str), f] (defScope st)) (hbody : ∀ A outer s H E cdv, PSs (cxOf CX0 P w K mg base [("self" : Str), f] q (defScope st) fI cdv A outer s H E).nox (defBody st) (tOst K f (tVar 0) (tVar 1))) : XM1 P w K mg base x C f :=
  { xf := xf
    mkr := ⟨fI, _, _, iC, tI, (fun_mk (st := st) l c k).binds hb, init1_ok (fun_mk l c k) Sc xf.o (xf.no f (List.mem_singleton.mpr rfl)) hbody⟩ }
end
section
variable {K : PySem.W.Frag} {C D : Addr} {b : Bool}
theorem cls_pair (hD : PySem.W.hasDictIn K D = true) (tD : PySem.W.typeIn K (.ref D) = some (.type "type")) (s : PySem.W.subIn K (.ref C) (.ref D) = some b) : PySem.W.kitCls K (.ref C) (.ref D) = some b := by
  obtain ⟨cd, hc, _⟩ := PySem.W.any_some hD
  have e : ((PySem.W.clsIn K D).isSome && PySem.W.typeIn K (.ref D) == some (.type "type")) = true := by rw [hc, tD] <;> rfl
  show (if ((PySem.W.clsIn K D).isSome && PySem.W.typeIn K (.ref D) == some (.type "type")) = true then PySem.W.subIn K (.ref C) (.ref D) else none) = some b
  rw [if_pos e]
  exact s
theorem exm_pair (eD : PySem.W.subIn K (.ref D) (.type "BaseException") = some true) (hD : PySem.W.hasDictIn K D = true) (tD : PySem.W.typeIn K (.ref D) = some (.type "type")) (s : PySem.W.subIn K (.ref C) (.ref D) = some b) : PySem.W.exmOne K (.ref C) (.ref D) = some b := by
  unfold PySem.W.exmOne
  rw [if_pos (by rw [eD] <;> rfl)]
  exact cls_pair hD tD s
theorem kit_pair (hs : PySem.W.subIn K (.ref C) (.ref C) = some true) (hD : PySem.W.hasDictIn K D = true) (tD : PySem.W.typeIn K (.ref D) = some (.type "type")) (s : PySem.W.subIn K (.ref C) (.ref D) = some b) : PySem.W.kitOne K (.ref C) (.ref D) = some b := by
  unfold PySem.W.kitOne
  by_cases h : C = D
  · subst h
    rw [hs] at s
    cases s
    rw [if_pos (by simp)]
  · rw [if_neg (by simpa using h)]
    exact cls_pair hD tD s
end
end DL

set_option Elab.async false
set_option linter.all false
set_option maxRecDepth 100000
set_option maxHeartbeats 4000000
/-! dicts whose keys are tuples of ints: made, read, changed, frozen and walked -/
namespace DL
open PySem PySem.Spec PyProof.Rows L2 Enc
section
variable {X : Cx} {pins : List (Addr × Obj)} {σ : L2.St} {H : Hp} {s : Shared} {d : Addr} {o : Obj}
theorem frzT2 {kvs : List (List Key × V)} (I : Inv X pins σ H s) (h : H d = some (.frz o (.dT kvs))) :
    (d == sysModules) = false ∧ s.heap.get? d = some o ∧ ∃ (es : Array DictEntry) (ep : Nat), s.heap.DictRaw d es ep ∧ o.data = .dict es ep ∧ es.size = kvs.length ∧
      ∀ (i : Nat) (hi : i < es.size), ∃ k v q, kvs[i]? = some (k, v) ∧ es[i].key = .ref q ∧ H q = some (.tup (k.map kV)) ∧ RelV v es[i].val := by
  obtain ⟨hd, z, hs, xs, pr, o', es, ep, ho, hx, hdt, he, _⟩ := I.hok d _ h
  rw [hd] at ho
  cases ho
  have l1 : es.size = xs.length := size_of_entries he
  have l2 : kvs.length = xs.length := Paired.length pr
  refine ⟨hs, hd, es, ep, ⟨o, hd, hx, hdt⟩, hdt, by omega, fun i hi => ?_⟩
  have hk : kvs[i]? = some kvs[i] := List.getElem?_eq_getElem (by omega)
  obtain ⟨b, hb, e1, e2, e3⟩ := paired_get pr hk
  have q := entry_at he i
  rw [hb, Array.getElem?_eq_getElem hi] at q
  have q := Option.some.inj q
  exact ⟨_, _, b.2.1, hk, by rw [q]; rfl, e2, by rw [q]; exact e3⟩
end
/-- the pairs of a frozen dict, each a new tuple -/
def ItiT (d : Addr) (o : Obj) (kvs : List (List Key × V)) : It :=
  ⟨fun i H => H d = some (.frz o (.dT kvs)) ∧ i < kvs.length,
   fun i H x H' => ∃ (T : Addr) (k : List Key) (v : V) (q : Addr), kvs[i]? = some (k, v) ∧ x = .ref T ∧ H T = none ∧ H q = some (.tup (k.map kV)) ∧ H' = upd H T (.tup [.ref q, v]),
   fun i H => H d = some (.frz o (.dT kvs)) ∧ kvs.length ≤ i⟩
/-- its values -/
def ItdT (d : Addr) (o : Obj) (kvs : List (List Key × V)) : It :=
  ⟨fun i H => H d = some (.frz o (.dT kvs)) ∧ i < kvs.length, fun i H x H' => H' = H ∧ ∃ k, kvs[i]? = some (k, x), fun i H => H d = some (.frz o (.dT kvs)) ∧ kvs.length ≤ i⟩
section
variable {P : Program} {w : World} {K : PySem.W.Frag} {d : Addr} {o : Obj} {es : Array DictEntry} {ep : Nat} {kvs : List (List Key × V)} {tg : Expr} {elts : List Expr} {kk : Nat} {tpos : Pos}
theorem turn_itemsT (it : Addr) (hod : o.data = .dict es ep) (hez : es.size = kvs.length) : Turn P w K (.Tuple elts kk tpos) (ItiT d o kvs) [it] it (fun i h => ∃ ok ov, IsItemIter h it d i es.size ep ok ov) where
  mem := List.mem_singleton.mpr rfl
  obj := fun i h st b hb => by
    rw [List.mem_singleton.mp hb]
    obtain ⟨ok, ov, e⟩ := st
    exact ⟨_, e, fun v z => nomatch z⟩
  keep := fun i h h' st k => by obtain ⟨ok, ov, e⟩ := st; exact ⟨ok, ov, k it (List.mem_singleton.mpr rfl) _ e⟩
  item := by
    intro X hP hw hK hc i pins s σ H E I hf st hg
    subst hP; subst hw; subst hK
    obtain ⟨hd, hi⟩ := hg
    obtain ⟨hs, hgd, es', ep', raw, hdt, hsz, ent⟩ := frzT2 I hd
    obtain ⟨rfl, rfl⟩ := dict_ep hod hdt
    have hie : i < es'.size := by omega
    obtain ⟨k, v, q, hkv, hkey, hq, ru⟩ := ent i hie
    obtain ⟨ok, ov, he⟩ := st
    have hlt : it < s.heap.objs.size := Heap.lt_size he
    refine wpAny_pyNext_items_item_raw he raw hie fun h' ho hT hz hk => ?_
    refine ⟨_, rfl, ?_⟩
    refine wpAny_letOwnedTupleGo_items (s := { s with heap := h' }) ho fun h'' he' sb => ?_
    have hT2 : h''.get? s.heap.objs.size = some { cls := .type "tuple", data := .seq #[es'[i].key, es'[i].val] } := (sb.2 _ (Nat.ne_of_gt hlt)).trans hT
    have hnq : H s.heap.objs.size = none := I.hok.fresh (Nat.le_refl _)
    have new : ObjOk X.prog X.w (upd H s.heap.objs.size (.tup [.ref q, v])) h'' s.heap.objs.size (.tup [.ref q, v]) :=
      ⟨(by decide : 2 ≤ sizeLine), [es'[i].key, es'[i].val], .cons (hkey : es'[i].key = Value.ref q) (.cons ru .nil), ⟨_, hT2, rfl, _, rfl⟩⟩
    have I1 : Inv X pins σ (upd H s.heap.objs.size (.tup [.ref q, v])) { s with heap := h'' } :=
      I.turnedNew (t' := s.toks) (ch := [it]) (fun b ob hb e => (sb.2 b (fun z => hb (List.mem_singleton.mpr z))).trans (hk b ob (fun z => hb (List.mem_singleton.mpr z)) e)) hf (Nat.le_refl _) new
    refine ⟨.ref s.heap.objs.size, _, I1, rfl, ⟨_, k, v, q, hkv, rfl, hnq, hq, rfl⟩, ⟨_, _, he'⟩, fun b hb => ?_⟩
    rw [List.mem_singleton.mp hb, upd_ne (Nat.ne_of_lt hlt)]
    exact (hf it (List.mem_singleton.mpr rfl)).1
  done := by
    intro X hP hw hK hc i pins s σ H E I hf st hg
    subst hP; subst hw; subst hK
    obtain ⟨hd, hi⟩ := hg
    obtain ⟨f0, f1, f2, f3, f4, f5⟩ := hf it (List.mem_singleton.mpr rfl)
    obtain ⟨hs, hgd, es', ep', raw, hdt, hsz, ent⟩ := frzT2 I hd
    obtain ⟨rfl, rfl⟩ := dict_ep hod hdt
    obtain ⟨ok, ov, he⟩ := st
    exact wpAny_pyNext_items_end_raw (I.ok.hd hc) he raw (by omega) fun h' eb => ⟨rfl, I.turned (t' := s.toks) (fun b ob hb e => eb b ob hb e) f0 f1 f3 f4 f5⟩
  self := fun A i s Q E st h => by obtain ⟨_, _, e⟩ := st; exact PySem.W.kcp_self e h
theorem turn_valsT (it : Addr) (hod : o.data = .dict es ep) (hez : es.size = kvs.length) : Turn P w K tg (ItdT d o kvs) [it] it (fun i h => h.IsValIter it d i es.size ep) where
  mem := List.mem_singleton.mpr rfl
  obj := fun i h st b hb => by
    rw [List.mem_singleton.mp hb]
    obtain ⟨oi, e, c, dd⟩ := st
    exact ⟨oi, e, fun v z => by rw [dd] at z; cases z⟩
  keep := fun i h h' st k => st.at fun oi e => k it (List.mem_singleton.mpr rfl) oi e
  item := by
    intro X hP hw hK hc i pins s σ H E I hf st hg
    subst hP; subst hw; subst hK
    obtain ⟨hd, hi⟩ := hg
    obtain ⟨f0, f1, f2, f3, f4, f5⟩ := hf it (List.mem_singleton.mpr rfl)
    obtain ⟨hs, hgd, es', ep', raw, hdt, hsz, ent⟩ := frzT2 I hd
    obtain ⟨rfl, rfl⟩ := dict_ep hod hdt
    have hie : i < es'.size := by omega
    obtain ⟨k, v, q, hkv, hkey, hq, ru⟩ := ent i hie
    refine wpAny_pyNext_values_item_raw st raw hie fun h' st' sb => ?_
    have I1 : Inv X pins σ H { s with heap := h' } := I.turned (t' := s.toks) (fun b ob hb e => (sb.2 b hb).trans e) f0 f1 f3 f4 f5
    obtain ⟨oi, e, c, dd⟩ := id st'
    exact ⟨_, rfl, go_of (s := { s with heap := h' }) e c dd (by decide) ⟨v, H, I1, ru, ⟨rfl, k, hkv⟩, st', fun b hb => (hf b hb).1⟩⟩
  done := by
    intro X hP hw hK hc i pins s σ H E I hf st hg
    subst hP; subst hw; subst hK
    obtain ⟨hd, hi⟩ := hg
    obtain ⟨f0, f1, f2, f3, f4, f5⟩ := hf it (List.mem_singleton.mpr rfl)
    obtain ⟨hs, hgd, es', ep', raw, hdt, hsz, ent⟩ := frzT2 I hd
    obtain ⟨rfl, rfl⟩ := dict_ep hod hdt
    exact wpAny_pyNext_values_end_raw (I.ok.hd hc) st raw (by omega) fun h' eb => ⟨rfl, I.turned (t' := s.toks) (fun b ob hb e => eb b ob hb e) f0 f1 f3 f4 f5⟩
  self := fun A i s Q E st h => wpAny_pyIter_valiter st h
end
def iItemsT (td : TE) : TI := fun σ H R => td σ H fun x H1 => ∃ d o kvs, x = .ref d ∧ H1 d = some (.frz o (.dT kvs)) ∧ R (ItiT d o kvs) H1
def iValsT (td : TE) : TI := fun σ H R => td σ H fun x H1 => ∃ d o kvs, x = .ref d ∧ H1 d = some (.frz o (.dT kvs)) ∧ R (ItdT d o kvs) H1
section
variable {X : Cx} {tg e : Expr} {td : TE} {apos cpos : Pos}
theorem pi_itemsT {elts : List Expr} {kk : Nat} {tpos : Pos} (he : PE X e td) (hbase : attributeBase e "items" X.env (eval e X.env) = eval e X.env := by rfl) (hline : (apos.endLine == cpos.line) = true := by rfl) :
    PI X (.Tuple elts kk tpos) (.Call (.Attribute e "items" apos) [] [] cpos) (iItemsT td) := by
  refine ⟨fun pins s σ H R I h => ?_⟩
  refine wpAny_Call_method (T := "dict") (id := "dict.items") hbase rfl hline F.plainAttrs_dict F.slot_dict_items F.type_dict_items (thn (he.run pins s σ H _ I h) fun u s1 ⟨x, H1, I1, rx, d, o, kvs, ex, hd, q⟩ => ?_)
  subst ex
  obtain rfl : u = Value.ref d := rx
  obtain ⟨hs, hgd, es, ep, raw, hdt, hsz, ent⟩ := frzT2 I1 hd
  refine ⟨raw.typeIs, fun b z => by cases z; obtain ⟨o', ho', hx', _⟩ := raw; exact ⟨o', ho', hx'.2.1⟩, ?_⟩
  have I2 : Inv X pins σ H1 { s1 with heap := s1.heap.push { cls := .type "dict_items", data := .fields #[.ref d] } } := I1.kept (t' := s1.toks) fun b ob q => Heap.get?_push_of_some _ q
  have fin : wpAny (model X.prog X.w) X.A (pyIter (.ref s1.heap.objs.size)) (PIE X pins σ (.Tuple elts kk tpos) R) X.xe { s1 with heap := s1.heap.push { cls := .type "dict_items", data := .fields #[.ref d] } } := by
    refine wpAny_pyIter_items_raw (d := d) ⟨_, Heap.get?_push_size _ rfl, rfl, rfl⟩ (raw.at fun o e => Heap.get?_push_of_some _ e) (pi_one (tk := s1.toks) I2 _ (turn_itemsT _ hdt hsz) ⟨.none, .none, ?_⟩ q)
    exact Heap.get?_push_size _ rfl
  show wpAny _ _ (callWith cpos (.builtin "dict.items") [.ref d] [] []) _ X.xe s1
  exact method_meetsIn F.slot_dict_items F.entry_dict_items rfl (PySem.evalArgs_none ⟨rfl, raw.typeIs, F.args_dict_items_1 _, _, meets_dict_items_raw d hs, ⟨es, ep, raw⟩, fin⟩)
theorem pi_valuesT (he : PE X e td) (hbase : attributeBase e "values" X.env (eval e X.env) = eval e X.env := by rfl) (hline : (apos.endLine == cpos.line) = true := by rfl) : PI X tg (.Call (.Attribute e "values" apos) [] [] cpos) (iValsT td) := by
  refine ⟨fun pins s σ H R I h => ?_⟩
  refine wpAny_Call_method (T := "dict") (id := "dict.values") hbase rfl hline F.plainAttrs_dict F.slot_dict_values F.type_dict_values (thn (he.run pins s σ H _ I h) fun u s1 ⟨x, H1, I1, rx, d, o, kvs, ex, hd, q⟩ => ?_)
  subst ex
  obtain rfl : u = Value.ref d := rx
  obtain ⟨hs, hgd, es, ep, raw, hdt, hsz, ent⟩ := frzT2 I1 hd
  refine ⟨raw.typeIs, fun b z => by cases z; obtain ⟨o', ho', hx', _⟩ := raw; exact ⟨o', ho', hx'.2.1⟩, ?_⟩
  have I2 : Inv X pins σ H1 { s1 with heap := s1.heap.push { cls := .type "dict_values", data := .fields #[.ref d] } } := I1.kept (t' := s1.toks) fun b ob q => Heap.get?_push_of_some _ q
  have fin : wpAny (model X.prog X.w) X.A (pyIter (.ref s1.heap.objs.size)) (PIE X pins σ tg R) X.xe { s1 with heap := s1.heap.push { cls := .type "dict_values", data := .fields #[.ref d] } } := by
    refine wpAny_pyIter_values_raw (d := d) ⟨_, Heap.get?_push_size _ rfl, rfl, rfl⟩ (raw.at fun o e => Heap.get?_push_of_some _ e) (pi_one (tk := s1.toks) I2 _ (turn_valsT _ hdt hsz) ⟨_, Heap.get?_push_size _ rfl, rfl, rfl⟩ q)
  show wpAny _ _ (callWith cpos (.builtin "dict.values") [.ref d] [] []) _ X.xe s1
  exact method_meetsIn F.slot_dict_values F.entry_dict_values rfl (PySem.evalArgs_none ⟨rfl, raw.typeIs, F.args_dict_values_1 _, _, meets_dict_values_raw d hs, ⟨es, ep, raw⟩, fin⟩)
/-- {k: v}, the key a tuple -/
def tDisp1T (tk tv : TE) : TE := fun σ H Q => ∀ p, H p = none → tk σ (upd H p (.dT [])) fun x H1 => tv σ H1 fun y H2 => H2 p = some (.dT []) ∧ ∃ k b, x = .ref b ∧ H2 b = some (.tup (k.map kV)) ∧ Q (.ref p) (upd H2 p (.dT [(k, y)]))
theorem pe_disp1T {k v : Expr} {tk tv : TE} {pos : Pos} (hu : X.A.units + 1 < cLine) (hk : PE X k tk) (hv : PE X v tv) : PE X (.Dict [some k] [v] pos) (tDisp1T tk tv) := by
  refine ⟨fun pins s σ H Q I q => ?_⟩
  have hn := I.hok.fresh (Nat.le_refl s.heap.objs.size)
  have I1 := I.laid (a := s.heap.objs.size) (o := .dT []) (h' := s.heap.push { cls := .type "dict", data := .dict #[] }) (t' := s.toks) (fun _ _ q => Heap.get?_push_of_some _ q) (Nat.le_refl _) (dt_empty s.heap I.big)
  refine PySem.wpAny_Dict_any rfl rfl (by simp) (Nat.le_of_ble_eq_true rfl) (pairTrees_cons_walk (thn (hk.run pins _ σ _ _ I1 (q _ hn)) fun u s1 ⟨x, H1, I2, rx, q1⟩ => thn (hv.run pins s1 σ H1 _ I2 q1) fun w2 s2 ⟨y, H2, I3, ry, e, kk, b, ex, eb, q2⟩ => ?_))
  refine pairTrees_nil_walk ?_
  subst ex
  obtain rfl : u = Value.ref b := rx
  obtain ⟨z, hd, xs, rel, dd⟩ := dt_of I3.hok e
  cases rel
  unfold PySem.storeAll
  rw [List.forIn_cons]
  refine wpAny_bind (wpAny_bind (wpAny_dictSet_heap (knd := tupleKind (mixKind X.prog X.w)) (hsz := Nat.zero_le _) (show X.A.units < cLine by omega) (key_of I3.hok eb) dd fun h' dd' hs => wpAny_pure ?_))
  show wpAny _ _ (forIn ([] : List (Value × Value)) PUnit.unit _) _ _ _
  rw [List.forIn_nil]
  refine wpAny_pure ⟨.ref s.heap.objs.size, _, ?_, rfl, q2⟩
  obtain ⟨qo, es, ep, hq, h2, h3, h4, _, h5⟩ := dd'
  refine d_write I3 (by rw [e]; exact True.intro) hs ⟨qo, hq⟩ ⟨(by show 1 ≤ 2 ^ 24; decide), hd, _, ((KT.put (kvs := []) (xs := []) .nil kk eb ry).keeps fun c ys ec => ?_), qo, es, ep, hq, h2, h3, h4, h5⟩
  rw [upd_ne (ne_of ec e (fun z => nomatch z))]
  exact ec
end
end DL

set_option Elab.async false
set_option linter.all false
set_option maxRecDepth 100000
set_option maxHeartbeats 4000000
/-! dicts with tuple keys, as data -/
namespace DL
open PySem PySem.Spec PyProof.Rows L2 Enc
def encK (t : Tup Int) : List Key := t.l.map Sum.inl
def encT {β : Type} [Enc β] (m : List (Tup Int × β)) : List (List Key × PyData) := m.map fun p => (encK p.1, enc p.2)
def getT {β : Type} (m : List (Tup Int × β)) (k : Tup Int) (d : β) : β := ((m.find? fun p => decide (p.1.l = k.l)).map (·.2)).getD d
def putT {β : Type} (m : List (Tup Int × β)) (k : Tup Int) (v : β) : List (Tup Int × β) := if (m.any fun p => decide (p.1.l = k.l)) = true then m.map (fun p => if p.1.l = k.l then (p.1, v) else p) else m ++ [(k, v)]
def putO {β : Type} (m : List (Tup Int × β)) (k : Tup Int) (v : β) : Option (List (Tup Int × β)) := chk (m.length < 16777216) (putT m k v)
theorem encK_inj {a b : Tup Int} : encK a = encK b ↔ a.l = b.l := by
  unfold encK
  constructor
  · intro h
    have := congrArg (List.map fun x : Key => match x with | .inl i => i | .inr _ => 0) h
    rw [List.map_map, List.map_map] at this
    have e : ((fun x : Key => match x with | .inl i => i | .inr _ => 0) ∘ Sum.inl : Int → Int) = id := rfl
    rw [e, List.map_id, List.map_id] at this
    exact this
  · intro h; rw [h]
theorem kV_encK (t : Tup Int) : (encK t).map kV = t.l.map V.int := by
  unfold encK; rw [List.map_map]; rfl
theorem encT_length {β : Type} [Enc β] (m : List (Tup Int × β)) : (encT m).length = m.length := List.length_map _
section
variable {K : PySem.W.Frag} {H H' H0 : Hp} {ps : List Addr} {f : Nat → Foot} {ρ : List Slot} {σ : L2.St}
theorem key_rp {v : V} {t : Tup Int} (h : Rp K H v (enc t)) : ∃ b, v = .ref b ∧ H b = some (.tup ((encK t).map kV)) := by
  have h : Rp K H v (.tuple (t.l.map enc)) := h
  cases h with
  | tup a b => rw [RpAll.ints b] at a; exact ⟨_, rfl, by rw [kV_encK]; exact a⟩
theorem rp_key {b : Addr} {t : Tup Int} (h : H b = some (.tup ((encK t).map kV))) : Rp K H (.ref b) (enc t) := by
  rw [kV_encK] at h
  exact .tup h (rpAll_ints _)
theorem kvs_get {β : Type} [Enc β] {ws : List (List Key × V)} {m : List (Tup Int × β)} (h : KVs K H ws (encT m)) (k : Tup Int) {y : V} {d : β} (hy : Rp K H y (enc d)) : Rp K H ((valV ws (encK k)).getD y) (enc (getT m k d)) := by
  induction m generalizing ws with
  | nil => cases h; exact hy
  | cons p m ih =>
    cases h with
    | @cons a _ as _ q t =>
      by_cases e : p.1.l = k.l
      · have e2 : a.1 = encK k := q.1.trans (encK_inj.mpr e)
        rw [valV_pos e2]
        unfold getT
        rw [List.find?_cons_of_pos (by simpa using e)]
        exact q.2
      · have e2 : ¬ a.1 = encK k := fun z => e (encK_inj.mp (q.1.symm.trans z))
        rw [valV_neg e2]
        have := ih t
        unfold getT at this ⊢
        rw [List.find?_cons_of_neg (by simpa using e)]
        exact this
theorem kvs_any {β : Type} [Enc β] {ws : List (List Key × V)} {m : List (Tup Int × β)} (h : KVs K H ws (encT m)) (k : Tup Int) : (ws.any fun kv => decide (kv.1 = encK k)) = m.any fun p => decide (p.1.l = k.l) := by
  induction m generalizing ws with
  | nil => cases h; rfl
  | cons p m ih =>
    cases h with
    | @cons a _ as _ q t =>
      rw [List.any_cons, List.any_cons, ih t]
      congr 1
      apply decide_eq_decide.mpr
      rw [q.1]; exact encK_inj
theorem kvs_repl {β : Type} [Enc β] {ws : List (List Key × V)} {m : List (Tup Int × β)} (h : KVs K H ws (encT m)) (k : Tup Int) {y : V} {v : β} (hy : Rp K H y (enc v)) : KVs K H (ws.map fun kv => if kv.1 = encK k then (kv.1, y) else kv) (encT (m.map fun p => if p.1.l = k.l then (p.1, v) else p)) := by
  induction m generalizing ws with
  | nil => cases h; exact .nil
  | cons p m ih =>
    cases h with
    | @cons a _ as _ q t =>
      rw [List.map_cons, List.map_cons]
      refine .cons ?_ (ih t)
      by_cases e : p.1.l = k.l
      · have e2 : a.1 = encK k := q.1.trans (encK_inj.mpr e)
        rw [if_pos e, if_pos e2]; exact ⟨q.1, hy⟩
      · have e2 : ¬ a.1 = encK k := fun z => e (encK_inj.mp (q.1.symm.trans z))
        rw [if_neg e, if_neg e2]; exact q
theorem kvs_put {β : Type} [Enc β] {ws : List (List Key × V)} {m : List (Tup Int × β)} (h : KVs K H ws (encT m)) (k : Tup Int) {y : V} {v : β} (hy : Rp K H y (enc v)) : KVs K H (putK ws (encK k) y) (encT (putT m k v)) := by
  unfold putK putT
  rw [kvs_any h k]
  by_cases e : (m.any fun p => decide (p.1.l = k.l)) = true
  · rw [if_pos e, if_pos e]; exact kvs_repl h k hy
  · rw [if_neg e, if_neg e]
    unfold encT
    rw [List.map_append]
    exact Paired.snoc h ⟨rfl, hy⟩
theorem GoodF.ownT {i : Nat} {kvs : List (List Key × PyData)} (g : GoodF K ps H0 f ρ σ H) (h : ρ[i]? = some (.own (.dT kvs))) :
    ∃ p ws, σ[i]? = some (some (.ref p)) ∧ f i = [p] ∧ H p = some (.dT ws) ∧ KVs K H ws kvs ∧ H0 p = none ∧ p ∉ ps := by
  obtain ⟨v, e, q1, x, rfl, p, ws, rfl, hf, hp, hr⟩ := g.slot i _ h
  have q := q1 p (by rw [hf]; exact List.mem_singleton.mpr rfl)
  exact ⟨p, ws, e, hf, hp, hr, q.1, q.2⟩
/-- what an own slot holds is replaced -/
theorem GoodF.putG {i : Nat} {p : Addr} {o u : HO} {sl sl' : Slot} {fp' : Foot} (g : GoodF K ps H0 f ρ σ H) (h : ρ[i]? = some sl) (hf : f i = [p]) (hp : H p = some o) (ni : ¬ Imm o) (n0 : H0 p = none) (np : p ∉ ps) (hfp : fp' = [p] ∨ fp' = [])
    (hs : ∀ v, σ[i]? = some v → SlotOk K ps H0 fp' v (upd H p u) sl') : GoodF K ps H0 (fun j => if j = i then fp' else f j) (ρ.set i sl') σ (upd H p u) := by
  have lu : Le H (upd H p u) := Le.upd hp ni
  have hi : i < ρ.length := (List.getElem?_eq_some_iff.mp h).1
  have kp : ∀ j a, j ≠ i → a ∈ f j → upd H p u a = H a := fun j a hj ha => upd_ne fun z => hj (g.sep j i a ha (by rw [hf, z]; exact List.mem_singleton.mpr rfl))
  have sub : ∀ a, a ∈ fp' → a ∈ f i := fun a ha => by
    rcases hfp with e | e
    · rw [e] at ha; rw [hf]; exact ha
    · rw [e] at ha; cases ha
  refine ⟨by rw [List.length_set]; exact g.len, fun b ob hb eb => ?_, fun a ha => ?_, fun j s' hj => ?_, fun j hj => ?_, fun j k a h1 h2 => ?_⟩
  · rw [upd_ne (fun z => by subst z; rw [n0] at eb; cases eb)]
    exact g.same b ob hb eb
  · rw [upd_ne (fun z => by subst z; exact np ha)]; exact g.io a ha
  · by_cases z : j = i
    · subst z
      rw [List.getElem?_set_self hi] at hj
      cases hj
      obtain ⟨v, e, _⟩ := g.slot j _ h
      exact ⟨v, e, by simp only [if_pos]; exact hs v e⟩
    · rw [List.getElem?_set_ne (Ne.symm z)] at hj
      obtain ⟨v', e', q'⟩ := g.slot j s' hj
      simp only [if_neg z]
      exact ⟨v', e', q'.keep lu fun a ha => kp j a z ha⟩
  · by_cases z : j = i
    · subst z
      rw [List.getElem?_set_self hi] at hj; cases hj
    · rw [List.getElem?_set_ne (Ne.symm z)] at hj
      simp only [if_neg z]
      exact g.out j hj
  · have m : ∀ j, a ∈ (if j = i then fp' else f j) → a ∈ f j := fun j hj => by
      by_cases z : j = i
      · rw [if_pos z] at hj; rw [z]; exact sub a hj
      · rw [if_neg z] at hj; exact hj
    exact g.sep j k a (m j h1) (m k h2)
/-- an object that nobody owns is replaced -/
theorem GoodF.repl {p : Addr} {o u : HO} (g : GoodF K ps H0 f ρ σ H) (hp : H p = some o) (ni : ¬ Imm o) (nf : ∀ i, p ∉ f i) (n0 : H0 p = none) (np : p ∉ ps) : GoodF K ps H0 f ρ σ (upd H p u) := by
  refine g.keep (Le.upd hp ni) (fun i a ha => upd_ne fun z => nf i (z ▸ ha)) fun b ob hb eb => ?_
  rw [upd_ne (fun z => by subst z; rw [n0] at eb; cases eb)]
  exact g.same b ob hb eb
end
theorem RunF.at {K : PySem.W.Frag} {Γ : Cn} {S α : Type} {f0 : Nat → Foot} {ρ : S → List Slot} {σ : L2.St} {H H1 : Hp} {m : Res (α × S)} {φ : (Nat → Foot) → Hp → α × S → Prop} (h : RunF K Γ f0 ρ m σ H φ) (l : Stp f0 H f0 H1) : RunF K Γ f0 ρ m σ H1 φ :=
  wpR_mono h (fun r q H2 f2 g2 l2 => q H2 f2 g2 (l.trans l2)) fun _ _ z => ErrW.mono z l.le
def PT {β : Type} [Enc β] (K : PySem.W.Frag) : PK (List (Tup Int × β)) := fun f H H' v m => ∃ p ws, v = .ref p ∧ H p = none ∧ (∀ i, p ∉ f i) ∧ H' p = some (.dT ws) ∧ KVs K H' ws (encT m)
/-- a frozen dict -/
def PF {β : Type} [Enc β] (K : PySem.W.Frag) : PK (List (Tup Int × β)) := fun _ _ H' v m => FrzOk K H' v (.dT (encT m))
section
variable {X : Cx} {Γ : Cn} {S α β γ δ R : Type} {ρ : List Slot} {ρS : S → List Slot} {st : Stmt} {rest : List Stmt} {ρn : γ → List Slot} {ρg : δ → List Slot} {rt : R → V → Hp → Prop} {e f o tg : Expr} {pos cpos apos tpos p : Pos} {x : Str}
theorem notImmT {ws : List (List Key × V)} : ¬ Imm (.dT ws) := fun h => h
theorem e_dnewT [Enc β] : EP X Γ (PT (β := β) X.K) ρS (.Dict [] [] pos) (spure ([] : List (Tup Int × β))) :=
  PE.imp pe_dnewT fun σ H Q ⟨s, f0, g, q⟩ p hp => by
    have nf : ∀ i, p ∉ f0 i := fun i hi => by obtain ⟨u, e, _⟩ := g.live hi; rw [hp] at e; cases e
    exact q _ f0 (g.same' (same_new hp)) (Stp.new hp) _ ⟨p, [], rfl, hp, nf, upd_same, .nil⟩
theorem e_disp1T [Enc β] {mk : S → Res (Tup Int × S)} {mv : S → Res (β × S)} (hu : X.A.units + 1 < cLine) (hk : E X Γ ρS e mk) (hv : E X Γ ρS f mv) : EP X Γ (PT (β := β) X.K) ρS (.Dict [some e] [f] pos) (sbind mk fun a => sbind mv fun b => spure [(a, b)]) :=
  PE.imp (pe_disp1T hu hk hv) fun σ H Q ⟨s, f0, g, q⟩ p hp => by
    have nf : ∀ i, p ∉ f0 i := fun i hi => by obtain ⟨u, e, _⟩ := g.live hi; rw [hp] at e; cases e
    have n0 := Good.newAt ⟨f0, g⟩ hp
    have q : wpR (mk s >>= fun r1 => mv r1.2 >>= fun r2 => Res.ok ([(r1.1, r2.1)], r2.2)) (fun r => ∀ H' f, GoodF X.K Γ.ps Γ.H0 f (ρS r.2) σ H' → Stp f0 H f H' → ∀ v, PT X.K f H H' v r.1 → Q v H') (ErrW X.K Γ H σ) := q
    rw [wpR_bind] at q
    refine ⟨s, f0, g.same' (same_new hp), wpR_mono q (fun r1 q H1 f1 g1 l1 x rx => ?_) fun _ _ z => ErrW.mono z (Le.new hp)⟩
    rw [wpR_bind] at q
    refine ⟨r1.2, f1, g1, wpR_mono q (fun r2 q H2 f2 g2 l2 y ry => ?_) fun _ _ z => ErrW.mono z ((Le.new hp).trans l1.le)⟩
    have l := l1.trans l2
    have hp2 : H2 p = some (.dT []) := l.keep p _ upd_same nf
    have nf2 : ∀ i, p ∉ f2 i := fun i hi => by
      rcases l.foot i p hi with ⟨j, z⟩ | z
      · exact nf j z
      · rw [upd_same] at z; cases z
    obtain ⟨b, rfl, hb⟩ := key_rp (rx.mono l2.le)
    have lu : Le H2 (upd H2 p (.dT [(encK r1.1, y)])) := Le.upd hp2 notImmT
    refine ⟨hp2, encK r1.1, b, rfl, hb, ?_⟩
    refine q _ f2 (g2.repl hp2 notImmT nf2 n0.1 n0.2) ⟨(Le.new hp).trans (l.le.trans lu), fun a u h n => ?_, fun i a h => ?_⟩ _ ⟨p, _, rfl, hp, nf2, upd_same, .cons ⟨rfl, Rp.mono lu ry⟩ .nil⟩
    · rw [upd_ne (fun z => by subst z; rw [hp] at h; cases h)]
      exact l.keep a u (by rw [upd_ne (fun z => by subst z; rw [hp] at h; cases h)]; exact h) n
    · rcases l.foot i a h with z | z
      · exact .inl z
      · refine .inr ?_
        rw [upd_ne (fun e => by subst e; rw [upd_same] at z; cases z)] at z
        exact z
theorem e_getT [Enc β] {i : Nat} (get : S → List (Tup Int × β)) {mk : S → Res (Tup Int × S)} {md : S → Res (β × S)} (hu : X.A.units + 1 < cLine) (ho : VarAt X i o) (he : E X Γ ρS e mk) (hf : E X Γ ρS f md) (w : ∀ s, (ρS s)[i]? = some (.own (.dT (encT (get s)))) := by intro _; rfl)
    (m : M2 X o "get" apos e f cpos := by exact ⟨rfl, rfl, rfl, rfl⟩) : E X Γ ρS (.Call (.Attribute o "get" apos) [e, f] [] cpos) (sbind mk fun k => sbind md fun d s => .ok (getT (get s) k d, s)) :=
  PE.imp (pe_dget2 hu ho he hf m) fun σ H Q ⟨s, f0, g, q⟩ => by
    obtain ⟨p, ws, e1, _, hp, hkv, _⟩ := g.ownT (w s)
    refine ⟨_, e1, p, rfl, .inr ⟨ws, .inl hp⟩, s, f0, g, q.chain.mono fun f1 H1 r1 g1 l1 q v rx => ⟨r1.2, f1, g1, q.chain.mono fun f2 H2 r2 g2 l2 q y ry => ?_⟩⟩
    obtain ⟨p', ws', e1', _, hp', hkv', _⟩ := g2.ownT (w r2.2)
    rw [e1] at e1'
    cases e1'
    obtain ⟨b, rfl, hb⟩ := key_rp (rx.mono l2.le)
    exact ⟨valV ws' (encK r1.1), DGet.t hp' hb, RunF.same q g2 (Same.refl _) _ (kvs_get hkv' r1.1 ry)⟩
theorem pss_lockO {t : TS} (h : PSs X rest t) : PSs X rest (fun D σ H => ∃ a u, H a = some u ∧ Mut (some u) ∧ ∀ ob, t D σ (upd H a (.frz ob u))) :=
  ⟨fun pins s σ H D I ⟨a, u, e, mu, q⟩ => by
    obtain ⟨ob, I'⟩ := I.lock e mu
    exact h.run pins s σ _ D I' (q ob)⟩
/-- a dict of one's own is changed no more -/
theorem s_frzT {kvs : List (List Key × PyData)} {k : Res (Ctl γ δ R)} (i : Nat) (hk : Ss X Γ (ρ.set i (.frz (.dT kvs))) rest k ρn ρg rt) (h1 : ρ[i]? = some (.own (.dT kvs)) := by rfl) : Ss X Γ ρ rest k ρn ρg rt :=
  PSs.imp (pss_lockO hk) fun D σ H q => by
    obtain ⟨⟨f, g⟩, q⟩ := q
    obtain ⟨p, ws, e1, hf, hp, hr, n0, np⟩ := g.ownT h1
    refine ⟨p, _, hp, trivial, fun ob => ?_⟩
    have lu : Le H (upd H p (.frz ob (.dT ws))) := Le.upd hp notImmT
    refine ⟨⟨_, g.putG (fp' := []) h1 hf hp notImmT n0 np (.inr rfl) fun v ev => ?_⟩, wpR_mono q (fun c q => q.le lu) fun _ _ z => z.le lu⟩
    rw [e1] at ev
    cases ev
    exact ⟨rfl, _, rfl, p, ob, ws, rfl, upd_same, hr.mono lu⟩
/-- d[k] = e -/
theorem p_putT [Enc β] {ρ : List Slot} {me : Unit → Res (β × Unit)} {mk : Unit → Res (Tup Int × Unit)} {k : List (Tup Int × β) → Res (Ctl γ δ R)} {ie : Expr} (i : Nat) (m : List (Tup Int × β)) (hu : X.A.units + 1 < cLine) (ho : VarAt X i o) (he : E X Γ (fun _ : Unit => ρ) e me) (hi : E X Γ (fun _ : Unit => ρ) ie mk)
    (hk : ∀ l : List (Tup Int × β), Ss X Γ (ρ.set i (.own (.dT (encT l)))) rest (k l) ρn ρg rt) (h1 : ρ[i]? = some (.own (.dT (encT m))) := by rfl) (hs : swapsWith e (some (.Subscript o ie p)) pos.line X.env = pure false := by rfl) :
    Ss X Γ ρ (.Assign [.Subscript o ie p] e pos :: rest) (val1 me >>= fun a => val1 mk >>= fun j => ofOpt (putO m j a) >>= k) ρn ρg rt :=
  PSs.imp (pss_cons (ps_dput hu ho hi he hs) (PSs.ex hk)) fun D σ H q => by
    obtain ⟨⟨f0, g⟩, q⟩ := q
    rw [wpR_bind] at q
    have q : wpR (me ()) (fun r => wpR (val1 mk >>= fun j => ofOpt (putO m j r.1) >>= k) (Post X.K Γ ρn ρg rt D H) (ErrS X.K Γ H)) (ErrS X.K Γ H) := by
      have q := q
      rw [wpR_bind] at q
      exact wpR_mono q (fun r q => q) fun _ _ z => z
    refine ⟨(), f0, g, wpR_mono q (fun r q H1 f1 g1 l1 v rx => ?_) fun _ _ z => z.w σ⟩
    obtain ⟨pd, ws, e1, hf, hp, hr, n0, np⟩ := g1.ownT h1
    rw [wpR_bind] at q
    have q : wpR (mk ()) (fun r' => wpR (ofOpt (putO m r'.1 r.1) >>= k) (Post X.K Γ ρn ρg rt D H) (ErrS X.K Γ H)) (ErrS X.K Γ H) := by
      have q := q
      rw [wpR_bind] at q
      exact wpR_mono q (fun r q => q) fun _ _ z => z
    refine ⟨_, e1, (), f1, g1, wpR_mono q (fun r' q H2 f2 g2 l2 v' rx' => ?_) fun _ _ z => ((z.le l1.le).w σ)⟩
    obtain ⟨pd', ws', e1', hf', hp', hr', n0', np'⟩ := g2.ownT h1
    rw [e1] at e1'
    cases e1'
    rw [wpR_bind] at q
    obtain ⟨l, el, q⟩ := wpR_ofOpt q
    obtain ⟨hz, rfl⟩ := chk_some el
    obtain ⟨b, rfl, hb⟩ := key_rp rx'
    have lu : Le H2 (upd H2 pd (.dT (putK ws' (encK r'.1) v))) := Le.upd hp' notImmT
    have hl : ws'.length = m.length := by rw [Paired.length hr', encT_length]
    have hkv := (kvs_put hr' r'.1 (rx.mono l2.le)).mono lu
    refine ⟨pd, _, rfl, DPut.t hp' hb (by show _ < 2 ^ 24; omega), putT m r'.1 r.1, ⟨_, g2.putG (fp' := [pd]) h1 hf' hp' notImmT n0' np' (.inl rfl) fun w ew => ?_⟩, wpR_mono q (fun c q => q.le ((l1.le.trans l2.le).trans lu)) fun _ _ z => z.le ((l1.le.trans l2.le).trans lu)⟩
    rw [e1] at ew
    cases ew
    exact ⟨fun a ha => by rw [List.mem_singleton.mp ha]; exact ⟨n0', np'⟩, _, rfl, pd, _, rfl, rfl, upd_same, hkv⟩
/-- name = a new dict -/
theorem p_setDT [Enc β] {mS : S → Res (List (Tup Int × β) × S)} {k : List (Tup Int × β) → S → Res (Ctl γ δ R)} (ρS : S → List Slot) (s0 : S) (i : Nat) (h : AE X Γ (PT (β := β) X.K) ρS i st mS) (h2 : ∀ a s, Ss X Γ ((ρS s).set i (.own (.dT (encT a)))) rest (k a s) ρn ρg rt) (hl : ∀ s, i < (ρS s).length := by intro _; exact DL.lt_by rfl) :
    Ss X Γ (ρS s0) (st :: rest) (sseq (mS s0) k) ρn ρg rt :=
  PSs.imp (pss_cons h (PSs.ex fun a => PSs.ex (h2 a))) fun D σ H hq => by
    have G0 := hq.1
    refine tE_of hq fun a s v H' f g l p q => ⟨a, s, ?_, q⟩
    obtain ⟨d, ws, rfl, hn, nf, hv, hr⟩ := p
    exact ⟨_, g.set (fp := [d]) (hl s) ⟨fun b hb => by rw [List.mem_singleton.mp hb]; exact G0.newAt hn, .ref d, rfl, d, ws, rfl, rfl, hv, hr⟩ fun j b _ hb => by rw [List.mem_singleton.mp hb]; exact nf j⟩
/-- name = a frozen dict -/
theorem p_setFT [Enc β] {mS : S → Res (List (Tup Int × β) × S)} {k : List (Tup Int × β) → S → Res (Ctl γ δ R)} (ρS : S → List Slot) (s0 : S) (i : Nat) (h : AE X Γ (PF (β := β) X.K) ρS i st mS) (h2 : ∀ a s, Ss X Γ ((ρS s).set i (.frz (.dT (encT a)))) rest (k a s) ρn ρg rt) (hl : ∀ s, i < (ρS s).length := by intro _; exact DL.lt_by rfl) :
    Ss X Γ (ρS s0) (st :: rest) (sseq (mS s0) k) ρn ρg rt :=
  PSs.imp (pss_cons h (PSs.ex fun a => PSs.ex (h2 a))) fun D σ H hq =>
    tE_of hq fun a s v H' f g l p q => ⟨a, s, ⟨_, g.set (fp := []) (hl s) ⟨rfl, v, rfl, p⟩ fun j b _ hb => by cases hb⟩, q⟩
/-- a variable that holds a frozen dict -/
theorem e_varF [Enc β] {i : Nat} (get : S → List (Tup Int × β)) (ho : VarAt X i o) (w : ∀ s, (ρS s)[i]? = some (.frz (.dT (encT (get s)))) := by intro _; rfl) : EP X Γ (PF (β := β) X.K) ρS o (fun s => .ok (get s, s)) :=
  PE.imp ho fun σ H Q ⟨s, f0, g, q⟩ => by
    obtain ⟨v, e1, _, x, rfl, h⟩ := g.slot i _ (w s)
    exact ⟨x, e1, RunF.same q g (Same.refl _) x h⟩
/-- for k, v in d.items() -/
theorem ei_itemsT [Enc β] {elts : List Expr} {kk : Nat} {i : Nat} (get : S → List (Tup Int × β)) (ho : VarAt X i o) (w : ∀ s, (ρS s)[i]? = some (.frz (.dT (encT (get s)))) := by intro _; rfl)
    (hb : attributeBase o "items" X.env (eval o X.env) = eval o X.env := by rfl) (hline : (apos.endLine == cpos.line) = true := by rfl) :
    EI X Γ ρS (.Tuple elts kk tpos) (.Call (.Attribute o "items" apos) [] [] cpos) (fun s => ofOpt (chk ((get s).length ≤ 16777216) (get s)) >>= fun a => .ok (a, s)) :=
  PI.imp (pi_itemsT ho hb hline) fun σ H R ⟨s, f0, g, q⟩ => by
    obtain ⟨v, e1, _, x, rfl, p, ob, ws, rfl, hp, hr⟩ := g.slot i _ (w s)
    obtain ⟨c, ec, q⟩ := run_opt (o := chk ((get s).length ≤ 16777216) (get s)) (s := s) q
    obtain ⟨hz, rfl⟩ := chk_some ec
    have hl : ws.length = (get s).length := by rw [Paired.length hr, encT_length]
    refine ⟨_, e1, p, ob, ws, rfl, hp, RunF.same q g (Same.refl _) _ ⟨by show _ ≤ 2 ^ 24; omega, fun j H' l hj => ⟨l.imm _ _ trivial hp, by have hj : j < (get s).length := hj; omega⟩, fun j H' v H'' a l e y => ?_, fun j H' l hj => ⟨l.imm _ _ trivial hp, by have hj : (get s).length ≤ j := hj; omega⟩⟩⟩
    obtain ⟨T, k, w', qd, hk, rfl, hT, hq, rfl⟩ := y
    have hsame : Same H' (upd H' T (.tup [.ref qd, w'])) := same_new hT
    refine ⟨hsame, ?_⟩
    obtain ⟨b, hb, e2, r2⟩ := paired_get (hr.mono l) hk
    unfold encT at hb
    rw [List.getElem?_map, e] at hb
    cases hb
    have e2 : k = encK a.1 := e2
    rw [e2] at hq
    exact .tup upd_same (.cons ((rp_key hq).mono (Le.of_same hsame)) (.cons (r2.mono (Le.of_same hsame)) .nil))
theorem ei_valuesT [Enc β] {i : Nat} (get : S → List (Tup Int × β)) (ho : VarAt X i o) (w : ∀ s, (ρS s)[i]? = some (.frz (.dT (encT (get s)))) := by intro _; rfl)
    (hb : attributeBase o "values" X.env (eval o X.env) = eval o X.env := by rfl) (hline : (apos.endLine == cpos.line) = true := by rfl) :
    EI X Γ ρS tg (.Call (.Attribute o "values" apos) [] [] cpos) (fun s => ofOpt (chk ((get s).length ≤ 16777216) ((get s).map (·.2))) >>= fun a => .ok (a, s)) :=
  PI.imp (pi_valuesT ho hb hline) fun σ H R ⟨s, f0, g, q⟩ => by
    obtain ⟨v, e1, _, x, rfl, p, ob, ws, rfl, hp, hr⟩ := g.slot i _ (w s)
    obtain ⟨c, ec, q⟩ := run_opt (o := chk ((get s).length ≤ 16777216) ((get s).map (·.2))) (s := s) q
    obtain ⟨hz, rfl⟩ := chk_some ec
    have hl : ws.length = (get s).length := by rw [Paired.length hr, encT_length]
    refine ⟨_, e1, p, ob, ws, rfl, hp, RunF.same q g (Same.refl _) _ ⟨by rw [List.length_map]; show _ ≤ 2 ^ 24; omega, fun j H' l hj => ⟨l.imm _ _ trivial hp, by rw [List.length_map] at hj; omega⟩, fun j H' v H'' a l e y => ?_, fun j H' l hj => ⟨l.imm _ _ trivial hp, by rw [List.length_map] at hj; omega⟩⟩⟩
    obtain ⟨rfl, k, hk⟩ := y
    refine ⟨Same.refl _, ?_⟩
    obtain ⟨b, hb, e2, r2⟩ := paired_get (hr.mono l) hk
    unfold encT at hb
    rw [List.getElem?_map] at e hb
    cases hm : (get s)[j]? with
    | none => rw [hm] at e; cases e
    | some z =>
      rw [hm] at e hb
      cases e
      cases hb
      exact r2
end
end DL

set_option Elab.async false
set_option linter.all false
set_option maxRecDepth 100000
set_option maxHeartbeats 4000000
/-! sorted(..) of lists of data -/
namespace DL
open PySem PySem.Spec PyProof.Rows L2 Enc
/-- data that can be put in order -/
class SortE (α : Type) [Enc α] : Prop where
  alike : ∀ a b : α, PySem.W.alike (enc a) (enc b) = true
  kind : (∀ a : α, ∃ x r, enc a = .tuple (x :: r)) ∨ ∀ a : α, enc a ≠ .none ∧ ∀ xs, enc a ≠ .tuple xs
  deep : ∀ a : α, (enc a).depth ≤ 60
theorem alikeAll_map {α : Type} [Enc α] (h : ∀ a b : α, PySem.W.alike (enc a) (enc b) = true) : ∀ xs ys : List α, PySem.W.alikeAll (xs.map enc) (ys.map enc) = true
  | [], _ => by rw [List.map_nil, PySem.W.alikeAll]
  | _ :: _, [] => by rw [List.map_cons, List.map_nil, PySem.W.alikeAll]
  | x :: xs, y :: ys => by rw [List.map_cons, List.map_cons, PySem.W.alikeAll, h x y, alikeAll_map h xs ys]; rfl
theorem depthAll_map {α : Type} [Enc α] {n : Nat} (h : ∀ a : α, (enc a).depth ≤ n) : ∀ xs : List α, PyData.depthAll (xs.map enc) ≤ n
  | [] => by rw [List.map_nil, PyData.depthAll]; exact Nat.zero_le _
  | x :: xs => by
    rw [List.map_cons, PyData.depthAll]
    exact Nat.max_le.mpr ⟨h x, depthAll_map h xs⟩
instance : SortE Int := ⟨fun _ _ => rfl, .inr fun _ => ⟨(fun h => nomatch h), fun _ h => nomatch h⟩, fun _ => Nat.zero_le _⟩
theorem int_depth (a : Int) : (enc a).depth ≤ 0 := Nat.le_refl _
instance : SortE (List Int) := ⟨fun a b => by
    show PySem.W.alike (.list (a.map enc)) (.list (b.map enc)) = true
    rw [PySem.W.alike]; exact alikeAll_map (fun _ _ => rfl) a b, .inr fun _ => ⟨(fun h => nomatch h), fun _ h => nomatch h⟩, fun a => by
    show PyData.depthAll (a.map enc) + 1 ≤ 60
    have := depthAll_map int_depth a
    omega⟩
def dle {α : Type} [Enc α] (a b : α) : Bool := !PySem.W.dataLt (enc b) (enc a)
def dsort {α : Type} [Enc α] (xs : List α) : List α := xs.mergeSort dle
theorem dsort_perm {α : Type} [Enc α] (xs : List α) : (dsort xs).Perm xs := List.mergeSort_perm xs _
def rSortedD (K : PySem.W.Frag) : List V → Hp → VK → Prop := fun vs H Q => ∃ (a : Addr) (xs : List V) (ds : List PyData), vs = [V.ref a] ∧ SqL K H a xs ∧ RpAll K H xs ds ∧ PySem.W.AllAlike ds ∧ PySem.W.Sortable ds ∧ (∀ d ∈ ds, d.depth ≤ 60) ∧
  ∀ ys p, RpAll K H ys (ds.mergeSort fun a b => !PySem.W.dataLt b a) → ys.length = xs.length → H p = none → Q (.ref p) (upd H p (.lst ys))
section
variable {K : PySem.W.Frag} {H : Hp}
theorem each_of : ∀ {xs : List V} {us : List Value} {ds : List PyData}, Vals xs us → RpAll K H xs ds → PySem.W.EachIs (fun u d => ∃ x, RelV x u ∧ Rp K H x d) us ds
  | _, _, _, .nil, r => by cases r; exact .nil
  | _, _, _, .cons a t, r => by
    cases r with
    | cons b q => exact .cons ⟨_, a, b⟩ (each_of t q)
theorem each_to : ∀ {us : List Value} {ds : List PyData}, PySem.W.EachIs (fun u d => ∃ x, RelV x u ∧ Rp K H x d) us ds → ∃ xs, Vals xs us ∧ RpAll K H xs ds
  | _, _, .nil => ⟨[], .nil, .nil⟩
  | _, _, .cons ⟨x, a, b⟩ t => by
    obtain ⟨xs, p, q⟩ := each_to t
    exact ⟨x :: xs, .cons a p, .cons b q⟩
end
theorem cr_sortedD {X : Cx} (hu : X.A.units + 65 < cLine) : CallR X (.builtin "sorted") (rSortedD X.K) := by
  intro pins s σ H vs us Q I r h
  obtain ⟨a, xs, ds, rfl, hs, hr, hal, hso, hdp, q⟩ := h
  obtain ⟨its, rv, hl, hz⟩ := I.list hs
  rw [Vals.ref1 r]
  have hz2 : its.length ≤ sizeLine := by rw [← rv.length]; exact hz
  have ee := each_of rv hr
  have keep : ∀ b o, s.heap.get? b = some o → (PySem.W.sortingHeap (PySem.W.copyHeap s.heap its) (s.heap.objs.size + 1) its).get? b = some o := fun b o e => PySem.W.sorting_copy_old e
  have rd : ∀ u d, (∃ x, RelV x u ∧ Rp X.K H x d) → ∃ as, Reads (PySem.W.sortingHeap (PySem.W.copyHeap s.heap its) (s.heap.objs.size + 1) its) u d as := fun u d ⟨x, a, b⟩ => by
    obtain ⟨as, z⟩ := L2.Dp.reads I d x u b.dp a
    exact ⟨as, Reads.keeps keep z⟩
  have hk : PySem.W.EachIs (fun v b => (PySem.W.dataKind (PySem.W.sortingHeap (PySem.W.copyHeap s.heap its) (s.heap.objs.size + 1) its) ds).keyOf v = some (PySem.W.keyToks b)) its ds := (PySem.W.each_mem ee).mono fun v b ⟨z, m⟩ => by
    obtain ⟨as, z⟩ := rd v b z
    exact PySem.W.dataKind_some hal m z
  have eo := PySem.W.sortVals_each (κ := PySem.W.dataKind (PySem.W.sortingHeap (PySem.W.copyHeap s.heap its) (s.heap.objs.size + 1) its) ds) (rev := false) PySem.W.keyToks ee hk
  obtain ⟨ys, hy1, hy2⟩ := each_to eo
  have hlen : ys.length = xs.length := by
    rw [hy1.length, PySem.W.sortVals_length _ rfl, ← rv.length]
  refine PySem.W.sorted_vals (κ := PySem.W.dataKind (PySem.W.sortingHeap (PySem.W.copyHeap s.heap its) (s.heap.objs.size + 1) its) ds) hl.isList (PySem.W.SortsAt.data (ee.mono rd) hal hso fun d hd => ?_) hz2 ?_
  · have := hdp d hd
    show X.A.in1.in1.units + d.depth < cLine
    have e : X.A.in1.in1.units ≤ X.A.units + 2 := Nat.le_refl _
    omega
  · obtain ⟨ep, he'⟩ := PyProof.Rows.sortedAll_at s.heap its (PySem.W.sortVals (PySem.W.dataKind (PySem.W.sortingHeap (PySem.W.copyHeap s.heap its) (s.heap.objs.size + 1) its) ds) false its its).toArray
    refine ⟨.ref _, upd H (s.heap.objs.size + 1) (.lst ys), I.laid (t' := s.toks) (fun _ _ => PyProof.Rows.sortedAll_old) (Nat.le_succ _) ⟨by rw [hlen]; exact hz, _, ep, hy1, he'⟩, rfl, q ys _ ?_ hlen (I.hok.fresh (Nat.le_succ _))⟩
    exact hy2
section
variable {X : Cx} {Γ : Cn} {S α : Type} {ρ : S → List Slot} {e : Expr} {p pos : Pos}
theorem e_sortedD [Enc α] [SortE α] {ma : S → Res (List α × S)} (hu : X.A.units + 65 < cLine) (hm : X.mg "sorted" = none) (ha : E X Γ ρ e ma) (hg : Gl X "sorted" := by rfl) (he : starEach [e] X.env = (false, eval e X.env) :: starEach [] X.env := by rfl) : EL X Γ ρ (.Call (.Name "sorted" p) [e] [] pos) (sbind ma fun x => spure (dsort x)) :=
  e_callB (g := fun x => some (dsort x)) (encs := enc1) (cr_sortedD hu) (fun H vs t c Q rs ec q => by
    cases ec
    obtain ⟨v, rfl, r⟩ := rs.one
    obtain ⟨l, xs, rfl, hf, hr, hz⟩ := Rp.lst_inv r
    refine ⟨l, xs, t.map enc, rfl, hf.sq, hr, ?_, ?_, ?_, fun ys d hy hl n => ?_⟩
    · intro d hd d' hd'
      obtain ⟨a, _, rfl⟩ := List.mem_map.mp hd
      obtain ⟨b, _, rfl⟩ := List.mem_map.mp hd'
      exact SortE.alike a b
    · rcases SortE.kind (α := α) with h | h
      · left; intro d hd; obtain ⟨a, _, rfl⟩ := List.mem_map.mp hd; exact h a
      · right; intro d hd; obtain ⟨a, _, rfl⟩ := List.mem_map.mp hd; exact h a
    · intro d hd; obtain ⟨a, _, rfl⟩ := List.mem_map.mp hd; exact SortE.deep a
    · have e : (t.map enc).mergeSort (fun a b => !PySem.W.dataLt b a) = (dsort t).map enc := (PySem.W.sort_maps (r := dle) (s := fun a b => !PySem.W.dataLt b a) enc fun a _ b _ => rfl).symm
      rw [e] at hy
      exact q.new n hy (by rw [hl]; exact hz)) (pl_ok (α := α)) hg hm (by decide +kernel) (ea_one ha he) (he := he)
/-- list(t), t a tuple -/
theorem e_listT [Enc α] {ma : S → Res (Tup α × S)} (hm : X.mg "list" = none) (ha : E X Γ ρ e ma) (hg : Gl X "list" := by rfl) (he : starEach [e] X.env = (false, eval e X.env) :: starEach [] X.env := by rfl) : EL X Γ ρ (.Call (.Name "list" p) [e] [] pos) (sbind ma fun t => slift (ofOpt (chk (t.l.length ≤ 16777216) t.l))) :=
  e_callT (g := fun t : Tup α => chk (t.l.length ≤ 16777216) t.l) (encs := enc1) call_list_of (fun H vs t c Q rs ec q => by
    obtain ⟨hz, rfl⟩ := chk_some ec
    obtain ⟨v, rfl, r⟩ := rs.one
    obtain ⟨l, xs, rfl, hf, hr⟩ := Rp.tup_inv (ds := t.l.map enc) r
    exact ⟨l, xs, rfl, .inr hf, fun d n => q.new n hr (by rw [hr.length, List.length_map]; exact hz)⟩) (pl_ok (α := α)) hg hm (by decide +kernel) (ea_one ha he) (he := he)
end
end DL

set_option Elab.async false
set_option linter.all false
set_option maxRecDepth 100000
set_option maxHeartbeats 4000000
/-! try .. except X as e .. else ..: every error of the body is an X -/
namespace DL
open PySem PySem.Spec PyProof.Rows L2 Enc
/-- what is asked of an error: the clause is its own, and its suite does what ts tells, the name gone behind it -/
def wSure (K : PySem.W.Frag) (c : Value) (i : Nat) (ts : Addr → Value → Option Addr → TS) (D : Ends) : WX := fun cls d σ H => PySem.W.exmOne K cls c = some true ∧
  ∀ a, H a = none → ts a cls d ⟨fun z H' => D.nx (z.set i none) H', D.rt, fun z H' => D.bk (z.set i none) H', fun z H' => D.ct (z.set i none) H'⟩ (σ.set i (some (.ref a))) H
section
variable {X : Cx} {x n : Str} {c : Value} {i : Nat} {body suite orelse : List Stmt} {first : Stmt} {np pos pos' : Pos} {tb : WX → TS} {ts : Addr → Value → Option Addr → TS} {u : TS}
theorem ps_tryElse (hE : PSs X orelse u) (hst : X.stack = X.env :: X.outer) (hfr : X.env.frame = some X.env.locals) (hnd : X.N.Nodup) (hxi : X.N[i]? = some n) (hlo : X.env.kindOf n = some .local) (hgl : Gl X x) (hdb : (x == ("__debug__" : Str)) = false) (hmx : X.mg x = some c)
    (hB : ∀ (W : WX) (q : List (Addr × Obj)) (r : Value → Shared → Prop), L2N.Takes (X.tr q r) W → PassesOwn (model X.prog X.w) X.A X.env r → PSs (X.tr q r) body (tb W))
    (hS : ∀ (a : Addr) (o : Obj) (cls : Value) (d : Option Addr) (q : List (Addr × Obj)), L2N.Zn cls d o → (∃ fs, o.data = .fields fs) → PSs (X.suite a ((a, o) :: q)) (first :: suite) (ts a cls d)) :
    PS X (.Try body [.ExceptHandler (some (.Name x np)) (some n) (first :: suite) pos'] orelse [] pos) (fun D σ H => tb (wSure X.K c i ts D) ⟨u D, D.rt, D.bk, D.ct⟩ σ H) := by
  constructor
  intro pins s σ H D I want
  have isOk := I.ok
  have stk : X.A.frames = some (X.env :: X.outer) := isOk.frames.trans (congrArg some hst)
  let M := model X.prog X.w
  let hand : Value → Shared → Prop := fun e t0 => wpAny M X.A (noteFrame e X.env) (fun _ t1 => wpAny M X.A (setFlight e none) (fun _ t2 => wpAny M X.A (handleBy e X.env [.ExceptHandler (some (.Name x np)) (some n) (first :: suite) pos']) (SP X pins D) X.xe t2) X.xe t1) X.xe t0
  have caught : L2N.Takes (X.tr (X.pn ++ pins) hand) (wSure X.K c i ts D) := by
    rintro _ t ⟨a, G, t0, p0, z, H1, cls, d, rfl, I1, ground, slots, air, free, sameOs, gens, yes, goes⟩
    have I2 : Inv X pins z H1 t0 := I1.ofTry isOk
    have air2 : Sky G (X.env :: X.outer) a (L2N.Zn cls d) X.env.locals t.heap := hst ▸ air
    refine L2N.Sky.land (M := M) L2N.Zn.steady stk hfr air2 fun g fly slots2 => ?_
    have I3 : Inv X pins z H1 { t with heap := g } := I2.landed ground fly.1 (slots.trans slots2) sameOs gens
    -- the error is no frame's dict
    have apart : ∀ {g' : Heap} {o : Obj} {fs : Array Value}, g'.FunFrames G (X.env :: X.outer) → g'.get? a = some o → o.data = .fields fs → a ∉ frs (X.env :: X.outer) := by
      intro g' o fs frames at_ isF mem
      obtain ⟨_, o2, at2, other⟩ := frames.mem mem
      cases at_.symm.trans at2
      exact other _ isF
    obtain ⟨o1, fs1, at1, zn1, isF1⟩ := fly.there
    have off := apart fly.2.2.1 at1 isF1
    have offL : a ≠ X.env.locals := fun z => off (z ▸ List.mem_filterMap.mpr ⟨X.env, List.mem_cons_self, hfr⟩)
    have offS : a ∉ X.fs := fun mem => by
      obtain ⟨v, mv, ev⟩ := List.mem_filterMap.mp mem
      exact off (List.mem_filterMap.mpr ⟨v, List.mem_cons.mpr (.inr mv), ev⟩)
    have I4 := I3.suite at1 isF1 free offL offS
    refine wpAny_handleBy_cons (codeAny_handlers_test (ld_glob (X := X.suite a ((a, o1) :: (X.pn ++ pins))) I4 hgl hmx ?_ hdb)) (fun e => by cases e)
    have type : PySem.W.Looks M g (typeOf (.ref a)) cls := fun _ _ _ _ k q => wpAny_typeOf_ref (k _ _ at1) (zn1.1 ▸ q)
    refine (PySem.W.exm_one (M := M) I3.kIn type yes).here (codeAny_handlers_suite_as (HandSPX.lands_againZ fly fun g2 fly2 slots3 => ?_))
    have I5 : Inv X pins z H1 { t with heap := g2 } := I2.landed ground fly2.1 ((slots.trans slots2).trans slots3) sameOs gens
    obtain ⟨o2, fs2, at2, zn2, isF2⟩ := fly2.there
    refine store_ok (X := X.suite a ((a, o2) :: (X.pn ++ pins))) (v := .ref a) (I5.suite at2 isF2 free offL offS) hnd hxi (.inl hlo) rfl (fun t3 I6 => ?_) (.inr hlo)
    refine wpAny_mono ((hS a o2 cls d (X.pn ++ pins) zn2 ⟨_, isF2⟩).run [] t3 _ H1 _ I6 (goes a free)) (fun fl t4 ended => ?_) (fun _ _ no => no.elim)
    cases fl with
    | ret v =>
      obtain ⟨y, z', H2, J, rv, q⟩ := ended
      exact gone_ok (J.unsuite isOk) hnd hxi hlo fun _ J' => ⟨y, _, H2, J', rv, q⟩
    | next =>
      obtain ⟨z', H2, J, q⟩ := ended
      exact gone_ok (J.unsuite isOk) hnd hxi hlo fun _ J' => ⟨_, H2, J', q⟩
    | brk =>
      obtain ⟨z', H2, J, q⟩ := ended
      exact gone_ok (J.unsuite isOk) hnd hxi hlo fun _ J' => ⟨_, H2, J', q⟩
    | cont =>
      obtain ⟨z', H2, J, q⟩ := ended
      exact gone_ok (J.unsuite isOk) hnd hxi hlo fun _ J' => ⟨_, H2, J', q⟩
  refine wpAny_Try_except (wpAny_mono ((hB _ (X.pn ++ pins) hand caught PassesOwn.looking).run [] s σ H ⟨u D, D.rt, D.bk, D.ct⟩ (I.toTry _) want) (fun fl t ended => ?_) (fun _ _ q => q))
  cases fl with
  | ret v =>
    obtain ⟨y, z, H2, J, rv, q⟩ := ended
    exact ⟨y, z, H2, J.ofTry isOk, rv, q⟩
  | next =>
    obtain ⟨z, H2, J, q⟩ := ended
    exact hE.run pins t z H2 D (J.ofTry isOk) q
  | brk =>
    obtain ⟨z, H2, J, q⟩ := ended
    exact ⟨z, H2, J.ofTry isOk, q⟩
  | cont =>
    obtain ⟨z, H2, J, q⟩ := ended
    exact ⟨z, H2, J.ofTry isOk, q⟩
end
/-- a try with an else; errors that the clause does not name are not let out -/
def tryE {β δ γ R : Type} (mb : Res (Ctl δ γ R)) (mt : String → Bool) (hs : String → List PyData → Res (Ctl β γ R)) (mo : δ → Res (Ctl β γ R)) : Res (Ctl β γ R) := match mb with
  | .ok (.nx b) => mo b
  | .ok (.rt r) => .ok (.rt r)
  | .ok (.bk g) => .ok (.bk g)
  | .ok (.ct g) => .ok (.ct g)
  | .err c as => if mt c = true then nb (hs c as) else .bad
  | .bad => .bad
section
variable {X : Cx} {Γ : Cn} {β δ γ R : Type} {ρ ρE' : List Slot} {ρm : δ → List Slot} {ρn : β → List Slot} {ρg : γ → List Slot} {rt : R → V → Hp → Prop} {pos pos' np : Pos} {x n : Str} {i : Nat} {Cx0 : Addr} {body suite orelse : List Stmt} {first : Stmt}
theorem s_tryElse {mb : Res (Ctl δ γ R)} {hs : String → List PyData → Res (Ctl β γ R)} {mo : δ → Res (Ctl β γ R)} (mt : String → Bool) (ρE' : List Slot) (hst : X.stack = X.env :: X.outer) (hfr : X.env.frame = some X.env.locals) (hN : X.N.Nodup) (hi : X.N[i]? = some n) (hln : X.env.kindOf n = some .local)
    (hgl : Gl X x) (hdb : (x == ("__debug__" : Str)) = false) (hmx : X.mg x = some (.ref Cx0)) (hsub : ∀ c C fl, Γ.cl c = some (C, fl) → PySem.W.exmOne X.K (.ref C) (.ref Cx0) = some (mt c)) (hEi : i < ρE'.length)
    (hb : ∀ W pn xe, L2N.Takes (X.tr pn xe) W → PassesOwn (model X.prog X.w) X.A X.env xe → Ss (X.tr pn xe) ⟨W, Γ.ps, Γ.H0, ρE', Γ.cl⟩ ρ body mb ρm ρg rt)
    (hsu : ∀ a oe C d pn c fl as, Γ.cl c = some (C, fl) → mt c = true → L2N.Zn (.ref C) d oe → (∃ vs, oe.data = .fields vs) → Ss (X.suite a ((a, oe) :: pn)) ⟨noW, Γ.ps, Γ.H0, [], Γ.cl⟩ (ρE'.set i (.exn a d fl as)) (first :: suite) (hs c as) ρn ρg rt)
    (ho : ∀ b, Ss X Γ (ρm b) orelse (mo b) ρn ρg rt) (hni : ∀ b, (ρn b)[i]? = some .any) (hgi : ∀ b, (ρg b)[i]? = some .any) :
    S1 X Γ ρ (.Try body [.ExceptHandler (some (.Name x np)) (some n) (first :: suite) pos'] orelse [] pos) (tryE mb mt hs mo) ρn ρg rt := by
  refine PS.imp (ps_tryElse (u := fun D σ H => ∃ b, tS X.K Γ (ρm b) (mo b) ρn ρg rt D σ H) (tb := fun W => tS X.K ⟨W, Γ.ps, Γ.H0, ρE', Γ.cl⟩ ρ mb ρm ρg rt) (ts := fun a cls d D σ H => ∃ C c fl as, cls = .ref C ∧ Γ.cl c = some (C, fl) ∧ mt c = true ∧ tS X.K ⟨noW, Γ.ps, Γ.H0, [], Γ.cl⟩ (ρE'.set i (.exn a d fl as)) (hs c as) ρn ρg rt D σ H)
    (PSs.ex ho) hst hfr hN hi hln hgl hdb hmx (fun W q r tk po => hb W q r tk po) (fun a oe cls d q hz hf => ⟨fun pins s σ H D I ⟨C, c, fl, as, e, ecl, hm, w⟩ => by
      subst e
      exact (hsu a oe C d q c fl as ecl hm hz hf).run pins s σ H D I w⟩)) fun D σ H hq => ?_
  obtain ⟨G, q⟩ := hq
  refine ⟨G, ?_⟩
  cases mb with
  | ok c =>
    cases c with
    | nx b => exact fun σ2 H2 g2 l2 => ⟨b, g2, wpR_mono (show wpR (mo b) (Post X.K Γ ρn ρg rt D H) (ErrS X.K Γ H) from q) (fun c q => q.le l2) fun _ _ z => z.le l2⟩
    | rt r => exact (show Post X.K Γ ρn ρg rt D H (.rt r) from q)
    | bk b => exact (show Post X.K Γ ρn ρg rt D H (.bk b) from q)
    | ct b => exact (show Post X.K Γ ρn ρg rt D H (.ct b) from q)
  | bad => exact q.elim
  | err c as =>
    have q : wpR (if mt c = true then nb (hs c as) else .bad) (Post X.K Γ ρn ρg rt D H) (ErrS X.K Γ H) := q
    by_cases hm : mt c = true
    · rw [if_pos hm] at q
      rintro _ d σ2 H2 ⟨f, g⟩ l ⟨A, fl, ecl, rfl, ef⟩
      refine ⟨by rw [hsub c A fl ecl, hm], fun a ha => ⟨A, c, fl, as, rfl, ecl, hm, ⟨_, g.set (fp := []) hEi ⟨rfl, rfl, ef⟩ fun _ _ _ z => by cases z⟩, ?_⟩⟩
      obtain ⟨c2, ec2, q⟩ := nb_wp q
      rw [ec2]
      cases c2 with
      | nx b => exact fun σ3 H3 g3 l3 => (show Post X.K Γ ρn ρg rt D H (.nx b) from q) _ H3 (g3.none (hni b)) (l.trans l3)
      | rt r => exact (show Post X.K Γ ρn ρg rt D H (.rt r) from q)
      | bk b => exact fun σ3 H3 g3 l3 => (show Post X.K Γ ρn ρg rt D H (.bk b) from q) _ H3 (g3.none (hgi b)) (l.trans l3)
      | ct b => exact fun σ3 H3 g3 l3 => (show Post X.K Γ ρn ρg rt D H (.ct b) from q) _ H3 (g3.none (hgi b)) (l.trans l3)
    · rw [if_neg hm] at q
      exact q.elim
end
end DL

set_option Elab.async false
set_option linter.all false
set_option maxRecDepth 100000
set_option maxHeartbeats 4000000
/-! while tests, dicts with int keys -/
namespace DL
open PySem PySem.Spec PyProof.Rows L2 Enc
def encD {β : Type} [Enc β] (m : List (Int × β)) : List (Key × PyData) := m.map fun p => (.inl p.1, enc p.2)
def getD {β : Type} (m : List (Int × β)) (k : Int) (d : β) : β := ((m.find? fun p => decide (p.1 = k)).map (·.2)).getD d
def putD {β : Type} (m : List (Int × β)) (k : Int) (v : β) : List (Int × β) := if (m.any fun p => decide (p.1 = k)) = true then m.map (fun p => if p.1 = k then (p.1, v) else p) else m ++ [(k, v)]
section
variable {K : PySem.W.Frag} {H H' H0 : Hp} {ps : List Addr} {f : Nat → Foot} {ρ : List Slot} {σ : L2.St}
theorem kvd_get {β : Type} [Enc β] {ws : List (Key × V)} {m : List (Int × β)} (h : KVs K H ws (encD m)) (k : Int) {y : V} {d : β} (hy : Rp K H y (enc d)) : Rp K H ((valV ws (.inl k)).getD y) (enc (getD m k d)) := by
  induction m generalizing ws with
  | nil => cases h; exact hy
  | cons p m ih =>
    cases h with
    | @cons a _ as _ q t =>
      by_cases e : p.1 = k
      · have e2 : a.1 = .inl k := q.1.trans (congrArg Sum.inl e)
        rw [valV_pos e2]
        unfold getD
        rw [List.find?_cons_of_pos (by simpa using e)]
        exact q.2
      · have e2 : ¬ a.1 = .inl k := fun z => e (Sum.inl.inj (q.1.symm.trans z))
        rw [valV_neg e2]
        have := ih t
        unfold getD at this ⊢
        rw [List.find?_cons_of_neg (by simpa using e)]
        exact this
theorem kvd_put {β : Type} [Enc β] {ws : List (Key × V)} {m : List (Int × β)} (h : KVs K H ws (encD m)) (k : Int) {y : V} {v : β} (hy : Rp K H y (enc v)) : KVs K H (putK ws (.inl k) y) (encD (putD m k v)) := by
  have any : ∀ {m : List (Int × β)} {ws : List (Key × V)}, KVs K H ws (encD m) → (ws.any fun kv => decide (kv.1 = .inl k)) = m.any fun p => decide (p.1 = k) := by
    intro m
    induction m with
    | nil => intro ws h; cases h; rfl
    | cons p m ih =>
      intro ws h
      cases h with
      | @cons a _ as _ q t =>
        rw [List.any_cons, List.any_cons, ih t]
        congr 1
        apply decide_eq_decide.mpr
        rw [q.1]
        exact ⟨fun z => Sum.inl.inj z, fun z => congrArg Sum.inl z⟩
  have repl : ∀ {m : List (Int × β)} {ws : List (Key × V)}, KVs K H ws (encD m) → KVs K H (ws.map fun kv => if kv.1 = .inl k then (kv.1, y) else kv) (encD (m.map fun p => if p.1 = k then (p.1, v) else p)) := by
    intro m
    induction m with
    | nil => intro ws h; cases h; exact .nil
    | cons p m ih =>
      intro ws h
      cases h with
      | @cons a _ as _ q t =>
        rw [List.map_cons, List.map_cons]
        refine .cons ?_ (ih t)
        by_cases e : p.1 = k
        · rw [if_pos e, if_pos (q.1.trans (congrArg Sum.inl e))]; exact ⟨q.1, hy⟩
        · rw [if_neg e, if_neg (fun z => e (Sum.inl.inj (q.1.symm.trans z)))]; exact q
  unfold putK putD
  rw [any h]
  by_cases e : (m.any fun p => decide (p.1 = k)) = true
  · rw [if_pos e, if_pos e]; exact repl h
  · rw [if_neg e, if_neg e]
    unfold encD
    rw [List.map_append]
    exact Paired.snoc h ⟨rfl, hy⟩
end
def PD2 {β : Type} [Enc β] (K : PySem.W.Frag) : PK (List (Int × β)) := fun f H H' v m => ∃ p ws, v = .ref p ∧ H p = none ∧ (∀ i, p ∉ f i) ∧ H' p = some (.dK ws) ∧ KVs K H' ws (encD m)
section
variable {X : Cx} {Γ : Cn} {S α β γ δ R : Type} {ρ : List Slot} {ρS : S → List Slot} {st : Stmt} {rest : List Stmt} {ρn : γ → List Slot} {ρg : δ → List Slot} {rt : R → V → Hp → Prop} {e f e2 f2 o tg c : Expr} {pos cpos apos tpos p : Pos} {x : Str}
theorem notImmK {ws : List (Key × V)} : ¬ Imm (.dK ws) := fun h => h
theorem e_getD [Enc β] {i : Nat} (get : S → List (Int × β)) {mk : S → Res (Int × S)} {md : S → Res (β × S)} (hu : X.A.units + 1 < cLine) (ho : VarAt X i o) (he : E X Γ ρS e mk) (hf : E X Γ ρS f md) (w : ∀ s, (ρS s)[i]? = some (.own (.dK (encD (get s)))) := by intro _; rfl)
    (m : M2 X o "get" apos e f cpos := by exact ⟨rfl, rfl, rfl, rfl⟩) : E X Γ ρS (.Call (.Attribute o "get" apos) [e, f] [] cpos) (sbind mk fun k => sbind md fun d s => .ok (getD (get s) k d, s)) :=
  PE.imp (pe_dget2 hu ho he hf m) fun σ H Q ⟨s, f0, g, q⟩ => by
    have own : ∀ {f : Nat → Foot} {H : Hp} {s : S}, GoodF X.K Γ.ps Γ.H0 f (ρS s) σ H → ∃ p ws, σ[i]? = some (some (.ref p)) ∧ H p = some (.dK ws) ∧ KVs X.K H ws (encD (get s)) := fun {f H s} g => by
      obtain ⟨v, e, _, x, rfl, p, ws, rfl, _, hp, hr⟩ := g.slot i _ (w s)
      exact ⟨p, ws, e, hp, hr⟩
    obtain ⟨p, ws, e1, hp, hkv⟩ := own g
    refine ⟨_, e1, p, rfl, .inl ⟨ws, .inl hp⟩, s, f0, g, q.chain.mono fun f1 H1 r1 g1 l1 q v rx => ⟨r1.2, f1, g1, q.chain.mono fun f2 H2 r2 g2 l2 q y ry => ?_⟩⟩
    obtain ⟨p', ws', e1', hp', hkv'⟩ := own g2
    rw [e1] at e1'
    cases e1'
    have hk := Rp.int_inv rx
    subst hk
    exact ⟨valV ws' (.inl r1.1), DGet.k (k := .inl r1.1) hp', RunF.same q g2 (Same.refl _) _ (kvd_get hkv' r1.1 ry)⟩
/-- {k1: v1, k2: v2}, the keys ints -/
theorem e_disp2K [Enc β] {m1 m3 : S → Res (Int × S)} {m2 m4 : S → Res (β × S)} (h1 : E X Γ ρS e m1) (h2 : E X Γ ρS f m2) (h3 : E X Γ ρS e2 m3) (h4 : E X Γ ρS f2 m4) :
    EP X Γ (PD2 (β := β) X.K) ρS (.Dict [some e, some e2] [f, f2] pos) (sbind m1 fun a => sbind m2 fun b => sbind m3 fun c => sbind m4 fun d => spure (putD (putD [] a b) c d)) :=
  PE.imp (pe_disp (pps_cons h1 h2 (pps_cons h3 h4 pps_nil)) rfl rfl (by simp) (Nat.le_of_ble_eq_true rfl)) fun σ H Q ⟨s, f0, g, q⟩ p hp => by
    have nf : ∀ i, p ∉ f0 i := fun i hi => by obtain ⟨u, e, _⟩ := g.live hi; rw [hp] at e; cases e
    have n0 := Good.newAt ⟨f0, g⟩ hp
    have q : wpR (m1 s >>= fun r1 => m2 r1.2 >>= fun r2 => m3 r2.2 >>= fun r3 => m4 r3.2 >>= fun r4 => Res.ok (putD (putD [] r1.1 r2.1) r3.1 r4.1, r4.2)) (fun r => ∀ H' f, GoodF X.K Γ.ps Γ.H0 f (ρS r.2) σ H' → Stp f0 H f H' → ∀ v, PD2 X.K f H H' v r.1 → Q v H') (ErrW X.K Γ H σ) := q
    rw [wpR_bind] at q
    refine ⟨s, f0, g.same' (same_new hp), wpR_mono q (fun r1 q H1 f1 g1 l1 x rx => ?_) fun _ _ z => ErrW.mono z (Le.new hp)⟩
    rw [wpR_bind] at q
    refine ⟨r1.2, f1, g1, wpR_mono q (fun r2 q H2 f2 g2 l2 y ry => ?_) fun _ _ z => ErrW.mono z ((Le.new hp).trans l1.le)⟩
    rw [wpR_bind] at q
    have l12 := l1.trans l2
    refine ⟨r2.2, f2, g2, wpR_mono q (fun r3 q H3 f3 g3 l3 x2 rx2 => ?_) fun _ _ z => ErrW.mono z ((Le.new hp).trans l12.le)⟩
    rw [wpR_bind] at q
    have l13 := l12.trans l3
    refine ⟨r3.2, f3, g3, wpR_mono q (fun r4 q H4 f4 g4 l4 y2 ry2 => ?_) fun _ _ z => ErrW.mono z ((Le.new hp).trans l13.le)⟩
    have l := l13.trans l4
    have hp2 : H4 p = some (.dK []) := l.keep p _ upd_same nf
    have nf2 : ∀ i, p ∉ f4 i := fun i hi => by
      rcases l.foot i p hi with ⟨j, z⟩ | z
      · exact nf j z
      · rw [upd_same] at z; cases z
    have k1 := Rp.int_inv rx
    have k2 := Rp.int_inv rx2
    subst k1 k2
    have lu : ∀ u, Le H4 (upd H4 p u) := fun u => Le.upd hp2 notImmK
    refine ⟨hp2, [(.inl r1.1, y), (.inl r3.1, y2)], rfl, Nat.le_of_ble_eq_true rfl, ?_⟩
    refine q _ f4 (g4.repl hp2 notImmK nf2 n0.1 n0.2) ⟨(Le.new hp).trans (l.le.trans (lu _)), fun a u h n => ?_, fun i a h => ?_⟩ _ ⟨p, _, rfl, hp, nf2, upd_same, ?_⟩
    · rw [upd_ne (fun z => by subst z; rw [hp] at h; cases h)]
      exact l.keep a u (by rw [upd_ne (fun z => by subst z; rw [hp] at h; cases h)]; exact h) n
    · rcases l.foot i a h with z | z
      · exact .inl z
      · refine .inr ?_
        rw [upd_ne (fun e => by subst e; rw [upd_same] at z; cases z)] at z
        exact z
    · have r1' : Rp X.K (upd H4 p (.dK (mergeK [] [(.inl r1.1, y), (.inl r3.1, y2)]))) y (enc r2.1) := (Rp.mono (l3.le.trans l4.le) ry).mono (lu _)
      exact kvd_put (kvd_put (KVs.mono (lu _) (show KVs X.K H4 [] (encD ([] : List (Int × β))) from .nil)) r1.1 r1') r3.1 (Rp.mono (lu _) ry2)
/-- name = a new dict with int keys -/
theorem p_setDK [Enc β] {mS : S → Res (List (Int × β) × S)} {k : List (Int × β) → S → Res (Ctl γ δ R)} (ρS : S → List Slot) (s0 : S) (i : Nat) (h : AE X Γ (PD2 (β := β) X.K) ρS i st mS) (h2 : ∀ a s, Ss X Γ ((ρS s).set i (.own (.dK (encD a)))) rest (k a s) ρn ρg rt) (hl : ∀ s, i < (ρS s).length := by intro _; exact DL.lt_by rfl) :
    Ss X Γ (ρS s0) (st :: rest) (sseq (mS s0) k) ρn ρg rt :=
  PSs.imp (pss_cons h (PSs.ex fun a => PSs.ex (h2 a))) fun D σ H hq => by
    have G0 := hq.1
    refine tE_of hq fun a s v H' f g l p q => ⟨a, s, ?_, q⟩
    obtain ⟨d, ws, rfl, hn, nf, hv, hr⟩ := p
    exact ⟨_, g.set (fp := [d]) (hl s) ⟨fun b hb => by rw [List.mem_singleton.mp hb]; exact G0.newAt hn, .ref d, rfl, d, ws, rfl, rfl, hv, hr⟩ fun j b _ hb => by rw [List.mem_singleton.mp hb]; exact nf j⟩
/-- a while's test, for each store by itself -/
theorem B.pt {ρl : γ → List Slot} {m : γ → Unit → Res (Bool × Unit)} (h : ∀ g, B X Γ (fun _ : Unit => ρl g) c (m g)) : B X Γ ρl c (fun g => val1 (m g) >>= fun b => .ok (b, g)) :=
  ⟨fun pins s σ H Q I ⟨g, f0, gd, q⟩ => (h g).run pins s σ H Q I ⟨(), f0, gd, by
    have q : wpR ((m g () >>= fun r => Res.ok r.1) >>= fun b => Res.ok (b, g)) (fun r => ∀ H' f, GoodF X.K Γ.ps Γ.H0 f (ρl r.2) σ H' → Stp f0 H f H' → Q r.1 H') (ErrW X.K Γ H σ) := q
    rw [wpR_bind, wpR_bind] at q
    exact wpR_mono q (fun r q => q) fun _ _ z => z⟩⟩
end
end DL

set_option Elab.async false
set_option linter.all false
set_option maxHeartbeats 4000000
set_option maxRecDepth 100000
open PySem PySem.Spec PyProof.Rows
/-! ### list(range(a, b, -1)) -/
namespace L2
theorem vals_dn {a b : Int} {acc : Array Value} (h : ItemsOf (fun i v => ∃ t, v = .int (a + i * (-1)) t) acc (a - b).toNat) : Vals ((DL.downL a b).map V.int) acc.toList := by
  have e : acc.toList.length = (a - b).toNat := by rw [Array.length_toList]; exact h.1
  unfold DL.downL
  rw [← e, List.map_map]
  refine vals_of_get acc.toList _ fun j u hj => ?_
  obtain ⟨t, rfl⟩ := h.2 j u (by rw [← hj, Array.getElem?_toList])
  refine ⟨t, ?_⟩
  show Value.int _ t = Value.int (a - j) t
  have : a + (j : Int) * -1 = a - j := by omega
  rw [this]
def PDn (X : Cx) (e : Expr) (t : St → Hp → (Int → Int → Hp → Prop) → Prop) : Prop :=
  ∀ (pins : List (Addr × Obj)) (s : Shared) (σ : St) (H : Hp) (Q : Int → Int → Hp → Prop), Inv X pins σ H s → t σ H Q →
    wpAny (model X.prog X.w) X.A (eval e X.env) (fun x s' => ∃ r a b t u v H', x = Value.ref r ∧ IsRange s'.heap r a b (-1) t u v ∧ Inv X pins σ H' s' ∧ Q a b H') X.xe s
def tDn (ta : TA) : St → Hp → (Int → Int → Hp → Prop) → Prop := fun σ H Q => ta σ H fun vs H1 => ∃ i j, vs = [.int i, .int j, .int (-1)] ∧ Q i j H1
theorem pdn {X : Cx} {a b c : Expr} {ta : TA} {p pos : Pos} (hg : Gl X "range") (hm : X.mg "range" = none) (ha : PA X [a, b, c] ta)
    (hs : starEach [a, b, c] X.env = (false, eval a X.env) :: starEach [b, c] X.env := by rfl) (hpl : (backTo pos (starEach [b, c] X.env)).any (·.1) = false := by rfl) :
    PDn X (.Call (.Name "range" p) [a, b, c] [] pos) (tDn ta) := by
  intro pins s σ H Q I h
  refine Call_ (ld_blt I hg hm boot_range (PyProof.Rows.callWith_type1 (thn (ha.run pos pins s σ H _ I h) fun us s1 ⟨vs, H1, I1, r1, q1⟩ => ?_) hs hpl))
  obtain ⟨i, j, e, q⟩ := q1
  subst e
  cases r1 with
  | cons r rr =>
    cases rr with
    | cons r' rr =>
      cases rr with
      | cons r'' rr =>
        cases rr
        obtain ⟨t, rfl⟩ := r
        obtain ⟨t', rfl⟩ := r'
        obtain ⟨t'', rfl⟩ := r''
        refine call_range_3 (by decide) ?_ (.inl (PyProof.noPylong_small (by decide)))
        exact ⟨_, i, j, _, _, _, H1, rfl, IsRange.new _ _ _ _ _ _ _, I1.kept fun b u e => Heap.get?_push_of_some _ e, q⟩
def tLstDn (te : St → Hp → (Int → Int → Hp → Prop) → Prop) : TE := fun σ H Q => te σ H fun i j H1 => (-(2 ^ 62) ≤ i ∧ i < 2 ^ 62 ∧ -(2 ^ 62) ≤ j ∧ j < 2 ^ 62 ∧ (i - j).toNat ≤ 2 ^ 24) ∧ ∀ q, H1 q = none → Q (.ref q) (upd H1 q (.lst ((DL.downL i j).map V.int)))
theorem pe_listDn {X : Cx} {e : Expr} {te : St → Hp → (Int → Int → Hp → Prop) → Prop} {p pos : Pos} (hc : X.calm = true) (hg : Gl X "list") (hm : X.mg "list" = none) (he : PDn X e te) (na : starEach [e] X.env = (false, eval e X.env) :: starEach [] X.env := by rfl) : PE X (.Call (.Name "list" p) [e] [] pos) (tLstDn te) := by
  refine ⟨fun pins s σ H Q I h => ?_⟩
  refine Call_ (ld_blt I hg hm boot_list (PyProof.Rows.callWith_type1 (args_cons (thn (he pins s σ H _ I h) fun x s1 ⟨r, i, j, t, u, v, H1, ex, hr, I1, ok, q⟩ => args_nil ?_) na) na))
  subst ex
  obtain ⟨b1, b2, b3, b4, b5⟩ := ok
  refine call_list_range (n := (i - j).toNat) (I1.ok.hd hc) hr (PySem.W.small_down b1 b2 b3 b4) (PySem.W.rangeSize_downNat i j) b5 fun h' tk acc c' hk e' hi => ?_
  refine ⟨.ref s1.heap.objs.size, upd H1 s1.heap.objs.size (.lst ((DL.downL i j).map V.int)), I1.laid hk (Nat.le_refl _) (show ObjOk X.prog X.w _ _ _ (.lst ((DL.downL i j).map V.int)) from ⟨?_, acc.toList, c', vals_dn hi, ?_⟩), rfl, q _ (I1.hok.fresh (Nat.le_refl _))⟩
  · rw [List.length_map, DL.downL_length, sizeLine_eq]; omega
  · rw [Array.toArray_toList]; exact e'
end L2
namespace DL
open L2 Enc
section
variable {X : Cx} {Γ : Cn} {S : Type} {ρ : S → List Slot} {a b : Expr} {p pos : Pos}
theorem e_listDown {k : Nat} {p1 p2 p' pos' : Pos} {ma mb : S → Res (Int × S)} (hc : X.calm = true) (hm : X.mg "range" = none) (hl : X.mg "list" = none) (ha : E X Γ ρ a ma) (hb : E X Γ ρ b mb) (hg : Gl X "range" := by rfl) (hgl : Gl X "list" := by rfl)
    (he : starEach [a, b, .UnaryOp .USub (.Constant (.int 1) k p1) p2] X.env = (false, eval a X.env) :: starEach [b, .UnaryOp .USub (.Constant (.int 1) k p1) p2] X.env := by rfl)
    (he2 : starEach [b, .UnaryOp .USub (.Constant (.int 1) k p1) p2] X.env = (false, eval b X.env) :: starEach [.UnaryOp .USub (.Constant (.int 1) k p1) p2] X.env := by rfl)
    (he3 : starEach [.UnaryOp .USub (.Constant (.int 1) k p1) p2] X.env = (false, eval (.UnaryOp .USub (.Constant (.int 1) k p1) p2) X.env) :: starEach [] X.env := by rfl)
    (hpl : (backTo pos (starEach [b, .UnaryOp .USub (.Constant (.int 1) k p1) p2] X.env)).any (·.1) = false := by rfl)
    (hes : starEach [.Call (.Name "range" p) [a, b, .UnaryOp .USub (.Constant (.int 1) k p1) p2] [] pos] X.env = (false, eval (.Call (.Name "range" p) [a, b, .UnaryOp .USub (.Constant (.int 1) k p1) p2] [] pos) X.env) :: starEach [] X.env := by rfl) :
    EL X Γ ρ (.Call (.Name "list" p') [.Call (.Name "range" p) [a, b, .UnaryOp .USub (.Constant (.int 1) k p1) p2] [] pos] [] pos') (sbind ma fun i => sbind mb fun j => slift (ofOpt (downO i j))) :=
  PE.imp (pe_listDn hc hgl hl (pdn hg hm (pa_cons ha (pa_cons hb (pa_cons (pe_un un_neg pe_int) pa_nil he3) he2) he) he hpl) hes) fun σ H Q ⟨s, f0, g, q⟩ => ⟨s, f0, g, q.chain.mono fun f1 H1 r1 g1 l1 q v rx => ⟨r1.2, f1, g1, q.chain.mono fun f2 H2 r2 g2 l2 q w ry => by
    obtain ⟨c, ec, q⟩ := run_opt q
    obtain ⟨⟨h1, h2, h3, h4, h5⟩, rfl⟩ := chk_some ec
    refine ⟨1, rfl, r1.1, r2.1, by rw [Rp.int_inv rx, Rp.int_inv ry], ⟨h1, h2, h3, h4, by omega⟩, fun d n => RunF.same q g2 (same_new n) _ ⟨d, _, rfl, (l1.trans l2).le.dom d n, fun k hk => ?_, upd_same, by rw [List.length_map, downL_length, sizeLine_eq]; omega, ?_⟩⟩
    · obtain ⟨u, e, _⟩ := g2.live hk
      rw [n] at e; cases e
    · exact rpAll_ints _⟩⟩
end
end DL
namespace DL
open PySem PySem.Spec PyProof.Rows L2 Enc
/-! ### == of data with texts -/
class EqV (α : Type) [Enc α] [DecidableEq α] : Prop where
  eqv : ∀ a b : α, PyData.eqv (enc a) (enc b) = decide (a = b)
instance [Enc α] [DecidableEq α] [F : Flat α] : EqV α := ⟨F.eqv⟩
instance : EqV Str := ⟨fun a b => Bool.beq_eq_decide_eq a b⟩
instance {α β : Type} [Enc α] [DecidableEq α] [Enc β] [DecidableEq β] [F : EqV α] [G : EqV β] : EqV (α × β) := ⟨fun a b => by
  show (PyData.eqv (enc a.1) (enc b.1) && (PyData.eqv (enc a.2) (enc b.2) && true)) = _
  rw [F.eqv, G.eqv, Bool.and_true, dec_and]
  exact dec_congr Prod.ext_iff.symm⟩
def eqV {α : Type} [Enc α] [DecidableEq α] (x y : α) : Option Bool := chk (SeqAt.shaped (enc x) = true ∧ SeqAt.shaped (enc y) = true) (decide (x = y))
def neV {α : Type} [Enc α] [DecidableEq α] (x y : α) : Option Bool := chk (SeqAt.shaped (enc x) = true ∧ SeqAt.shaped (enc y) = true) (!decide (x = y))
section
variable {X : Cx} {Γ : Cn} {S α : Type} {ρ : S → List Slot} {a b : Expr} {pos : Pos}
theorem c_eqV [Enc α] [DecidableEq α] [F : EqV α] {ma mb : S → Res (α × S)} (hu : X.A.units + 64 < cLine) (ha : E X Γ ρ a ma) (hb : E X Γ ρ b mb) : Cj X Γ ρ (.Compare a [.Eq] [b] pos) (sbind ma fun x => sbind mb fun y => slift (ofOpt (eqV x y))) :=
  c_cmp (g := fun x y : α => eqV x y) (op_eqD hu) (fun H x y a b c Q rx ry e q => by
    obtain ⟨⟨h1, h2⟩, rfl⟩ := chk_some e
    refine ⟨_, _, rx.dp, ry.dp, h1, h2, ?_⟩
    rw [F.eqv]
    exact q.here (.bl _)) pd_ok ha hb (nomark _)
theorem c_neV [Enc α] [DecidableEq α] [F : EqV α] {ma mb : S → Res (α × S)} (hu : X.A.units + 64 < cLine) (ha : E X Γ ρ a ma) (hb : E X Γ ρ b mb) : Cj X Γ ρ (.Compare a [.NotEq] [b] pos) (sbind ma fun x => sbind mb fun y => slift (ofOpt (neV x y))) :=
  c_cmp (g := fun x y : α => neV x y) (op_neD hu) (fun H x y a b c Q rx ry e q => by
    obtain ⟨⟨h1, h2⟩, rfl⟩ := chk_some e
    refine ⟨_, _, rx.dp, ry.dp, h1, h2, ?_⟩
    rw [F.eqv]
    exact q.here (.bl _)) pd_ok ha hb (nomark _)
end
end DL

set_option Elab.async false
set_option linter.all false
set_option maxRecDepth 100000
set_option maxHeartbeats 4000000
/-! values of any kind: up to data and down again -/
namespace DL
open PySem PySem.Spec PyProof.Rows L2 Enc
class Dec (α : Type) [Enc α] where
  dec : PyData → Option α
  ok : ∀ (d : PyData) (a : α), dec d = some a → enc a = d
  back : ∀ a : α, dec (enc a) = some a
instance : Dec PyData := ⟨some, fun d a h => by cases h; rfl, fun _ => rfl⟩
instance : Dec Int where
  dec d := match d with
    | .int i => some i
    | _ => none
  ok d a h := by
    cases d with
    | int i => cases h; rfl
    | _ => cases h
  back _ := rfl
instance : Dec Bool where
  dec d := match d with
    | .bool i => some i
    | _ => none
  ok d a h := by
    cases d with
    | bool i => cases h; rfl
    | _ => cases h
  back _ := rfl
instance : Dec Str where
  dec d := match d with
    | .str i => some i
    | _ => none
  ok d a h := by
    cases d with
    | str i => cases h; rfl
    | _ => cases h
  back _ := rfl
section
variable {α β : Type} [Enc α] [Enc β]
def decAll (f : PyData → Option α) : List PyData → Option (List α)
  | [] => some []
  | d :: ds => match f d, decAll f ds with
    | some a, some as => some (a :: as)
    | _, _ => none
theorem decAll_ok [D : Dec α] : ∀ (ds : List PyData) (as : List α), decAll D.dec ds = some as → as.map enc = ds
  | [], as, h => by cases h; rfl
  | d :: ds, as, h => by
    unfold decAll at h
    cases h1 : D.dec d with
    | none => rw [h1] at h; cases h
    | some a =>
      cases h2 : decAll D.dec ds with
      | none => rw [h1, h2] at h; cases h
      | some r =>
        rw [h1, h2] at h
        cases h
        rw [List.map_cons, D.ok d a h1, decAll_ok ds r h2]
theorem decAll_back [D : Dec α] : ∀ as : List α, decAll D.dec (as.map enc) = some as
  | [] => rfl
  | a :: as => by
    rw [List.map_cons]
    unfold decAll
    rw [D.back a, decAll_back as]
instance [D : Dec α] : Dec (List α) where
  dec d := match d with
    | .list ds => decAll D.dec ds
    | _ => none
  ok d a h := by
    cases d with
    | list ds => exact congrArg PyData.list (decAll_ok ds a h)
    | _ => cases h
  back a := decAll_back a
instance [D : Dec α] : Dec (Tup α) where
  dec d := match d with
    | .tuple ds => (decAll D.dec ds).map Tup.mk
    | _ => none
  ok d a h := by
    cases d with
    | tuple ds =>
      obtain ⟨l, h1, h2⟩ := Option.map_eq_some_iff.mp h
      subst h2
      exact congrArg PyData.tuple (decAll_ok ds l h1)
    | _ => cases h
  back a := by
    show (decAll D.dec (a.l.map enc)).map Tup.mk = _
    rw [decAll_back]; rfl
def decP (f : PyData → Option α) (g : PyData → Option β) : PyData → Option (α × β)
  | .tuple [x, y] => match f x, g y with
    | some a, some b => some (a, b)
    | _, _ => none
  | _ => none
instance [D : Dec α] [F : Dec β] : Dec (α × β) where
  dec := decP D.dec F.dec
  ok d p h := by
    unfold decP at h
    split at h
    · next x y =>
      cases h1 : D.dec x with
      | none => rw [h1] at h; cases h
      | some a =>
        cases h2 : F.dec y with
        | none => rw [h1, h2] at h; cases h
        | some b =>
          rw [h1, h2] at h
          cases h
          show PyData.tuple [enc a, enc b] = _
          rw [D.ok x a h1, F.ok y b h2]
    · cases h
  back p := by
    show decP D.dec F.dec (.tuple [enc p.1, enc p.2]) = _
    unfold decP
    simp only [D.back, F.back]
end
theorem enc_up {α : Type} [Enc α] (l : List α) : enc (l.map enc : List PyData) = enc l := by
  show PyData.list ((l.map enc).map id) = PyData.list (l.map enc)
  rw [List.map_id]
theorem enc_upP {α β : Type} [Enc α] [Enc β] (p : α × β) : enc ((enc p.1, enc p.2) : PyData × PyData) = enc p := rfl
/-- x in xs, of any data -/
def inD (x : PyData) (ys : List PyData) : Option Bool := chk (SeqAt.shaped x = true ∧ SeqAt.shaped (.list ys) = true) (ys.any fun z => PyData.eqv z x)
def inTD (x : PyData) (ys : Tup PyData) : Option Bool := chk (SeqAt.shaped x = true ∧ SeqAt.shaped (.tuple ys.l) = true) (ys.l.any fun z => PyData.eqv z x)
section
variable {X : Cx} {Γ : Cn} {S α : Type} {ρ : S → List Slot} {a b e : Expr} {pos : Pos}
theorem E.cast [Enc α] [D : Dec α] {m : S → Res (PyData × S)} (h : E X Γ ρ e m) : E X Γ ρ e (sbind m fun d => slift (ofOpt (D.dec d))) :=
  PE.imp h fun σ H Q ⟨s, f0, g, q⟩ => ⟨s, f0, g, q.chain.mono fun f1 H1 r g1 l1 q v rx => by
    obtain ⟨c, ec, q⟩ := run_opt (o := D.dec r.1) (s := r.2) q
    have e := D.ok _ _ ec
    have rx : Rp X.K H1 v r.1 := rx
    rw [← e] at rx
    exact RunF.same q g1 (Same.refl _) v rx⟩
theorem c_inD {ma : S → Res (PyData × S)} {mb : S → Res (List PyData × S)} (hu : X.A.units + 65 < cLine) (ha : E X Γ ρ a ma) (hb : E X Γ ρ b mb) (hm : behindInMarks .In b = false := by rfl) : Cj X Γ ρ (.Compare a [.In] [b] pos) (sbind ma fun x => sbind mb fun y => slift (ofOpt (inD x y))) :=
  c_cmp (g := inD) (op_inD hu) (fun H x y a b c Q rx ry e q => by
    obtain ⟨⟨h1, h2⟩, rfl⟩ := chk_some e
    have ry : Rp X.K H y (.list (b.map id)) := ry
    rw [List.map_id] at ry
    exact ⟨_, b, rx.dp, ry.dp, h1, h2, q.here (.bl _)⟩) pd_ok ha hb hm
theorem c_notInD {ma : S → Res (PyData × S)} {mb : S → Res (List PyData × S)} (hu : X.A.units + 65 < cLine) (ha : E X Γ ρ a ma) (hb : E X Γ ρ b mb) (hm : behindInMarks .NotIn b = false := by rfl) : Cj X Γ ρ (.Compare a [.NotIn] [b] pos) (sbind ma fun x => sbind mb fun y => slift (ofOpt ((inD x y).map not))) :=
  c_cmp (g := fun x y => (inD x y).map not) (op_notInD hu) (fun H x y a b c Q rx ry e q => by
    obtain ⟨r, e1, e2⟩ := Option.map_eq_some_iff.mp e
    obtain ⟨⟨h1, h2⟩, rfl⟩ := chk_some e1
    subst e2
    have ry : Rp X.K H y (.list (b.map id)) := ry
    rw [List.map_id] at ry
    exact ⟨_, b, rx.dp, ry.dp, h1, h2, q.here (.bl _)⟩) pd_ok ha hb hm
theorem c_inTD {ma : S → Res (PyData × S)} {mb : S → Res (Tup PyData × S)} (hu : X.A.units + 65 < cLine) (ha : E X Γ ρ a ma) (hb : E X Γ ρ b mb) (hm : behindInMarks .In b = false := by rfl) : Cj X Γ ρ (.Compare a [.In] [b] pos) (sbind ma fun x => sbind mb fun y => slift (ofOpt (inTD x y))) :=
  c_cmp (g := inTD) (op_inTD hu) (fun H x y a b c Q rx ry e q => by
    obtain ⟨⟨h1, h2⟩, rfl⟩ := chk_some e
    have ry : Rp X.K H y (.tuple (b.l.map id)) := ry
    rw [List.map_id] at ry
    exact ⟨_, b.l, rx.dp, ry.dp, h1, h2, q.here (.bl _)⟩) pd_ok ha hb hm
theorem c_notInTD {ma : S → Res (PyData × S)} {mb : S → Res (Tup PyData × S)} (hu : X.A.units + 65 < cLine) (ha : E X Γ ρ a ma) (hb : E X Γ ρ b mb) (hm : behindInMarks .NotIn b = false := by rfl) : Cj X Γ ρ (.Compare a [.NotIn] [b] pos) (sbind ma fun x => sbind mb fun y => slift (ofOpt ((inTD x y).map not))) :=
  c_cmp (g := fun x y => (inTD x y).map not) (op_notInTD hu) (fun H x y a b c Q rx ry e q => by
    obtain ⟨r, e1, e2⟩ := Option.map_eq_some_iff.mp e
    obtain ⟨⟨h1, h2⟩, rfl⟩ := chk_some e1
    subst e2
    have ry : Rp X.K H y (.tuple (b.l.map id)) := ry
    rw [List.map_id] at ry
    exact ⟨_, b.l, rx.dp, ry.dp, h1, h2, q.here (.bl _)⟩) pd_ok ha hb hm
theorem RunF.shift {K : PySem.W.Frag} {Γ : Cn} {S α : Type} {f0 : Nat → Foot} {ρ : S → List Slot} {σ : L2.St} {H H1 : Hp} {m : Res (α × S)} {φ : (Nat → Foot) → Hp → α × S → Prop} (q : RunF K Γ f0 ρ m σ H φ) (sm : Same H H1) : RunF K Γ f0 ρ m σ H1 φ :=
  wpR_mono q (fun r q H2 f2 g2 l2 => q H2 f2 g2 ((Stp.same sm).trans l2)) fun _ _ z => ErrW.mono z (Stp.same (f := f0) sm).le
/-- {a: c, b: d}[k], all texts -/
theorem e_pickS {x y z w : Str} {j1 j2 j3 j4 : Nat} {p1 p2 p3 p4 pd : Pos} {m : S → Res (Str × S)} (hu : X.A.units + 1 < cLine) (he : E X Γ ρ e m) (hn : x ≠ y := by decide) (hs : NoSl e := by exact fun _ _ => rfl) :
    E X Γ ρ (.Subscript (.Dict [some (.Constant (.str x) j1 p1), some (.Constant (.str y) j2 p2)] [.Constant (.str z) j3 p3, .Constant (.str w) j4 p4] pd) e pos) (sbind m fun k => slift (ofOpt (if k = x then some z else if k = y then some w else none))) :=
  PE.imp (pe_dget hu (pe_disp (pps_cons pe_str pe_str (pps_cons pe_str pe_str pps_nil)) rfl rfl (by simp) (Nat.le_of_ble_eq_true rfl)) he hs) fun σ H Q ⟨s, f0, g, q⟩ p hp => by
    refine ⟨upd_same, [(.inr x, .str z), (.inr y, .str w)], rfl, Nat.le_of_ble_eq_true rfl, ?_⟩
    have em : mergeK [] ([(.inr x, V.str z), (.inr y, V.str w)] : List (Key × V)) = [((.inr x : Key), V.str z), (.inr y, V.str w)] := by
      show putK (putK [] (Sum.inr x : Key) (V.str z)) (Sum.inr y : Key) (V.str w) = _
      have e1 : putK [] (Sum.inr x : Key) (V.str z) = [((Sum.inr x : Key), V.str z)] := rfl
      rw [e1]
      unfold putK
      rw [if_neg]
      · rfl
      · simp only [List.any_cons, List.any_nil, Bool.or_false, decide_eq_true_eq]
        exact fun h => hn (Sum.inr.inj h)
    rw [em]
    have eu : upd (upd H p (.dK [])) p (.dK [((.inr x : Key), V.str z), (.inr y, V.str w)]) = upd H p (.dK [((.inr x : Key), V.str z), (.inr y, V.str w)]) := by
      funext a
      by_cases h : a = p
      · subst h; rw [upd_same, upd_same]
      · rw [upd_ne h, upd_ne h, upd_ne h]
    rw [eu]
    have sm : Same H (upd H p (.dK [((.inr x : Key), V.str z), (.inr y, V.str w)])) := same_new hp
    have nf : ∀ i, p ∉ f0 i := fun i hi => by obtain ⟨u, e, _⟩ := g.live hi; rw [hp] at e; cases e
    refine ⟨s, f0, g.same' sm, (RunF.chain q).shift sm |>.mono fun f1 H1 r g1 l1 q v rx => ?_⟩
    have hk := Rp.str_inv rx
    subst hk
    obtain ⟨c, ec, q⟩ := run_opt q
    refine ⟨p, .str c, rfl, ?_, RunF.same q g1 (Same.refl _) _ (.str _)⟩
    have hd : H1 p = some (.dK [((.inr x : Key), V.str z), (.inr y, V.str w)]) := l1.keep p _ upd_same nf
    have ev : some (V.str c) = valV [((.inr x : Key), V.str z), (.inr y, V.str w)] (.inr r.1) := by
      by_cases h1 : r.1 = x
      · rw [if_pos h1] at ec
        cases ec
        rw [valV_pos (by rw [h1])]
      · rw [if_neg h1] at ec
        rw [valV_neg (fun h => h1 (Sum.inr.inj h).symm)]
        by_cases h2 : r.1 = y
        · rw [if_pos h2] at ec
          cases ec
          rw [valV_pos (by rw [h2])]
        · rw [if_neg h2] at ec; cases ec
    rw [ev]
    exact DGet.k (k := .inr r.1) hd
theorem e_gS {x : Str} (z : Str) {t : Tok} (hm : X.mg x = some (.str z t)) (hg : Gl X x := by rfl) (hd : (x == ("__debug__" : Str)) = false := by decide) : Ep X Γ ρ (.Name x pos) (z : Str) := e_globS z hg hm hd
end
instance : Inhabited PyData := ⟨.none⟩
def sconv {S α β : Type} (f : α → β) (m : S → Res (α × S)) : S → Res (β × S) := fun s => m s >>= fun r => .ok (f r.1, r.2)
theorem E.up [Enc α] [Enc β] {X : Cx} {Γ : Cn} {S : Type} {ρ : S → List Slot} {e : Expr} {m : S → Res (α × S)} (h : E X Γ ρ e m) (f : α → β) (hf : ∀ a, enc (f a) = enc a := by intro _; rfl) : E X Γ ρ e (sconv f m) := E.conv h f hf
/-- a while's fuel, great enough -/
@[irreducible] def fuelB : Nat := 1000000
theorem fuelB_eq : fuelB = 1000000 := by unfold fuelB; rfl
def memB {α : Type} [DecidableEq α] (x : α) (l : List α) : Bool := decide (x ∈ l)
section
variable {X : Cx} {Γ : Cn} {S α : Type} {ρ : S → List Slot} {a b o e : Expr} {pos : Pos}
theorem c_inM [Enc α] [DecidableEq α] [F : Flat α] {ma : S → Res (α × S)} {mb : S → Res (List α × S)} (hu : X.A.units + 65 < cLine) (ha : E X Γ ρ a ma) (hb : E X Γ ρ b mb) (hd : F.d + 1 ≤ 64 := by decide) (hm : behindInMarks .In b = false := by rfl) : Cj X Γ ρ (.Compare a [.In] [b] pos) (sbind ma fun x => sbind mb fun y => spure (memB x y)) := c_in hu ha hb hd hm
theorem c_notInM [Enc α] [DecidableEq α] [F : Flat α] {ma : S → Res (α × S)} {mb : S → Res (List α × S)} (hu : X.A.units + 65 < cLine) (ha : E X Γ ρ a ma) (hb : E X Γ ρ b mb) (hd : F.d + 1 ≤ 64 := by decide) (hm : behindInMarks .NotIn b = false := by rfl) : Cj X Γ ρ (.Compare a [.NotIn] [b] pos) (sbind ma fun x => sbind mb fun y => spure (!memB x y)) := c_notIn hu ha hb hd hm
theorem c_inOM [Enc α] [DecidableEq α] [F : Flat α] {i : Nat} {get : S → List α} {ma : S → Res (α × S)} (hu : X.A.units + 65 < cLine) (ha : E X Γ ρ a ma) (ho : VarAt X i o) (w : View ρ i get) (hd : F.d + 1 ≤ 64 := by decide) (hm : behindInMarks .In o = false := by rfl) : Cj X Γ ρ (.Compare a [.In] [o] pos) (sbind ma fun x s => .ok (memB x (get s), s)) := c_inO hu ha ho w hd hm
theorem c_notInOM [Enc α] [DecidableEq α] [F : Flat α] {i : Nat} {get : S → List α} {ma : S → Res (α × S)} (hu : X.A.units + 65 < cLine) (ha : E X Γ ρ a ma) (ho : VarAt X i o) (w : View ρ i get) (hd : F.d + 1 ≤ 64 := by decide) (hm : behindInMarks .NotIn o = false := by rfl) : Cj X Γ ρ (.Compare a [.NotIn] [o] pos) (sbind ma fun x s => .ok (!memB x (get s), s)) := c_notInO hu ha ho w hd hm
end
section
variable {X : Cx} {Γ : Cn} {β γ R : Type} {rest : List Stmt} {ρn : β → List Slot} {ρg : γ → List Slot} {rt : R → V → Hp → Prop} {e : Expr} {pos p : Pos} {x : Str}
theorem p_aug2 {ρ : List Slot} {op : Operator} {f : Int → Int → Int} {m : Unit → Res (Int × Unit)} {k : Int → Res (Ctl β γ R)} (i : Nat) (n : Int) (hip : PIp X op (ipI f)) (hN : X.N.Nodup) (he : E X Γ (fun _ : Unit => ρ) e m) (hk : ∀ n : Int, Ss X Γ (ρ.set i (.dat (enc n))) rest (k n) ρn ρg rt) (hi : X.N[i]? = some x := by rfl) (hx : Loc X.env.scope x := by first | exact Or.inl rfl | exact Or.inr rfl)
    (h1 : ρ[i]? = some (.dat (enc n)) := by rfl) (hf : X.fn x = true ∨ X.env.scope.names.lookup x = some .local := by first | exact .inl rfl | exact .inr rfl | assumption) :
    Ss X Γ ρ (.AugAssign (.Name x p) op e pos :: rest) (val1 m >>= fun b => app1 k (f n b)) ρn ρg rt := s_aug hip hN (un_lift he) hk hi hx h1 hf
end
end DL

set_option Elab.async false
set_option linter.all false
set_option maxRecDepth 100000
set_option maxHeartbeats 4000000
/-! functions handed over as arguments: a slot .exn f none [] [] bears the function f -/
namespace DL
open PySem PySem.Spec PyProof.Rows L2 Enc
abbrev Slot.fn (f : Addr) : Slot := .exn f none [] []
/-- the last argument is the function fv -/
def spNV {τ β : Type} [Enc β] (K : PySem.W.Frag) (fv : Addr) (encs : τ → List PyData) (m : τ → Res β) : Sp := fun vs H Q E => ∃ us, vs = us ++ [V.ref fv] ∧ spN K encs m us H Q E
structure DefNV {τ β : Type} [Enc β] (P : Program) (w : World) (K : PySem.W.Frag) (mg : Str → Option Value) (base : Heap) (k : Nat) (x : Str) (fv : Addr) (encs : τ → List PyData) (m : τ → Res β) : Prop where
  ex : ∃ f fd ps, mg x = some (.ref f) ∧ PySem.W.keepIn K (.ref f) = true ∧ Binds K fd ps [] ∧ FnOk P w K mg base CX0 k f fd ps (spNV K fv encs m)
/-- a function by its address -/
structure DefA {τ β : Type} [Enc β] (P : Program) (w : World) (K : PySem.W.Frag) (mg : Str → Option Value) (base : Heap) (k : Nat) (x : Str) (f : Addr) (encs : τ → List PyData) (m : τ → Res β) : Prop where
  at' : mg x = some (.ref f)
  ex : ∃ fd ps, PySem.W.keepIn K (.ref f) = true ∧ Binds K fd ps [] ∧ FnOk P w K mg base CX0 k f fd ps (spN K encs m)
theorem DefN.addr {τ β : Type} [Enc β] {P : Program} {w : World} {K : PySem.W.Frag} {mg : Str → Option Value} {base : Heap} {k : Nat} {x : Str} {encs : τ → List PyData} {m : τ → Res β} (d : DefN P w K mg base k x encs m) : ∃ f, DefA P w K mg base k x f encs m := by
  obtain ⟨f, fd, ps, h1, h2, h3, h4⟩ := d.ex
  exact ⟨f, h1, fd, ps, h2, h3, h4⟩
section
variable {X : Cx} {Γ : Cn} {S α β τ : Type} {ρ : S → List Slot} {e fe : Expr} {es : List Expr} {pos p : Pos} {x y : Str} {k i : Nat} {fv : Addr}
theorem fn_slot {ps : List Addr} {H0 H : Hp} {f0 : Nat → Foot} {ρ : List Slot} {σ : L2.St} {K : PySem.W.Frag} (g : GoodF K ps H0 f0 ρ σ H) (h : ρ[i]? = some (.fn fv)) : σ[i]? = some (some (.ref fv)) := by
  obtain ⟨v, e, q⟩ := g.slot i _ h
  obtain ⟨_, ev, _⟩ := q
  rw [e, ev]
theorem pe_callL {f : Addr} {fd : FuncData} {ps : List Str} {sp : Sp} {t : TA} (F : FnOk X.prog X.w X.K X.mg X.base CX0 k f fd ps sp) (hr : Room k X.A) (hk : PySem.W.keepIn X.K (.ref f) = true) (hb : Binds X.K fd ps []) (hN : X.N[i]? = some y) (hv : Vis X.env.scope y)
    (ha : PA X (e :: es) t) (hdb : (y == ("__debug__" : Str)) = false) (hcd : (y == ("__classdict__" : Str)) = false) (he : starEach (e :: es) X.env = (false, eval e X.env) :: starEach es X.env) (hpl : (backTo pos (starEach es X.env)).any (·.1) = false) :
    PE X (.Call (.Name y p) (e :: es) [] pos) (fun σ H Q => σ[i]? = some (some (.ref f)) ∧ tCall sp [] L2.E0 t σ H Q) := by
  refine ⟨fun pins s σ H Q I h => ?_⟩
  obtain ⟨hs, h⟩ := h
  refine wpAny_Call_Name_kw (thn ((pe_var hN hv hdb hcd).run pins s σ H (fun v H1 => v = V.ref f ∧ H1 = H) I ⟨.ref f, hs, rfl, rfl⟩) fun u s0 ⟨xv, H1, I1, r, ev, eh⟩ => ?_)
  subst ev eh
  obtain rfl : u = Value.ref f := r
  refine PySem.W.callWith_K (h₀ := X.base) I1.ok.mod.kin hk (thn (ha.run pos pins s0 σ _ _ I1 h) fun us s1 ⟨vs, H2, I2, rv, q2⟩ => ⟨I2.kIn, ?_⟩) he hpl
  exact run_fn F hr hb .nil pass0 I2 rv q2
/-- y(e, ..), y a name of the def that bears a function -/
theorem e_callL [Enc β] {encs : τ → List PyData} {m : τ → Res β} {ma : S → Res (τ × S)} (d : DefA X.prog X.w X.K X.mg X.base k x fv encs m) (hr : Room k X.A) (ha : EA X Γ ρ (e :: es) ma encs) (i : Nat) (hN : X.N[i]? = some y := by rfl) (hv : Vis X.env.scope y := by first | exact Or.inl rfl | exact Or.inr (Or.inl rfl) | exact Or.inr (Or.inr rfl))
    (hw : ∀ s, (ρ s)[i]? = some (.fn fv) := by exact fun _ => rfl) (hdb : (y == ("__debug__" : Str)) = false := by decide) (hcd : (y == ("__classdict__" : Str)) = false := by decide) (he : starEach (e :: es) X.env = (false, eval e X.env) :: starEach es X.env := by rfl) (hpl : (backTo pos (starEach es X.env)).any (·.1) = false := by rfl) :
    E X Γ ρ (.Call (.Name y p) (e :: es) [] pos) (sbind ma fun t => slift (nb (m t))) := by
  obtain ⟨fd, ps, hk, hb, F⟩ := d.ex
  refine PE.imp (pe_callL F hr hk hb hN hv ha hdb hcd he hpl) fun σ H Q ⟨s, f0, g, q⟩ => ⟨fn_slot g (hw s), s, f0, g, q.chain.mono fun f1 H1 r1 g1 l1 q vs rs => ?_⟩
  show spN X.K encs m (vs ++ []) H1 Q _
  rw [List.append_nil]
  exact run_callN (H := H) g1 q rs
/-- g(e, fe), fe a function -/
theorem e_callV [Enc α] [Enc β] {m : α × Unit → Res β} {ma : S → Res (α × S)} {tf : TE} (d : DefNV X.prog X.w X.K X.mg X.base k x fv (fun t : α × Unit => [enc t.1]) m) (hr : Room k X.A) (ha : E X Γ ρ e ma) (hf : PE X fe tf) (ht : ∀ σ H (Q : VK) s f0, GoodF X.K Γ.ps Γ.H0 f0 (ρ s) σ H → Q (.ref fv) H → tf σ H Q) (hg : Gl X x := by rfl)
    (hdb : (x == ("__debug__" : Str)) = false := by decide) (he : starEach [e, fe] X.env = (false, eval e X.env) :: starEach [fe] X.env := by rfl) (he2 : starEach [fe] X.env = (false, eval fe X.env) :: starEach [] X.env := by rfl) (hpl : (backTo pos (starEach [fe] X.env)).any (·.1) = false := by rfl) :
    E X Γ ρ (.Call (.Name x p) [e, fe] [] pos) (sbind ma fun a => slift (nb (m (a, ())))) := by
  obtain ⟨f, fd, ps, hm, hk, hb, F⟩ := d.ex
  refine PE.imp (pe_call (E := L2.E0) F hr hg hm hk hb .nil pass0 (pa_cons ha (pa_cons hf pa_nil he2) he) hdb he hpl) fun σ H Q ⟨s, f0, g, q⟩ => ⟨s, f0, g, q.chain.mono fun f1 H1 r1 g1 l1 q v rv => ?_⟩
  refine ht σ H1 _ r1.2 f1 g1 ?_
  show spNV X.K fv _ m ([v, V.ref fv] ++ []) H1 Q _
  refine ⟨[v], rfl, ?_⟩
  exact run_callN (encs := fun t : α × Unit => [enc t.1]) (t := (r1.1, ())) (H := H) g1 q (.cons rv .nil)
/-- fe is a function's own name -/
theorem fe_glob {x : Str} {pos : Pos} {f : Addr} (hm : X.mg x = some (.ref f)) (hg : Gl X x := by rfl) (hd : (x == ("__debug__" : Str)) = false := by decide) : PE X (.Name x pos) (tC (.ref f)) := pe_glob (v := V.ref f) hg hm rfl hd
theorem ft_glob {f : Addr} : ∀ (σ : L2.St) (H : Hp) (Q : VK) (s : S) (f0 : Nat → Foot), GoodF X.K Γ.ps Γ.H0 f0 (ρ s) σ H → Q (.ref f) H → tC (.ref f) σ H Q := fun _ _ _ _ _ _ h => h
theorem ft_var (hw : ∀ s, (ρ s)[i]? = some (.fn fv) := by exact fun _ => rfl) : ∀ (σ : L2.St) (H : Hp) (Q : VK) (s : S) (f0 : Nat → Foot), GoodF X.K Γ.ps Γ.H0 f0 (ρ s) σ H → Q (.ref fv) H → tVar i σ H Q := fun σ H Q s f0 g h => ⟨.ref fv, fn_slot g (hw s), h⟩
end
section
variable {P : Program} {w : World} {K : PySem.W.Frag} {mg : Str → Option Value} {base : Heap} {qual x : Str} {st : Stmt} {f fv : Addr} {fd : FuncData} {N ps : List Str} {k : Nat} {τ β R : Type}
def ρ0V (ds : List PyData) (fv : Addr) (n : Nat) : List Slot := ds.map Slot.dat ++ Slot.fn fv :: List.replicate n .any
theorem good_startV {H : Hp} {us : List V} {ds : List PyData} (r : RpAll K H us ds) : Good K [] H (ρ0V ds fv (N.length - (us ++ [V.ref fv]).length)) (L2.start N (us ++ [V.ref fv])) H := by
  have hl := r.length
  have hl2 : (us ++ [V.ref fv]).length = us.length + 1 := by rw [List.length_append]; rfl
  refine ⟨fun _ => [], ?_, fun b o _ h => h, fun p h => (by cases h), fun i s hs => ?_, fun _ _ => rfl, fun _ _ _ h => (by cases h)⟩
  · unfold L2.start ρ0V
    rw [hl2]
    simp; omega
  · unfold L2.start ρ0V at *
    by_cases hi : i < ds.length
    · rw [List.getElem?_append_left (by rw [List.length_map]; exact hi), List.getElem?_map] at hs
      obtain ⟨d, hd, rfl⟩ := Option.map_eq_some_iff.mp hs
      obtain ⟨v, e, q⟩ := r.get hd
      exact ⟨some v, by rw [List.getElem?_append_left (by rw [List.length_map, hl2]; omega), List.getElem?_map, List.getElem?_append_left (by omega), e]; rfl, rfl, v, rfl, q⟩
    · rw [List.getElem?_append_right (by rw [List.length_map]; omega), List.length_map] at hs
      by_cases hi2 : i = ds.length
      · rw [hi2, Nat.sub_self] at hs
        cases hs
        refine ⟨some (.ref fv), ?_, rfl, rfl, .inl ⟨rfl, rfl⟩⟩
        rw [List.getElem?_append_left (by rw [List.length_map, hl2]; omega), List.getElem?_map, List.getElem?_append_right (by omega), hi2, hl, Nat.sub_self]; rfl
      · obtain ⟨m, hm⟩ : ∃ m, i - ds.length = m + 1 := ⟨i - ds.length - 1, by omega⟩
        rw [hm] at hs
        have hs : (List.replicate (N.length - (us ++ [V.ref fv]).length) Slot.any)[m]? = some s := hs
        rw [List.getElem?_replicate] at hs
        split at hs
        · next h =>
          cases hs
          exact ⟨none, by rw [List.getElem?_append_right (by rw [List.length_map]; omega), List.getElem?_replicate, List.length_map, if_pos (by omega)], rfl⟩
        · cases hs
theorem gNV_ok [Enc R] [Inhabited R] (cl : String → Option (Addr × List Str)) {encs : τ → List PyData} {M : τ → Res (Ctl Empty Empty R)} (F : Fun K x qual st f fd) (Sc : FnScope N ps (defScope st)) (n : Nat) (hn : ∀ t, (encs t).length + 1 = ps.length) (hn2 : n = N.length - ps.length)
    (hb : ∀ cdv A outer s H t, Room k (A.deeper (envOfC qual (defScope st) s.heap.objs.size f cdv)) → ∀ E, Ss (cxOf CX0 P w K mg base N qual (defScope st) f cdv A outer s H E).nox ⟨noW, [], H, List.replicate N.length .any, cl⟩ (ρ0V (encs t) fv n) (defBody st) (M t) (fun b : Empty => nomatch b) (fun b => nomatch b) (rtD K R)) :
    FnOk P w K mg base CX0 (k + 1) f fd ps (spNV K fv encs fun t => fnE (M t)) := by
  refine F.ok Sc (fun vs H Q E h => ?_) (fun cdv A outer s H vs Q E hr h => ?_)
  · obtain ⟨us, rfl, t, r, _⟩ := h
    rw [List.length_append, r.length, ← hn t]; rfl
  · obtain ⟨us, rfl, t, r, q⟩ := h
    refine ⟨_, hb cdv A outer s H t hr E, ?_⟩
    obtain ⟨b, eb, q⟩ := nb_wp q
    have eb : fnE (M t) = .ok b := eb
    have hl : (us ++ [V.ref fv]).length = ps.length := by rw [List.length_append, r.length, ← hn t]; rfl
    have G := good_startV (N := N) (fv := fv) r
    rw [hl, ← hn2] at G
    refine ⟨G, ?_⟩
    cases eM : M t with
    | ok c =>
      rw [eM] at eb
      cases c with
      | rt r =>
        cases eb
        intro v H' fin rv
        exact q v H' (fun b o h => fin.1 b o (by simp) h) rv
      | nx b' => exact nomatch b'
      | bk b => exact nomatch b
      | ct b => exact nomatch b
    | err c as => rw [eM] at eb; cases eb
    | bad => rw [eM] at eb; cases eb
end
end DL

set_option Elab.async false
set_option linter.all false
set_option maxRecDepth 100000
set_option maxHeartbeats 4000000
/-! answers that are new: lists (or pairs with a list) that the caller may change; lent to expressions as data -/
namespace DL
open PySem PySem.Spec PyProof.Rows L2 Enc
/-- ghost step: a list that no one else knows is thawed -/
theorem Inv.thaw {X : Cx} {pins : List (Addr × Obj)} {σ : L2.St} {H : Hp} {s : Shared} {a : Addr} {xs : List V} {oo : Obj} (I : Inv X pins σ H s) (h : H a = some (.frz oo (.lst xs))) (hb0 : ∀ o u, X.H_0 a ≠ some (.frz o u)) : Inv X pins σ (upd H a (.lst xs)) s := by
  obtain ⟨e0, z, its, n, r, e⟩ := I.hok a _ h
  refine ⟨I.ok, I.os, I.bare, ⟨I.base.keep, I.base.slot, fun b o q1 q2 q3 => ?_, I.base.there, fun b ys q => ?_, fun b o u q => ?_, fun b qs q => ?_⟩, I.loc, I.cell, ?_, fun x c q => ?_, fun p hp => ?_, fun b o q => ?_, I.len⟩
  · have q := I.base.free b o q1 q2 q3
    rw [upd_ne (ne_of_none h q).symm]; exact q
  · rw [upd_ne (fun z => by subst z; have := I.base.tups b ys q; rw [h] at this; cases this)]; exact I.base.tups b ys q
  · rw [upd_ne (fun z => by subst z; exact hb0 o u q)]; exact I.base.frzs b o u q
  · obtain ⟨more, e2⟩ := I.base.tbls b qs q
    exact ⟨more, by rw [upd_ne (fun z => by subst z; rw [h] at e2; cases e2)]; exact e2⟩
  · rw [upd_ne (ne_of_none h I.free).symm]; exact I.free
  · rw [upd_ne (ne_of_none h (I.freeC x c q)).symm]; exact I.freeC x c q
  · obtain ⟨e1, e2, e3⟩ := I.pin p hp
    exact ⟨e1, by rw [upd_ne (ne_of_none h e2).symm]; exact e2, e3⟩
  · have ho : ∀ c, H c = some (.own b) → upd H a (.lst xs) c = some (.own b) := fun c q => by
      rw [upd_ne (ne_of q h (fun z => by cases z))]; exact q
    have ht : ∀ c ys, H c = some (.tup ys) → upd H a (.lst xs) c = some (.tup ys) := fun c ys q => by
      rw [upd_ne (ne_of q h (fun z => by cases z))]; exact q
    by_cases hb : b = a
    · subst hb
      rw [upd_same] at q
      cases q
      exact ⟨z, its, n, r, e⟩
    · rw [upd_ne hb] at q
      exact (I.hok b o q).stay (fun c u hc w => w) ho ht
theorem Inv.nofrz {X : Cx} {pins : List (Addr × Obj)} {σ : L2.St} {H : Hp} {s : Shared} {a : Addr} {xs : List V} (I : Inv X pins σ H s) (h : H a = some (.lst xs)) : ∀ o u, X.H_0 a ≠ some (.frz o u) := fun o u q => by
  have := I.base.frzs a o u q
  rw [h] at this; cases this
def lendE (t : TE) : TE := fun σ H Q => t σ H Q ∨ ∃ a xs, H a = some (.lst xs) ∧ (xs.length ≤ sizeLine → ∀ o, t σ (upd H a (.frz o (.lst xs))) fun v H' => H' a = some (.frz o (.lst xs)) ∧ Q v (upd H' a (.lst xs)))
def lendT (t : TT) : TT := fun σ H Q => t σ H Q ∨ ∃ a xs, H a = some (.lst xs) ∧ (xs.length ≤ sizeLine → ∀ o, t σ (upd H a (.frz o (.lst xs))) fun v H' => H' a = some (.frz o (.lst xs)) ∧ Q v (upd H' a (.lst xs)))
theorem pe_lend {X : Cx} {e : Expr} {t : TE} (h : PE X e t) : PE X e (lendE t) := by
  refine ⟨fun pins s σ H Q I q => ?_⟩
  rcases q with q | ⟨a, xs, ha, q⟩
  · exact h.run pins s σ H Q I q
  · obtain ⟨o, I2⟩ := Inv.freeze I ha
    exact thn (h.run pins s σ _ _ I2 (q (I.lstM ha).1 o)) fun u s' ⟨v, H', I', r, e1, k⟩ => ⟨v, _, Inv.thaw I' e1 (Inv.nofrz I ha), r, k⟩
theorem pt_lend {X : Cx} {e : Expr} {t : TT} (h : L2.PT X e t) : L2.PT X e (lendT t) := by
  refine ⟨fun pins s σ H Q I q => ?_⟩
  rcases q with q | ⟨a, xs, ha, q⟩
  · exact h.run pins s σ H Q I q
  · obtain ⟨o, I2⟩ := Inv.freeze I ha
    exact thn (h.run pins s σ _ _ I2 (q (I.lstM ha).1 o)) fun u s' ⟨H', I', e1, k⟩ => ⟨_, Inv.thaw I' e1 (Inv.nofrz I ha), k⟩
/-- values that are no objects -/
class HI (α : Type) [Enc α] : Prop where
  hi : ∀ (K : PySem.W.Frag) (H H' : Hp) (v : V) (a : α), Rp K H v (enc a) → Rp K H' v (enc a)
instance : HI Int := ⟨fun K H H' v a r => by rw [r.int_inv]; exact .int _⟩
instance : HI Bool := ⟨fun K H H' v a r => by rw [r.bl_inv]; exact .bl _⟩
instance : HI Str := ⟨fun K H H' v a r => by rw [r.str_inv]; exact .str _⟩
def hideS : Slot → Slot
  | .own _ => .any
  | .io _ _ => .any
  | s => s
def hideL (ρ : List Slot) (i : Nat) (d : PyData) : List Slot := (ρ.map hideS).set i (.dat d)
def lentD : Own → Option PyData
  | .lst xs => some (.list xs)
  | .tu d => some d
  | _ => none
def nbS {S α : Type} (m : S → Res (α × S)) : S → Res (α × S) := fun s => nb (m s)
section
variable {K : PySem.W.Frag} {ps : List Addr} {H0 H H1 H' : Hp} {f : Nat → Foot} {ρ : List Slot} {σ : L2.St}
/-- the store with all that is owned hidden -/
theorem GoodF.hide {i : Nat} {d : PyData} {x : V} (g : GoodF K ps H0 f ρ σ H) (l : Le H H1) (hd : ∀ b o, b ∉ ps → H0 b = some o → H1 b = some o) (e : σ[i]? = some (some x)) (r : Rp K H1 x d) : GoodF K ps H0 (fun _ => []) (hideL ρ i d) σ H1 := by
  have hl : (hideL ρ i d).length = ρ.length := by unfold hideL; rw [List.length_set, List.length_map]
  refine ⟨by rw [hl]; exact g.len, hd, fun p hp => ?_, fun j s hs => ?_, fun _ _ => rfl, fun _ _ _ h => (by cases h)⟩
  · obtain ⟨o, eo⟩ := g.io p hp
    cases q : H1 p with
    | some u => exact ⟨u, rfl⟩
    | none => rw [l.dom p q] at eo; cases eo
  · have hj : j < ρ.length := by rw [← hl]; exact (List.getElem?_eq_some_iff.mp hs).1
    unfold hideL at hs
    by_cases z : j = i
    · subst z
      rw [List.getElem?_set_self (by rw [List.length_map]; exact hj)] at hs
      cases hs
      exact ⟨_, e, rfl, x, rfl, r⟩
    · rw [List.getElem?_set_ne (Ne.symm z), List.getElem?_map] at hs
      obtain ⟨s', hs', rfl⟩ := Option.map_eq_some_iff.mp hs
      obtain ⟨v, ev, q⟩ := g.slot j s' hs'
      refine ⟨v, ev, ?_⟩
      cases s' with
      | any => exact rfl
      | dat d => obtain ⟨_, x, q1, q2⟩ := q; exact ⟨rfl, x, q1, q2.mono l⟩
      | own o => exact rfl
      | io p o => exact rfl
      | exn a d fl as => obtain ⟨_, q1, q2⟩ := q; exact ⟨rfl, q1, q2.mono l⟩
      | frz o => obtain ⟨_, x, q1, q2⟩ := q; exact ⟨rfl, x, q1, q2.mono l⟩
theorem Stp.sameOf {f' : Nat → Foot} (h : Stp (fun _ => []) H f' H') : Same H H' := fun a o e => h.keep a o e fun _ z => by cases z
/-- what is lent -/
theorem GoodF.lent {i : Nat} {o : Own} {d : PyData} (g : GoodF K ps H0 f ρ σ H) (h : ρ[i]? = some (.own o)) (hd : lentD o = some d) :
    ∃ x, σ[i]? = some (some x) ∧ ((Rp K H x d) ∨ ∃ p vs, p ∈ f i ∧ H p = some (.lst vs) ∧ H0 p = none ∧ p ∉ ps ∧ (vs.length ≤ sizeLine → ∀ oo, Rp K (upd H p (.frz oo (.lst vs))) x d)) := by
  obtain ⟨v, e, q1, x, rfl, q⟩ := g.slot i _ h
  refine ⟨x, e, ?_⟩
  cases o with
  | lst xs =>
    cases hd
    obtain ⟨p, vs, rfl, hf, hp, hr⟩ := q
    have := q1 p (by rw [hf]; exact List.mem_singleton.mpr rfl)
    exact .inr ⟨p, vs, by rw [hf]; exact List.mem_singleton.mpr rfl, hp, this.1, this.2, fun hz oo => .lst ⟨oo, upd_same⟩ (hr.mono (Le.upd hp notImm)) hz⟩
  | tu d' =>
    cases hd
    obtain ⟨q', v0, v1, d0, d1, rfl, ht, rfl, r0, h4⟩ := q
    rcases h4 with ⟨hf, _, r1⟩ | ⟨p, vs, xs, rfl, hf, rfl, hp, hr⟩
    · exact .inl (.tup ht (.cons r0 (.cons r1 .nil)))
    · have := q1 p (by rw [hf]; exact List.mem_singleton.mpr rfl)
      refine .inr ⟨p, vs, by rw [hf]; exact List.mem_singleton.mpr rfl, hp, this.1, this.2, fun hz oo => ?_⟩
      have lu : Le H (upd H p (.frz oo (.lst vs))) := Le.upd hp notImm
      exact .tup (lu.imm _ _ trivial ht) (.cons (r0.mono lu) (.cons (.lst ⟨oo, upd_same⟩ (hr.mono lu) hz) .nil))
  | dK _ => cases hd
  | dT _ => cases hd
  | rows _ => cases hd
theorem same_back {p : Addr} {vs : List V} {oo : Obj} (hp : H p = some (.lst vs)) (s : Same (upd H p (.frz oo (.lst vs))) H') : Same H (upd H' p (.lst vs)) := fun a o e => by
  by_cases z : a = p
  · subst z; rw [hp] at e; cases e; exact upd_same
  · rw [upd_ne z]; exact s a o (by rw [upd_ne z]; exact e)
end
section
variable {X : Cx} {Γ : Cn} {α β γ δ R τ : Type} {ρ ρ' : List Slot} {e : Expr} {i : Nat} {o : Own} {d : PyData}
/-- an expression that looks at what is lent to it -/
theorem E.lend [Enc α] [HI α] {m : Unit → Res (α × Unit)} (i : Nat) (h : E X Γ (fun _ : Unit => ρ') e m) (h1 : ρ[i]? = some (.own o) := by rfl) (hd : lentD o = some d := by rfl) (he : ρ' = hideL ρ i d := by rfl) : E X Γ (fun _ : Unit => ρ) e (nbS m) := by
  subst he
  refine PE.imp (pe_lend h) fun σ H Q ⟨s, f0, g, q⟩ => ?_
  obtain ⟨x, ex, hx⟩ := g.lent h1 hd
  have q : RunF X.K Γ f0 (fun _ : Unit => ρ) (nb (m s)) σ H fun f H' r => ∀ v, PD X.K f H H' v r.1 → Q v H' := q
  unfold RunF at q
  obtain ⟨b, em, q⟩ := nb_wp q
  rcases hx with hx | ⟨p, vs, hpf, hp, hp0, hps, hx⟩
  · refine .inl ⟨s, _, g.hide (Le.refl H) g.same ex hx, ?_⟩
    unfold RunF
    rw [em]
    intro H1 f1 g1 st v rx
    have sm := st.sameOf
    exact q H1 f0 (g.same' sm) (Stp.same sm) v rx
  · refine .inr ⟨p, vs, hp, fun hz oo => ⟨s, _, g.hide (Le.upd hp notImm) (fun b u hb eb => by rw [upd_ne (fun z => by subst z; rw [hp0] at eb; cases eb)]; exact g.same b u hb eb) ex (hx hz oo), ?_⟩⟩
    unfold RunF
    rw [em]
    intro H1 f1 g1 st v rx
    have sm := st.sameOf
    have sb := same_back hp sm
    exact ⟨sm p _ upd_same, q _ f0 (g.same' sb) (Stp.same sb) v (HI.hi _ _ _ _ _ rx)⟩
theorem B.lend {m : Unit → Res (Bool × Unit)} (i : Nat) (h : B X Γ (fun _ : Unit => ρ') e m) (h1 : ρ[i]? = some (.own o) := by rfl) (hd : lentD o = some d := by rfl) (he : ρ' = hideL ρ i d := by rfl) : B X Γ (fun _ : Unit => ρ) e (nbS m) := by
  subst he
  refine PT.imp (pt_lend h) fun σ H Q ⟨s, f0, g, q⟩ => ?_
  obtain ⟨x, ex, hx⟩ := g.lent h1 hd
  have q : RunF X.K Γ f0 (fun _ : Unit => ρ) (nb (m s)) σ H fun f H' r => Q r.1 H' := q
  unfold RunF at q
  obtain ⟨b, em, q⟩ := nb_wp q
  rcases hx with hx | ⟨p, vs, hpf, hp, hp0, hps, hx⟩
  · refine .inl ⟨s, _, g.hide (Le.refl H) g.same ex hx, ?_⟩
    unfold RunF
    rw [em]
    intro H1 f1 g1 st
    have sm := st.sameOf
    exact q H1 f0 (g.same' sm) (Stp.same sm)
  · refine .inr ⟨p, vs, hp, fun hz oo => ⟨s, _, g.hide (Le.upd hp notImm) (fun b u hb eb => by rw [upd_ne (fun z => by subst z; rw [hp0] at eb; cases eb)]; exact g.same b u hb eb) ex (hx hz oo), ?_⟩⟩
    unfold RunF
    rw [em]
    intro H1 f1 g1 st
    have sm := st.sameOf
    have sb := same_back hp sm
    exact ⟨sm p _ upd_same, q _ f0 (g.same' sb) (Stp.same sb)⟩
end

theorem GoodF.forgetF {K : PySem.W.Frag} {ps : List Addr} {H0 H : Hp} {f : Nat → Foot} {ρ : List Slot} {σ : L2.St} (g : GoodF K ps H0 f ρ σ H) (i : Nat) : GoodF K ps H0 (fun j => if j = i then [] else f j) (ρ.set i .any) σ H := by
  refine ⟨by rw [List.length_set]; exact g.len, g.same, g.io, fun j s hs => ?_, fun j hj => ?_, fun j k a h1 h2 => ?_⟩
  · by_cases hj : j = i
    · subst hj
      by_cases hl : j < ρ.length
      · rw [List.getElem?_set_self hl] at hs
        cases hs
        obtain ⟨v, e, _⟩ := g.slot j ρ[j] (List.getElem?_eq_getElem hl)
        exact ⟨v, e, by simp only [if_pos]; exact rfl⟩
      · rw [List.getElem?_eq_none (by rw [List.length_set]; omega)] at hs
        cases hs
    · rw [List.getElem?_set_ne (Ne.symm hj)] at hs
      simp only [if_neg hj]
      exact g.slot j s hs
  · by_cases hji : j = i
    · simp only [if_pos hji]
    · rw [List.getElem?_set_ne (Ne.symm hji)] at hj
      simp only [if_neg hji]
      exact g.out j hj
  · by_cases hj : j = i
    · simp only [if_pos hj] at h1; cases h1
    · by_cases hk : k = i
      · simp only [if_pos hk] at h2; cases h2
      · simp only [if_neg hj] at h1
        simp only [if_neg hk] at h2
        exact g.sep j k a h1 h2

/-! ### what is new in an answer -/
def PrL (K : PySem.W.Frag) (α : Type) [Enc α] : List α → Hp → V → Hp → Prop := fun as H v H' => ∃ p vs, v = .ref p ∧ H p = none ∧ H' p = some (.lst vs) ∧ vs.length ≤ sizeLine ∧ RpAll K H' vs (as.map enc)
def PrU (K : PySem.W.Frag) : PyData → Hp → V → Hp → Prop := fun d H v H' => ∃ fp, (∀ a ∈ fp, H a = none) ∧ OwnOk K H' fp v (.tu d)
def PU (K : PySem.W.Frag) : PK PyData := fun f H H' v d => ∃ fp, (∀ a ∈ fp, H a = none ∧ ∀ i, a ∉ f i) ∧ OwnOk K H' fp v (.tu d)
def rtG {β : Type} (Pr : β → Hp → V → Hp → Prop) (H0 : Hp) : β → V → Hp → Prop := fun r v H' => Pr r H0 v H'
def spNG {τ β : Type} (K : PySem.W.Frag) (Pr : β → Hp → V → Hp → Prop) (encs : τ → List PyData) (m : τ → Res β) : Sp := fun vs H Q _ =>
  ∃ t, RpAll K H vs (encs t) ∧ wpR (nb (m t)) (fun b => ∀ v H', Same H H' → Pr b H v H' → Q v H') fun _ _ => False
structure DefNG {τ β : Type} (P : Program) (w : World) (K : PySem.W.Frag) (mg : Str → Option Value) (base : Heap) (k : Nat) (x : Str) (Pr : β → Hp → V → Hp → Prop) (encs : τ → List PyData) (m : τ → Res β) : Prop where
  ex : ∃ f fd ps, mg x = some (.ref f) ∧ PySem.W.keepIn K (.ref f) = true ∧ Binds K fd ps [] ∧ FnOk P w K mg base CX0 k f fd ps (spNG K Pr encs m)
def spXG {τ β : Type} (K : PySem.W.Frag) (cl : String → Option (Addr × List Str)) (Pr : β → Hp → V → Hp → Prop) (encs : τ → List PyData) (m : τ → Res β) : Sp := fun vs H Q E =>
  ∃ t, RpAll K H vs (encs t) ∧ wpR (m t) (fun b => ∀ v H', Same H H' → Pr b H v H' → Q v H') fun c as => ∀ C d H', Same H H' → ErrAt K cl c as C d H' → E C d H'
structure DefXG {τ β : Type} (P : Program) (w : World) (K : PySem.W.Frag) (mg : Str → Option Value) (base : Heap) (cl : String → Option (Addr × List Str)) (k : Nat) (x : Str) (Pr : β → Hp → V → Hp → Prop) (encs : τ → List PyData) (m : τ → Res β) : Prop where
  ex : ∃ f fd ps, mg x = some (.ref f) ∧ PySem.W.keepIn K (.ref f) = true ∧ Binds K fd ps [] ∧ FnOk P w K mg base (L2N.CX P w) k f fd ps (spXG K cl Pr encs m)
section
variable {P : Program} {w : World} {K : PySem.W.Frag} {mg : Str → Option Value} {base : Heap} {qual x : Str} {st : Stmt} {f : Addr} {fd : FuncData} {N ps : List Str} {k : Nat} {τ β R : Type} {Pr : R → Hp → V → Hp → Prop}
theorem gNG_ok (cl : String → Option (Addr × List Str)) {encs : τ → List PyData} {M : τ → Res (Ctl Empty Empty R)} (F : Fun K x qual st f fd) (Sc : FnScope N ps (defScope st)) (n : Nat) (hn : ∀ t, (encs t).length = ps.length) (hn2 : n = N.length - ps.length)
    (hb : ∀ cdv A outer s H t, Room k (A.deeper (envOfC qual (defScope st) s.heap.objs.size f cdv)) → ∀ E, Ss (cxOf CX0 P w K mg base N qual (defScope st) f cdv A outer s H E).nox ⟨noW, [], H, List.replicate N.length .any, cl⟩ (ρ0 (encs t) n) (defBody st) (M t) (fun b : Empty => nomatch b) (fun b => nomatch b) (rtG Pr H)) :
    FnOk P w K mg base CX0 (k + 1) f fd ps (spNG K Pr encs fun t => fnE (M t)) := by
  refine F.ok Sc (fun vs H Q E h => ?_) (fun cdv A outer s H vs Q E hr h => ?_)
  · obtain ⟨t, r, _⟩ := h
    rw [r.length, hn]
  · obtain ⟨t, r, q⟩ := h
    refine ⟨_, hb cdv A outer s H t hr E, ?_⟩
    obtain ⟨b, eb, q⟩ := nb_wp q
    have eb : fnE (M t) = .ok b := eb
    have hl : vs.length = ps.length := by rw [r.length, hn]
    have G := good_start (N := N) r
    rw [hl, ← hn2] at G
    refine ⟨G, ?_⟩
    cases eM : M t with
    | ok c =>
      rw [eM] at eb
      cases c with
      | rt r =>
        cases eb
        intro v H' fin rv
        exact q v H' (fun b o h => fin.1 b o (by simp) h) rv
      | nx b' => exact nomatch b'
      | bk b => exact nomatch b
      | ct b => exact nomatch b
    | err c as => rw [eM] at eb; cases eb
    | bad => rw [eM] at eb; cases eb
theorem gXG_ok (cl : String → Option (Addr × List Str)) {encs : τ → List PyData} {M : τ → Res (Ctl Empty Empty R)} (F : Fun K x qual st f fd) (Sc : FnScope N ps (defScope st)) (n : Nat) (hn : ∀ t, (encs t).length = ps.length) (hn2 : n = N.length - ps.length) (hn3 : ps.length ≤ N.length)
    (hb : ∀ cdv A outer s H t, Room k (A.deeper (envOfC qual (defScope st) s.heap.objs.size f cdv)) → ∀ E, Ss (cxOf (L2N.CX P w) P w K mg base N qual (defScope st) f cdv A outer s H E) ⟨WofE E, [], H, List.replicate N.length .any, cl⟩ (ρ0 (encs t) n) (defBody st) (M t) (fun b : Empty => nomatch b) (fun b => nomatch b) (rtG Pr H)) :
    FnOk P w K mg base (L2N.CX P w) (k + 1) f fd ps (spXG K cl Pr encs fun t => fnE (M t)) := by
  obtain ⟨oc, od, kV, doc, pm, an, cdv, ct, osl, rfl, lk, hcd⟩ := F.ex
  refine fn_of lk hcd Sc (fun vs H Q E h => ?_) (fun A outer s H vs Q E hr h => ?_)
  · obtain ⟨t, r, _⟩ := h
    rw [r.length, hn]
  · obtain ⟨t, r, q⟩ := h
    refine ⟨_, hb cdv A outer s H t hr E, ?_⟩
    have hl : vs.length = ps.length := by rw [r.length, hn]
    have G := good_start (N := N) r
    rw [hl, ← hn2] at G
    refine ⟨G, ?_⟩
    have q : wpR (fnE (M t)) (fun b => ∀ v H', Same H H' → Pr b H v H' → Q v H') (fun c as => ∀ C d H', Same H H' → ErrAt K cl c as C d H' → E C d H') := q
    cases eM : M t with
    | ok c =>
      rw [eM] at q
      cases c with
      | rt r => exact fun v H' fin rv => q v H' (fun b o h => fin.1 b o (by simp) h) rv
      | nx b' => exact nomatch b'
      | bk b => exact nomatch b
      | ct b => exact nomatch b
    | err c as =>
      rw [eM] at q
      exact fun C d σ H' g' _ e => q C d H' (fun b o h => g'.fin.1 b o (by simp) h) e
    | bad => rw [eM] at q; exact q
end
section
variable {X : Cx} {Γ : Cn} {S α β γ δ R τ : Type} {ρ : S → List Slot} {e : Expr} {es : List Expr} {pos p : Pos} {x : Str} {k : Nat}
theorem e_callNG {Pr : β → Hp → V → Hp → Prop} {P' : PK β} {encs : τ → List PyData} {m : τ → Res β} {ma : S → Res (τ × S)} (hP : ∀ (f : Nat → Foot) (H H1 H' : Hp) v b, Le H H1 → (∀ i a, a ∈ f i → H1 a ≠ none) → Pr b H1 v H' → P' f H H' v b) (d : DefNG X.prog X.w X.K X.mg X.base k x Pr encs m) (hr : Room k X.A) (ha : EA X Γ ρ (e :: es) ma encs) (hg : Gl X x := by rfl)
    (hdb : (x == ("__debug__" : Str)) = false := by decide) (he : starEach (e :: es) X.env = (false, eval e X.env) :: starEach es X.env := by rfl) (hpl : (backTo pos (starEach es X.env)).any (·.1) = false := by rfl) :
    EP X Γ P' ρ (.Call (.Name x p) (e :: es) [] pos) (sbind ma fun t => slift (nb (m t))) := by
  obtain ⟨f, fd, ps, hm, hk, hb, F⟩ := d.ex
  refine PE.imp (pe_call (E := E0) F hr hg hm hk hb .nil pass0 ha hdb he hpl) fun σ H Q ⟨s, f0, g, q⟩ => ⟨s, f0, g, q.chain.mono fun f1 H1 r1 g1 l1 q vs rs => ?_⟩
  show spNG X.K Pr encs m (vs ++ []) H1 Q E0
  rw [List.append_nil]
  refine ⟨r1.1, rs, ?_⟩
  have q : RunF X.K Γ f1 ρ (slift (nb (m r1.1)) r1.2) σ H1 fun f H' r => ∀ v, P' f H H' v r.1 → Q v H' := q
  cases em : m r1.1 with
  | ok b =>
    intro v H' sm r
    have q : RunF X.K Γ f1 ρ (.ok (b, r1.2)) σ H1 fun f H' r => ∀ v, P' f H H' v r.1 → Q v H' := by
      have : slift (nb (m r1.1)) r1.2 = .ok (b, r1.2) := by rw [em]; rfl
      rw [this] at q; exact q
    exact RunF.same q g1 sm v (hP _ _ _ _ _ _ l1.le (fun i a ha z => by obtain ⟨u, e, _⟩ := g1.live ha; rw [z] at e; cases e) r)
  | err c as => rw [em] at q; exact q.elim
  | bad => rw [em] at q; exact q.elim
theorem e_callXG {Pr : β → Hp → V → Hp → Prop} {P' : PK β} {encs : τ → List PyData} {m : τ → Res β} {ma : S → Res (τ × S)} (hP : ∀ (f : Nat → Foot) (H H1 H' : Hp) v b, Le H H1 → (∀ i a, a ∈ f i → H1 a ≠ none) → Pr b H1 v H' → P' f H H' v b) (d : DefXG X.prog X.w X.K X.mg X.base Γ.cl k x Pr encs m) (hr : Room k X.A) (tk : L2N.Takes X Γ.W) (hw : ∀ s, Wk (ρ s) Γ.ρE) (ha : EA X Γ ρ (e :: es) ma encs) (hg : Gl X x := by rfl)
    (hdb : (x == ("__debug__" : Str)) = false := by decide) (he : starEach (e :: es) X.env = (false, eval e X.env) :: starEach es X.env := by rfl) (hpl : (backTo pos (starEach es X.env)).any (·.1) = false := by rfl) :
    EP X Γ P' ρ (.Call (.Name x p) (e :: es) [] pos) (sbind ma fun t => slift (m t)) := by
  obtain ⟨f, fd, ps, hm, hk, hb, F⟩ := d.ex
  refine PE.imp (pe_callS (E := WE Γ.W) F hr hg hm hk hb (fun σ => L2N.passAt tk σ) ha hdb he hpl) fun σ H Q ⟨s, f0, g, q⟩ => ⟨s, f0, g, q.chain.mono fun f1 H1 r1 g1 l1 q vs rs => ?_⟩
  refine ⟨r1.1, rs, ?_⟩
  have q : RunF X.K Γ f1 ρ (slift (m r1.1) r1.2) σ H1 fun f H' r => ∀ v, P' f H H' v r.1 → Q v H' := q
  cases em : m r1.1 with
  | ok b =>
    rw [em] at q
    exact fun v H' sm r => RunF.same (show RunF X.K Γ f1 ρ (.ok (b, r1.2)) σ H1 _ from q) g1 sm v (hP _ _ _ _ _ _ l1.le (fun i a ha z => by obtain ⟨u, e, _⟩ := g1.live ha; rw [z] at e; cases e) r)
  | err c as =>
    rw [em] at q
    have q : ErrW X.K Γ H1 σ c as := q
    exact fun C d H' sm ea => q C d H' (Good.weak (hw r1.2) ⟨f1, g1.same' sm⟩) (Le.of_same sm) ea
  | bad => rw [em] at q; exact q
theorem pe_freezeU {X : Cx} {e : Expr} {t : TE} (h : PE X e t) : PE X e (fun σ H Q => t σ H fun v H' => Q v H' ∨ ∃ a xs, H' a = some (.lst xs) ∧ (xs.length ≤ sizeLine → ∀ o, Q v (upd H' a (.frz o (.lst xs))))) := by
  refine ⟨fun pins s σ H Q I q => thn (h.run pins s σ H _ I q) fun u s' ⟨v, H', I', r, k⟩ => ?_⟩
  rcases k with k | ⟨a, xs, hl, k⟩
  · exact ⟨v, _, I', r, k⟩
  · obtain ⟨o, I2⟩ := Inv.freeze I' hl
    exact ⟨v, _, I2, r, k (I'.lstM hl).1 o⟩
/-- a new pair becomes data -/
theorem EP.frozenU {m : S → Res (PyData × S)} (h : EP X Γ (PU X.K) ρ e m) : E X Γ ρ e m := by
  refine PE.imp (pe_freezeU h) fun σ H Q ⟨s, f0, g, q⟩ => ⟨s, f0, g, wpR_mono q (fun r q H' f g' l v hp => ?_) fun _ _ z => z⟩
  obtain ⟨fp, h1, q', v0, v1, d0, d1, rfl, ht, e1, r0, h4⟩ := hp
  rcases h4 with ⟨rfl, hn, r1⟩ | ⟨p, vs, xs, rfl, rfl, rfl, hp, hr⟩
  · exact .inl (q _ f g' l _ (by show Rp X.K _ _ r.1; rw [e1]; exact .tup ht (.cons r0 (.cons r1 .nil))))
  · obtain ⟨hn, nf⟩ := h1 p (List.mem_singleton.mpr rfl)
    refine .inr ⟨p, vs, hp, fun hz o => ?_⟩
    have G : Good X.K Γ.ps Γ.H0 (ρ s) σ H := ⟨f0, g⟩
    have lu := Le.upd (u := .frz o (.lst vs)) hp notImm
    exact q _ f (g'.freeze hp nf (G.newAt hn).1) ⟨l.le.trans lu, fun a u h n => by rw [upd_ne (ne_of_none h hn)]; exact l.keep a u h n, l.foot⟩ _ (by show Rp X.K _ _ r.1; rw [e1]; exact .tup (lu.imm _ _ trivial ht) (.cons (r0.mono lu) (.cons (.lst ⟨o, upd_same⟩ (hr.mono lu) hz) .nil)))
theorem prL_pl [Enc α] {K : PySem.W.Frag} : ∀ (f : Nat → Foot) (H H1 H' : Hp) (v : V) (b : List α), Le H H1 → (∀ i a, a ∈ f i → H1 a ≠ none) → PrL K α b H1 v H' → PL K f H H' v b := fun f H H1 H' v b l n ⟨p, vs, e, h1, h2, h3, h4⟩ => ⟨p, vs, e, l.dom p h1, fun i hi => n i p hi h1, h2, h3, h4⟩
theorem prU_pu {K : PySem.W.Frag} : ∀ (f : Nat → Foot) (H H1 H' : Hp) (v : V) (b : PyData), Le H H1 → (∀ i a, a ∈ f i → H1 a ≠ none) → PrU K b H1 v H' → PU K f H H' v b := fun f H H1 H' v b l n ⟨fp, h1, h2⟩ => ⟨fp, fun a ha => ⟨l.dom a (h1 a ha), fun i hi => n i a hi (h1 a ha)⟩, h2⟩
/-- calls whose answer is a new list -/
theorem e_callNL [Enc β] {encs : τ → List PyData} {m : τ → Res (List β)} {ma : S → Res (τ × S)} (d : DefNG X.prog X.w X.K X.mg X.base k x (PrL X.K β) encs m) (hr : Room k X.A) (ha : EA X Γ ρ (e :: es) ma encs) (hg : Gl X x := by rfl)
    (hdb : (x == ("__debug__" : Str)) = false := by decide) (he : starEach (e :: es) X.env = (false, eval e X.env) :: starEach es X.env := by rfl) (hpl : (backTo pos (starEach es X.env)).any (·.1) = false := by rfl) :
    EL X Γ ρ (.Call (.Name x p) (e :: es) [] pos) (sbind ma fun t => slift (nb (m t))) := e_callNG prL_pl d hr ha hg hdb he hpl
theorem e_callXL [Enc β] {encs : τ → List PyData} {m : τ → Res (List β)} {ma : S → Res (τ × S)} (d : DefXG X.prog X.w X.K X.mg X.base Γ.cl k x (PrL X.K β) encs m) (hr : Room k X.A) (tk : L2N.Takes X Γ.W) (hw : ∀ s, Wk (ρ s) Γ.ρE) (ha : EA X Γ ρ (e :: es) ma encs) (hg : Gl X x := by rfl)
    (hdb : (x == ("__debug__" : Str)) = false := by decide) (he : starEach (e :: es) X.env = (false, eval e X.env) :: starEach es X.env := by rfl) (hpl : (backTo pos (starEach es X.env)).any (·.1) = false := by rfl) :
    EL X Γ ρ (.Call (.Name x p) (e :: es) [] pos) (sbind ma fun t => slift (m t)) := e_callXG prL_pl d hr tk hw ha hg hdb he hpl
/-- a call whose answer is a new pair -/
theorem e_callNU {encs : τ → List PyData} {m : τ → Res PyData} {ma : S → Res (τ × S)} (d : DefNG X.prog X.w X.K X.mg X.base k x (PrU X.K) encs m) (hr : Room k X.A) (ha : EA X Γ ρ (e :: es) ma encs) (hg : Gl X x := by rfl)
    (hdb : (x == ("__debug__" : Str)) = false := by decide) (he : starEach (e :: es) X.env = (false, eval e X.env) :: starEach es X.env := by rfl) (hpl : (backTo pos (starEach es X.env)).any (·.1) = false := by rfl) :
    EP X Γ (PU X.K) ρ (.Call (.Name x p) (e :: es) [] pos) (sbind ma fun t => slift (nb (m t))) := e_callNG prU_pu d hr ha hg hdb he hpl
end
section
variable {X : Cx} {Γ : Cn} {S α β γ δ R : Type} {ρ : List Slot} {ρS : S → List Slot} {st : Stmt} {rest body : List Stmt} {ρn : β → List Slot} {ρg : γ → List Slot} {rt : R → V → Hp → Prop} {e a o : Expr} {pos p cpos apos np : Pos} {x : Str}
/-- return of a new list -/
theorem p_retNL [Enc α] {mS : S → Res (List α × S)} (ρS : S → List Slot) (s0 : S) (he : EL X Γ ρS e mS) : Ss X Γ (ρS s0) [.Return (some e) pos] (sseq (mS s0) fun a _ => .ok (.rt a)) ρn ρg (rtG (PrL X.K α) Γ.H0) :=
  pss_one (PS.imp (ps_ret he) fun D σ H q => by
    have G0 := q.1
    exact tE_of (k := fun a _ => .ok (.rt a)) q fun a s v H' f g l p q => by
      obtain ⟨d, vs, rfl, hn, nf, hv, hz, hr⟩ := p
      exact q _ H' (Good.fin ⟨f, g⟩) ⟨d, vs, rfl, (G0.newAt hn).1, hv, hz, hr⟩)
/-- return of a list of one's own -/
theorem p_retOL [Enc α] {xs : List α} (i : Nat) (hN : X.N[i]? = some x := by rfl) (hv : Vis X.env.scope x := by first | exact Or.inl rfl | exact Or.inr (Or.inl rfl) | exact Or.inr (Or.inr rfl)) (h1 : ρ[i]? = some (.own (.lst (xs.map enc))) := by rfl)
    (hd : (x == ("__debug__" : Str)) = false := by decide) (hcd : (x == ("__classdict__" : Str)) = false := by decide) : Ss X Γ ρ [.Return (some (.Name x np)) pos] (.ok (.rt xs)) ρn ρg (rtG (PrL X.K α) Γ.H0) := by
  refine ⟨fun pins s σ H D I ⟨⟨f0, g⟩, q⟩ => ?_⟩
  obtain ⟨v, e, q1, y, rfl, p, vs, rfl, hf, hp, hr⟩ := g.slot i _ h1
  exact (pss_one (ps_ret (pe_var hN hv hd hcd))).run pins s σ H D I ⟨_, e, q _ H (Good.fin ⟨f0, g⟩) ⟨p, vs, rfl, (q1 p (by rw [hf]; exact List.mem_singleton.mpr rfl)).1, hp, (I.lstM hp).1, hr⟩⟩
/-- a pair with no list at its end -/
class NoL (α : Type) [Enc α] : Prop where
  nl : ∀ a : α, ∃ d0 d1, enc a = .tuple [d0, d1] ∧ ∀ xs, d1 ≠ .list xs
instance {α : Type} [Enc α] : NoL (α × Int) := ⟨fun a => ⟨enc a.1, .int a.2, rfl, fun _ h => by cases h⟩⟩
instance {α : Type} [Enc α] : NoL (α × Str) := ⟨fun a => ⟨enc a.1, .str a.2, rfl, fun _ h => by cases h⟩⟩
instance {α : Type} [Enc α] : NoL (α × Bool) := ⟨fun a => ⟨enc a.1, .bool a.2, rfl, fun _ h => by cases h⟩⟩
instance {α : Type} [Enc α] : NoL (α × Unit) := ⟨fun a => ⟨enc a.1, .none, rfl, fun _ h => by cases h⟩⟩
theorem p_retNU [Enc α] [NoL α] {mS : S → Res (α × S)} (ρS : S → List Slot) (s0 : S) (he : E X Γ ρS e mS) : Ss X Γ (ρS s0) [.Return (some e) pos] (sseq (mS s0) fun a _ => .ok (.rt (enc a))) ρn ρg (rtG (PrU X.K) Γ.H0) :=
  pss_one (PS.imp (ps_ret he) fun D σ H q => by
    exact tE_of (k := fun a _ => .ok (.rt (enc a))) q fun a s v H' f g l p q => by
      obtain ⟨d0, d1, ea, hn⟩ := NoL.nl a
      refine q _ H' (Good.fin ⟨f, g⟩) ⟨[], (fun _ z => nomatch z), ?_⟩
      have p : Rp X.K H' v (enc a) := p
      rw [ea] at p ⊢
      cases p with
      | tup ht rs =>
        cases rs with
        | cons r0 rs =>
          cases rs with
          | cons r1 rs =>
            cases rs
            exact ⟨_, _, _, d0, d1, rfl, ht, rfl, r0, .inl ⟨rfl, hn, r1⟩⟩)
/-- return ("..", xs), xs a list of one's own -/
theorem p_retOU [Enc α] {xs : List α} {z : Str} {j k : Nat} {cp tp : Pos} (i : Nat) (hN : X.N[i]? = some x := by rfl) (hv : Vis X.env.scope x := by first | exact Or.inl rfl | exact Or.inr (Or.inl rfl) | exact Or.inr (Or.inr rfl)) (h1 : ρ[i]? = some (.own (.lst (xs.map enc))) := by rfl)
    (hd : (x == ("__debug__" : Str)) = false := by decide) (hcd : (x == ("__classdict__" : Str)) = false := by decide)
    (he : starEach [.Constant (.str z) j cp, .Name x np] X.env = (false, eval (.Constant (.str z) j cp) X.env) :: starEach [.Name x np] X.env := by rfl) (he2 : starEach [.Name x np] X.env = (false, eval (.Name x np) X.env) :: starEach [] X.env := by rfl) :
    Ss X Γ ρ [.Return (some (.Tuple [.Constant (.str z) j cp, .Name x np] k tp)) pos] (.ok (.rt (.tuple [.str z, .list (xs.map enc)]))) ρn ρg (rtG (PrU X.K) Γ.H0) :=
  pss_one (PS.imp (ps_ret (pe_tup (pa_cons pe_str (pa_cons (pe_var hN hv hd hcd) pa_nil he2) he))) fun D σ H ⟨⟨f0, g⟩, q⟩ => by
    obtain ⟨v, e, q1, y, rfl, p, vs, rfl, hf, hp, hr⟩ := g.slot i _ h1
    refine ⟨_, e, (by show (2 : Nat) ≤ sizeLine; rw [sizeLine_eq]; decide), fun c hc => ?_⟩
    have sm : Same H (upd H c (.tup [.str z, .ref p])) := same_new hc
    have hpc : p ≠ c := fun z => by subst z; rw [hc] at hp; cases hp
    refine q _ _ (Good.fin ⟨f0, g.same' sm⟩) ⟨[p], fun a ha => ?_, c, _, _, _, _, rfl, upd_same, rfl, .str z, .inr ⟨p, vs, _, rfl, rfl, rfl, by rw [upd_ne hpc]; exact hp, hr.mono (Le.of_same sm)⟩⟩
    have : a = p := by simpa using ha
    subst this
    exact (q1 a (by rw [hf]; exact List.mem_singleton.mpr rfl)).1)
/-- name = a call whose answer is a new pair -/
theorem p_setU {mS : S → Res (PyData × S)} {k : PyData → S → Res (Ctl β γ R)} (ρS : S → List Slot) (s0 : S) (i : Nat) (h : AE X Γ (PU X.K) ρS i st mS) (h2 : ∀ d s, Ss X Γ ((ρS s).set i (.own (.tu d))) rest (k d s) ρn ρg rt) (hl : ∀ s, i < (ρS s).length := by intro _; exact DL.lt_by rfl) :
    Ss X Γ (ρS s0) (st :: rest) (sseq (mS s0) k) ρn ρg rt :=
  PSs.imp (pss_cons h (PSs.ex fun a => PSs.ex (h2 a))) fun D σ H hq => by
    have G0 := hq.1
    refine tE_of (k := k) hq fun a s v H' f g l p q => ⟨a, s, ?_, q⟩
    obtain ⟨fp, h1, h2⟩ := p
    exact ⟨_, g.set (fp := fp) (hl s) ⟨fun b hb => G0.newAt (h1 b hb).1, v, rfl, h2⟩ fun j b _ hb => (h1 b hb).2 j⟩
/-- what a spoilt pair leads to -/
def spoilR {A B : Type} (d : PyData) (m : Res A) (k : Res B) : Res B := match d with
  | .tuple [_, .list xs] => m >>= fun _ => if xs.length < 16777216 then k else .bad
  | _ => .bad
/-- told[1].append(e), told a pair of one's own: it is forgotten -/
theorem p_spoil [Enc α] {d : PyData} {m : Unit → Res (α × Unit)} {k : Res (Ctl β γ R)} {j : Nat} {ip sp : Pos} (i : Nat) (he : E X Γ (fun _ : Unit => ρ) e m) (hk : Ss X Γ (ρ.set i .any) rest k ρn ρg rt) (h1 : ρ[i]? = some (.own (.tu d)) := by rfl)
    (hN : X.N[i]? = some x := by rfl) (hv : Vis X.env.scope x := by first | exact Or.inl rfl | exact Or.inr (Or.inl rfl) | exact Or.inr (Or.inr rfl)) (hd : (x == ("__debug__" : Str)) = false := by decide) (hcd : (x == ("__classdict__" : Str)) = false := by decide)
    (hb : attributeBase (.Subscript (.Name x np) (.Constant (.int 1) j ip) sp) "append" X.env (eval (.Subscript (.Name x np) (.Constant (.int 1) j ip) sp) X.env) = eval (.Subscript (.Name x np) (.Constant (.int 1) j ip) sp) X.env := by rfl)
    (hfew : ((backTo cpos (starEach [e] X.env)).all (fun x => !x.1) && (backToKw cpos (keywordEach [] X.env)).all (fun x => x.1.isSome) && decide ([e].length + ([] : List Keyword).length + (if ([] : List Keyword).isEmpty then 0 else 1) < 30)) = true := by rfl)
    (hline : (apos.endLine == cpos.line) = true := by rfl) (hs : starEach [e] X.env = (false, eval e X.env) :: starEach [] X.env := by rfl) (hplain : (backTo cpos (starEach [] X.env)).any (·.1) = false := by rfl)
    (hsw : swapsWith (.Call (.Attribute (.Subscript (.Name x np) (.Constant (.int 1) j ip) sp) "append" apos) [e] [] cpos) none pos.line X.env = pure false := by rfl) (hix : PlainIx (.Constant (.int 1) j ip) := by exact fun _ _ => rfl) :
    Ss X Γ ρ (.Expr (.Call (.Attribute (.Subscript (.Name x np) (.Constant (.int 1) j ip) sp) "append" apos) [e] [] cpos) pos :: rest) (spoilR d (val1 m) k) ρn ρg rt :=
  PSs.imp (pss_cons (ps_expr (pe_bm PySem.F.plainAttrs_list PySem.F.slot_list_append PySem.F.type_list_append mt_append (pe_ix ix_tup (pe_var hN hv hd hcd) pe_int hix) (pa_cons he pa_nil hs) hb hfew hline hs hplain) hsw) hk) fun D σ H q => by
    obtain ⟨⟨f0, g⟩, q⟩ := q
    obtain ⟨v, ev, q1, y, rfl, q', v0, v1, d0, d1, rfl, ht, rfl, r0, h4⟩ := g.slot i _ h1
    rcases h4 with ⟨hf, hn, r1⟩ | ⟨p, vs, xs, rfl, hf, rfl, hp, hr⟩
    · exfalso
      cases d1 with
      | list xs => exact hn xs rfl
      | _ => exact q
    · have q : wpR (val1 m >>= fun _ => if xs.length < 16777216 then k else .bad) (Post X.K Γ ρn ρg rt D H) (ErrS X.K Γ H) := q
      rw [Res.bind_assoc, wpR_bind] at q
      refine ⟨_, ev, q', [v0, .ref p], 1, .ref p, rfl, rfl, SqT.of ht, rfl, .inl ⟨rfl, _, SqL.of hp⟩, (), f0, g, wpR_mono q (fun r q H1 f1 g1 l1 v rx => ?_) fun _ _ z => z.w σ⟩
      obtain ⟨v', ev', q1', y', rfl, q'', w0, w1, e0, e1, e9, ht', e2, r0', h4'⟩ := g1.slot i _ h1
      rw [ev] at ev'
      cases ev'
      cases e9
      rw [l1.le.imm _ _ (show Imm (.tup [v0, V.ref p]) from trivial) ht] at ht'
      cases ht'
      cases e2
      rcases h4' with ⟨_, hn, _⟩ | ⟨p', vs', xs', e3, hf', e4, hp', hr'⟩
      · exact absurd rfl (hn _)
      cases e3
      cases e4
      have q : wpR (if xs.length < 16777216 then k else .bad) (Post X.K Γ ρn ρg rt D H) (ErrS X.K Γ H) := q
      by_cases hz : xs.length < 16777216
      · rw [if_pos hz] at q
        refine ⟨p, vs', v, rfl, rfl, hp', by rw [hr'.length, sizeLine_eq]; exact hz, ?_⟩
        have l2 : Le H1 (upd H1 p (.lst (vs' ++ [v]))) := Le.upd hp' notImm
        obtain ⟨n0, nps⟩ := q1' p (by rw [hf']; exact List.mem_singleton.mpr rfl)
        have g2 := g1.forgetF i
        have gg : Good X.K Γ.ps Γ.H0 (ρ.set i .any) σ (upd H1 p (.lst (vs' ++ [v]))) := ⟨_, g2.keep l2 (fun j a ha => upd_ne fun z => by
          subst z
          by_cases hj : j = i
          · rw [if_pos hj] at ha; cases ha
          · rw [if_neg hj] at ha
            exact hj (g1.sep j i a ha (by rw [hf']; exact List.mem_singleton.mpr rfl))) fun b o hb eb => by
              rw [upd_ne (fun z => by subst z; rw [n0] at eb; cases eb)]
              exact g1.same b o hb eb⟩
        exact ⟨gg, wpR_mono q (fun c q => q.le (l1.le.trans l2)) fun _ _ z => z.le (l1.le.trans l2)⟩
      · rw [if_neg hz] at q; exact q.elim
end
end DL

set_option Elab.async false
set_option linter.all false
set_option maxRecDepth 100000
set_option maxHeartbeats 4000000
/-! try with several clauses, with and without a name -/
namespace L2N
open PySem PySem.Spec PyProof.Rows L2
/-- one clause: its class, the slot of its name, what its suite wishes -/
structure Clau where
  cls : Value
  at' : Option Nat
  ts : Addr → Value → Option Addr → TS
def endAs (D : Ends) (i : Nat) : Ends := { nx := fun σ H => D.nx (σ.set i none) H, rt := D.rt, bk := fun σ H => D.bk (σ.set i none) H, ct := fun σ H => D.ct (σ.set i none) H }
def Clau.want (cl : Clau) (a : Addr) (c : Value) (d : Option Addr) (D : Ends) (σ : L2.St) (H : Hp) : Prop := match cl.at' with
  | none => cl.ts a c d D σ H
  | some i => cl.ts a c d (endAs D i) (σ.set i (some (.ref a))) H
def wMix (K : PySem.W.Frag) (Wz : WX) (D : Ends) : List Clau → WX
  | [] => Wz
  | cl :: r => fun c d σ H => ∃ b, PySem.W.exmOne K c cl.cls = some b ∧ (b = true → ∀ a, H a = none → cl.want a c d D σ H) ∧ (b = false → wMix K Wz D r c d σ H)
inductive MixOk (X : Cx) : List ExceptHandler → List Clau → Prop
  | nil : MixOk X [] []
  | bare {x : Str} {c : Value} {ts : Addr → Value → Option Addr → TS} {z₀ : Stmt} {zs : List Stmt} {q1 q2 : Pos} {hs : List ExceptHandler} {l : List Clau} (nm : Names X x c)
      (su : ∀ (a : Addr) (ob : Obj) (k : Value) (d : Option Addr) (pz : List (Addr × Obj)), Zn k d ob → (∃ vs, ob.data = .fields vs) → PSs (X.suite a ((a, ob) :: pz)) (z₀ :: zs) (ts a k d)) (r : MixOk X hs l) :
      MixOk X (.ExceptHandler (some (.Name x q1)) none (z₀ :: zs) q2 :: hs) (⟨c, none, ts⟩ :: l)
  | named {x n : Str} {i : Nat} {c : Value} {ts : Addr → Value → Option Addr → TS} {z₀ : Stmt} {zs : List Stmt} {q1 q2 : Pos} {hs : List ExceptHandler} {l : List Clau} (nm : Names X x c) (nd : X.N.Nodup) (ni : X.N[i]? = some n) (nl : X.env.kindOf n = some .local)
      (su : ∀ (a : Addr) (ob : Obj) (k : Value) (d : Option Addr) (pz : List (Addr × Obj)), Zn k d ob → (∃ vs, ob.data = .fields vs) → PSs (X.suite a ((a, ob) :: pz)) (z₀ :: zs) (ts a k d)) (r : MixOk X hs l) :
      MixOk X (.ExceptHandler (some (.Name x q1)) (some n) (z₀ :: zs) q2 :: hs) (⟨c, some i, ts⟩ :: l)
/-- an error that has landed in front of the clauses -/
structure Landed (X : Cx) (a : Addr) (B : Heap) (pz : List (Addr × Obj)) (σ : L2.St) (H : Hp) (k : Value) (d : Option Addr) (t : Shared) : Prop where
  ok : X.Ok
  fly : HandSPX.FlyingZ B (X.env :: X.outer) a (Zn k d) t.heap
  inv : ∀ h4, HandSPX.FlyingZ B (X.env :: X.outer) a (Zn k d) h4 → t.heap.UpToSlots h4 → Inv X pz σ H { t with heap := h4 }
  inv0 : Inv X pz σ H t
  new : H a = none
  nfr : a ∉ frs (X.env :: X.outer)
  hf : X.env.frame = some X.env.locals
section
variable {X : Cx} {a : Addr} {B : Heap} {pz : List (Addr × Obj)} {σ : L2.St} {H : Hp} {k : Value} {d : Option Addr} {t : Shared} {D : Ends} {Wz : WX}
theorem Landed.nL (g : Landed X a B pz σ H k d t) : a ≠ X.env.locals := fun z => g.nfr (List.mem_filterMap.mpr ⟨_, List.mem_cons_self, by rw [g.hf, z]⟩)
theorem Landed.nF (g : Landed X a B pz σ H k d t) : a ∉ X.fs := fun hm => by
  obtain ⟨e, he, q⟩ := List.mem_filterMap.mp hm
  exact g.nfr (List.mem_filterMap.mpr ⟨e, List.mem_cons_of_mem _ he, q⟩)
/-- the suite's start -/
theorem Landed.into (g : Landed X a B pz σ H k d t) {h4 : Heap} (fl : HandSPX.FlyingZ B (X.env :: X.outer) a (Zn k d) h4) (up : t.heap.UpToSlots h4) :
    ∃ ob, Zn k d ob ∧ (∃ vs, ob.data = .fields vs) ∧ Inv (X.suite a ((a, ob) :: (X.pn ++ pz))) [] σ H { t with heap := h4 } := by
  obtain ⟨ob, vs, e, z, dd⟩ := fl.there
  exact ⟨ob, z, ⟨_, dd⟩, (g.inv h4 fl up).suite e dd g.new g.nL g.nF⟩
/-- the clause's test -/
theorem Landed.test (g : Landed X a B pz σ H k d t) {x : Str} {c : Value} {b : Bool} {q1 : Pos} (nm : Names X x c) (hb : PySem.W.exmOne X.K k c = some b) {Q : Bool → Shared → Prop} {E : Value → Shared → Prop} (q : Q b t) :
    wpAny (model X.prog X.w) (X.A.mark (some (.ref a))) (eval (.Name x q1) X.env) (fun v u => wpAny (model X.prog X.w) (X.A.mark (some (.ref a))) (excMatches (.ref a) v) Q E u) E t := by
  obtain ⟨ob, vs, e, z, dd⟩ := g.fly.there
  have LT : PySem.W.Looks (model X.prog X.w) t.heap (typeOf (.ref a)) k := fun A Q E s kk q => wpAny_typeOf_ref (kk _ _ e) (by rw [z.1]; exact q)
  have LM := PySem.W.exm_one (M := model X.prog X.w) g.inv0.kIn LT hb
  have S := g.inv0.suite e dd g.new g.nL g.nF
  have fin : wpAny (model X.prog X.w) (X.A.mark (some (.ref a))) (excMatches (.ref a) c) Q E t := LM.here q
  obtain ⟨hg, hdbg, hm | ⟨hm, hv, hnn⟩⟩ := nm
  · exact ld_glob (X := X.suite a ((a, ob) :: (X.pn ++ pz))) S hg hm fin hdbg
  · exact ld_blt (X := X.suite a ((a, ob) :: (X.pn ++ pz))) S hg hm hv fin hnn hdbg
/-- the clauses, one after the other -/
theorem Landed.go (g : Landed X a B pz σ H k d t) (fin : Wz k d σ H → wpAny (model X.prog X.w) X.A (handleBy (.ref a) X.env []) (SP X pz D) X.xe t) {hs : List ExceptHandler} {l : List Clau} (m : MixOk X hs l) (w : wMix X.K Wz D l k d σ H) :
    wpAny (model X.prog X.w) X.A (handleBy (.ref a) X.env hs) (SP X pz D) X.xe t := by
  induction m with
  | nil => exact fin w
  | @bare x c ts z₀ zs q1 q2 hs l nm su r ih =>
    obtain ⟨b, hb, yes, no⟩ := w
    refine wpAny_handleBy_cons (codeAny_handlers_test (g.test nm hb ?_)) (by intro q; cases q)
    cases b with
    | false => exact ih (no rfl)
    | true =>
      refine codeAny_handlers_suite (HandSPX.lands_againZ g.fly fun h4 fl up => ?_)
      obtain ⟨ob, z, dd, S⟩ := g.into fl up
      refine wpAny_mono ((su a ob k d (X.pn ++ pz) z dd).run [] _ _ H _ S (yes rfl a g.new)) (fun f u sp => ?_) (fun _ _ z => False.elim z)
      cases f with
      | next => obtain ⟨s6, H6, S6, q6⟩ := sp; exact ⟨_, _, S6.unsuite g.ok, q6⟩
      | brk => obtain ⟨s6, H6, S6, q6⟩ := sp; exact ⟨_, _, S6.unsuite g.ok, q6⟩
      | cont => obtain ⟨s6, H6, S6, q6⟩ := sp; exact ⟨_, _, S6.unsuite g.ok, q6⟩
      | ret v => obtain ⟨v6, s6, H6, S6, r6, q6⟩ := sp; exact ⟨_, _, _, S6.unsuite g.ok, r6, q6⟩
  | @named x n i c ts z₀ zs q1 q2 hs l nm nd ni nl su r ih =>
    obtain ⟨b, hb, yes, no⟩ := w
    refine wpAny_handleBy_cons (codeAny_handlers_test (g.test nm hb ?_)) (by intro q; cases q)
    cases b with
    | false => exact ih (no rfl)
    | true =>
      refine codeAny_handlers_suite_as (HandSPX.lands_againZ g.fly fun h4 fl up => ?_)
      obtain ⟨ob, z, dd, S⟩ := g.into fl up
      refine store_ok (X := X.suite a ((a, ob) :: (X.pn ++ pz))) (v := .ref a) S nd ni (.inl nl) rfl (fun s5 S5 => ?_) (.inr nl)
      refine wpAny_mono ((su a ob k d (X.pn ++ pz) z dd).run [] s5 _ H _ S5 (yes rfl a g.new)) (fun f u sp => ?_) (fun _ _ z => False.elim z)
      cases f with
      | next => obtain ⟨s6, H6, S6, q6⟩ := sp; exact gone_ok (S6.unsuite g.ok) nd ni nl fun s7 J7 => ⟨_, _, J7, q6⟩
      | brk => obtain ⟨s6, H6, S6, q6⟩ := sp; exact gone_ok (S6.unsuite g.ok) nd ni nl fun s7 J7 => ⟨_, _, J7, q6⟩
      | cont => obtain ⟨s6, H6, S6, q6⟩ := sp; exact gone_ok (S6.unsuite g.ok) nd ni nl fun s7 J7 => ⟨_, _, J7, q6⟩
      | ret v => obtain ⟨v6, s6, H6, S6, r6, q6⟩ := sp; exact gone_ok (S6.unsuite g.ok) nd ni nl fun s7 J7 => ⟨_, _, _, J7, r6, q6⟩
end
theorem ps_try_mix {X : Cx} {body : List Stmt} {h₀ : ExceptHandler} {hds : List ExceptHandler} {l : List Clau} {pos : Pos} {tb : WX → TS} {Wz : WX} (hs : X.stack = X.env :: X.outer) (hf : X.env.frame = some X.env.locals) (tk : Takes X Wz)
    (hb : ∀ (W : WX) (pn : List (Addr × Obj)) (xe : Value → Shared → Prop), Takes (X.tr pn xe) W → PassesOwn (model X.prog X.w) X.A X.env xe → PSs (X.tr pn xe) body (tb W))
    (hh : MixOk X (h₀ :: hds) l) : PS X (.Try body (h₀ :: hds) [] [] pos) (fun D σ H => tb (wMix X.K Wz D l) D σ H) := by
  refine ⟨fun pz s σ H D I h => ?_⟩
  have ok := I.ok
  have fr : X.A.frames = some (X.env :: X.outer) := by rw [ok.frames, hs]
  let xe' : Value → Shared → Prop := fun e t1 => wpAny (model X.prog X.w) X.A (noteFrame e X.env) (fun _ t2 => wpAny (model X.prog X.w) X.A (setFlight e none) (fun _ t3 => wpAny (model X.prog X.w) X.A (handleBy e X.env (h₀ :: hds)) (SP X pz D) X.xe t3) X.xe t2) X.xe t1
  have tk' : Takes (X.tr (X.pn ++ pz) xe') (wMix X.K Wz D l) := fun u t xx => by
    obtain ⟨a, B, sJ, py, σ1, H1, k, d, rfl, Jx, nb, up, sky, na, os, ag, w⟩ := xx
    have J : Inv X pz σ1 H1 sJ := Jx.ofTry ok
    have sky1 : Sky B (X.env :: X.outer) a (Zn k d) X.env.locals t.heap := by rw [← hs]; exact sky
    show wpAny (model X.prog X.w) X.A (noteFrame (.ref a) X.env) _ _ _
    refine Sky.land Zn.steady fr hf sky1 fun hq fly upq => ?_
    have G : Landed X a B pz σ1 H1 k d { t with heap := hq } := by
      refine ⟨ok, fly, fun h4 fl4 up4 => J.landed nb fl4.1 ((up.trans upq).trans up4) os ag, J.landed nb fly.1 (up.trans upq) os ag, na, ?_, hf⟩
      obtain ⟨ob, vs, e, z, dd⟩ := fly.there
      intro hm
      obtain ⟨_, o1, e1, hn⟩ := fly.2.2.1.mem hm
      rw [e] at e1; cases e1
      exact hn _ dd
    refine G.go (fun wz => wpAny_handleBy_nil ?_) hh w
    obtain ⟨k1, k2, k3, ob, vs, T, oT, ts1, he, hz, hd, h1, hr⟩ := id fly
    unfold PySem.passOn
    refine wpAny_bind (wpAny_field he hd h1 ?_)
    rw [if_neg (show ¬ ((Value.ref T == Value.none) = true) from by simp)]
    have out : wpAny (model X.prog X.w) X.A (setFlight (.ref a) X.env.frame) (fun _ t4 => wpAny (model X.prog X.w) X.A (throw (.ref a) : Sem Flow) (SP X pz D) X.xe t4) X.xe { t with heap := hq } := by
      rw [hf]
      exact HandSPX.setFlight_upZ fly fun h4 hh4 up4 => wpAny_throw (tk _ _ ⟨a, B, sJ, pz, σ1, H1, k, d, rfl, J, nb, (up.trans upq).trans up4, .inr (.inr (by rw [hs]; exact hh4)), na, os, ag, wz⟩)
    first
      | exact wpAny_bind (wpAny_pure (wpAny_bind out))
      | exact wpAny_bind out
  refine wpAny_Try_except (wpAny_mono ((hb (wMix X.K Wz D l) (X.pn ++ pz) xe' tk' PassesOwn.looking).run [] s σ H D (I.toTry _) h) (fun f s1 sp => ?_) (fun e s1 he => he))
  cases f with
  | next => obtain ⟨s6, H6, J6, q⟩ := sp; exact wpAny_execs_nil ⟨s6, H6, J6.ofTry ok, q⟩
  | brk => obtain ⟨s6, H6, J6, q⟩ := sp; exact ⟨s6, H6, J6.ofTry ok, q⟩
  | cont => obtain ⟨s6, H6, J6, q⟩ := sp; exact ⟨s6, H6, J6.ofTry ok, q⟩
  | ret u => obtain ⟨v, s6, H6, J6, r, q⟩ := sp; exact ⟨v, s6, H6, J6.ofTry ok, r, q⟩
end L2N

set_option Elab.async false
set_option linter.all false
set_option maxRecDepth 100000
set_option maxHeartbeats 4000000
namespace DL
open PySem PySem.Spec PyProof.Rows L2 Enc
/-! ### try with several clauses -/
abbrev Cl (β γ R : Type) := (String → Bool) × (String → List PyData → Res (Ctl β γ R))
def hsel {β γ R : Type} : List (Cl β γ R) → String → List PyData → Res (Ctl β γ R)
  | [], c, as => .err c as
  | h :: r, c, as => if h.1 c = true then nb (h.2 c as) else hsel r c as
def tryX {β γ R : Type} (mb : Res (Ctl β γ R)) (l : List (Cl β γ R)) : Res (Ctl β γ R) := match mb with
  | .ok c => .ok c
  | .err c as => hsel l c as
  | .bad => .bad
section
variable {β γ R : Type} (l : List (Cl β γ R))
@[simp] theorem tryX_ok (c : Ctl β γ R) : tryX (.ok c) l = .ok c := rfl
@[simp] theorem tryX_err (c : String) (as : List PyData) : tryX (.err c as) l = hsel l c as := rfl
@[simp] theorem tryX_bad : tryX .bad l = .bad := rfl
@[simp] theorem hsel_nil (c : String) (as : List PyData) : hsel ([] : List (Cl β γ R)) c as = .err c as := rfl
@[simp] theorem hsel_cons (h : Cl β γ R) (c : String) (as : List PyData) : hsel (h :: l) c as = if h.1 c = true then nb (h.2 c as) else hsel l c as := rfl
end
section
variable {X : Cx} {Γ : Cn} {β γ R : Type} {ρ : List Slot} {ρn : β → List Slot} {ρg : γ → List Slot} {rt : R → V → Hp → Prop} {pos : Pos} {body : List Stmt}
inductive DMix (X : Cx) (Γ : Cn) {β γ R : Type} (ρE' : List Slot) (ρn : β → List Slot) (ρg : γ → List Slot) (rt : R → V → Hp → Prop) : List ExceptHandler → List (Cl β γ R) → Prop
  | nil : DMix X Γ ρE' ρn ρg rt [] []
  | bare {x : Str} {C0 : Addr} {b₀ : Stmt} {suite : List Stmt} {np p : Pos} {hds : List ExceptHandler} {l : List (Cl β γ R)} {mt : String → Bool} {hs : String → List PyData → Res (Ctl β γ R)} (nm : Names X x (.ref C0))
      (sub : ∀ c C fl, Γ.cl c = some (C, fl) → PySem.W.exmOne X.K (.ref C) (.ref C0) = some (mt c))
      (su : ∀ a oe C d pn c fl as, Γ.cl c = some (C, fl) → mt c = true → L2N.Zn (.ref C) d oe → (∃ vs, oe.data = .fields vs) → Ss (X.suite a ((a, oe) :: pn)) ⟨noW, Γ.ps, Γ.H0, [], Γ.cl⟩ ρE' (b₀ :: suite) (hs c as) ρn ρg rt)
      (r : DMix X Γ ρE' ρn ρg rt hds l) : DMix X Γ ρE' ρn ρg rt (.ExceptHandler (some (.Name x np)) none (b₀ :: suite) p :: hds) ((mt, hs) :: l)
  | named {x n : Str} {i : Nat} {C0 : Addr} {b₀ : Stmt} {suite : List Stmt} {np p : Pos} {hds : List ExceptHandler} {l : List (Cl β γ R)} {mt : String → Bool} {hs : String → List PyData → Res (Ctl β γ R)} (nm : Names X x (.ref C0)) (nd : X.N.Nodup) (ni : X.N[i]? = some n) (nl : X.env.kindOf n = some .local)
      (sub : ∀ c C fl, Γ.cl c = some (C, fl) → PySem.W.exmOne X.K (.ref C) (.ref C0) = some (mt c)) (il : i < ρE'.length)
      (su : ∀ a oe C d pn c fl as, Γ.cl c = some (C, fl) → mt c = true → L2N.Zn (.ref C) d oe → (∃ vs, oe.data = .fields vs) → Ss (X.suite a ((a, oe) :: pn)) ⟨noW, Γ.ps, Γ.H0, [], Γ.cl⟩ (ρE'.set i (.exn a d fl as)) (b₀ :: suite) (hs c as) ρn ρg rt)
      (hni : ∀ b, (ρn b)[i]? = some .any) (hgi : ∀ b, (ρg b)[i]? = some .any)
      (r : DMix X Γ ρE' ρn ρg rt hds l) : DMix X Γ ρE' ρn ρg rt (.ExceptHandler (some (.Name x np)) (some n) (b₀ :: suite) p :: hds) ((mt, hs) :: l)
theorem DMix.go {ρE' : List Slot} (hw : Wk ρE' Γ.ρE) {hds : List ExceptHandler} {l : List (Cl β γ R)} (m : DMix X Γ ρE' ρn ρg rt hds l) : ∃ cl, L2N.MixOk X hds cl ∧ ∀ (D : Ends) (H : Hp) (c : String) (as : List PyData) (A : Addr) (fl : List Str) (d : Option Addr) (σ : L2.St) (H' : Hp),
    Γ.cl c = some (A, fl) → ErrF X.K H' d fl as → Good X.K Γ.ps Γ.H0 ρE' σ H' → Le H H' → wpR (hsel l c as) (Post X.K Γ ρn ρg rt D H) (ErrS X.K Γ H) → L2N.wMix X.K Γ.W D cl (.ref A) d σ H' := by
  induction m with
  | nil => exact ⟨[], .nil, fun D H c as A fl d σ H' ec ef g l q => q _ _ _ _ (g.weak hw) l ⟨A, fl, ec, rfl, ef⟩⟩
  | @bare x C0 b₀ suite np p hds l mt hs nm sub su r ih =>
    obtain ⟨cl, mo, ih⟩ := ih
    refine ⟨⟨.ref C0, none, fun a k d D σ H => ∃ C c fl as, k = .ref C ∧ Γ.cl c = some (C, fl) ∧ mt c = true ∧ tS X.K ⟨noW, Γ.ps, Γ.H0, [], Γ.cl⟩ ρE' (hs c as) ρn ρg rt D σ H⟩ :: cl, .bare nm (fun a ob k d pz z dd => ⟨fun pins s σ H D I ⟨C, c, fl, as, e, ecl, hm, q⟩ => ?_⟩) mo, fun D H c as A fl d σ H' ec ef g l q => ⟨mt c, sub c A fl ec, fun hm a ha => ?_, fun hm => ?_⟩⟩
    · subst e
      exact (su a ob C d pz c fl as ecl hm z dd).run pins s σ H D I q
    · rw [hsel_cons, if_pos hm] at q
      refine ⟨A, c, fl, as, rfl, ec, hm, g, ?_⟩
      have q : wpR (nb (hs c as)) (Post X.K Γ ρn ρg rt D H) (ErrS X.K Γ H) := q
      obtain ⟨c', hc, q⟩ := (show ∃ b, hs c as = .ok b ∧ Post X.K Γ ρn ρg rt D H b from by
        cases hh : hs c as with
        | ok b => rw [hh] at q; exact ⟨b, rfl, q⟩
        | err _ _ => rw [hh] at q; exact q.elim
        | bad => rw [hh] at q; exact q.elim)
      rw [hc]
      cases c' with
      | nx b => exact fun σ2 H2 g2 l2 => q _ H2 g2 (l.trans l2)
      | rt r => exact q
      | bk b => exact fun σ2 H2 g2 l2 => q _ H2 g2 (l.trans l2)
      | ct b => exact fun σ2 H2 g2 l2 => q _ H2 g2 (l.trans l2)
    · rw [hsel_cons, if_neg (by show ¬ (mt c = true); rw [hm]; exact Bool.false_ne_true)] at q
      exact ih D H c as A fl d σ H' ec ef g l q
  | @named x n i C0 b₀ suite np p hds l mt hs nm nd ni nl sub il su hni hgi r ih =>
    obtain ⟨cl, mo, ih⟩ := ih
    refine ⟨⟨.ref C0, some i, fun a k d D σ H => ∃ C c fl as, k = .ref C ∧ Γ.cl c = some (C, fl) ∧ mt c = true ∧ tS X.K ⟨noW, Γ.ps, Γ.H0, [], Γ.cl⟩ (ρE'.set i (.exn a d fl as)) (hs c as) ρn ρg rt D σ H⟩ :: cl, .named nm nd ni nl (fun a ob k d pz z dd => ⟨fun pins s σ H D I ⟨C, c, fl, as, e, ecl, hm, q⟩ => ?_⟩) mo, fun D H c as A fl d σ H' ec ef g l q => ⟨mt c, sub c A fl ec, fun hm a ha => ?_, fun hm => ?_⟩⟩
    · subst e
      exact (su a ob C d pz c fl as ecl hm z dd).run pins s σ H D I q
    · rw [hsel_cons, if_pos hm] at q
      refine ⟨A, c, fl, as, rfl, ec, hm, ?_, ?_⟩
      · obtain ⟨f, g⟩ := g
        exact ⟨_, g.set (fp := []) il ⟨rfl, rfl, ef⟩ fun _ _ _ z => by cases z⟩
      have q : wpR (nb (hs c as)) (Post X.K Γ ρn ρg rt D H) (ErrS X.K Γ H) := q
      obtain ⟨c', hc, q⟩ := (show ∃ b, hs c as = .ok b ∧ Post X.K Γ ρn ρg rt D H b from by
        cases hh : hs c as with
        | ok b => rw [hh] at q; exact ⟨b, rfl, q⟩
        | err _ _ => rw [hh] at q; exact q.elim
        | bad => rw [hh] at q; exact q.elim)
      rw [hc]
      cases c' with
      | nx b => exact fun σ2 H2 g2 l2 => q _ H2 (g2.none (hni b)) (l.trans l2)
      | rt r => exact q
      | bk b => exact fun σ2 H2 g2 l2 => q _ H2 (g2.none (hgi b)) (l.trans l2)
      | ct b => exact fun σ2 H2 g2 l2 => q _ H2 (g2.none (hgi b)) (l.trans l2)
    · rw [hsel_cons, if_neg (by show ¬ (mt c = true); rw [hm]; exact Bool.false_ne_true)] at q
      exact ih D H c as A fl d σ H' ec ef g l q
theorem s_tryX {ρE' : List Slot} {mb : Res (Ctl β γ R)} {h₀ : ExceptHandler} {hds : List ExceptHandler} {l : List (Cl β γ R)} (hst : X.stack = X.env :: X.outer) (hfr : X.env.frame = some X.env.locals) (tk : L2N.Takes X Γ.W) (hw : Wk ρE' Γ.ρE)
    (hb : ∀ W pn xe, L2N.Takes (X.tr pn xe) W → PassesOwn (model X.prog X.w) X.A X.env xe → Ss (X.tr pn xe) ⟨W, Γ.ps, Γ.H0, ρE', Γ.cl⟩ ρ body mb ρn ρg rt)
    (m : DMix X Γ ρE' ρn ρg rt (h₀ :: hds) l) : S1 X Γ ρ (.Try body (h₀ :: hds) [] [] pos) (tryX mb l) ρn ρg rt := by
  obtain ⟨cl, mo, w⟩ := m.go hw
  refine PS.imp (L2N.ps_try_mix (tb := fun W => tS X.K ⟨W, Γ.ps, Γ.H0, ρE', Γ.cl⟩ ρ mb ρn ρg rt) (Wz := Γ.W) hst hfr tk (fun W pn xe tk po => hb W pn xe tk po) mo) fun D σ H hq => ?_
  obtain ⟨G, q⟩ := hq
  refine ⟨G, ?_⟩
  cases mb with
  | ok c =>
    have q : Post X.K Γ ρn ρg rt D H c := q
    cases c with
    | nx b => exact q
    | rt r => exact q
    | bk b => exact q
    | ct b => exact q
  | bad => exact q.elim
  | err c as =>
    intro C d σ' H' g l' ea
    obtain ⟨A, fl, ecl, rfl, ef⟩ := ea
    exact w D H c as A fl d σ' H' ecl ef g l' q
end
end DL

set_option Elab.async false
set_option linter.all false
namespace DL
/-! ### mirrors, reasoned about -/
section
variable {α β γ δ R : Type}
theorem forR_cons (body : α → γ → Res (Ctl γ γ R)) (x : α) (xs : List α) (g : γ) : forR (δ := δ) body (x :: xs) g = (body x g >>= fun c => match c with
  | .nx g' => forR body xs g'
  | .ct g' => forR body xs g'
  | .bk g' => .ok (.nx g')
  | .rt r => .ok (.rt r)) := rfl
/-- a loop by an invariant on the number of turns; it runs through or returns -/
theorem forR_inv {body : α → γ → Res (Ctl γ γ R)} (I : Nat → γ → Prop) (P : R → Prop) : ∀ (xs : List α) (n : Nat) (g : γ), I n g →
    (∀ (i : Nat) x g, xs[i]? = some x → I (n + i) g → (∃ g', (body x g = .ok (.nx g') ∨ body x g = .ok (.ct g')) ∧ I (n + i + 1) g') ∨ ∃ r, body x g = .ok (.rt r) ∧ P r) →
    (∃ g', forR (δ := δ) body xs g = .ok (.nx g') ∧ I (n + xs.length) g') ∨ ∃ r, forR (δ := δ) body xs g = .ok (.rt r) ∧ P r
  | [], n, g, h, _ => .inl ⟨g, rfl, h⟩
  | x :: xs, n, g, h, hs => by
    have next : ∀ g', I (n + 1) g' → (∃ g2, forR (δ := δ) body xs g' = .ok (.nx g2) ∧ I (n + (x :: xs).length) g2) ∨ ∃ r, forR (δ := δ) body xs g' = .ok (.rt r) ∧ P r := fun g' h' => by
      have q := forR_inv I P xs (n + 1) g' h' fun i y g2 e h2 => by
        have := hs (i + 1) y g2 e (by rw [show n + (i + 1) = n + 1 + i from by omega]; exact h2)
        rwa [show n + (i + 1) + 1 = n + 1 + i + 1 from by omega] at this
      rwa [show n + 1 + xs.length = n + (x :: xs).length from by rw [List.length_cons]; omega] at q
    rcases hs 0 x g rfl h with ⟨g', e | e, h'⟩ | ⟨r, e, hr⟩
    · have e2 : forR (δ := δ) body (x :: xs) g = forR body xs g' := by rw [forR_cons, e]; rfl
      rw [e2]; exact next g' h'
    · have e2 : forR (δ := δ) body (x :: xs) g = forR body xs g' := by rw [forR_cons, e]; rfl
      rw [e2]; exact next g' h'
    · exact .inr ⟨r, by rw [forR_cons, e]; rfl, hr⟩
theorem forR_fold {body : α → γ → Res (Ctl γ γ R)} (h : γ → α → γ) : ∀ (xs : List α) (g : γ), (∀ x ∈ xs, ∀ g, body x g = .ok (.nx (h g x))) → forR (δ := δ) body xs g = .ok (.nx (xs.foldl h g))
  | [], g, _ => rfl
  | x :: xs, g, hb => by
    have e2 : forR (δ := δ) body (x :: xs) g = forR body xs (h g x) := by rw [forR_cons, hb x List.mem_cons_self g]; rfl
    rw [e2, forR_fold h xs (h g x) fun y hy => hb y (List.mem_cons_of_mem _ hy)]
    rfl
theorem mapR_ok (h : α → β) {f : α → Res β} : ∀ {xs : List α}, (∀ x ∈ xs, f x = .ok (h x)) → mapR f xs = .ok (xs.map h)
  | [], _ => rfl
  | x :: xs, hf => by
    unfold mapR
    rw [hf x List.mem_cons_self, mapR_ok h fun y hy => hf y (List.mem_cons_of_mem _ hy)]
    rfl
theorem filtR_ok (p : α → Bool) (h : α → β) {t : α → Res Bool} {f : α → Res β} : ∀ {xs : List α}, (∀ x ∈ xs, t x = .ok (p x)) → (∀ x ∈ xs, p x = true → f x = .ok (h x)) → filtR t f xs = .ok ((xs.filter p).map h)
  | [], _, _ => rfl
  | x :: xs, ht, hf => by
    have ih := filtR_ok p h (xs := xs) (fun y hy => ht y (List.mem_cons_of_mem _ hy)) fun y hy => hf y (List.mem_cons_of_mem _ hy)
    unfold filtR
    rw [ht x List.mem_cons_self, ih]
    cases e : p x with
    | true => rw [hf x List.mem_cons_self e, List.filter_cons_of_pos e]; rfl
    | false => rw [List.filter_cons_of_neg (by rw [e]; decide)]; rfl
end
end DL

set_option Elab.async false
set_option linter.all false
namespace DL
open L2
/-! ### mirrors in plain form: the first steps and the sizes -/
theorem sbind_def {S α β : Type} (m : S → Res (α × S)) (f : α → S → Res (β × S)) : sbind m f = fun s => m s >>= fun r => f r.1 r.2 := rfl
theorem ite_app {c : Prop} [Decidable c] {S β : Type} (f g : S → β) (s : S) : (if c then f else g) s = if c then f s else g s := by split <;> rfl
section
variable {α β γ δ R S : Type}
theorem rangeO_ok {a b : Int} (h1 : -1000000 ≤ a) (h2 : a ≤ 1000000) (h3 : -1000000 ≤ b) (h4 : b ≤ 1000000) : ofOpt (rangeO a b) = .ok (rangeL a b) := by
  unfold rangeO; rw [chk_pos ⟨by omega, by omega, by omega, by omega, by omega⟩]; rfl
theorem downO_ok {a b : Int} (h1 : -1000000 ≤ a) (h2 : a ≤ 1000000) (h3 : -1000000 ≤ b) (h4 : b ≤ 1000000) : ofOpt (downO a b) = .ok (downL a b) := by
  unfold downO; rw [chk_pos ⟨by omega, by omega, by omega, by omega, by omega⟩]; rfl
theorem rangeL_nil {a b : Int} (h : b ≤ a) : rangeL a b = [] := by
  unfold rangeL; rw [show (b - a).toNat = 0 from by omega]; rfl
theorem rangeL_cons {a b : Int} (h : a < b) : rangeL a b = a :: rangeL (a + 1) b := by
  unfold rangeL
  obtain ⟨n, e⟩ : ∃ n, (b - a).toNat = n + 1 := ⟨(b - a).toNat - 1, by omega⟩
  rw [e, show (b - (a + 1)).toNat = n from by omega, List.range_succ_eq_map, List.map_cons, List.map_map]
  congr 1
  · omega
  · apply List.map_congr_left; intro i _; show a + ((i + 1 : Nat) : Int) = _; omega
theorem rangeL_snoc {a b : Int} (h : a ≤ b) : rangeL a (b + 1) = rangeL a b ++ [b] := by
  unfold rangeL
  rw [show (b + 1 - a).toNat = (b - a).toNat + 1 from by omega, List.range_succ, List.map_append]
  congr 1
  simp; omega
theorem mem_rangeL {a b x : Int} : x ∈ rangeL a b ↔ a ≤ x ∧ x < b := by
  unfold rangeL
  rw [List.mem_map]
  constructor
  · rintro ⟨i, h, rfl⟩; have := List.mem_range.mp h; omega
  · rintro ⟨h1, h2⟩; exact ⟨(x - a).toNat, List.mem_range.mpr (by omega), by omega⟩
theorem ixN_pos {n : Nat} {i : Int} (h1 : 0 ≤ i) (h2 : i < n) : ixN n i = some i.toNat := by
  unfold ixN; rw [if_pos h1, if_pos h2]
theorem atI_get {xs : List α} {i : Int} {j : Nat} {a : α} (h : i = j) (e : xs[j]? = some a) : ofOpt (atI xs i) = .ok a := by
  obtain ⟨h2, _⟩ := List.getElem?_eq_some_iff.mp e
  unfold atI
  rw [ixN_pos (by omega) (by omega), Option.bind_some, show i.toNat = j from by omega, e]; rfl
theorem atI_mid {p r : List α} {x : α} {i : Int} (h : i = p.length) : ofOpt (atI (p ++ x :: r) i) = .ok x := atI_get h (by simp)
theorem atI_mid2 {p r : List α} {x y : α} {i : Int} (h : i = p.length + 1) : ofOpt (atI (p ++ x :: y :: r) i) = .ok y := atI_get (j := p.length + 1) (by omega) (by simp)
theorem atI_ok (d : α) {xs : List α} {i : Int} (h : 0 ≤ i) (h2 : i < xs.length) : ofOpt (atI xs i) = .ok (xs.getD i.toNat d) := by
  refine atI_get (j := i.toNat) (by omega) ?_
  rw [List.getD_eq_getElem?_getD, List.getElem?_eq_getElem (by omega)]; rfl
theorem setO_ok {xs : List α} {i : Int} {a : α} (h : 0 ≤ i) (h2 : i < xs.length) : ofOpt (setO xs i a) = .ok (xs.set i.toNat a) := by
  unfold setO; rw [ixN_pos h h2]; rfl
theorem setO_mid {p r : List α} {x a : α} {i : Int} (h : i = p.length) : ofOpt (setO (p ++ x :: r) i a) = .ok (p ++ a :: r) := by
  rw [setO_ok (by omega) (by simp; omega), show i.toNat = p.length from by omega]; simp
theorem setO_mid2 {p r : List α} {x y a : α} {i : Int} (h : i = p.length + 1) : ofOpt (setO (p ++ x :: y :: r) i a) = .ok (p ++ x :: a :: r) := by
  rw [setO_ok (by omega) (by simp; omega), show i.toNat = p.length + 1 from by omega]; simp
theorem insO_ok {xs : List α} {i : Int} {a : α} (h : (xs.length : Int) ≤ 1000000) (h1 : 0 ≤ i) (h2 : i ≤ 1000000) : ofOpt (insO xs i a) = .ok (xs.take i.toNat ++ [a] ++ xs.drop i.toNat) := by
  unfold insO; rw [chk_pos ⟨by omega, by omega, by omega⟩]; rfl
theorem appO_ok {xs : List α} {a : α} (h : (xs.length : Int) ≤ 1000000) : ofOpt (appO xs a) = .ok (xs ++ [a]) := by
  unfold appO; rw [chk_pos (by omega)]; rfl
theorem extO_ok {xs ys : List α} (h : (xs.length : Int) ≤ 1000000) (h2 : (ys.length : Int) ≤ 1000000) : ofOpt (extO xs ys) = .ok (xs ++ ys) := by
  unfold extO; rw [chk_pos (by omega)]; rfl
theorem catO_ok {xs ys : List α} (h : (xs.length : Int) ≤ 1000000) (h2 : (ys.length : Int) ≤ 1000000) : ofOpt (catO xs ys) = .ok (xs ++ ys) := by
  unfold catO; rw [chk_pos (by show _ ≤ 2 ^ 24; omega)]; rfl
theorem mulO_ok {i j : Int} (h1 : -1000000000000 ≤ i) (h2 : i ≤ 1000000000000) : ofOpt (mulO i j) = .ok (i * j) := by
  unfold mulO; rw [chk_pos (.inl ⟨by omega, by omega⟩)]; rfl
theorem mulO_ok2 {i j : Int} (h1 : -1000000000000 ≤ j) (h2 : j ≤ 1000000000000) : ofOpt (mulO i j) = .ok (i * j) := by
  unfold mulO; rw [chk_pos (.inr ⟨by omega, by omega⟩)]; rfl
theorem divO_ok {i j : Int} (h1 : 0 < j) (h2 : j ≤ 1000000000) : ofOpt (divO i j) = .ok (i / j) := by
  unfold divO; rw [chk_pos ⟨by omega, by omega⟩]; rfl
theorem modO_ok {i j : Int} (h1 : 0 < j) : ofOpt (modO i j) = .ok (i % j) := by
  unfold modO; rw [chk_pos h1]; rfl
theorem indexO_ok [DecidableEq α] {xs : List α} {x : α} (h : x ∈ xs) : ofOpt (indexO xs x) = .ok ((xs.idxOf x : Nat) : Int) := by
  unfold indexO; rw [if_pos h]; rfl
theorem cutL_to {xs : List α} {j : Int} (h : 0 ≤ j) : cutL xs none (some j) = xs.take j.toNat := by
  unfold cutL
  rw [show j = (j.toNat : Int) from by omega, HT.sIx_nat, HT.sIx_none, List.drop_zero, Nat.sub_zero]
  rw [List.take_eq_take_iff]; simp; omega
theorem cutL_from {xs : List α} {i : Int} (h : 0 ≤ i) : cutL xs (some i) none = xs.drop i.toNat := by
  unfold cutL
  rw [show i = (i.toNat : Int) from by omega, HT.sIx_nat, HT.sIx_none, Int.toNat_natCast, List.take_of_length_le (by simp)]
  by_cases q : i.toNat ≤ xs.length
  · rw [Nat.min_eq_left q]
  · rw [List.drop_eq_nil_of_le (by omega), List.drop_eq_nil_of_le (by omega)]
theorem compS_ok (p : α → Bool) (h : α → β) {t : α → S → Res (Bool × S)} {f : α → S → Res (β × S)} {s : S} : ∀ {xs : List α}, (∀ x ∈ xs, t x s = .ok (p x, s)) → (∀ x ∈ xs, p x = true → f x s = .ok (h x, s)) → compS t f xs s = .ok ((xs.filter p).map h, s)
  | [], _, _ => rfl
  | x :: xs, ht, hf => by
    have ih := compS_ok p h (xs := xs) (fun y hy => ht y (List.mem_cons_of_mem _ hy)) fun y hy => hf y (List.mem_cons_of_mem _ hy)
    unfold compS
    rw [ht x List.mem_cons_self]
    cases e : p x with
    | true =>
      have e2 := hf x List.mem_cons_self e
      rw [List.filter_cons_of_pos e]
      simp only [nb_ok, Res.ok_bind, if_true, e2, ih, List.map_cons]
    | false =>
      rw [List.filter_cons_of_neg (by rw [e]; decide)]
      simp only [nb_ok, Res.ok_bind, ih]
      rfl
theorem compS_okM (h : α → β) {f : α → S → Res (β × S)} {s : S} {xs : List α} (hf : ∀ x ∈ xs, f x s = .ok (h x, s)) : compS (fun _ => spure true) f xs s = .ok (xs.map h, s) := by
  have := compS_ok (fun _ => true) h (t := fun _ => spure true) (f := f) (s := s) (xs := xs) (fun _ _ => rfl) fun x hx _ => hf x hx
  rwa [List.filter_eq_self.mpr fun _ _ => rfl] at this
theorem compS_inv (I : S → Prop) (P : β → Prop) {f : α → S → Res (β × S)} : ∀ (xs : List α) (s : S), I s → (∀ x ∈ xs, ∀ s, I s → ∃ b s', f x s = .ok (b, s') ∧ P b ∧ I s') → ∃ ys s', compS (fun _ => spure true) f xs s = .ok (ys, s') ∧ ys.length = xs.length ∧ (∀ y ∈ ys, P y) ∧ I s'
  | [], s, h, _ => ⟨[], s, rfl, rfl, (fun _ h => absurd h List.not_mem_nil), h⟩
  | x :: xs, s, h, hf => by
    obtain ⟨b, s1, e1, p1, i1⟩ := hf x List.mem_cons_self s h
    obtain ⟨ys, s2, e2, l2, p2, i2⟩ := compS_inv I P xs s1 i1 fun y hy => hf y (List.mem_cons_of_mem _ hy)
    refine ⟨b :: ys, s2, ?_, congrArg (· + 1) l2, ?_, i2⟩
    · unfold compS
      show nb (.ok (true, s)) >>= _ = _
      simp only [nb_ok, Res.ok_bind, if_true, e1, e2]
    · intro y hy
      rcases List.mem_cons.mp hy with rfl | hy
      · exact p1
      · exact p2 y hy
theorem drawR_ok {many : Int} {f : Fd} (h1 : 0 < many) (h2 : many < 1000000000) (hf : f.Ok) : ∃ x f', drawR many f = .ok (x, f') ∧ 0 ≤ x ∧ x < many ∧ f'.Ok := by
  obtain ⟨q1, q2, q3⟩ := drw_ok hf h1
  exact ⟨(drw many f).1, (drw many f).2, by unfold drawR; rw [if_pos ⟨h1, by omega, hf⟩], q1, q2, q3⟩
theorem fd0_ok (script : List Int) : (⟨script, 0, 0, 1⟩ : Fd).Ok := ⟨by show (0 : Int) ≤ 0; decide, by show (0 : Int) ≤ 1; decide, by show (1 : Int) < 2147483647; decide⟩
theorem isort_eq {xs ys : List Int} (p : xs.Perm ys) (h : ys.Pairwise (· ≤ ·)) : isort xs = ys := sorted_unique ((isort_perm xs).trans p) (isort_pw xs) h
theorem isort_fix {xs : List Int} : xs = isort xs ↔ xs.Pairwise (· ≤ ·) := ⟨fun e => e ▸ isort_pw xs, fun h => (isort_eq (List.Perm.refl _) h).symm⟩
end
end DL

set_option Elab.async false
set_option linter.all false
namespace DL
/-! ### what a mirror answers, step by step -/
def Okp {α : Type} (m : Res α) (Q : α → Prop) : Prop := ∃ a, m = .ok a ∧ Q a
/-- what is asked of each way out -/
def Cq {β γ R : Type} (n : β → Prop) (b c : γ → Prop) (r : R → Prop) : Ctl β γ R → Prop
  | .nx x => n x
  | .bk x => b x
  | .ct x => c x
  | .rt x => r x
section
variable {α β γ δ R S : Type} {n : β → Prop} {n' : δ → Prop} {b c : γ → Prop} {r : R → Prop}
theorem Okp.eq {m : Res α} {a : α} (h : Okp m (· = a)) : m = .ok a := by obtain ⟨x, e, rfl⟩ := h; exact e
theorem Okp.of {m : Res α} {a : α} {Q : α → Prop} (h : m = .ok a) (q : Q a) : Okp m Q := ⟨a, h, q⟩
theorem Okp.mono {m : Res α} {P Q : α → Prop} (h : Okp m P) (i : ∀ a, P a → Q a) : Okp m Q := by obtain ⟨x, e, p⟩ := h; exact ⟨x, e, i x p⟩
theorem okp_pure {a : α} {Q : α → Prop} (q : Q a) : Okp (.ok a) Q := ⟨a, rfl, q⟩
theorem okp_nx {x : β} (q : n x) : Okp (.ok (.nx x)) (Cq n b c r) := ⟨_, rfl, q⟩
theorem okp_bk {x : γ} (q : b x) : Okp (.ok (.bk x)) (Cq n b c r) := ⟨_, rfl, q⟩
theorem okp_ct {x : γ} (q : c x) : Okp (.ok (.ct x)) (Cq n b c r) := ⟨_, rfl, q⟩
theorem okp_rt {x : R} (q : r x) : Okp (.ok (.rt x)) (Cq n b c r) := ⟨_, rfl, q⟩
theorem okp_bind {m : Res α} {f : α → Res β} {Q : β → Prop} (a : α) (h : m = .ok a) (q : Okp (f a) Q) : Okp (m >>= f) Q := by rw [h]; exact q
theorem okp_bindP {m : Res α} {f : α → Res β} {P : α → Prop} {Q : β → Prop} (h : Okp m P) (q : ∀ a, P a → Okp (f a) Q) : Okp (m >>= f) Q := by obtain ⟨x, e, p⟩ := h; rw [e]; exact q x p
theorem okp_sseq {m : Res (α × S)} {k : α → S → Res β} {Q : β → Prop} (a : α) {s : S} (h : m = .ok (a, s)) (q : Okp (k a s) Q) : Okp (sseq m k) Q := by rw [h]; exact q
theorem okp_sseqP {m : Res (α × S)} {k : α → S → Res β} {Q : β → Prop} (P : α → S → Prop) (h : Okp m fun x => P x.1 x.2) (q : ∀ a s, P a s → Okp (k a s) Q) : Okp (sseq m k) Q := by obtain ⟨⟨x, s⟩, e, p⟩ := h; rw [e]; exact q x s p
theorem okp_ite {p : Prop} [Decidable p] {x y : Res α} {Q : α → Prop} (h1 : p → Okp x Q) (h2 : ¬p → Okp y Q) : Okp (if p then x else y) Q := by
  split
  · next h => exact h1 h
  · next h => exact h2 h
theorem okp_seqC {m : Res (Ctl β γ R)} {k : β → Res (Ctl δ γ R)} (h : Okp m (Cq (fun x => Okp (k x) (Cq n' b c r)) b c r)) : Okp (seqC m k) (Cq n' b c r) := by
  obtain ⟨x, e, p⟩ := h
  rw [e]
  cases x with
  | nx x => exact p
  | bk x => exact ⟨_, rfl, p⟩
  | ct x => exact ⟨_, rfl, p⟩
  | rt x => exact ⟨_, rfl, p⟩
theorem okp_seqCP {m : Res (Ctl β γ R)} {k : β → Res (Ctl δ γ R)} {P : β → Prop} (h : Okp m (Cq P b c r)) (hk : ∀ x, P x → Okp (k x) (Cq n' b c r)) : Okp (seqC m k) (Cq n' b c r) := by
  obtain ⟨x, e, p⟩ := h
  rw [e]
  cases x with
  | nx x => exact hk x p
  | bk x => exact ⟨_, rfl, p⟩
  | ct x => exact ⟨_, rfl, p⟩
  | rt x => exact ⟨_, rfl, p⟩
theorem okp_exitC {m : Res (Ctl Empty γ R)} {e : Empty → Prop} (h : Okp m (Cq e b c r)) : Okp (exitC m) (Cq n b c r) := by
  obtain ⟨x, e, p⟩ := h
  rw [e]
  cases x with
  | nx x => exact nomatch x
  | bk x => exact ⟨_, rfl, p⟩
  | ct x => exact ⟨_, rfl, p⟩
  | rt x => exact ⟨_, rfl, p⟩
theorem okp_fn {m : Res (Ctl Empty Empty R)} (h : Okp m (Cq (fun _ => True) (fun _ => True) (fun _ => True) r)) : Okp (fnE m) r := by
  obtain ⟨x, e, p⟩ := h
  rw [e]
  cases x with
  | nx x => exact nomatch x
  | bk x => exact nomatch x
  | ct x => exact nomatch x
  | rt x => exact ⟨_, rfl, p⟩
theorem okp_for {body : α → γ → Res (Ctl γ γ R)} {xs : List α} {g : γ} {b c : δ → Prop} (I : Nat → γ → Prop) {N : γ → Prop} (h0 : I 0 g)
    (hs : ∀ i x g, xs[i]? = some x → I i g → Okp (body x g) (Cq (I (i + 1)) N (I (i + 1)) r)) (hN : ∀ g, I xs.length g → N g) : Okp (forR (δ := δ) body xs g) (Cq N b c r) := by
  have key : ∀ (ys : List α) (k : Nat) (g : γ), xs.drop k = ys → k + ys.length = xs.length → I k g → Okp (forR (δ := δ) body ys g) (Cq N b c r) := by
    intro ys
    induction ys with
    | nil => intro k g _ hl h; exact okp_nx (hN g (by rw [show xs.length = k from by simpa using hl.symm]; exact h))
    | cons x ys ih =>
      intro k g e hl h
      have hx : xs[k]? = some x := by
        have := List.getElem?_drop (xs := xs) (i := k) (j := 0)
        rw [e] at this; simpa using this.symm
      have e2 : xs.drop (k + 1) = ys := by rw [← List.drop_drop, e]; rfl
      have hl2 : k + 1 + ys.length = xs.length := by rw [List.length_cons] at hl; omega
      obtain ⟨y, ey, q⟩ := hs k x g hx h
      rw [forR_cons, ey]
      cases y with
      | nx g' => exact ih (k + 1) g' e2 hl2 q
      | ct g' => exact ih (k + 1) g' e2 hl2 q
      | bk g' => exact okp_nx q
      | rt v => exact okp_rt q
  exact key xs 0 g rfl (by omega) h0
end
end DL

set_option linter.all false
/-! bubble passes, in plain Lean -/
namespace Bub
def bub (m : Int) : List Int → List Int
  | [] => [m]
  | y :: r => if y < m then y :: bub m r else m :: bub y r
def pass : List Int → List Int
  | [] => []
  | x :: r => bub x r
/-- for each item: how many before it are greater -/
def lc (pre : List Int) : List Int → List Nat
  | [] => []
  | x :: r => pre.countP (fun z => decide (x < z)) :: lc (pre ++ [x]) r
theorem lc_length : ∀ (pre r : List Int), (lc pre r).length = r.length
  | _, [] => rfl
  | pre, x :: r => congrArg (· + 1) (lc_length _ r)
theorem lc_perm : ∀ {p q : List Int} (r : List Int), p.Perm q → lc p r = lc q r
  | _, _, [], _ => rfl
  | p, q, x :: r, h => by
    unfold lc
    rw [h.countP_eq, lc_perm r (h.append_right [x])]
theorem bub_perm : ∀ (m : Int) (r : List Int), (bub m r).Perm (m :: r)
  | _, [] => List.Perm.refl _
  | m, y :: r => by
    unfold bub
    split
    · exact ((bub_perm m r).cons y).trans (List.Perm.swap m y r)
    · exact (bub_perm y r).cons m
theorem pass_perm : ∀ row : List Int, (pass row).Perm row
  | [] => List.Perm.refl _
  | x :: r => bub_perm x r
/-- one pass takes one from each count, and moves it one place to the left -/
theorem lc_bub : ∀ (r pre : List Int) (m : Int), (∀ z ∈ pre, z ≤ m) → lc pre (bub m r) = (lc (pre ++ [m]) r).map (· - 1) ++ [0]
  | [], pre, m, h => by
    have e : pre.countP (fun z => decide (m < z)) = 0 := List.countP_eq_zero.mpr fun z hz => by have := h z hz; simp; omega
    simp [bub, lc, e]
  | y :: r, pre, m, h => by
    unfold bub
    by_cases hy : y < m
    · rw [if_pos hy]
      have ih := lc_bub r (pre ++ [y]) m fun z hz => by
        rcases List.mem_append.mp hz with q | q
        · exact h z q
        · rw [List.mem_singleton.mp q]; omega
      have hp : (pre ++ [y] ++ [m]).Perm (pre ++ [m] ++ [y]) := by
        rw [List.append_assoc, List.append_assoc]
        exact List.Perm.append_left pre (List.Perm.swap m y [])
      have e : (pre ++ [m]).countP (fun z => decide (y < z)) = pre.countP (fun z => decide (y < z)) + 1 := by
        rw [List.countP_append]; simp [hy]
      show pre.countP _ :: lc (pre ++ [y]) (bub m r) = _
      rw [ih, lc_perm r hp]
      show _ = ((pre ++ [m]).countP (fun z => decide (y < z)) :: lc (pre ++ [m] ++ [y]) r).map (· - 1) ++ [0]
      rw [e]; simp
    · rw [if_neg hy]
      have ih := lc_bub r (pre ++ [m]) y fun z hz => by
        rcases List.mem_append.mp hz with q | q
        · have := h z q; omega
        · rw [List.mem_singleton.mp q]; omega
      have e1 : pre.countP (fun z => decide (m < z)) = 0 := List.countP_eq_zero.mpr fun z hz => by have := h z hz; simp; omega
      have e2 : (pre ++ [m]).countP (fun z => decide (y < z)) = 0 := List.countP_eq_zero.mpr fun z hz => by
        rcases List.mem_append.mp hz with q | q
        · have := h z q; simp; omega
        · rw [List.mem_singleton.mp q]; simp; omega
      show pre.countP _ :: lc (pre ++ [m]) (bub y r) = _
      rw [ih, e1]
      show _ = ((pre ++ [m]).countP (fun z => decide (y < z)) :: lc (pre ++ [m] ++ [y]) r).map (· - 1) ++ [0]
      rw [e2]; simp
theorem lc_pass (x : Int) (r : List Int) : lc [] (pass (x :: r)) = (lc [] (x :: r)).tail.map (· - 1) ++ [0] := by
  show lc [] (bub x r) = (lc ([] ++ [x]) r).map (· - 1) ++ [0]
  exact lc_bub r [] x fun z hz => by cases hz
/-- the greatest of them -/
def mx (l : List Nat) : Nat := l.foldr max 0
theorem mx_zero {l : List Nat} : mx l = 0 ↔ ∀ x ∈ l, x = 0 := by
  induction l with
  | nil => simp [mx]
  | cons a l ih =>
    show max a (mx l) = 0 ↔ _
    rw [Nat.max_eq_zero_iff, ih]
    simp
theorem mx_map : ∀ l : List Nat, mx (l.map (· - 1)) = mx l - 1
  | [] => rfl
  | a :: l => by
    show max (a - 1) (mx (l.map (· - 1))) = max a (mx l) - 1
    rw [mx_map l]; omega
theorem mx_app : ∀ l k : List Nat, mx (l ++ k) = max (mx l) (mx k)
  | [], k => by simp [mx]
  | a :: l, k => by
    show max a (mx (l ++ k)) = max (max a (mx l)) (mx k)
    rw [mx_app l k]; omega
theorem mx_pass : ∀ row : List Int, mx (lc [] (pass row)) = mx (lc [] row) - 1
  | [] => rfl
  | x :: r => by
    rw [lc_pass, mx_app, mx_map]
    show max (mx (lc ([] ++ [x]) r) - 1) (max 0 0) = max 0 (mx (lc ([] ++ [x]) r)) - 1
    omega
theorem lc_le : ∀ (pre r : List Int), ∀ c ∈ lc pre r, c ≤ pre.length + r.length - 1
  | pre, [], c, h => by cases h
  | pre, x :: r, c, h => by
    rcases List.mem_cons.mp h with e | h
    · have := List.countP_le_length (p := fun z => decide (x < z)) (l := pre)
      rw [e, List.length_cons]; omega
    · have := lc_le (pre ++ [x]) r c h
      rw [List.length_append, List.length_singleton] at this
      rw [List.length_cons]; omega
/-- no counts: sorted -/
theorem lc_sorted : ∀ (pre r : List Int), pre.Pairwise (· ≤ ·) → ((∀ c ∈ lc pre r, c = 0) ↔ (pre ++ r).Pairwise (· ≤ ·))
  | pre, [], h => by simp [lc, h]
  | pre, x :: r, h => by
    have key : pre.countP (fun z => decide (x < z)) = 0 ↔ (pre ++ [x]).Pairwise (· ≤ ·) := by
      rw [List.countP_eq_zero, List.pairwise_append]
      constructor
      · intro q
        refine ⟨h, List.pairwise_singleton _ _, fun a ha b hb => ?_⟩
        rw [List.mem_singleton.mp hb]
        have := q a ha
        simp at this; exact this
      · rintro ⟨_, _, q⟩ z hz
        have := q z hz x (List.mem_singleton.mpr rfl)
        simp; exact this
    have e : pre ++ x :: r = (pre ++ [x]) ++ r := by simp
    constructor
    · intro q
      have q0 := key.mp (q _ List.mem_cons_self)
      rw [e]
      exact (lc_sorted (pre ++ [x]) r q0).mp fun c hc => q c (List.mem_cons_of_mem _ hc)
    · intro q c hc
      rw [e] at q
      have q0 : (pre ++ [x]).Pairwise (· ≤ ·) := (List.pairwise_append.mp q).1
      rcases List.mem_cons.mp hc with e1 | hc
      · rw [e1]; exact key.mpr q0
      · exact (lc_sorted (pre ++ [x]) r q0).mpr q c hc
theorem sorted_iff (row : List Int) : row.Pairwise (· ≤ ·) ↔ mx (lc [] row) = 0 := by
  rw [mx_zero, lc_sorted [] row List.Pairwise.nil]
  rfl
def passes : Nat → List Int → List Int
  | 0, row => row
  | k + 1, row => passes k (pass row)
theorem mx_passes : ∀ (k : Nat) (row : List Int), mx (lc [] (passes k row)) = mx (lc [] row) - k
  | 0, _ => rfl
  | k + 1, row => by
    show mx (lc [] (passes k (pass row))) = _
    rw [mx_passes k, mx_pass]; omega
/-- after k passes it is sorted just when no count is above k -/
theorem passes_sorted (k : Nat) (row : List Int) : (passes k row).Pairwise (· ≤ ·) ↔ mx (lc [] row) ≤ k := by
  rw [sorted_iff, mx_passes]; omega
/-! ### the word of a pass -/
def bubw (i : Nat) (m : Int) : List Int → List Nat
  | [] => []
  | y :: r => if y < m then i :: bubw (i + 1) m r else bubw (i + 1) y r
def word1 : List Int → List Nat
  | [] => []
  | x :: r => bubw 1 x r
/-- the items at places k - 1 and k exchanged -/
def sw (k : Nat) (row : List Int) : List Int := match row.drop (k - 1) with
  | a :: b :: r => row.take (k - 1) ++ b :: a :: r
  | _ => row
theorem sw_at (p r : List Int) (a b : Int) : sw (p.length + 1) (p ++ a :: b :: r) = p ++ b :: a :: r := by
  unfold sw
  rw [Nat.add_sub_cancel, List.drop_left, List.take_left]
def app (w : List Nat) (row : List Int) : List Int := w.foldl (fun row k => sw k row) row
theorem app_cons (k : Nat) (w : List Nat) (row : List Int) : app (k :: w) row = app w (sw k row) := rfl
theorem app_app (v w : List Nat) (row : List Int) : app (v ++ w) row = app w (app v row) := List.foldl_append
theorem app_bub : ∀ (r p : List Int) (m : Int), app (bubw (p.length + 1) m r) (p ++ m :: r) = p ++ bub m r
  | [], p, m => rfl
  | y :: r, p, m => by
    unfold bubw bub
    by_cases h : y < m
    · rw [if_pos h, if_pos h, app_cons, sw_at]
      have e := app_bub r (p ++ [y]) m
      rw [List.length_append, List.length_singleton, List.append_assoc, List.append_assoc] at e
      exact e
    · rw [if_neg h, if_neg h]
      have e := app_bub r (p ++ [m]) y
      rw [List.length_append, List.length_singleton, List.append_assoc, List.append_assoc] at e
      exact e
theorem app_word1 : ∀ row : List Int, app (word1 row) row = pass row
  | [] => rfl
  | x :: r => app_bub r [] x
/-- how many members: as many as there are counts above 0 -/
theorem bubw_len : ∀ (r pre : List Int) (i : Nat) (m : Int), (∀ z ∈ pre, z ≤ m) → (bubw i m r).length = (lc (pre ++ [m]) r).countP (0 < ·)
  | [], _, _, _, _ => rfl
  | y :: r, pre, i, m, h => by
    show _ = ((pre ++ [m]).countP (fun z => decide (y < z)) :: lc (pre ++ [m] ++ [y]) r).countP (0 < ·)
    unfold bubw
    by_cases hy : y < m
    · have e : (pre ++ [m]).countP (fun z => decide (y < z)) = pre.countP (fun z => decide (y < z)) + 1 := by
        rw [List.countP_append]; simp [hy]
      have hp : (pre ++ [y] ++ [m]).Perm (pre ++ [m] ++ [y]) := by
        rw [List.append_assoc, List.append_assoc]
        exact List.Perm.append_left pre (List.Perm.swap m y [])
      have ih := bubw_len r (pre ++ [y]) (i + 1) m fun z hz => by
        rcases List.mem_append.mp hz with q | q
        · exact h z q
        · rw [List.mem_singleton.mp q]; omega
      rw [lc_perm r hp] at ih
      rw [if_pos hy, e, List.length_cons, ih, List.countP_cons_of_pos (by simp)]
    · have e2 : (pre ++ [m]).countP (fun z => decide (y < z)) = 0 := List.countP_eq_zero.mpr fun z hz => by
        rcases List.mem_append.mp hz with q | q
        · have := h z q; simp; omega
        · rw [List.mem_singleton.mp q]; simp; omega
      have ih := bubw_len r (pre ++ [m]) (i + 1) y fun z hz => by
        rcases List.mem_append.mp hz with q | q
        · have := h z q; omega
        · rw [List.mem_singleton.mp q]; omega
      rw [if_neg hy, e2, ih, List.countP_cons_of_neg (by simp)]
theorem sum_pred : ∀ l : List Nat, (l.map (· - 1)).sum + l.countP (0 < ·) = l.sum
  | [] => rfl
  | a :: l => by
    have ih := sum_pred l
    rw [List.map_cons, List.sum_cons, List.sum_cons, List.countP_cons]
    by_cases h : 0 < a
    · simp [h]; omega
    · simp [h]; omega
theorem word1_sum : ∀ row : List Int, (lc [] (pass row)).sum + (word1 row).length = (lc [] row).sum
  | [] => rfl
  | x :: r => by
    have h := bubw_len r [] 1 x fun z hz => by cases hz
    rw [lc_pass, List.sum_append]
    show ((lc ([] ++ [x]) r).map (· - 1)).sum + [0].sum + (bubw 1 x r).length = 0 + (lc ([] ++ [x]) r).sum
    rw [h]
    have := sum_pred (lc ([] ++ [x]) r)
    simp at *; omega
def words : Nat → List Int → List Nat
  | 0, _ => []
  | k + 1, row => word1 row ++ words k (pass row)
theorem app_words : ∀ (k : Nat) (row : List Int), app (words k row) row = passes k row
  | 0, _ => rfl
  | k + 1, row => by
    show app (word1 row ++ words k (pass row)) row = passes k (pass row)
    rw [app_app, app_word1, app_words k]
theorem words_sum : ∀ (k : Nat) (row : List Int), (lc [] (passes k row)).sum + (words k row).length = (lc [] row).sum
  | 0, _ => by simp [passes, words]
  | k + 1, row => by
    have h1 := words_sum k (pass row)
    have h2 := word1_sum row
    show (lc [] (passes k (pass row))).sum + (word1 row ++ words k (pass row)).length = _
    rw [List.length_append]; omega
theorem sw_len (k : Nat) (row : List Int) : (sw k row).length = row.length := by
  unfold sw
  split
  · next a b r h =>
    have := congrArg List.length h
    have e := List.length_drop (i := k - 1) (l := row)
    rw [List.length_append, List.length_take]
    simp at *; omega
  · rfl
theorem sw_sw {k : Nat} {row : List Int} (h1 : 1 ≤ k) (h2 : k < row.length) : sw k (sw k row) = row := by
  obtain ⟨p, a, b, r, rfl, hk⟩ : ∃ p a b r, row = p ++ a :: b :: r ∧ k = p.length + 1 := by
    refine ⟨row.take (k - 1), row[k - 1]'(by omega), row[k]'h2, row.drop (k + 1), ?_, ?_⟩
    · have e1 : row.drop (k - 1) = row[k - 1]'(by omega) :: row.drop (k - 1 + 1) := List.drop_eq_getElem_cons (by omega)
      have e2 : row.drop k = row[k]'h2 :: row.drop (k + 1) := List.drop_eq_getElem_cons h2
      rw [show k - 1 + 1 = k from by omega] at e1
      rw [← e2, ← e1, List.take_append_drop]
    · rw [List.length_take]; omega
  subst hk
  rw [sw_at, sw_at]
theorem app_rev : ∀ (w : List Nat) (row : List Int), (∀ k ∈ w, 1 ≤ k ∧ k < row.length) → app w.reverse (app w row) = row
  | [], _, _ => rfl
  | k :: w, row, h => by
    have hk := h k List.mem_cons_self
    rw [List.reverse_cons, app_cons, app_app, app_rev w (sw k row) fun j hj => by rw [sw_len]; exact h j (List.mem_cons_of_mem _ hj)]
    exact sw_sw hk.1 hk.2
end Bub

set_option Elab.async false
set_option linter.all false
/-! counts by jar, in plain Lean -/
namespace Bub
/-- how many before the jar j are greater -/
def cnt : List Int → Int → Nat
  | [], _ => 0
  | z :: r, j => if z = j then 0 else (if j < z then 1 else 0) + cnt r j
def lcp (pre : List Int) : List Int → List (Int × Nat)
  | [] => []
  | x :: r => (x, pre.countP (fun z => decide (x < z))) :: lcp (pre ++ [x]) r
def dec1 (p : Int × Nat) : Int × Nat := (p.1, p.2 - 1)
theorem lcp_perm : ∀ {p q : List Int} (r : List Int), p.Perm q → lcp p r = lcp q r
  | _, _, [], _ => rfl
  | p, q, x :: r, h => by
    unfold lcp
    rw [h.countP_eq, lcp_perm r (h.append_right [x])]
theorem lcp_snd : ∀ (pre r : List Int), (lcp pre r).map (·.2) = lc pre r
  | _, [] => rfl
  | pre, x :: r => by
    show _ :: (lcp (pre ++ [x]) r).map (·.2) = _ :: lc (pre ++ [x]) r
    rw [lcp_snd]
theorem lcp_bub : ∀ (r pre : List Int) (m : Int), (∀ z ∈ pre, z ≤ m) → (lcp pre (bub m r)).Perm ((m, 0) :: (lcp (pre ++ [m]) r).map dec1)
  | [], pre, m, h => by
    have e : pre.countP (fun z => decide (m < z)) = 0 := List.countP_eq_zero.mpr fun z hz => by have := h z hz; simp; omega
    simp [bub, lcp, e]
  | y :: r, pre, m, h => by
    unfold bub
    by_cases hy : y < m
    · rw [if_pos hy]
      have ih := lcp_bub r (pre ++ [y]) m fun z hz => by
        rcases List.mem_append.mp hz with q | q
        · exact h z q
        · rw [List.mem_singleton.mp q]; omega
      have hp : (pre ++ [y] ++ [m]).Perm (pre ++ [m] ++ [y]) := by
        rw [List.append_assoc, List.append_assoc]
        exact List.Perm.append_left pre (List.Perm.swap m y [])
      have e : (pre ++ [m]).countP (fun z => decide (y < z)) = pre.countP (fun z => decide (y < z)) + 1 := by
        rw [List.countP_append]; simp [hy]
      rw [lcp_perm r hp] at ih
      show ((y, pre.countP (fun z => decide (y < z))) :: lcp (pre ++ [y]) (bub m r)).Perm ((m, 0) :: (y, (pre ++ [m]).countP (fun z => decide (y < z)) - 1) :: (lcp (pre ++ [m] ++ [y]) r).map dec1)
      rw [e, Nat.add_sub_cancel]
      exact (ih.cons _).trans (List.Perm.swap _ _ _)
    · rw [if_neg hy]
      have ih := lcp_bub r (pre ++ [m]) y fun z hz => by
        rcases List.mem_append.mp hz with q | q
        · have := h z q; omega
        · rw [List.mem_singleton.mp q]; omega
      have e1 : pre.countP (fun z => decide (m < z)) = 0 := List.countP_eq_zero.mpr fun z hz => by have := h z hz; simp; omega
      have e2 : (pre ++ [m]).countP (fun z => decide (y < z)) = 0 := List.countP_eq_zero.mpr fun z hz => by
        rcases List.mem_append.mp hz with q | q
        · have := h z q; simp; omega
        · rw [List.mem_singleton.mp q]; simp; omega
      show ((m, pre.countP (fun z => decide (m < z))) :: lcp (pre ++ [m]) (bub y r)).Perm ((m, 0) :: (y, (pre ++ [m]).countP (fun z => decide (y < z)) - 1) :: (lcp (pre ++ [m] ++ [y]) r).map dec1)
      rw [e1, e2]
      exact ih.cons _
theorem lcp_pass : ∀ R : List Int, (lcp [] (pass R)).Perm ((lcp [] R).map dec1)
  | [] => List.Perm.refl _
  | x :: r => lcp_bub r [] x fun z hz => by cases hz
theorem lcp_eq : ∀ (pre R : List Int), R.Nodup → lcp pre R = R.map fun j => (j, pre.countP (fun z => decide (j < z)) + cnt R j)
  | _, [], _ => rfl
  | pre, x :: r, h => by
    have hx := (List.nodup_cons.mp h).1
    show (x, pre.countP (fun z => decide (x < z))) :: lcp (pre ++ [x]) r = (x, pre.countP (fun z => decide (x < z)) + cnt (x :: r) x) :: r.map _
    rw [lcp_eq (pre ++ [x]) r (List.nodup_cons.mp h).2]
    congr 1
    · simp [cnt]
    · apply List.map_congr_left
      intro j hj
      have : x ≠ j := fun e => hx (e ▸ hj)
      simp only [List.countP_append, cnt, if_neg this, List.countP_singleton]
      by_cases h : j < x <;> simp [h] <;> omega
theorem lc_cnt {R : List Int} (h : R.Nodup) : lc [] R = R.map (cnt R) := by
  rw [← lcp_snd, lcp_eq [] R h, List.map_map]
  apply List.map_congr_left
  intro j _
  simp
theorem cnt_pass {R : List Int} (h : R.Nodup) {j : Int} (hj : j ∈ R) : cnt (pass R) j = cnt R j - 1 := by
  have hp := pass_perm R
  have h2 : (pass R).Nodup := hp.nodup_iff.mpr h
  have e := lcp_pass R
  rw [lcp_eq [] _ h, lcp_eq [] _ h2] at e
  have hm : (j, ([] : List Int).countP (fun z => decide (j < z)) + cnt (pass R) j) ∈ (pass R).map fun j => (j, ([] : List Int).countP (fun z => decide (j < z)) + cnt (pass R) j) := List.mem_map.mpr ⟨j, hp.mem_iff.mpr hj, rfl⟩
  have hm2 := e.mem_iff.mp hm
  rw [List.map_map] at hm2
  obtain ⟨k, hk, ek⟩ := List.mem_map.mp hm2
  have e1 : k = j := congrArg Prod.fst ek
  have e2 : 0 + cnt R k - 1 = 0 + cnt (pass R) j := congrArg Prod.snd ek
  subst e1; omega
theorem mx_le {l : List Nat} {k : Nat} : mx l ≤ k ↔ ∀ x ∈ l, x ≤ k := by
  induction l with
  | nil => simp [mx]
  | cons a l ih =>
    show max a (mx l) ≤ k ↔ _
    rw [Nat.max_le, ih]; simp
theorem mx_perm {l k : List Nat} (h : l.Perm k) : mx l = mx k := by
  apply Nat.le_antisymm
  · exact mx_le.mpr fun x hx => mx_le.mp (Nat.le_refl _) x (h.mem_iff.mp hx)
  · exact mx_le.mpr fun x hx => mx_le.mp (Nat.le_refl _) x (h.mem_iff.mpr hx)
/-- the jars off + 1, .., off + n -/
def jars (off : Int) : Nat → List Int
  | 0 => []
  | n + 1 => (off + 1) :: jars (off + 1) n
theorem jars_len : ∀ (n : Nat) (off : Int), (jars off n).length = n
  | 0, _ => rfl
  | n + 1, off => congrArg (· + 1) (jars_len n _)
theorem jars_mem : ∀ {n : Nat} {off j : Int}, j ∈ jars off n ↔ off < j ∧ j ≤ off + n
  | 0, off, j => by simp [jars]
  | n + 1, off, j => by
    unfold jars
    rw [List.mem_cons, jars_mem]; omega
theorem jars_sorted : ∀ (n : Nat) (off : Int), (jars off n).Pairwise (· < ·)
  | 0, _ => List.Pairwise.nil
  | n + 1, off => List.Pairwise.cons (fun j hj => (jars_mem.mp hj).1) (jars_sorted n _)
theorem jars_nodup (n : Nat) (off : Int) : (jars off n).Nodup := (jars_sorted n off).imp fun h => Int.ne_of_lt h
theorem jars_get : ∀ (n : Nat) (off : Int) (i : Nat), i < n → (jars off n)[i]? = some (off + 1 + i)
  | 0, _, _, h => by omega
  | n + 1, off, 0, _ => by simp [jars]
  | n + 1, off, i + 1, h => by
    simp only [jars, List.getElem?_cons_succ]
    rw [jars_get n (off + 1) i (by omega)]; congr 1; omega
theorem jars_range (n : Nat) (off : Int) : jars off n = (List.range n).map (fun (i : Nat) => off + 1 + (i : Int)) := by
  apply List.ext_getElem?
  intro i
  by_cases h : i < n
  · rw [jars_get n off i h]; simp [h]
  · rw [List.getElem?_eq_none (by rw [jars_len]; omega), List.getElem?_eq_none (by simp; omega)]
theorem cnt_counts {R : List Int} {n : Nat} (h : R.Perm (jars 0 n)) : ((jars 0 n).map (cnt R)).Perm (lc [] R) := by
  rw [lc_cnt (h.nodup_iff.mpr (jars_nodup n 0))]
  exact h.symm.map _
def insAt (i : Nat) (x : Int) (l : List Int) : List Int := l.take i ++ x :: l.drop i
theorem insAt_perm (i : Nat) (x : Int) (l : List Int) : (insAt i x l).Perm (x :: l) := by
  unfold insAt
  refine List.perm_middle.trans ?_
  rw [List.take_append_drop]
theorem cnt_skip : ∀ (A B : List Int) (x j : Int), x < j → cnt (A ++ x :: B) j = cnt (A ++ B) j
  | [], B, x, j, h => by simp [cnt]; rw [if_neg (by omega), if_neg (by omega)]; omega
  | z :: A, B, x, j, h => by
    show cnt (z :: (A ++ x :: B)) j = cnt (z :: (A ++ B)) j
    simp only [cnt]; rw [cnt_skip A B x j h]
theorem cnt_self : ∀ (A B : List Int) (x : Int), (∀ z ∈ A, x < z) → cnt (A ++ x :: B) x = A.length
  | [], B, x, _ => by simp [cnt]
  | z :: A, B, x, h => by
    have hz := h z List.mem_cons_self
    show cnt (z :: (A ++ x :: B)) x = A.length + 1
    simp only [cnt]; rw [cnt_self A B x fun y hy => h y (List.mem_cons_of_mem _ hy), if_neg (by omega), if_pos hz]; omega
def rowOf (off : Int) : List Nat → List Int
  | [] => []
  | c :: cs => insAt c (off + 1) (rowOf (off + 1) cs)
def vld : List Nat → Prop
  | [] => True
  | c :: cs => c ≤ cs.length ∧ vld cs
theorem rowOf_perm : ∀ (cs : List Nat) (off : Int), (rowOf off cs).Perm (jars off cs.length)
  | [], _ => List.Perm.refl _
  | c :: cs, off => (insAt_perm c (off + 1) _).trans ((rowOf_perm cs (off + 1)).cons _)
theorem counts_rowOf : ∀ (cs : List Nat) (off : Int), vld cs → (jars off cs.length).map (cnt (rowOf off cs)) = cs
  | [], _, _ => rfl
  | c :: cs, off, h => by
    have hp := rowOf_perm cs (off + 1)
    have hlen : (rowOf (off + 1) cs).length = cs.length := by rw [hp.length_eq, jars_len]
    have hgt : ∀ z ∈ rowOf (off + 1) cs, off + 1 < z := fun z hz => (jars_mem.mp (hp.mem_iff.mp hz)).1
    show cnt (insAt c (off + 1) (rowOf (off + 1) cs)) (off + 1) :: (jars (off + 1) cs.length).map (cnt (insAt c (off + 1) (rowOf (off + 1) cs))) = c :: cs
    congr 1
    · unfold insAt
      rw [cnt_self _ _ _ fun z hz => hgt z (List.mem_of_mem_take hz), List.length_take, hlen]
      have := h.1; omega
    · refine Eq.trans ?_ (counts_rowOf cs (off + 1) h.2)
      apply List.map_congr_left
      intro j hj
      unfold insAt
      rw [cnt_skip _ _ _ _ (jars_mem.mp hj).1, List.take_append_drop]
theorem rowOf_counts : ∀ (n : Nat) (off : Int) (R : List Int), R.Perm (jars off n) → rowOf off ((jars off n).map (cnt R)) = R ∧ vld ((jars off n).map (cnt R))
  | 0, _, R, h => ⟨(List.Perm.eq_nil h).symm, trivial⟩
  | n + 1, off, R, h => by
    have hm : off + 1 ∈ R := h.mem_iff.mpr List.mem_cons_self
    obtain ⟨A, B, rfl⟩ := List.append_of_mem hm
    have hp : (A ++ B).Perm (jars (off + 1) n) := List.Perm.cons_inv (List.perm_middle.symm.trans h)
    have hgt : ∀ z ∈ A, off + 1 < z := fun z hz => (jars_mem.mp (hp.mem_iff.mp (List.mem_append_left B hz))).1
    have hl := hp.length_eq
    rw [jars_len, List.length_append] at hl
    have e : (jars (off + 1) n).map (cnt (A ++ (off + 1) :: B)) = (jars (off + 1) n).map (cnt (A ++ B)) := by
      apply List.map_congr_left
      intro j hj
      exact cnt_skip _ _ _ _ (jars_mem.mp hj).1
    obtain ⟨h1, h2⟩ := rowOf_counts n (off + 1) (A ++ B) hp
    have ec := cnt_self A B (off + 1) hgt
    constructor
    · show insAt (cnt (A ++ (off + 1) :: B) (off + 1)) (off + 1) (rowOf (off + 1) ((jars (off + 1) n).map (cnt (A ++ (off + 1) :: B)))) = _
      rw [e, h1, ec]
      unfold insAt
      rw [List.take_left, List.drop_left]
    · show cnt (A ++ (off + 1) :: B) (off + 1) ≤ ((jars (off + 1) n).map (cnt (A ++ (off + 1) :: B))).length ∧ vld ((jars (off + 1) n).map (cnt (A ++ (off + 1) :: B)))
      rw [e, ec, List.length_map, jars_len]
      exact ⟨by omega, h2⟩
end Bub

set_option Elab.async false
set_option linter.all false
namespace Bub
theorem filt_idx : ∀ (row : List Int) (j : Int), ((row.take (row.idxOf j)).filter (fun z => decide (j < z))).length = cnt row j
  | [], j => rfl
  | z :: r, j => by
    by_cases e : z = j
    · subst e; simp [cnt]
    · rw [List.idxOf_cons, show (z == j) = false from by simpa using e, cond_false, List.take_succ_cons, List.filter_cons]
      simp only [cnt, if_neg e]
      have ih := filt_idx r j
      by_cases h : j < z
      · simp only [h, decide_true, if_true, List.length_cons, ih]; omega
      · simp only [h, decide_false, if_false]; simp [ih]
theorem filt_range (row : List Int) (p : Int → Bool) : ∀ m : Nat, m ≤ row.length → (((List.range m).map fun (i : Nat) => (i : Int)).filter (fun k => p (row.getD k.toNat 0))).length = ((row.take m).filter p).length
  | 0, _ => by simp
  | m + 1, h => by
    have ih := filt_range row p m (by omega)
    rw [List.range_succ, List.map_append, List.filter_append, List.length_append, ih, List.take_add_one, List.filter_append, List.length_append, List.getElem?_eq_getElem (by omega : m < row.length)]
    congr 1
    simp [List.getD_eq_getElem?_getD, List.getElem?_eq_getElem (by omega : m < row.length), List.filter_cons]
    split <;> rfl
theorem lc_zip : ∀ (r pre : List Int), ((r.zipIdx pre.length).map fun p => (((pre ++ r).take p.2).filter (fun z => decide (p.1 < z))).length) = lc pre r
  | [], _ => rfl
  | x :: r, pre => by
    have ih := lc_zip r (pre ++ [x])
    rw [List.zipIdx_cons, List.map_cons]
    unfold lc
    congr 1
    · simp [List.countP_eq_length_filter]
    · rw [List.length_append, List.length_singleton] at ih
      rw [← ih]; simp
def insAll (k : Int) (row : List Int) : List (List Int) := (List.range (row.length + 1)).map fun a => row.take a ++ [k] ++ row.drop a
def allO : Nat → List (List Int)
  | 0 => [[]]
  | n + 1 => (allO n).flatMap (insAll (n + 1 : Nat))
def many (n k : Nat) : Nat := (List.range n).foldl (fun m a => m * min (n - a) (k + 1)) 1
theorem orders_ok : ∀ n < 6, ∀ k < n + 2, many n k = (allO n).countP (fun one => decide (mx (lc [] one) ≤ k)) := by decide +kernel
theorem many_92 : many 9 2 = 4374 := by decide
theorem words_mem : ∀ (k : Nat) (row : List Int), ∀ x ∈ words k row, 1 ≤ x ∧ x < row.length
  | 0, _, _, h => by cases h
  | k + 1, row, x, h => by
    have key : ∀ (r : List Int) (i : Nat) (m : Int), ∀ x ∈ bubw i m r, i ≤ x ∧ x < i + r.length := by
      intro r
      induction r with
      | nil => intro i m x h; cases h
      | cons y r ih =>
        intro i m x h
        unfold bubw at h
        rw [List.length_cons]
        split at h
        · rcases List.mem_cons.mp h with rfl | h
          · omega
          · have := ih _ _ _ h; omega
        · have := ih _ _ _ h; omega
    rcases List.mem_append.mp h with h | h
    · cases row with
      | nil => cases h
      | cons a r => have := key r 1 a x h; rw [List.length_cons]; omega
    · have := words_mem k (pass row) x h
      rwa [(pass_perm row).length_eq] at this
theorem allO_perm : ∀ n : Nat, ∀ one ∈ allO n, one.length = n
  | 0, one, h => by rw [List.mem_singleton.mp h]; rfl
  | n + 1, one, h => by
    obtain ⟨r, hr, h⟩ := List.mem_flatMap.mp h
    obtain ⟨a, ha, rfl⟩ := List.mem_map.mp h
    have := allO_perm n r hr
    have := List.mem_range.mp ha
    simp; omega
/-- the word of enough passes, backwards, spells the order -/
theorem word_back {R : List Int} {n : Nat} (h : R.Perm (jars 0 n)) : app (words (mx (lc [] R)) R).reverse (jars 0 n) = R ∧ (words (mx (lc [] R)) R).length = (lc [] R).sum := by
  have hs : (passes (mx (lc [] R)) R).Pairwise (· ≤ ·) := (passes_sorted _ _).mpr (Nat.le_refl _)
  have hp : ∀ (k : Nat) (R : List Int), (passes k R).Perm R := by
    intro k
    induction k with
    | zero => intro R; exact List.Perm.refl _
    | succ k ih => intro R; exact (ih (pass R)).trans (pass_perm R)
  have e : passes (mx (lc [] R)) R = jars 0 n := ((hp _ R).trans h).eq_of_pairwise (fun a b _ _ h1 h2 => Int.le_antisymm h1 h2) hs ((jars_sorted n 0).imp fun h => Int.le_of_lt h)
  constructor
  · rw [← e, ← app_words]
    exact app_rev _ _ (words_mem _ _)
  · have h1 := words_sum (mx (lc [] R)) R
    have h2 : (lc [] (passes (mx (lc [] R)) R)).sum = 0 := by
      have := mx_zero.mp ((sorted_iff _).mp hs)
      exact List.sum_eq_zero_iff_forall_eq_nat.mpr this
    omega
end Bub

set_option Elab.async false
set_option linter.all false
/-! wrong pairs, spellings, in plain Lean -/
namespace Bub
/-- wrong pairs, by what stands behind -/
def inv : List Int → Nat
  | [] => 0
  | x :: r => r.countP (fun z => decide (z < x)) + inv r
def crs (pre r : List Int) : Nat := (r.map fun x => pre.countP (fun z => decide (x < z))).sum
theorem crs_snoc (pre : List Int) (x : Int) : ∀ r : List Int, crs (pre ++ [x]) r = crs pre r + r.countP (fun z => decide (z < x))
  | [] => rfl
  | y :: r => by
    have ih := crs_snoc pre x r
    unfold crs at ih ⊢
    rw [List.map_cons, List.sum_cons, List.map_cons, List.sum_cons, ih, List.countP_append, List.countP_cons, List.countP_cons, List.countP_nil]
    omega
theorem lc_inv : ∀ (r pre : List Int), (lc pre r).sum = inv r + crs pre r
  | [], _ => rfl
  | x :: r, pre => by
    have ih := lc_inv r (pre ++ [x])
    rw [crs_snoc] at ih
    show pre.countP _ + (lc (pre ++ [x]) r).sum = r.countP _ + inv r + (pre.countP _ + crs pre r)
    rw [ih]; omega
theorem lc_inv0 (r : List Int) : (lc [] r).sum = inv r := by
  rw [lc_inv]
  have : crs [] r = 0 := by
    unfold crs
    induction r with
    | nil => rfl
    | cons x r ih => rw [List.map_cons, List.sum_cons, ih]; rfl
  omega
theorem inv_swap : ∀ (p : List Int) (a b : Int) (r : List Int), b < a → inv (p ++ b :: a :: r) + 1 = inv (p ++ a :: b :: r)
  | [], a, b, r, h => by
    simp only [List.nil_append, inv, List.countP_cons]
    rw [show decide (a < b) = false from decide_eq_false (by omega), show decide (b < a) = true from decide_eq_true h]
    simp; omega
  | x :: p, a, b, r, h => by
    have ih := inv_swap p a b r h
    have hp : (p ++ b :: a :: r).Perm (p ++ a :: b :: r) := List.Perm.append_left p (List.Perm.swap a b r)
    show (p ++ b :: a :: r).countP _ + inv (p ++ b :: a :: r) + 1 = (p ++ a :: b :: r).countP _ + inv (p ++ a :: b :: r)
    rw [hp.countP_eq, ← ih]; omega
theorem split_at {row : List Int} {k : Nat} (h1 : 1 ≤ k) (h2 : k < row.length) : ∃ p a b r, row = p ++ a :: b :: r ∧ k = p.length + 1 := by
  refine ⟨row.take (k - 1), row[k - 1]'(by omega), row[k]'h2, row.drop (k + 1), ?_, ?_⟩
  · have e1 : row.drop (k - 1) = row[k - 1]'(by omega) :: row.drop (k - 1 + 1) := List.drop_eq_getElem_cons (by omega)
    have e2 : row.drop k = row[k]'h2 :: row.drop (k + 1) := List.drop_eq_getElem_cons h2
    rw [show k - 1 + 1 = k from by omega] at e1
    rw [← e2, ← e1, List.take_append_drop]
  · rw [List.length_take]; omega
/-- a swap adds one wrong pair at most -/
theorem inv_sw {row : List Int} {k : Nat} (h1 : 1 ≤ k) (h2 : k < row.length) : inv (sw k row) ≤ inv row + 1 := by
  obtain ⟨p, a, b, r, rfl, rfl⟩ := split_at h1 h2
  rw [sw_at]
  by_cases h : b < a
  · have := inv_swap p a b r h; omega
  · by_cases h2 : a < b
    · have := inv_swap p b a r h2; omega
    · have : a = b := by omega
      subst this; omega
/-- the places of falls -/
def fallsF (off : Nat) : List Int → List Nat
  | a :: b :: r => if b < a then (off + 1) :: fallsF (off + 1) (b :: r) else fallsF (off + 1) (b :: r)
  | _ => []
def fallsN (row : List Int) : List Nat := (List.range row.length).filter fun k => decide (1 ≤ k) && decide (row.getD k 0 < row.getD (k - 1) 0)
theorem fall_mem {row : List Int} {k : Nat} : k ∈ fallsN row ↔ 1 ≤ k ∧ k < row.length ∧ row.getD k 0 < row.getD (k - 1) 0 := by
  unfold fallsN
  rw [List.mem_filter, List.mem_range]
  simp only [Bool.and_eq_true, decide_eq_true_eq]
  exact ⟨fun ⟨h1, h2, h3⟩ => ⟨h2, h1, h3⟩, fun ⟨h1, h2, h3⟩ => ⟨h2, h1, h3⟩⟩
theorem inv_fall {row : List Int} {k : Nat} (h : k ∈ fallsN row) : inv (sw k row) + 1 = inv row := by
  obtain ⟨h1, h2, h3⟩ := fall_mem.mp h
  obtain ⟨p, a, b, r, rfl, rfl⟩ := split_at h1 h2
  rw [sw_at]
  refine inv_swap p a b r ?_
  simpa [List.getD_eq_getElem?_getD] using h3
theorem inv_zero : ∀ (row : List Int), (∀ k, k ∉ fallsN row) → row.Pairwise (· ≤ ·)
  | [], _ => List.Pairwise.nil
  | [a], _ => List.pairwise_singleton _ _
  | a :: b :: r, h => by
    have h1 : a ≤ b := by
      have := h 1
      rw [fall_mem] at this
      simp at this; exact this
    have ih := inv_zero (b :: r) fun k hk => by
      obtain ⟨q1, q2, q3⟩ := fall_mem.mp hk
      refine h (k + 1) (fall_mem.mpr ⟨by omega, by simpa using q2, ?_⟩)
      obtain ⟨k', rfl⟩ : ∃ k', k = k' + 1 := ⟨k - 1, by omega⟩
      simpa [List.getD_eq_getElem?_getD] using q3
    refine List.pairwise_cons.mpr ⟨fun z hz => ?_, ih⟩
    rcases List.mem_cons.mp hz with e | hz
    · omega
    · have := (List.pairwise_cons.mp ih).1 z hz
      omega
theorem inv_of_sorted : ∀ {row : List Int}, row.Pairwise (· ≤ ·) → inv row = 0
  | [], _ => rfl
  | x :: r, h => by
    have h2 := List.pairwise_cons.mp h
    have e : r.countP (fun z => decide (z < x)) = 0 := List.countP_eq_zero.mpr fun z hz => by have := h2.1 z hz; simp; omega
    show r.countP _ + inv r = 0
    rw [e, inv_of_sorted h2.2]
theorem sw_perm {row : List Int} {k : Nat} (h1 : 1 ≤ k) (h2 : k < row.length) : (sw k row).Perm row := by
  obtain ⟨p, a, b, r, rfl, rfl⟩ := split_at h1 h2
  rw [sw_at]
  exact List.Perm.append_left p (List.Perm.swap a b r)
theorem app_len (w : List Nat) : ∀ row : List Int, (app w row).length = row.length := by
  induction w with
  | nil => intro row; rfl
  | cons k w ih => intro row; rw [app_cons, ih, sw_len]
theorem inv_app : ∀ (w : List Nat) (row : List Int), (∀ k ∈ w, 1 ≤ k ∧ k < row.length) → inv (app w row) ≤ inv row + w.length
  | [], row, _ => Nat.le_refl _
  | k :: w, row, h => by
    have hk := h k List.mem_cons_self
    have := inv_app w (sw k row) fun j hj => by rw [sw_len]; exact h j (List.mem_cons_of_mem _ hj)
    have h2 := inv_sw hk.1 hk.2
    rw [app_cons, List.length_cons]; omega
theorem sw_map (f : Int → Int) (k : Nat) (row : List Int) : sw k (row.map f) = (sw k row).map f := by
  unfold sw
  rw [← List.map_drop, ← List.map_take]
  cases row.drop (k - 1) with
  | nil => rfl
  | cons a l =>
    cases l with
    | nil => rfl
    | cons b r => simp
theorem app_map (f : Int → Int) : ∀ (w : List Nat) (row : List Int), app w (row.map f) = (app w row).map f
  | [], _ => rfl
  | k :: w, row => by rw [app_cons, app_cons, sw_map, app_map f w]
def flip (n : Nat) (j : Int) : Int := n + 1 - j
def longest (n : Nat) : List Int := (jars 0 n).map (flip n)
theorem flip_flip (n : Nat) (l : List Int) : (l.map (flip n)).map (flip n) = l := by
  rw [List.map_map]
  conv => rhs; rw [← List.map_id l]
  apply List.map_congr_left
  intro j _
  simp [flip]; omega
/-- halves of a spelling of the longest order -/
theorem halves_ok {n : Nat} {u v : List Nat} (hb : ∀ k ∈ u ++ v, 1 ≤ k ∧ k < n) (hw : app (u ++ v) (jars 0 n) = longest n) (hl : (u ++ v).length = inv (longest n)) :
    inv (app u (jars 0 n)) = u.length ∧ inv (app v.reverse (jars 0 n)) = v.length ∧ app v.reverse (jars 0 n) = (app u (jars 0 n)).map (flip n) := by
  have hj : (jars 0 n).length = n := jars_len n 0
  have hu : ∀ k ∈ u, 1 ≤ k ∧ k < n := fun k hk => hb k (List.mem_append_left _ hk)
  have hv : ∀ k ∈ v, 1 ≤ k ∧ k < n := fun k hk => hb k (List.mem_append_right _ hk)
  have i0 : inv (jars 0 n) = 0 := inv_of_sorted ((jars_sorted n 0).imp fun h => Int.le_of_lt h)
  rw [app_app] at hw
  have e1 : app v.reverse (longest n) = app u (jars 0 n) := by
    rw [← hw]
    exact app_rev v _ fun k hk => by rw [app_len, hj]; exact hv k hk
  have e2 : app v.reverse (jars 0 n) = (app u (jars 0 n)).map (flip n) := by
    rw [← e1]
    unfold longest
    rw [app_map, flip_flip]
  rw [List.length_append] at hl
  have a1 := inv_app u (jars 0 n) fun k hk => by rw [hj]; exact hu k hk
  have a2 := inv_app v (app u (jars 0 n)) fun k hk => by rw [app_len, hj]; exact hv k hk
  rw [hw] at a2
  have a3 := inv_app v.reverse (jars 0 n) fun k hk => by rw [hj]; exact hv k (List.mem_reverse.mp hk)
  -- the word backwards
  have e3 : app u.reverse (app v.reverse (jars 0 n)) = longest n := by
    rw [e2, app_map, app_rev u _ fun k hk => by rw [hj]; exact hu k hk]; rfl
  have a4 := inv_app u.reverse (app v.reverse (jars 0 n)) fun k hk => by rw [app_len, hj]; exact hu k (List.mem_reverse.mp hk)
  rw [e3] at a4
  rw [List.length_reverse] at a3 a4
  exact ⟨by omega, by omega, e2⟩
/-! ### how many shortest spellings -/
def nw : Nat → List Int → Nat
  | 0, _ => 1
  | k + 1, row => ((fallsN row).map fun j => nw k (sw j row)).sum
def stepA (l : List (List Int × List Int)) : List (List Int × List Int) := l.flatMap fun p => (fallsN p.2).map fun (j : Nat) => ((j : Int) :: p.1, sw j p.2)
def iterA : Nat → List (List Int × List Int) → List (List Int × List Int)
  | 0, l => l
  | k + 1, l => iterA k (stepA l)
theorem step_nw (k : Nat) : ∀ l : List (List Int × List Int), ((stepA l).map fun p => nw k p.2).sum = (l.map fun p => nw (k + 1) p.2).sum
  | [] => rfl
  | p :: l => by
    have ih := step_nw k l
    unfold stepA at ih ⊢
    rw [List.flatMap_cons, List.map_append, List.sum_append, ih, List.map_cons, List.sum_cons]
    congr 1
    rw [List.map_map]; rfl
theorem iter_nw : ∀ (k : Nat) (l : List (List Int × List Int)), (iterA k l).length = (l.map fun p => nw k p.2).sum
  | 0, l => by
    show l.length = (l.map fun _ => 1).sum
    induction l with
    | nil => rfl
    | cons a l ih => rw [List.length_cons, List.map_cons, List.sum_cons, ih]; omega
  | k + 1, l => by
    show (iterA k (stepA l)).length = _
    rw [iter_nw k, step_nw]
theorem falls_len (row : List Int) : (fallsN row).length ≤ row.length - 1 := by
  unfold fallsN
  cases h : row.length with
  | zero => simp
  | succ n =>
    rw [List.range_succ_eq_map, List.filter_cons_of_neg (by simp)]
    refine Nat.le_trans (List.length_filter_le _ _) ?_
    simp
theorem stepA_len {n : Nat} : ∀ {l : List (List Int × List Int)}, (∀ p ∈ l, p.2.length ≤ n + 1) → (stepA l).length ≤ n * l.length ∧ ∀ p ∈ stepA l, p.2.length ≤ n + 1
  | [], _ => ⟨Nat.zero_le _, fun p h => by cases h⟩
  | p :: l, h => by
    obtain ⟨h1, h2⟩ := stepA_len (l := l) fun q hq => h q (List.mem_cons_of_mem _ hq)
    have hp := h p List.mem_cons_self
    have hf := falls_len p.2
    unfold stepA at h1 h2 ⊢
    rw [List.flatMap_cons]
    refine ⟨?_, fun q hq => ?_⟩
    · rw [List.length_append, List.length_map, List.length_cons, Nat.mul_succ]; omega
    · rcases List.mem_append.mp hq with z | z
      · obtain ⟨j, _, rfl⟩ := List.mem_map.mp z
        show (sw j p.2).length ≤ _
        rw [sw_len]; exact hp
      · exact h2 q z
end Bub

set_option Elab.async false
set_option linter.all false
/-! shortest spellings from the left and from the right, in plain Lean -/
namespace Bub
theorem jars_of_inv {R : List Int} {n : Nat} (h : R.Perm (jars 0 n)) (h0 : inv R = 0) : R = jars 0 n := by
  have hs : R.Pairwise (· ≤ ·) := inv_zero R fun k hk => by have := inv_fall hk; omega
  exact h.eq_of_pairwise (fun a b _ _ h1 h2 => Int.le_antisymm h1 h2) hs ((jars_sorted n 0).imp fun h => Int.le_of_lt h)
theorem inv_jars (n : Nat) : inv (jars 0 n) = 0 := inv_of_sorted ((jars_sorted n 0).imp fun h => Int.le_of_lt h)
/-! ### two neighbouring jars exchanged -/
def tau (k : Nat) (x : Int) : Int := if x = k then k + 1 else if x = k + 1 then k else x
def vs (k : Nat) (R : List Int) : List Int := R.map (tau k)
theorem tau_tau (k : Nat) (x : Int) : tau k (tau k x) = x := by
  unfold tau
  by_cases h1 : x = k
  · rw [if_pos h1, if_neg (by omega), if_pos rfl]; exact h1.symm
  · rw [if_neg h1]
    by_cases h2 : x = k + 1
    · rw [if_pos h2, if_pos rfl]; exact h2.symm
    · rw [if_neg h2, if_neg h1, if_neg h2]
theorem vs_vs (k : Nat) (R : List Int) : vs k (vs k R) = R := by
  unfold vs
  rw [List.map_map]
  conv => rhs; rw [← List.map_id R]
  exact List.map_congr_left fun x _ => tau_tau k x
theorem vs_len (k : Nat) (R : List Int) : (vs k R).length = R.length := List.length_map ..
theorem tau_off {k : Nat} {A : List Int} (h1 : (k : Int) ∉ A) (h2 : (k : Int) + 1 ∉ A) : A.map (tau k) = A := by
  conv => rhs; rw [← List.map_id A]
  refine List.map_congr_left fun x hx => ?_
  unfold tau
  have n1 : ¬ x = (k : Int) := fun e => h1 (by rw [← e]; exact hx)
  have n2 : ¬ x = (k : Int) + 1 := fun e => h2 (by rw [← e]; exact hx)
  rw [if_neg n1, if_neg n2]; rfl
theorem cnt_next {x : Int} : ∀ {C : List Int}, x ∉ C → C.countP (fun z => decide (z < x + 1)) = C.countP (fun z => decide (z < x))
  | [], _ => rfl
  | c :: C, h => by
    have hc : x ≠ c := fun e => h (e ▸ List.mem_cons_self)
    rw [List.countP_cons, List.countP_cons, cnt_next fun m => h (List.mem_cons_of_mem _ m)]
    have : decide (c < x + 1) = decide (c < x) := decide_eq_decide.mpr ⟨fun _ => by omega, fun _ => by omega⟩
    rw [this]
theorem inv_put {x : Int} : ∀ {B C : List Int}, x ∉ B → x + 1 ∉ B → x ∉ C → inv (B ++ (x + 1) :: C) = inv (B ++ x :: C)
  | [], C, _, _, h => by
    show C.countP _ + inv C = C.countP _ + inv C
    rw [cnt_next h]
  | b :: B, C, h1, h2, h => by
    have n1 : x ≠ b := fun e => h1 (e ▸ List.mem_cons_self)
    have n2 : x + 1 ≠ b := fun e => h2 (e ▸ List.mem_cons_self)
    show (B ++ (x + 1) :: C).countP _ + inv (B ++ (x + 1) :: C) = (B ++ x :: C).countP _ + inv (B ++ x :: C)
    rw [inv_put (fun m => h1 (List.mem_cons_of_mem _ m)) (fun m => h2 (List.mem_cons_of_mem _ m)) h, List.countP_append, List.countP_append, List.countP_cons, List.countP_cons]
    have : decide (x + 1 < b) = decide (x < b) := decide_eq_decide.mpr ⟨fun _ => by omega, fun _ => by omega⟩
    rw [this]
theorem inv_vals {x : Int} : ∀ {A B C : List Int}, x ∉ B → x + 1 ∉ B → x ∉ C → inv (A ++ x :: (B ++ (x + 1) :: C)) + 1 = inv (A ++ (x + 1) :: (B ++ x :: C))
  | [], B, C, h1, h2, h => by
    show (B ++ (x + 1) :: C).countP _ + inv (B ++ (x + 1) :: C) + 1 = (B ++ x :: C).countP _ + inv (B ++ x :: C)
    rw [inv_put h1 h2 h, List.countP_append, List.countP_append, List.countP_cons, List.countP_cons, cnt_next h1, cnt_next h]
    rw [show decide (x + 1 < x) = false from decide_eq_false (by omega), show decide (x < x + 1) = true from decide_eq_true (by omega)]
    simp; omega
  | a :: A, B, C, h1, h2, h => by
    have ih := inv_vals (A := A) h1 h2 h
    show (A ++ x :: (B ++ (x + 1) :: C)).countP _ + inv (A ++ x :: (B ++ (x + 1) :: C)) + 1 = (A ++ (x + 1) :: (B ++ x :: C)).countP _ + inv (A ++ (x + 1) :: (B ++ x :: C))
    have e : (A ++ x :: (B ++ (x + 1) :: C)).countP (fun z => decide (z < a)) = (A ++ (x + 1) :: (B ++ x :: C)).countP (fun z => decide (z < a)) := by
      simp only [List.countP_append, List.countP_cons]; omega
    rw [e]; omega
/-- cut at two jars -/
theorem cut_two {R : List Int} (nd : R.Nodup) {a b : Int} (ha : a ∈ R) (hb : b ∈ R) (h : R.idxOf a < R.idxOf b) :
    ∃ A B C, R = A ++ a :: (B ++ b :: C) ∧ (a ∉ A ∧ b ∉ A) ∧ (a ∉ B ∧ b ∉ B) ∧ a ∉ C ∧ b ∉ C := by
  obtain ⟨A, D, rfl⟩ := List.append_of_mem ha
  have hab : a ≠ b := fun e => by subst e; omega
  have nd2 := List.nodup_append.mp nd
  have nA : a ∉ A := fun m => nd2.2.2 a m a List.mem_cons_self rfl
  have nA2 : b ∉ A := fun m => by
    rw [List.idxOf_append, List.idxOf_append, if_neg nA, if_pos m] at h
    have := List.idxOf_lt_length_of_mem m
    omega
  have hD : b ∈ D := by
    rcases List.mem_append.mp hb with m | m
    · exact absurd m nA2
    · rcases List.mem_cons.mp m with e | m
      · exact absurd e.symm hab
      · exact m
  obtain ⟨B, C, rfl⟩ := List.append_of_mem hD
  have n3 := List.nodup_cons.mp nd2.2.1
  have n4 := List.nodup_append.mp n3.2
  have n5 := List.nodup_cons.mp n4.2.1
  exact ⟨A, B, C, rfl, ⟨nA, nA2⟩, ⟨fun m => n3.1 (List.mem_append_left _ m), fun m => n4.2.2 b m b List.mem_cons_self rfl⟩, fun m => n3.1 (List.mem_append_right _ (List.mem_cons_of_mem _ m)), n5.1⟩
/-! ### first members -/
def places (R : List Int) : List Int := (jars 0 R.length).map fun j => ((R.idxOf j : Nat) : Int) + 1
theorem places_len (R : List Int) : (places R).length = R.length := by unfold places; rw [List.length_map, jars_len]
def fm (R : List Int) : List Nat := fallsN (places R)
theorem places_get {R : List Int} {k : Nat} (h : k < R.length) : (places R).getD k 0 = ((R.idxOf ((k : Int) + 1) : Nat) : Int) + 1 := by
  unfold places
  rw [List.getD_eq_getElem?_getD, List.getElem?_map, jars_get _ 0 k h, show (0 : Int) + 1 + k = (k : Int) + 1 from by omega]; rfl
theorem fm_mem {R : List Int} {k : Nat} : k ∈ fm R ↔ 1 ≤ k ∧ k < R.length ∧ R.idxOf ((k : Int) + 1) < R.idxOf (k : Int) := by
  unfold fm
  rw [fall_mem, places_len]
  constructor
  · rintro ⟨h1, h2, h3⟩
    rw [places_get h2, places_get (by omega), show ((k - 1 : Nat) : Int) + 1 = (k : Int) from by omega] at h3
    exact ⟨h1, h2, by omega⟩
  · rintro ⟨h1, h2, h3⟩
    refine ⟨h1, h2, ?_⟩
    rw [places_get h2, places_get (by omega), show ((k - 1 : Nat) : Int) + 1 = (k : Int) from by omega]
    omega
section
variable {n : Nat} {R : List Int}
theorem perm_nodup (h : R.Perm (jars 0 n)) : R.Nodup := h.nodup_iff.mpr (jars_nodup n 0)
theorem perm_len (h : R.Perm (jars 0 n)) : R.length = n := by rw [h.length_eq, jars_len]
theorem tau_jars {k : Nat} (h1 : 1 ≤ k) (h2 : k < n) : (jars 0 n).map (tau k) = sw k (jars 0 n) := by
  have hs := jars_sorted n 0
  have e1 := jars_get n 0 (k - 1) (by omega)
  have e2 := jars_get n 0 k h2
  obtain ⟨p, a, b, r, e, hk⟩ := split_at (row := jars 0 n) h1 (by rw [jars_len]; exact h2)
  rw [e] at hs e1 e2 ⊢
  have ea : a = k := by
    rw [hk, Nat.add_sub_cancel, List.getElem?_append_right (Nat.le_refl _), Nat.sub_self] at e1
    have : a = 0 + 1 + (p.length : Int) := Option.some.inj e1
    omega
  have eb : b = (k : Int) + 1 := by
    rw [hk, List.getElem?_append_right (by omega), Nat.add_sub_cancel_left] at e2
    have : b = 0 + 1 + ((p.length + 1 : Nat) : Int) := Option.some.inj e2
    omega
  obtain ⟨_, q2, q3⟩ := List.pairwise_append.mp hs
  have q4 := List.pairwise_cons.mp q2
  have q5 := List.pairwise_cons.mp q4.2
  have hp : p.map (tau k) = p := tau_off (fun m => by have := q3 _ m a List.mem_cons_self; omega) (fun m => by have := q3 _ m a List.mem_cons_self; omega)
  have hr : r.map (tau k) = r := tau_off (fun m => by have := q5.1 _ m; omega) (fun m => by have := q5.1 _ m; omega)
  conv => rhs; rw [hk]
  rw [sw_at, List.map_append, List.map_cons, List.map_cons, hp, hr]
  have t1 : tau k a = b := by unfold tau; rw [if_pos ea]; exact eb.symm
  have t2 : tau k b = a := by unfold tau; rw [if_neg (by omega), if_pos eb]; exact ea.symm
  rw [t1, t2]
theorem vs_perm {k : Nat} (h1 : 1 ≤ k) (h2 : k < n) (h : R.Perm (jars 0 n)) : (vs k R).Perm (jars 0 n) := by
  refine (h.map (tau k)).trans ?_
  rw [tau_jars h1 h2]
  exact sw_perm h1 (by rw [jars_len]; exact h2)
theorem jar_in (h : R.Perm (jars 0 n)) {k : Nat} (h1 : 1 ≤ k) (h2 : k ≤ n) : (k : Int) ∈ R := h.mem_iff.mpr (jars_mem.mpr ⟨by omega, by omega⟩)
theorem inv_vs (h : R.Perm (jars 0 n)) {k : Nat} (h1 : 1 ≤ k) (h2 : k < n) : (k ∈ fm R → inv (vs k R) + 1 = inv R) ∧ (k ∉ fm R → inv (vs k R) = inv R + 1) := by
  have nd := perm_nodup h
  have m1 := jar_in h h1 (Nat.le_of_lt h2)
  have m2 : (k : Int) + 1 ∈ R := by
    have := jar_in h (k := k + 1) (by omega) h2
    rwa [show ((k + 1 : Nat) : Int) = (k : Int) + 1 from by omega] at this
  have t1 : tau k k = (k : Int) + 1 := by unfold tau; rw [if_pos rfl]
  have t2 : tau k ((k : Int) + 1) = k := by unfold tau; rw [if_neg (by omega), if_pos rfl]
  have hl := perm_len h
  constructor
  · intro hf
    obtain ⟨A, B, C, e, ⟨a1, a2⟩, ⟨b1, b2⟩, c1, c2⟩ := cut_two nd m2 m1 (fm_mem.mp hf).2.2
    have e2 : vs k R = A ++ (k : Int) :: (B ++ ((k : Int) + 1) :: C) := by
      unfold vs
      rw [e, List.map_append, List.map_cons, List.map_append, List.map_cons, tau_off a2 a1, tau_off b2 b1, tau_off c2 c1, t1, t2]
    rw [e2, e]
    exact inv_vals b2 b1 c2
  · intro hf
    have hlt : R.idxOf (k : Int) < R.idxOf ((k : Int) + 1) := by
      have : ¬ R.idxOf ((k : Int) + 1) < R.idxOf (k : Int) := fun q => hf (fm_mem.mpr ⟨h1, by omega, q⟩)
      have hne : R.idxOf (k : Int) ≠ R.idxOf ((k : Int) + 1) := fun e => by
        have g1 := List.getElem?_eq_getElem (l := R) (List.idxOf_lt_length_of_mem m1)
        have g2 := List.getElem?_eq_getElem (l := R) (List.idxOf_lt_length_of_mem m2)
        rw [List.getElem_idxOf] at g1 g2
        rw [e, g2] at g1
        have := Option.some.inj g1
        omega
      omega
    obtain ⟨A, B, C, e, ⟨a1, a2⟩, ⟨b1, b2⟩, c1, c2⟩ := cut_two nd m1 m2 hlt
    have e2 : vs k R = A ++ ((k : Int) + 1) :: (B ++ (k : Int) :: C) := by
      unfold vs
      rw [e, List.map_append, List.map_cons, List.map_append, List.map_cons, tau_off a1 a2, tau_off b1 b2, tau_off c1 c2, t1, t2]
    rw [e2, e]
    exact (inv_vals b1 b2 c1).symm

/-! ### shortest spellings -/
structure Red (n : Nat) (R : List Int) (w : List Nat) : Prop where
  b : ∀ k ∈ w, 1 ≤ k ∧ k < n
  a : app w (jars 0 n) = R
  l : w.length = inv R
theorem app_vs {k : Nat} (h1 : 1 ≤ k) (h2 : k < n) (w : List Nat) : app (k :: w) (jars 0 n) = vs k (app w (jars 0 n)) := by
  rw [app_cons, ← tau_jars h1 h2, app_map]; rfl
theorem inv_app0 {w : List Nat} (h : ∀ k ∈ w, 1 ≤ k ∧ k < n) : inv (app w (jars 0 n)) ≤ w.length := by
  have := inv_app w (jars 0 n) (by rw [jars_len]; exact h)
  rw [inv_jars] at this; omega
theorem app_perm : ∀ {w : List Nat} {R : List Int}, R.Perm (jars 0 n) → (∀ k ∈ w, 1 ≤ k ∧ k < n) → (app w R).Perm (jars 0 n)
  | [], _, h, _ => h
  | k :: w, R, h, hb => by
    have hk := hb k List.mem_cons_self
    exact app_perm (w := w) (R := sw k R) ((sw_perm hk.1 (by rw [perm_len h]; exact hk.2)).trans h) fun j hj => hb j (List.mem_cons_of_mem _ hj)
/-- the parts of a shortest spelling have as many wrong pairs as members -/
theorem red_take {w : List Nat} (r : Red n R w) {k : Nat} (h : k ≤ w.length) : inv (app (w.take k) (jars 0 n)) = k := by
  have e : w.take k ++ w.drop k = w := List.take_append_drop k w
  have h1 := inv_app0 (n := n) (w := w.take k) fun j hj => r.b j (List.mem_of_mem_take hj)
  have h2 := inv_app (w.drop k) (app (w.take k) (jars 0 n)) fun j hj => by rw [app_len, jars_len]; exact r.b j (List.mem_of_mem_drop hj)
  rw [← app_app, e, r.a, ← r.l] at h2
  rw [List.length_take] at h1
  rw [List.length_drop] at h2
  omega
def WL : Nat → List Int → List (List Nat)
  | 0, _ => [[]]
  | m + 1, R => (fm R).flatMap fun j => (WL m (vs j R)).map (j :: ·)
def WA : Nat → List Int → List (List Nat)
  | 0, _ => [[]]
  | m + 1, R => (fallsN R).flatMap fun j => (WA m (sw j R)).map (· ++ [j])
theorem WL_succ (m : Nat) (R : List Int) : WL (m + 1) R = (fm R).flatMap fun j => (WL m (vs j R)).map (j :: ·) := rfl
theorem WA_succ (m : Nat) (R : List Int) : WA (m + 1) R = (fallsN R).flatMap fun j => (WA m (sw j R)).map (· ++ [j]) := rfl
theorem red_zero (h : R.Perm (jars 0 n)) (hm : inv R = 0) (w : List Nat) : w ∈ [[]] ↔ Red n R w := by
  rw [List.mem_singleton]
  constructor
  · rintro rfl
    exact ⟨(fun k hk => absurd hk List.not_mem_nil), (jars_of_inv h hm).symm, hm.symm⟩
  · intro r
    have := r.l
    exact List.eq_nil_of_length_eq_zero (by omega)
theorem mem_WL : ∀ {m : Nat} {R : List Int}, R.Perm (jars 0 n) → inv R = m → ∀ w, (w ∈ WL m R ↔ Red n R w)
  | 0, R, h, hm, w => red_zero h hm w
  | m + 1, R, h, hm, w => by
    have hl := perm_len h
    unfold WL
    rw [List.mem_flatMap]
    constructor
    · rintro ⟨j, hj, hw⟩
      obtain ⟨u, hu, rfl⟩ := List.mem_map.mp hw
      obtain ⟨j1, j2, _⟩ := fm_mem.mp hj
      rw [hl] at j2
      have hi := (inv_vs h j1 j2).1 hj
      have r := (mem_WL (m := m) (vs_perm j1 j2 h) (by omega) u).mp hu
      refine ⟨fun k hk => ?_, ?_, ?_⟩
      · rcases List.mem_cons.mp hk with e | hk
        · rw [e]; exact ⟨j1, j2⟩
        · exact r.b k hk
      · show app (j :: u) _ = R
        rw [app_vs j1 j2, r.a, vs_vs]
      · have := r.l
        show u.length + 1 = _; omega
    · intro r
      cases w with
      | nil => have := r.l; rw [hm] at this; cases this
      | cons j u =>
        obtain ⟨j1, j2⟩ := r.b j List.mem_cons_self
        have ub : ∀ k ∈ u, 1 ≤ k ∧ k < n := fun k hk => r.b k (List.mem_cons_of_mem _ hk)
        have ha := r.a
        rw [app_vs j1 j2] at ha
        have e : app u (jars 0 n) = vs j R := by rw [← ha, vs_vs]
        have hle := inv_app0 (n := n) ub
        rw [e] at hle
        have hlen := r.l
        rw [List.length_cons] at hlen
        have hj : j ∈ fm R := Decidable.byContradiction fun q => by have := (inv_vs h j1 j2).2 q; omega
        have hi := (inv_vs h j1 j2).1 hj
        exact ⟨j, hj, List.mem_map.mpr ⟨u, (mem_WL (m := m) (vs_perm j1 j2 h) (by omega) u).mpr ⟨ub, e, by omega⟩, rfl⟩⟩
theorem nofall_inv {k : Nat} (h1 : 1 ≤ k) (h2 : k < R.length) (h : k ∉ fallsN R) : inv R ≤ inv (sw k R) := by
  rw [fall_mem] at h
  obtain ⟨p, a, b, r, e, hk⟩ := split_at h1 h2
  have hab : a ≤ b := by
    have q : ¬ R.getD k 0 < R.getD (k - 1) 0 := fun q => h ⟨h1, h2, q⟩
    rw [e, hk] at q
    simp [List.getD_eq_getElem?_getD] at q
    exact q
  rw [e, hk, sw_at]
  by_cases hlt : a < b
  · have := inv_swap p b a r hlt; omega
  · have : a = b := by omega
    subst this; exact Nat.le_refl _
theorem mem_WA : ∀ {m : Nat} {R : List Int}, R.Perm (jars 0 n) → inv R = m → ∀ w, (w ∈ WA m R ↔ Red n R w)
  | 0, R, h, hm, w => red_zero h hm w
  | m + 1, R, h, hm, w => by
    have hl := perm_len h
    unfold WA
    rw [List.mem_flatMap]
    constructor
    · rintro ⟨j, hj, hw⟩
      obtain ⟨u, hu, rfl⟩ := List.mem_map.mp hw
      obtain ⟨j1, j2, _⟩ := fall_mem.mp hj
      have hi := inv_fall hj
      have r := (mem_WA (m := m) ((sw_perm j1 j2).trans h) (by omega) u).mp hu
      refine ⟨fun k hk => ?_, ?_, ?_⟩
      · rcases List.mem_append.mp hk with hk | hk
        · exact r.b k hk
        · rw [List.mem_singleton.mp hk]; exact ⟨j1, by omega⟩
      · show app (u ++ [j]) _ = R
        rw [app_app, r.a]
        exact sw_sw j1 j2
      · have := r.l
        show (u ++ [j]).length = _
        rw [List.length_append, List.length_singleton]; omega
    · intro r
      rcases List.eq_nil_or_concat w with e | ⟨u, j, e⟩
      · have := r.l; rw [hm, e] at this; cases this
      · rw [List.concat_eq_append] at e
        subst e
        obtain ⟨j1, j2⟩ := r.b j (List.mem_append_right _ (List.mem_singleton.mpr rfl))
        have ub : ∀ k ∈ u, 1 ≤ k ∧ k < n := fun k hk => r.b k (List.mem_append_left _ hk)
        have ha := r.a
        rw [app_app] at ha
        have ha : sw j (app u (jars 0 n)) = R := ha
        have e : app u (jars 0 n) = sw j R := by rw [← ha, sw_sw j1 (by rw [app_len, jars_len]; exact j2)]
        have hle := inv_app0 (n := n) ub
        rw [e] at hle
        have hlen := r.l
        rw [List.length_append, List.length_singleton] at hlen
        have hj : j ∈ fallsN R := Decidable.byContradiction fun q => by have := nofall_inv j1 (by omega) q; omega
        have hi := inv_fall hj
        exact ⟨j, hj, List.mem_map.mpr ⟨u, (mem_WA (m := m) ((sw_perm j1 (by omega)).trans h) (by omega) u).mpr ⟨ub, e, by omega⟩, rfl⟩⟩
/-! ### in order, each once -/
theorem falls_sorted (R : List Int) : (fallsN R).Pairwise (· < ·) := List.Pairwise.filter _ List.pairwise_lt_range
theorem WL_sorted : ∀ (m : Nat) (R : List Int), ((WL m R).map fun u => u.map fun (k : Nat) => (k : Int)).Pairwise (· < ·)
  | 0, R => List.pairwise_singleton _ _
  | m + 1, R => by
    unfold WL
    rw [List.map_flatMap, List.pairwise_flatMap]
    refine ⟨fun j _ => ?_, (falls_sorted (places R)).imp fun {i j} hij x hx y hy => ?_⟩
    · rw [List.map_map, List.pairwise_map]
      refine (List.pairwise_map.mp (WL_sorted m (vs j R))).imp fun {u v} h => ?_
      show (j : Int) :: u.map _ < (j : Int) :: v.map _
      exact List.cons_lt_cons_self.mpr h
    · obtain ⟨u, hu, rfl⟩ := List.mem_map.mp hx
      obtain ⟨v, hv, rfl⟩ := List.mem_map.mp hy
      obtain ⟨u', _, rfl⟩ := List.mem_map.mp hu
      obtain ⟨v', _, rfl⟩ := List.mem_map.mp hv
      show (i : Int) :: u'.map _ < (j : Int) :: v'.map _
      exact List.cons_lt_cons_iff.mpr (.inl (by omega))
theorem WA_nodup : ∀ (m : Nat) (R : List Int), (WA m R).Nodup
  | 0, R => List.pairwise_singleton _ _
  | m + 1, R => by
    unfold WA
    unfold List.Nodup
    rw [List.pairwise_flatMap]
    refine ⟨fun j _ => ?_, (falls_sorted R).imp fun {i j} hij x hx y hy => ?_⟩
    · rw [List.pairwise_map]
      exact (WA_nodup m (sw j R)).imp fun {u v} h e => h (List.append_cancel_right e)
    · obtain ⟨u, hu, rfl⟩ := List.mem_map.mp hx
      obtain ⟨v, hv, rfl⟩ := List.mem_map.mp hy
      intro e
      have := (List.append_inj' e rfl).2
      have := (List.cons.inj this).1
      omega
theorem perm_of {α : Type} : ∀ {l m : List α}, l.Nodup → m.Nodup → (∀ x, x ∈ l ↔ x ∈ m) → l.Perm m
  | [], m, _, _, h => by
    cases m with
    | nil => exact List.Perm.refl _
    | cons a m => exact absurd ((h a).mpr List.mem_cons_self) List.not_mem_nil
  | a :: l, m, hl, hm, h => by
    obtain ⟨A, B, rfl⟩ := List.append_of_mem ((h a).mp List.mem_cons_self)
    have n1 := List.nodup_cons.mp hl
    have n2 := List.nodup_append.mp hm
    have n3 := List.nodup_cons.mp n2.2.1
    refine ((perm_of (l := l) (m := A ++ B) n1.2 ?_ fun x => ?_).cons a).trans List.perm_middle.symm
    · refine List.nodup_append.mpr ⟨n2.1, n3.2, fun x hx y hy => n2.2.2 x hx y (List.mem_cons_of_mem _ hy)⟩
    · have hx := h x
      rw [List.mem_append, List.mem_cons, List.mem_cons] at hx
      rw [List.mem_append]
      constructor
      · intro q
        have ne : x ≠ a := fun e => n1.1 (e ▸ q)
        rcases hx.mp (.inr q) with z | z | z
        · exact .inl z
        · exact absurd z ne
        · exact .inr z
      · intro q
        have ne : x ≠ a := by
          rintro rfl
          rcases q with z | z
          · exact n2.2.2 x z x List.mem_cons_self rfl
          · exact n3.1 z
        have : x = a ∨ x ∈ l := hx.mpr (by
          rcases q with z | z
          · exact .inl z
          · exact .inr (.inr z))
        rcases this with z | z
        · exact absurd z ne
        · exact z
theorem WL_nodup (m : Nat) (R : List Int) : (WL m R).Nodup := by
  refine (List.pairwise_map.mp (WL_sorted m R)).imp fun {u v} h e => ?_
  subst e
  exact List.lt_irrefl _ h
theorem WL_WA (h : R.Perm (jars 0 n)) : (WL (inv R) R).Perm (WA (inv R) R) :=
  perm_of (WL_nodup _ _) (WA_nodup _ _) fun w => (mem_WL h rfl w).trans (mem_WA h rfl w).symm
theorem WA_some : ∀ (m : Nat) (R : List Int), inv R = m → WA m R ≠ []
  | 0, _, _ => by unfold WA; exact List.cons_ne_nil _ _
  | m + 1, R, hm => by
    have : ∃ k, k ∈ fallsN R := Classical.byContradiction fun q => by
      have := inv_of_sorted (inv_zero R fun k hk => q ⟨k, hk⟩)
      omega
    obtain ⟨k, hk⟩ := this
    have hi := inv_fall hk
    have ih := WA_some m (sw k R) (by omega)
    obtain ⟨u, hu⟩ := List.exists_mem_of_ne_nil _ ih
    intro e
    have : u ++ [k] ∈ WA (m + 1) R := List.mem_flatMap.mpr ⟨k, hk, List.mem_map.mpr ⟨u, hu, rfl⟩⟩
    rw [e] at this
    exact absurd this List.not_mem_nil
theorem WL_some (h : R.Perm (jars 0 n)) {m : Nat} (hm : inv R = m) : WL m R ≠ [] := by
  subst hm
  intro e
  have := (WL_WA h).length_eq
  rw [e] at this
  exact WA_some _ _ rfl (List.eq_nil_of_length_eq_zero this.symm)
def cI (w : List Nat) : List Int := w.map fun (k : Nat) => (k : Int)
theorem iterA_words : ∀ (m : Nat) (l : List (List Int × List Int)), (iterA m l).map (·.1) = l.flatMap fun p => (WA m p.2).map fun u => cI u ++ p.1
  | 0, l => by
    show l.map (·.1) = l.flatMap fun p => [[] ++ p.1]
    induction l with
    | nil => rfl
    | cons a l ih => rw [List.map_cons, List.flatMap_cons, ih]; rfl
  | m + 1, l => by
    show (iterA m (stepA l)).map (·.1) = _
    rw [iterA_words m]
    unfold stepA
    rw [List.flatMap_assoc]
    congr 1
    funext p
    rw [WA_succ, List.flatMap_map, List.map_flatMap]
    congr 1
    funext j
    rw [List.map_map]
    apply List.map_congr_left
    intro u _
    simp [cI]
def stL (p : List Int × List Int) : List (List Int × List Int) := (fm p.2).map fun (j : Nat) => (p.1 ++ [(j : Int)], vs j p.2)
def iterL : Nat → List (List Int × List Int) → List (List Int × List Int)
  | 0, l => l
  | k + 1, l => iterL k (l.flatMap stL)
theorem iterL_add : ∀ (i j : Nat) (l : List (List Int × List Int)), iterL (i + j) l = iterL j (iterL i l)
  | 0, j, l => by rw [Nat.zero_add]; rfl
  | i + 1, j, l => by
    rw [show i + 1 + j = (i + j) + 1 from by omega]
    exact iterL_add i j (l.flatMap stL)
theorem iterL_succ (k : Nat) (l : List (List Int × List Int)) : iterL (k + 1) l = (iterL k l).flatMap stL := iterL_add k 1 l
theorem iterL_words : ∀ (m : Nat) (l : List (List Int × List Int)), (iterL m l).map (·.1) = l.flatMap fun p => (WL m p.2).map fun u => p.1 ++ cI u
  | 0, l => by
    show l.map (·.1) = l.flatMap fun p => [p.1 ++ []]
    induction l with
    | nil => rfl
    | cons a l ih => rw [List.map_cons, List.flatMap_cons, ih, List.append_nil]; rfl
  | m + 1, l => by
    show (iterL m (l.flatMap stL)).map (·.1) = _
    rw [iterL_words m, List.flatMap_assoc]
    congr 1
    funext p
    unfold stL
    rw [WL_succ, List.flatMap_map, List.map_flatMap]
    congr 1
    funext j
    rw [List.map_map]
    apply List.map_congr_left
    intro u _
    simp [cI]
theorem iterL_ok (h : R.Perm (jars 0 n)) : ∀ j ≤ inv R, ∀ p ∈ iterL j [([], R)], p.1.length = j ∧ p.2.Perm (jars 0 n) ∧ inv p.2 + j = inv R
  | 0, _, p, hp => by rw [List.mem_singleton.mp hp]; exact ⟨rfl, h, rfl⟩
  | j + 1, hj, p, hp => by
    rw [iterL_succ] at hp
    obtain ⟨q, hq, hp⟩ := List.mem_flatMap.mp hp
    obtain ⟨k, hk, rfl⟩ := List.mem_map.mp hp
    obtain ⟨a1, a2, a3⟩ := iterL_ok h j (by omega) q hq
    obtain ⟨k1, k2, _⟩ := fm_mem.mp hk
    rw [perm_len a2] at k2
    have := (inv_vs a2 k1 k2).1 hk
    refine ⟨by show (q.1 ++ _).length = _; rw [List.length_append, a1]; rfl, vs_perm k1 k2 a2, ?_⟩
    show inv (vs k q.2) + (j + 1) = _
    omega
theorem flat_ge {α β : Type} (F : α → List β) : ∀ {l : List α}, (∀ a ∈ l, F a ≠ []) → l.length ≤ (l.flatMap F).length
  | [], _ => Nat.zero_le _
  | a :: l, h => by
    have ih := flat_ge F (l := l) fun b hb => h b (List.mem_cons_of_mem _ hb)
    have := List.length_pos_iff.mpr (h a List.mem_cons_self)
    rw [List.flatMap_cons, List.length_append, List.length_cons]; omega
/-- what is found on the way is never more than what is found at the end -/
theorem iterL_len (h : R.Perm (jars 0 n)) {j : Nat} (hj : j ≤ inv R) : (iterL j [([], R)]).length ≤ (WL (inv R) R).length := by
  have e : inv R = j + (inv R - j) := by omega
  have h1 := iterL_words (inv R) [([], R)]
  have h2 := congrArg List.length h1
  rw [List.length_map, List.flatMap_singleton, List.length_map] at h2
  rw [← h2]
  have key : ∀ (k : Nat) (l : List (List Int × List Int)), (iterL k l).length = (l.flatMap fun p => (WL k p.2).map fun u => p.1 ++ cI u).length := fun k l => by
    rw [← iterL_words, List.length_map]
  have e2 : iterL (inv R) [([], R)] = iterL (inv R - j) (iterL j [([], R)]) := by rw [← iterL_add, ← e]
  rw [e2, key (inv R - j)]
  refine flat_ge _ fun p hp => ?_
  obtain ⟨_, a2, a3⟩ := iterL_ok h j hj p hp
  intro z
  exact WL_some a2 (m := inv R - j) (by omega) (List.map_eq_nil_iff.mp z)
theorem nw_len (R : List Int) : (WA (inv R) R).length = nw (inv R) R := by
  have h1 := congrArg List.length (iterA_words (inv R) [([], R)])
  rw [List.length_map, iter_nw, List.flatMap_singleton, List.length_map] at h1
  rw [← h1]; simp
theorem WL_len (h : R.Perm (jars 0 n)) : (WL (inv R) R).length = nw (inv R) R := by rw [(WL_WA h).length_eq, nw_len]
/-! ### the first of them -/
def fstW : Nat → List Int → List Nat
  | 0, _ => []
  | m + 1, R => match fm R with
    | [] => []
    | j :: _ => j :: fstW m (vs j R)
theorem fst_head : ∀ {m : Nat} {R : List Int}, R.Perm (jars 0 n) → inv R = m → (WL m R).head? = some (fstW m R)
  | 0, _, _, _ => rfl
  | m + 1, R, h, hm => by
    have hs := WL_some h hm
    unfold WL at hs ⊢
    unfold fstW
    cases hf : fm R with
    | nil => rw [hf] at hs; exact absurd rfl hs
    | cons j l =>
      obtain ⟨j1, j2, _⟩ := fm_mem.mp (show j ∈ fm R by rw [hf]; exact List.mem_cons_self)
      rw [perm_len h] at j2
      have hi := (inv_vs h j1 j2).1 (by rw [hf]; exact List.mem_cons_self)
      have ih := fst_head (m := m) (vs_perm j1 j2 h) (by omega)
      rw [List.flatMap_cons, List.head?_append, List.head?_map, ih]; rfl
theorem fst_red (h : R.Perm (jars 0 n)) : Red n R (fstW (inv R) R) :=
  (mem_WL h rfl _).mp (List.mem_of_head? (fst_head h rfl))
theorem fm_zero (h : R.Perm (jars 0 n)) (h0 : inv R = 0) : fm R = [] := by
  refine List.eq_nil_iff_forall_not_mem.mpr fun k hk => ?_
  obtain ⟨k1, k2, _⟩ := fm_mem.mp hk
  rw [perm_len h] at k2
  have := (inv_vs h k1 k2).1 hk
  omega
theorem fm_pos (h : R.Perm (jars 0 n)) (h0 : inv R ≠ 0) : fm R ≠ [] := by
  intro e
  obtain ⟨m, hm⟩ : ∃ m, inv R = m + 1 := ⟨inv R - 1, by omega⟩
  have := WL_some h hm
  unfold WL at this
  rw [e] at this
  exact this rfl
/-! ### how many rows -/
def permsL : List Int → List (List Int)
  | [] => [[]]
  | x :: r => (permsL r).flatMap fun l => (List.range (r.length + 1)).map fun i => insAt i x l
def fact : Nat → Nat
  | 0 => 1
  | n + 1 => (n + 1) * fact n
theorem flat_const {α β : Type} (F : α → List β) {c : Nat} : ∀ {l : List α}, (∀ a ∈ l, (F a).length = c) → (l.flatMap F).length = c * l.length
  | [], _ => rfl
  | a :: l, h => by
    rw [List.flatMap_cons, List.length_append, h a List.mem_cons_self, flat_const F fun b hb => h b (List.mem_cons_of_mem _ hb), List.length_cons, Nat.mul_succ]; omega
theorem permsL_len : ∀ r : List Int, (permsL r).length = fact r.length
  | [] => rfl
  | x :: r => by
    unfold permsL
    rw [flat_const (c := r.length + 1) _ fun l _ => by rw [List.length_map, List.length_range], permsL_len r]; rfl
theorem mem_permsL : ∀ {r l : List Int}, l.Perm r → l ∈ permsL r
  | [], l, h => by rw [h.eq_nil]; exact List.mem_singleton.mpr rfl
  | x :: r, l, h => by
    obtain ⟨A, B, rfl⟩ := List.append_of_mem (h.mem_iff.mpr List.mem_cons_self)
    have hp : (A ++ B).Perm r := List.Perm.cons_inv (List.perm_middle.symm.trans h)
    have hl := hp.length_eq
    rw [List.length_append] at hl
    refine List.mem_flatMap.mpr ⟨A ++ B, mem_permsL hp, List.mem_map.mpr ⟨A.length, List.mem_range.mpr (by omega), ?_⟩⟩
    unfold insAt
    rw [List.take_left, List.drop_left]
theorem nodup_len {α : Type} : ∀ {l m : List α}, l.Nodup → (∀ x ∈ l, x ∈ m) → l.length ≤ m.length
  | [], _, _, _ => Nat.zero_le _
  | a :: l, m, hl, h => by
    obtain ⟨A, B, rfl⟩ := List.append_of_mem (h a List.mem_cons_self)
    have n1 := List.nodup_cons.mp hl
    have := nodup_len (l := l) (m := A ++ B) n1.2 fun x hx => by
      have := h x (List.mem_cons_of_mem _ hx)
      rw [List.mem_append, List.mem_cons] at this
      rw [List.mem_append]
      rcases this with z | z | z
      · exact .inl z
      · exact absurd (z ▸ hx) n1.1
      · exact .inr z
    rw [List.length_append] at this
    rw [List.length_append, List.length_cons, List.length_cons]; omega
theorem rows_len {L : List (List Int)} {row : List Int} (nd : L.Nodup) (h : ∀ r ∈ L, r.Perm row) : L.length ≤ fact row.length := by
  rw [← permsL_len]
  exact nodup_len nd fun r hr => mem_permsL (h r hr)
end
end Bub

set_option Elab.async false
set_option linter.all false
namespace Bub
/-! turning a spelling of the longest order -/
def turn (n : Int) (w : List Int) : List Int := (n - w.getLastD 0) :: w.dropLast
def itT (n : Int) : Nat → List Int → List Int
  | 0, w => w
  | t + 1, w => itT n t (turn n w)
theorem itT_add (n : Int) : ∀ (s t : Nat) (w : List Int), itT n (s + t) w = itT n t (itT n s w)
  | 0, t, w => by rw [Nat.zero_add]; rfl
  | s + 1, t, w => by rw [Nat.succ_add]; exact itT_add n s t (turn n w)
theorem itT_succ (n : Int) (t : Nat) (w : List Int) : itT n (t + 1) w = turn n (itT n t w) := itT_add n t 1 w
theorem turn_snoc (n x : Int) (u : List Int) : turn n (u ++ [x]) = (n - x) :: u := by unfold turn; simp
theorem turn_len {n : Int} {w : List Int} (h : w ≠ []) : (turn n w).length = w.length := by
  unfold turn
  rw [List.length_cons, List.length_dropLast]
  have := List.length_pos_iff.mpr h
  omega
theorem itT_block (n : Int) : ∀ (m : Nat) (a b : List Int), b.length = m → itT n m (a ++ b) = b.map (fun x => n - x) ++ a
  | 0, a, b, h => by rw [List.eq_nil_of_length_eq_zero h]; simp [itT]
  | m + 1, a, b, h => by
    obtain ⟨c, x, rfl⟩ : ∃ c x, b = c ++ [x] := ⟨b.dropLast, b.getLast (by intro z; rw [z] at h; cases h), (List.dropLast_concat_getLast _).symm⟩
    rw [List.length_append] at h
    show itT n m (turn n (a ++ (c ++ [x]))) = _
    rw [← List.append_assoc, turn_snoc, show (n - x) :: (a ++ c) = ((n - x) :: a) ++ c from rfl, itT_block n m _ c (by simpa using h)]
    simp
theorem itT_len (n : Int) (w : List Int) : itT n w.length w = w.map (fun x => n - x) := by
  have := itT_block n w.length [] w rfl
  simpa using this
theorem itT_two (n : Int) (w : List Int) : itT n (2 * w.length) w = w := by
  rw [Nat.two_mul, itT_add, itT_len]
  have := itT_len n (w.map fun x => n - x)
  rw [List.length_map] at this
  rw [this, List.map_map]
  conv => rhs; rw [← List.map_id w]
  exact List.map_congr_left fun x _ => by show n - (n - x) = x; omega
theorem least {P : Nat → Prop} [DecidablePred P] : ∀ N : Nat, 1 ≤ N → P N → ∃ m, 1 ≤ m ∧ m ≤ N ∧ P m ∧ ∀ t, 1 ≤ t → t < m → ¬ P t := by
  intro N
  induction N using Nat.strongRecOn with
  | ind N ih =>
    intro h1 hp
    by_cases h : ∃ t, 1 ≤ t ∧ t < N ∧ P t
    · obtain ⟨t, a, b, c⟩ := h
      obtain ⟨m, q1, q2, q3, q4⟩ := ih t b a c
      exact ⟨m, q1, by omega, q3, q4⟩
    · exact ⟨N, h1, Nat.le_refl _, hp, fun t a b c => h ⟨t, a, b, c⟩⟩
/-- the least number of turns -/
theorem round_ex {n : Int} {w : List Int} (h : w ≠ []) : ∃ m, 1 ≤ m ∧ m ≤ 2 * w.length ∧ itT n m w = w ∧ (∀ t, 1 ≤ t → t < m → itT n t w ≠ w) ∧ m ∣ 2 * w.length := by
  have hl := List.length_pos_iff.mpr h
  obtain ⟨m, q1, q2, q3, q4⟩ := least (P := fun t => itT n t w = w) (2 * w.length) (by omega) (itT_two n w)
  refine ⟨m, q1, q2, q3, q4, ?_⟩
  have hmul : ∀ j, itT n (m * j) w = w := by
    intro j
    induction j with
    | zero => rfl
    | succ j ih => rw [Nat.mul_succ, itT_add, ih]; exact q3
  have hr : itT n (2 * w.length % m) w = w := by
    have e := itT_two n w
    rw [← Nat.div_add_mod (2 * w.length) m, itT_add, hmul] at e
    exact e
  by_cases z : 2 * w.length % m = 0
  · exact Nat.dvd_of_mod_eq_zero z
  · exact absurd hr (q4 _ (by omega) (Nat.mod_lt _ (by omega)))
theorem tau_flip {n k : Nat} (h : k < n) (x : Int) : tau (n - k) (flip n x) = flip n (tau k x) := by
  unfold tau flip
  have : ((n - k : Nat) : Int) = (n : Int) - k := by omega
  rw [this]
  split <;> split <;> (try split) <;> omega
/-- a turn spells the longest order again -/
theorem turn_ok {n k : Nat} {u : List Nat} (hb : ∀ j ∈ u ++ [k], 1 ≤ j ∧ j < n) (h : app (u ++ [k]) (jars 0 n) = longest n) : app ((n - k) :: u) (jars 0 n) = longest n := by
  obtain ⟨h1, h2⟩ := hb k (by simp)
  have hl : (app u (jars 0 n)).length = n := by rw [app_len, jars_len]
  have e : app u (jars 0 n) = sw k (longest n) := by
    rw [app_app] at h
    have h : sw k (app u (jars 0 n)) = longest n := h
    rw [← h, sw_sw h1 (by omega)]
  rw [app_vs (by omega) (by omega), e]
  unfold vs longest
  rw [← sw_map, List.map_map]
  have e2 : (jars 0 n).map (tau (n - k) ∘ flip n) = ((jars 0 n).map (tau k)).map (flip n) := by
    rw [List.map_map]
    exact List.map_congr_left fun x _ => tau_flip h2 x
  rw [e2, tau_jars h1 h2, ← sw_map, sw_map, sw_map, sw_sw h1 (by rw [jars_len]; exact h2)]
end Bub

set_option Elab.async false
set_option linter.all false
set_option maxRecDepth 100000
set_option maxHeartbeats 4000000
namespace K25
open PySem PySem.Spec PyProof.Rows L2 DL DL.Enc
def topS (i : Nat) : Stmt := PySem.Challenge.pw_spelledrows_k25_whole_turnings_and_far_c.main.body.getD i (.Pass ⟨0, 0, 0, 0⟩)

abbrev s_exchanged_at : Stmt := topS 6
abbrev N_exchanged_at : List Str := ["row", "k"]
theorem sc_exchanged_at : FnScope N_exchanged_at ["row", "k"] (defScope s_exchanged_at) := ⟨rfl, rfl, rfl, by decide +kernel, rfl, by decide +kernel, by decide +kernel⟩
abbrev s_sorted_order : Stmt := topS 7
abbrev N_sorted_order : List Str := ["n"]
theorem sc_sorted_order : FnScope N_sorted_order ["n"] (defScope s_sorted_order) := ⟨rfl, rfl, rfl, by decide +kernel, rfl, by decide +kernel, by decide +kernel⟩
abbrev s_wrong_jars : Stmt := topS 8
abbrev N_wrong_jars : List Str := ["row", "found", "j", "i"]
theorem sc_wrong_jars : FnScope N_wrong_jars ["row"] (defScope s_wrong_jars) := ⟨rfl, rfl, rfl, by decide +kernel, rfl, by decide +kernel, by decide +kernel⟩
abbrev s_last_members : Stmt := topS 9
abbrev N_last_members : List Str := ["row", "k"]
theorem sc_last_members : FnScope N_last_members ["row"] (defScope s_last_members) := ⟨rfl, rfl, rfl, by decide +kernel, rfl, by decide +kernel, by decide +kernel⟩
abbrev s_last_members__T : Stmt := topS 9
abbrev N_last_members__T : List Str := ["row", "k"]
theorem sc_last_members__T : FnScope N_last_members__T ["row"] (defScope s_last_members__T) := ⟨rfl, rfl, rfl, by decide +kernel, rfl, by decide +kernel, by decide +kernel⟩
abbrev s_longest_order : Stmt := topS 12
abbrev N_longest_order : List Str := ["n"]
theorem sc_longest_order : FnScope N_longest_order ["n"] (defScope s_longest_order) := ⟨rfl, rfl, rfl, by decide +kernel, rfl, by decide +kernel, by decide +kernel⟩
abbrev s_without_first : Stmt := topS 13
abbrev N_without_first : List Str := ["row", "k", "names", "jar"]
theorem sc_without_first : FnScope N_without_first ["row", "k"] (defScope s_without_first) := ⟨rfl, rfl, rfl, by decide +kernel, rfl, by decide +kernel, by decide +kernel⟩
abbrev s_may_move : Stmt := topS 18
abbrev N_may_move : List Str := ["word", "at", "which"]
theorem sc_may_move : FnScope N_may_move ["word", "at", "which"] (defScope s_may_move) := ⟨rfl, rfl, rfl, by decide +kernel, rfl, by decide +kernel, by decide +kernel⟩
abbrev s_do_move : Stmt := topS 19
abbrev N_do_move : List Str := ["word", "at", "which"]
theorem sc_do_move : FnScope N_do_move ["word", "at", "which"] (defScope s_do_move) := ⟨rfl, rfl, rfl, by decide +kernel, rfl, by decide +kernel, by decide +kernel⟩
abbrev s_turned_spelling : Stmt := topS 22
abbrev N_turned_spelling : List Str := ["n", "word"]
theorem sc_turned_spelling : FnScope N_turned_spelling ["n", "word"] (defScope s_turned_spelling) := ⟨rfl, rfl, rfl, by decide +kernel, rfl, by decide +kernel, by decide +kernel⟩
abbrev s__law_feed : Stmt := topS 29
abbrev N__law_feed : List Str := ["script"]
theorem sc__law_feed : FnScope N__law_feed ["script"] (defScope s__law_feed) := ⟨rfl, rfl, rfl, by decide +kernel, rfl, by decide +kernel, by decide +kernel⟩
abbrev s__law_draw : Stmt := topS 30
abbrev N__law_draw : List Str := ["feed", "many", "cell", "told", "mixed"]
theorem sc__law_draw : FnScope N__law_draw ["feed", "many"] (defScope s__law_draw) := ⟨rfl, rfl, rfl, by decide +kernel, rfl, by decide +kernel, by decide +kernel⟩
abbrev s__law_whole : Stmt := topS 31
abbrev N__law_whole : List Str := ["x"]
theorem sc__law_whole : FnScope N__law_whole ["x"] (defScope s__law_whole) := ⟨rfl, rfl, rfl, by decide +kernel, rfl, by decide +kernel, by decide +kernel⟩
abbrev s__law_swapped : Stmt := topS 34
abbrev N__law_swapped : List Str := ["row", "k"]
theorem sc__law_swapped : FnScope N__law_swapped ["row", "k"] (defScope s__law_swapped) := ⟨rfl, rfl, rfl, by decide +kernel, rfl, by decide +kernel, by decide +kernel⟩
abbrev s__law_wrong : Stmt := topS 36
abbrev N__law_wrong : List Str := ["row", "many", "j", "i"]
theorem sc__law_wrong : FnScope N__law_wrong ["row"] (defScope s__law_wrong) := ⟨rfl, rfl, rfl, by decide +kernel, rfl, by decide +kernel, by decide +kernel⟩
abbrev s__law_class : Stmt := topS 42
abbrev N__law_class : List Str := ["word", "found", "step", "here", "at", "after"]
theorem sc__law_class : FnScope N__law_class ["word"] (defScope s__law_class) := ⟨rfl, rfl, rfl, by decide +kernel, rfl, by decide +kernel, by decide +kernel⟩
abbrev s_places_of : Stmt := topS 10
abbrev N_places_of : List Str := ["row", "jar"]
theorem sc_places_of : FnScope N_places_of ["row"] (defScope s_places_of) := ⟨rfl, rfl, rfl, by decide +kernel, rfl, by decide +kernel, by decide +kernel⟩
abbrev s_count_spellings : Stmt := topS 14
abbrev N_count_spellings : List Str := ["row", "ways", "_", "after", "here", "many", "k", "key"]
theorem sc_count_spellings : FnScope N_count_spellings ["row"] (defScope s_count_spellings) := ⟨rfl, rfl, rfl, by decide +kernel, rfl, by decide +kernel, by decide +kernel⟩
abbrev s_turn_round : Stmt := topS 23
abbrev N_turn_round : List Str := ["n", "word", "many", "here"]
theorem sc_turn_round : FnScope N_turn_round ["n", "word"] (defScope s_turn_round) := ⟨rfl, rfl, rfl, by decide +kernel, rfl, by decide +kernel, by decide +kernel⟩
abbrev s_class_of : Stmt := topS 25
abbrev N_class_of : List Str := ["word", "met", "step", "here", "at", "after"]
theorem sc_class_of : FnScope N_class_of ["word"] (defScope s_class_of) := ⟨rfl, rfl, rfl, by decide +kernel, rfl, by decide +kernel, by decide +kernel⟩
abbrev s__law_wholes : Stmt := topS 32
abbrev N__law_wholes : List Str := ["x", "n", "k"]
theorem sc__law_wholes : FnScope N__law_wholes ["x", "n"] (defScope s__law_wholes) := ⟨rfl, rfl, rfl, by decide +kernel, rfl, by decide +kernel, by decide +kernel⟩
abbrev s__law_order : Stmt := topS 33
abbrev N__law_order : List Str := ["feed", "n", "left", "k", "order"]
theorem sc__law_order : FnScope N__law_order ["feed", "n"] (defScope s__law_order) := ⟨rfl, rfl, rfl, by decide +kernel, rfl, by decide +kernel, by decide +kernel⟩
abbrev s__law_spelled : Stmt := topS 35
abbrev N__law_spelled : List Str := ["n", "word", "row", "k"]
theorem sc__law_spelled : FnScope N__law_spelled ["n", "word"] (defScope s__law_spelled) := ⟨rfl, rfl, rfl, by decide +kernel, rfl, by decide +kernel, by decide +kernel⟩
abbrev s__law_drawn_spelling : Stmt := topS 37
abbrev N__law_drawn_spelling : List Str := ["feed", "row", "here", "word", "step", "members", "k"]
theorem sc__law_drawn_spelling : FnScope N__law_drawn_spelling ["feed", "row"] (defScope s__law_drawn_spelling) := ⟨rfl, rfl, rfl, by decide +kernel, rfl, by decide +kernel, by decide +kernel⟩
abbrev s__law_all : Stmt := topS 38
abbrev N__law_all : List Str := ["row", "found", "step", "longer", "word", "here", "k", "pair"]
theorem sc__law_all : FnScope N__law_all ["row"] (defScope s__law_all) := ⟨rfl, rfl, rfl, by decide +kernel, rfl, by decide +kernel, by decide +kernel⟩
abbrev s__law_walk_right : Stmt := topS 41
abbrev N__law_walk_right : List Str := ["n", "word", "here", "turn", "k"]
theorem sc__law_walk_right : FnScope N__law_walk_right ["n", "word"] (defScope s__law_walk_right) := ⟨rfl, rfl, rfl, by decide +kernel, rfl, by decide +kernel, by decide +kernel⟩
abbrev s_first_members : Stmt := topS 11
abbrev N_first_members : List Str := ["row"]
theorem sc_first_members : FnScope N_first_members ["row"] (defScope s_first_members) := ⟨rfl, rfl, rfl, by decide +kernel, rfl, by decide +kernel, by decide +kernel⟩
abbrev s_check_few : Stmt := topS 24
abbrev N_check_few : List Str := ["n"]
theorem sc_check_few : FnScope N_check_few ["n"] (defScope s_check_few) := ⟨rfl, rfl, rfl, by decide +kernel, rfl, by decide +kernel, by decide +kernel⟩
abbrev s__law_spelling_longest : Stmt := topS 39
abbrev N__law_spelling_longest : List Str := ["n", "word", "k"]
theorem sc__law_spelling_longest : FnScope N__law_spelling_longest ["n", "word"] (defScope s__law_spelling_longest) := ⟨rfl, rfl, rfl, by decide +kernel, rfl, by decide +kernel, by decide +kernel⟩
abbrev s_all_spellings : Stmt := topS 15
abbrev N_all_spellings : List Str := ["row", "found", "_", "longer", "word", "here", "k"]
theorem sc_all_spellings : FnScope N_all_spellings ["row"] (defScope s_all_spellings) := ⟨rfl, rfl, rfl, by decide +kernel, rfl, by decide +kernel, by decide +kernel⟩
abbrev s_far_class : Stmt := topS 26
abbrev N_far_class : List Str := ["n", "word"]
theorem sc_far_class : FnScope N_far_class ["n", "word"] (defScope s_far_class) := ⟨rfl, rfl, rfl, by decide +kernel, rfl, by decide +kernel, by decide +kernel⟩
abbrev s__law_turned_right : Stmt := topS 40
abbrev N__law_turned_right : List Str := ["n", "word", "handed", "told", "here", "found", "turn", "k", "many"]
theorem sc__law_turned_right : FnScope N__law_turned_right ["n", "word"] (defScope s__law_turned_right) := ⟨rfl, rfl, rfl, by decide +kernel, rfl, by decide +kernel, by decide +kernel⟩
abbrev s_count_far_classes : Stmt := topS 27
abbrev N_count_far_classes : List Str := ["n", "firsts", "word", "at", "first"]
theorem sc_count_far_classes : FnScope N_count_far_classes ["n"] (defScope s_count_far_classes) := ⟨rfl, rfl, rfl, by decide +kernel, rfl, by decide +kernel, by decide +kernel⟩
abbrev s__law_asked : Stmt := topS 43
abbrev N__law_asked : List Str := ["n", "word", "handed", "told", "e"]
theorem sc__law_asked : FnScope N__law_asked ["n", "word"] (defScope s__law_asked) := ⟨rfl, rfl, rfl, by decide +kernel, rfl, by decide +kernel, by decide +kernel⟩
abbrev s__law_class_right : Stmt := topS 44
abbrev N__law_class_right : List Str := ["n", "word", "due", "told", "at"]
theorem sc__law_class_right : FnScope N__law_class_right ["n", "word"] (defScope s__law_class_right) := ⟨rfl, rfl, rfl, by decide +kernel, rfl, by decide +kernel, by decide +kernel⟩
abbrev s_law : Stmt := topS 45
abbrev N_law : List Str := ["script", "feed", "n", "word", "k", "turn", "few", "row", "firsts", "own", "first", "told", "great"]
theorem sc_law : FnScope N_law ["script"] (defScope s_law) := ⟨rfl, rfl, rfl, by decide +kernel, rfl, by decide +kernel, by decide +kernel⟩
def isub (c D : String) : Bool := (c == "ShelfError" && ["ShelfError"].contains D) || (c == "NoExchange" && ["NoExchange", "ShelfError"].contains D) || (c == "TooMany" && ["TooMany", "ShelfError"].contains D)
def flds (c : String) : List Str := if c = "ShelfError" then [] else if c = "NoExchange" then ["at"] else if c = "TooMany" then ["limit"] else []
structure Tx (P : Program) (w : World) (K : PySem.W.Frag) (mg : Str → Option Value) (base : Heap) (cl : String → Option (Addr × List Str)) : Prop where
  z_abs : mg "abs" = none
  z_all : mg "all" = none
  z_bool : mg "bool" = none
  z_enumerate : mg "enumerate" = none
  z_int : mg "int" = none
  z_isinstance : mg "isinstance" = none
  z_len : mg "len" = none
  z_list : mg "list" = none
  z_range : mg "range" = none
  z_sorted : mg "sorted" = none
  z_sum : mg "sum" = none
  z_tuple : mg "tuple" = none
  c_FAR : ∃ t, mg "FAR" = some (.str "far" t)
  c_MOST_JARS : ∃ t, mg "MOST_JARS" = some (.int 4 t)
  c_MOST_TOLD : ∃ t, mg "MOST_TOLD" = some (.int 300 t)
  x_ShelfError : ∃ C, cl "ShelfError" = some (C, []) ∧ XF K mg "ShelfError" C []
  x_NoExchange : ∃ C, cl "NoExchange" = some (C, ([("at" : Str)] : List Str)) ∧ XM1 P w K mg base "NoExchange" C "at"
  x_TooMany : ∃ C, cl "TooMany" = some (C, ([("limit" : Str)] : List Str)) ∧ XM1 P w K mg base "TooMany" C "limit"
  xs : ∀ c C fl, cl c = some (C, fl) → ∀ D C2 fl2, cl D = some (C2, fl2) → PySem.W.kitOne K (.ref C) (.ref C2) = some (isub c D) ∧ PySem.W.exmOne K (.ref C) (.ref C2) = some (isub c D)
  xf : ∀ c C fl, cl c = some (C, fl) → ∃ x, XF K mg x C fl
  fl : ∀ c C fl, cl c = some (C, fl) → fl = flds c
  f_exchanged_at : FnTx K mg "exchanged_at" s_exchanged_at ["row", "k"]
  f_sorted_order : FnTx K mg "sorted_order" s_sorted_order ["n"]
  f_wrong_jars : FnTx K mg "wrong_jars" s_wrong_jars ["row"]
  f_last_members : FnTx K mg "last_members" s_last_members ["row"]
  f_longest_order : FnTx K mg "longest_order" s_longest_order ["n"]
  f_without_first : FnTx K mg "without_first" s_without_first ["row", "k"]
  f_may_move : FnTx K mg "may_move" s_may_move ["word", "at", "which"]
  f_do_move : FnTx K mg "do_move" s_do_move ["word", "at", "which"]
  f_turned_spelling : FnTx K mg "turned_spelling" s_turned_spelling ["n", "word"]
  f__law_feed : FnTx K mg "_law_feed" s__law_feed ["script"]
  f__law_draw : FnTx K mg "_law_draw" s__law_draw ["feed", "many"]
  f__law_whole : FnTx K mg "_law_whole" s__law_whole ["x"]
  f__law_swapped : FnTx K mg "_law_swapped" s__law_swapped ["row", "k"]
  f__law_wrong : FnTx K mg "_law_wrong" s__law_wrong ["row"]
  f__law_class : FnTx K mg "_law_class" s__law_class ["word"]
  f_places_of : FnTx K mg "places_of" s_places_of ["row"]
  f_count_spellings : FnTx K mg "count_spellings" s_count_spellings ["row"]
  f_turn_round : FnTx K mg "turn_round" s_turn_round ["n", "word"]
  f_class_of : FnTx K mg "class_of" s_class_of ["word"]
  f__law_wholes : FnTx K mg "_law_wholes" s__law_wholes ["x", "n"]
  f__law_order : FnTx K mg "_law_order" s__law_order ["feed", "n"]
  f__law_spelled : FnTx K mg "_law_spelled" s__law_spelled ["n", "word"]
  f__law_drawn_spelling : FnTx K mg "_law_drawn_spelling" s__law_drawn_spelling ["feed", "row"]
  f__law_all : FnTx K mg "_law_all" s__law_all ["row"]
  f__law_walk_right : FnTx K mg "_law_walk_right" s__law_walk_right ["n", "word"]
  f_first_members : FnTx K mg "first_members" s_first_members ["row"]
  f_check_few : FnTx K mg "check_few" s_check_few ["n"]
  f__law_spelling_longest : FnTx K mg "_law_spelling_longest" s__law_spelling_longest ["n", "word"]
  f_all_spellings : FnTx K mg "all_spellings" s_all_spellings ["row"]
  f_far_class : FnTx K mg "far_class" s_far_class ["n", "word"]
  f__law_turned_right : FnTx K mg "_law_turned_right" s__law_turned_right ["n", "word"]
  f_count_far_classes : FnTx K mg "count_far_classes" s_count_far_classes ["n"]
  f__law_asked : FnTx K mg "_law_asked" s__law_asked ["n", "word"]
  f__law_class_right : FnTx K mg "_law_class_right" s__law_class_right ["n", "word"]
  f_law : FnTx K mg "law" s_law ["script"]
section
variable {P : Program} {w : World} {K : PySem.W.Frag} {mg : Str → Option Value} {base : Heap} {cl : String → Option (Addr × List Str)}
def M_exchanged_at (v_row : (List Int)) (v_k : Int) : Res (Ctl Empty Empty (List Int)) := (sseq ((sbind (sbind (sbind (spure (v_row : (List Int))) fun x => sbind (spure none) fun i => sbind (sbind (sbind (spure (v_k : Int)) fun x => sbind (spure (1 : Int)) fun y => spure (x - y)) fun i => spure (some i)) fun j => spure (cutL x i j)) fun x => sbind (sbind (sbind (spure (v_row : (List Int))) fun x => sbind (spure (v_k : Int)) fun y => slift (ofOpt (L2.atI x y))) fun a => sbind (sbind (sbind (spure (v_row : (List Int))) fun x => sbind (sbind (spure (v_k : Int)) fun x => sbind (spure (1 : Int)) fun y => spure (x - y)) fun y => slift (ofOpt (L2.atI x y))) fun a => sbind (spure ([] : List Int)) fun as => spure (a :: as)) fun as => spure (a :: as)) fun y => slift (ofOpt (catO x y))) fun x => sbind (sbind (spure (v_row : (List Int))) fun x => sbind (sbind (sbind (spure (v_k : Int)) fun x => sbind (spure (1 : Int)) fun y => spure (x + y)) fun i => spure (some i)) fun i => sbind (spure none) fun j => spure (cutL x i j)) fun y => slift (ofOpt (catO x y))) ()) fun a _ => .ok (.rt a))
def m_exchanged_at (v_row : (List Int)) (v_k : Int) : Res (List Int) := fnE (M_exchanged_at v_row v_k)
theorem def_exchanged_at (T : Tx P w K mg base cl) : DefN P w K mg base 1 "exchanged_at" (fun t : (List Int) × Int × Unit => [enc t.1, enc t.2.1]) (fun t => m_exchanged_at t.1 t.2.1) := by
  obtain ⟨f, fd, hm, F, b⟩ := T.f_exchanged_at.ex
  have h := gNE_ok cl (P := P) (w := w) (base := base) (mg := mg) (k := 0) (encs := fun t : (List Int) × Int × Unit => [enc t.1, enc t.2.1]) (M := fun t => M_exchanged_at t.1 t.2.1) F sc_exchanged_at 0 (fun _ => rfl) rfl
  refine ⟨f, fd, _, hm, F.kp, b, h ?_⟩
  intro cdv A outer s H t hr E_
  obtain ⟨v_row, v_k, _u⟩ := t
  have nd := sc_exchanged_at.nd
  exact (p_ret (fun (s : Unit) => [.dat (enc (v_row : (List Int))), .dat (enc (v_k : Int))]) () (EP.frozen (e_cat (EP.frozen (e_cat (EP.frozen (e_slice (ev 0 (v_row : (List Int))) o_none (o_some (e_sub (ev 1 (v_k : Int)) e_int)))) (EP.frozen (e_lst (ld_cons (e_ix (ev 0 (v_row : (List Int))) (ev 1 (v_k : Int))) (ld_cons (e_ix (ev 0 (v_row : (List Int))) (e_sub (ev 1 (v_k : Int)) e_int)) (ld_nil (α := Int)))))))) (EP.frozen (e_slice (ev 0 (v_row : (List Int))) (o_some (e_add (ev 1 (v_k : Int)) e_int)) o_none)))))
def M_sorted_order (v_n : Int) : Res (Ctl Empty Empty (List Int)) := (sseq ((sbind (spure (1 : Int)) fun i => sbind (sbind (spure (v_n : Int)) fun x => sbind (spure (1 : Int)) fun y => spure (x + y)) fun j => slift (ofOpt (rangeO i j))) ()) fun a _ => .ok (.rt a))
def m_sorted_order (v_n : Int) : Res (List Int) := fnE (M_sorted_order v_n)
theorem def_sorted_order (T : Tx P w K mg base cl) : DefN P w K mg base 1 "sorted_order" (fun t : Int × Unit => [enc t.1]) (fun t => m_sorted_order t.1) := by
  obtain ⟨f, fd, hm, F, b⟩ := T.f_sorted_order.ex
  have h := gNE_ok cl (P := P) (w := w) (base := base) (mg := mg) (k := 0) (encs := fun t : Int × Unit => [enc t.1]) (M := fun t => M_sorted_order t.1) F sc_sorted_order 0 (fun _ => rfl) rfl
  refine ⟨f, fd, _, hm, F.kp, b, h ?_⟩
  intro cdv A outer s H t hr E_
  obtain ⟨v_n, _u⟩ := t
  have nd := sc_sorted_order.nd
  exact (p_ret (fun (s : Unit) => [.dat (enc (v_n : Int))]) () (EP.frozen (e_listRange2 rfl T.z_range T.z_list e_int (e_add (ev 0 (v_n : Int)) e_int))))
def M_wrong_jars (v_row : (List Int)) : Res (Ctl Empty Empty (List (Int × Int))) := (sseq ((spure ([] : List (Int × Int))) ()) fun v_found_2 s1 => (seqC (sseq ((sbind (sbind (spure (v_row : (List Int))) fun x => spure ((x.length : Int))) fun n => slift (ofOpt (rangeO 0 n))) ()) fun xs s3 => forR (fun (x5 : Int) (g4 : (List (Int × Int))) => (sseq ((sbind (sbind (spure (x5 : Int)) fun n => slift (ofOpt (rangeO 0 n))) fun xs => compS (fun (x6 : Int) => (sbind (sbind (spure (v_row : (List Int))) fun x => sbind (spure (x6 : Int)) fun y => slift (ofOpt (L2.atI x y))) fun x => sbind (sbind (spure (v_row : (List Int))) fun x => sbind (spure (x5 : Int)) fun y => slift (ofOpt (L2.atI x y))) fun y => spure (decide (y < x)))) (fun (x6 : Int) => (sbind (sbind (spure (v_row : (List Int))) fun x => sbind (spure (x5 : Int)) fun y => slift (ofOpt (L2.atI x y))) fun x => sbind (sbind (spure (v_row : (List Int))) fun x => sbind (spure (x6 : Int)) fun y => slift (ofOpt (L2.atI x y))) fun y => spure (x, y))) xs) ()) fun a s7 => ofOpt (extO g4 a) >>= fun v_found_8 => (.ok (.nx v_found_8)))) xs v_found_2) fun (g4 : (List (Int × Int))) => (sseq ((sbind (spure (g4 : (List (Int × Int)))) fun x => spure (psort x)) ()) fun a _ => .ok (.rt a))))
def m_wrong_jars (v_row : (List Int)) : Res (List (Int × Int)) := fnE (M_wrong_jars v_row)
theorem def_wrong_jars (T : Tx P w K mg base cl) : DefN P w K mg base 1 "wrong_jars" (fun t : (List Int) × Unit => [enc t.1]) (fun t => m_wrong_jars t.1) := by
  obtain ⟨f, fd, hm, F, b⟩ := T.f_wrong_jars.ex
  have h := gNE_ok cl (P := P) (w := w) (base := base) (mg := mg) (k := 0) (encs := fun t : (List Int) × Unit => [enc t.1]) (M := fun t => M_wrong_jars t.1) F sc_wrong_jars 3 (fun _ => rfl) rfl
  refine ⟨f, fd, _, hm, F.kp, b, h ?_⟩
  intro cdv A outer s H t hr E_
  obtain ⟨v_row, _u⟩ := t
  have nd := sc_wrong_jars.nd
  exact (p_setL (fun (s : Unit) => [.dat (enc (v_row : (List Int))), .any, .any, .any]) () 1 (ae 1 nd (e_lst (ld_nil (α := (Int × Int))))) (fun v_found_2 s1 => (p_for (vs := [2]) (ρb := fun (g4 : (List (Int × Int))) x => [.dat (enc (v_row : (List Int))), .own (.lst ((g4 : (List (Int × Int))).map enc)), .dat (enc (x : Int)), .any]) (fun (s : Unit) => [.dat (enc (v_row : (List Int))), .own (.lst ((v_found_2 : (List (Int × Int))).map enc)), .any, .any]) () (fun (g4 : (List (Int × Int))) => [.dat (enc (v_row : (List Int))), .own (.lst ((g4 : (List (Int × Int))).map enc)), .any, .any]) (fun (s : Unit) => v_found_2) PassesOwn.never rfl (ei_range1 T.z_range (e_len T.z_len (ev 0 (v_row : (List Int))))) (fun s => (wk_same (wk_same (wk_same (wk_same wk_nil))))) (fun g4 => (g_name 2 nd)) (fun x5 g4 => (p_extend (fun (s : Unit) => [.dat (enc (v_row : (List Int))), .own (.lst ((g4 : (List (Int × Int))).map enc)), .dat (enc (x5 : Int)), .any]) () 1 (fun s => g4) (L2.pv 1) (EP.frozen (CP.e (own := [("i", 3)]) (CP.mk rfl nd (ei_range1 T.z_range (ev 2 (x5 : Int))) (blkOk_by (N := N_wrong_jars) (sc := defScope s_wrong_jars) (by decide +kernel)) (vs_any (fun _ => rfl) vs_nil) ⟨fun s x6 => [.dat (enc (v_row : (List Int))), .own (.lst ((g4 : (List (Int × Int))).map enc)), .dat (enc (x5 : Int)), .dat (enc (x6 : Int))], fun _ _ _ _ _ s => (g_name 3 nd), fun _ _ _ _ _ x6 => (t_one (Cj.toB (c_gt (e_ix (ev 0 (v_row : (List Int))) (ev 3 (x6 : Int))) (e_ix (ev 0 (v_row : (List Int))) (ev 2 (x5 : Int)))))), fun _ _ _ _ _ x6 => (e_pair (e_ix (ev 0 (v_row : (List Int))) (ev 2 (x5 : Int))) (e_ix (ev 0 (v_row : (List Int))) (ev 3 (x6 : Int))))⟩))) (fun v_found_8 s7 => (s_nil (b := v_found_8) (wk_same (wk_same (wk_any (wk_same wk_nil)))))))) (fun g4 => (s_frz (α := (Int × Int)) (xs := g4) 1 (p_ret (fun (s : Unit) => [.dat (enc (v_row : (List Int))), .dat (enc (g4 : (List (Int × Int)))), .any, .any]) () (EP.frozen (e_sortedP T.z_sorted (ev 1 (g4 : (List (Int × Int))))))))))))
def M_last_members (v_row : (List Int)) : Res (Ctl Empty Empty (List Int)) := (sseq ((sbind (sbind (spure (1 : Int)) fun i => sbind (sbind (spure (v_row : (List Int))) fun x => spure ((x.length : Int))) fun j => slift (ofOpt (rangeO i j))) fun xs => compS (fun (x1 : Int) => (sbind (sbind (spure (v_row : (List Int))) fun x => sbind (sbind (spure (x1 : Int)) fun x => sbind (spure (1 : Int)) fun y => spure (x - y)) fun y => slift (ofOpt (L2.atI x y))) fun x => sbind (sbind (spure (v_row : (List Int))) fun x => sbind (spure (x1 : Int)) fun y => slift (ofOpt (L2.atI x y))) fun y => spure (decide (y < x)))) (fun (x1 : Int) => (spure (x1 : Int))) xs) ()) fun a _ => .ok (.rt a))
def m_last_members (v_row : (List Int)) : Res (List Int) := fnE (M_last_members v_row)
theorem def_last_members (T : Tx P w K mg base cl) : DefN P w K mg base 1 "last_members" (fun t : (List Int) × Unit => [enc t.1]) (fun t => m_last_members t.1) := by
  obtain ⟨f, fd, hm, F, b⟩ := T.f_last_members.ex
  have h := gNE_ok cl (P := P) (w := w) (base := base) (mg := mg) (k := 0) (encs := fun t : (List Int) × Unit => [enc t.1]) (M := fun t => M_last_members t.1) F sc_last_members 1 (fun _ => rfl) rfl
  refine ⟨f, fd, _, hm, F.kp, b, h ?_⟩
  intro cdv A outer s H t hr E_
  obtain ⟨v_row, _u⟩ := t
  have nd := sc_last_members.nd
  exact (p_ret (fun (s : Unit) => [.dat (enc (v_row : (List Int))), .any]) () (EP.frozen (CP.e (own := [("k", 1)]) (CP.mk rfl nd (ei_range2 T.z_range e_int (e_len T.z_len (ev 0 (v_row : (List Int))))) (blkOk_by (N := N_last_members) (sc := defScope s_last_members) (by decide +kernel)) (vs_any (fun _ => rfl) vs_nil) ⟨fun s x1 => [.dat (enc (v_row : (List Int))), .dat (enc (x1 : Int))], fun _ _ _ _ _ s => (g_name 1 nd), fun _ _ _ _ _ x1 => (t_one (Cj.toB (c_gt (e_ix (ev 0 (v_row : (List Int))) (e_sub (ev 1 (x1 : Int)) e_int)) (e_ix (ev 0 (v_row : (List Int))) (ev 1 (x1 : Int)))))), fun _ _ _ _ _ x1 => (ev 1 (x1 : Int))⟩))))
def M_last_members__T (v_row : (Tup Int)) : Res (Ctl Empty Empty (List Int)) := (sseq ((sbind (sbind (spure (1 : Int)) fun i => sbind (sbind (spure (v_row : (Tup Int))) fun x => spure (((x.l.map enc).length : Int))) fun j => slift (ofOpt (rangeO i j))) fun xs => compS (fun (x1 : Int) => (sbind (sbind (spure (v_row : (Tup Int))) fun x => sbind (sbind (spure (x1 : Int)) fun x => sbind (spure (1 : Int)) fun y => spure (x - y)) fun y => slift (ofOpt (L2.atI x.l y))) fun x => sbind (sbind (spure (v_row : (Tup Int))) fun x => sbind (spure (x1 : Int)) fun y => slift (ofOpt (L2.atI x.l y))) fun y => spure (decide (y < x)))) (fun (x1 : Int) => (spure (x1 : Int))) xs) ()) fun a _ => .ok (.rt a))
def m_last_members__T (v_row : (Tup Int)) : Res (List Int) := fnE (M_last_members__T v_row)
theorem def_last_members__T (T : Tx P w K mg base cl) : DefN P w K mg base 1 "last_members" (fun t : (Tup Int) × Unit => [enc t.1]) (fun t => m_last_members__T t.1) := by
  obtain ⟨f, fd, hm, F, b⟩ := T.f_last_members.ex
  have h := gNE_ok cl (P := P) (w := w) (base := base) (mg := mg) (k := 0) (encs := fun t : (Tup Int) × Unit => [enc t.1]) (M := fun t => M_last_members__T t.1) F sc_last_members__T 1 (fun _ => rfl) rfl
  refine ⟨f, fd, _, hm, F.kp, b, h ?_⟩
  intro cdv A outer s H t hr E_
  obtain ⟨v_row, _u⟩ := t
  have nd := sc_last_members__T.nd
  exact (p_ret (fun (s : Unit) => [.dat (enc (v_row : (Tup Int))), .any]) () (EP.frozen (CP.e (own := [("k", 1)]) (CP.mk rfl nd (ei_range2 T.z_range e_int (e_lenT (fun _ => rfl) T.z_len (ev 0 (v_row : (Tup Int))))) (blkOk_by (N := N_last_members__T) (sc := defScope s_last_members__T) (by decide +kernel)) (vs_any (fun _ => rfl) vs_nil) ⟨fun s x1 => [.dat (enc (v_row : (Tup Int))), .dat (enc (x1 : Int))], fun _ _ _ _ _ s => (g_name 1 nd), fun _ _ _ _ _ x1 => (t_one (Cj.toB (c_gt (e_ixTup (ev 0 (v_row : (Tup Int))) (e_sub (ev 1 (x1 : Int)) e_int)) (e_ixTup (ev 0 (v_row : (Tup Int))) (ev 1 (x1 : Int)))))), fun _ _ _ _ _ x1 => (ev 1 (x1 : Int))⟩))))
def M_longest_order (v_n : Int) : Res (Ctl Empty Empty (List Int)) := (sseq ((sbind (spure (v_n : Int)) fun i => sbind (spure (0 : Int)) fun j => slift (ofOpt (downO i j))) ()) fun a _ => .ok (.rt a))
def m_longest_order (v_n : Int) : Res (List Int) := fnE (M_longest_order v_n)
theorem def_longest_order (T : Tx P w K mg base cl) : DefN P w K mg base 1 "longest_order" (fun t : Int × Unit => [enc t.1]) (fun t => m_longest_order t.1) := by
  obtain ⟨f, fd, hm, F, b⟩ := T.f_longest_order.ex
  have h := gNE_ok cl (P := P) (w := w) (base := base) (mg := mg) (k := 0) (encs := fun t : Int × Unit => [enc t.1]) (M := fun t => M_longest_order t.1) F sc_longest_order 0 (fun _ => rfl) rfl
  refine ⟨f, fd, _, hm, F.kp, b, h ?_⟩
  intro cdv A outer s H t hr E_
  obtain ⟨v_n, _u⟩ := t
  have nd := sc_longest_order.nd
  exact (p_ret (fun (s : Unit) => [.dat (enc (v_n : Int))]) () (EP.frozen (e_listDown rfl T.z_range T.z_list (ev 0 (v_n : Int)) e_int)))
def M_without_first (v_row : (List Int)) (v_k : Int) : Res (Ctl Empty Empty (List Int)) := (sseq ((sbind (spure (v_k : Int)) fun a => sbind (sbind (spure (v_k : Int)) fun x => sbind (spure (1 : Int)) fun y => spure (x + y)) fun b => sbind (sbind (spure (v_k : Int)) fun x => sbind (spure (1 : Int)) fun y => spure (x + y)) fun c => sbind (spure (v_k : Int)) fun d => spure (putD (putD [] a b) c d)) ()) fun v_names_2 s1 => (sseq ((sbind (spure (v_row : (List Int))) fun xs => compS (fun (x3 : Int) => (spure true)) (fun (x3 : Int) => (sbind (spure (x3 : Int)) fun k => sbind (spure (x3 : Int)) fun d s => .ok (getD (v_names_2 : (List (Int × Int))) k d, s))) xs) ()) fun a _ => .ok (.rt a)))
def m_without_first (v_row : (List Int)) (v_k : Int) : Res (List Int) := fnE (M_without_first v_row v_k)
theorem def_without_first (T : Tx P w K mg base cl) : DefN P w K mg base 1 "without_first" (fun t : (List Int) × Int × Unit => [enc t.1, enc t.2.1]) (fun t => m_without_first t.1 t.2.1) := by
  obtain ⟨f, fd, hm, F, b⟩ := T.f_without_first.ex
  have h := gNE_ok cl (P := P) (w := w) (base := base) (mg := mg) (k := 0) (encs := fun t : (List Int) × Int × Unit => [enc t.1, enc t.2.1]) (M := fun t => M_without_first t.1 t.2.1) F sc_without_first 2 (fun _ => rfl) rfl
  refine ⟨f, fd, _, hm, F.kp, b, h ?_⟩
  intro cdv A outer s H t hr E_
  obtain ⟨v_row, v_k, _u⟩ := t
  have nd := sc_without_first.nd
  exact (p_setDK (β := Int) (fun (s : Unit) => [.dat (enc (v_row : (List Int))), .dat (enc (v_k : Int)), .any, .any]) () 2 (ae 2 nd (e_disp2K (β := Int) (ev 1 (v_k : Int)) (e_add (ev 1 (v_k : Int)) e_int) (e_add (ev 1 (v_k : Int)) e_int) (ev 1 (v_k : Int)))) (fun v_names_2 s1 => (p_ret (fun (s : Unit) => [.dat (enc (v_row : (List Int))), .dat (enc (v_k : Int)), .own (.dK (encD (v_names_2 : (List (Int × Int))))), .any]) () (EP.frozen (CP.e (own := [("jar", 3)]) (CP.mk rfl nd (ei_list (ev 0 (v_row : (List Int)))) (blkOk_by (N := N_without_first) (sc := defScope s_without_first) (by decide +kernel)) (vs_any (fun _ => rfl) vs_nil) ⟨fun s x3 => [.dat (enc (v_row : (List Int))), .dat (enc (v_k : Int)), .own (.dK (encD (v_names_2 : (List (Int × Int))))), .dat (enc (x3 : Int))], fun _ _ _ _ _ s => (g_name 3 nd), fun _ _ _ _ _ x3 => t_none, fun _ _ _ _ _ x3 => (e_getD (β := Int) (fun s => (v_names_2 : (List (Int × Int)))) (Nat.lt_of_le_of_lt (Nat.add_le_add_left (by decide) _) (room65 hr)) (L2.pv 2) (ev 3 (x3 : Int)) (ev 3 (x3 : Int)))⟩))))))
def M_may_move (v_word : (List Int)) (v_at : Int) (v_which : Str) : Res (Ctl Empty Empty Bool) := (sseq ((sbind (spure (v_at : Int)) fun x => sbind (spure (0 : Int)) fun y => spure (decide (x < y))) ()) fun b s1 => if b = true then exitC (sseq ((spure false) ()) fun a _ => .ok (.rt a)) else (sseq ((sbind (spure (v_which : Str)) fun x => sbind (spure (PySem.Str.ofString "far")) fun y => spure (decide (x = y))) ()) fun b s2 => if b = true then exitC (sseq ((sbind (sbind (sbind (spure (v_at : Int)) fun x => sbind (spure (1 : Int)) fun y => spure (x + y)) fun x => sbind (sbind (spure (v_word : (List Int))) fun x => spure ((x.length : Int))) fun y => spure (decide (x < y))) fun x => if x = true then (sbind (sbind (sbind (sbind (spure (v_word : (List Int))) fun x => sbind (spure (v_at : Int)) fun y => slift (ofOpt (L2.atI x y))) fun x => sbind (sbind (spure (v_word : (List Int))) fun x => sbind (sbind (spure (v_at : Int)) fun x => sbind (spure (1 : Int)) fun y => spure (x + y)) fun y => slift (ofOpt (L2.atI x y))) fun y => spure (x - y)) fun x => spure (if x < 0 then -x else x)) fun x => sbind (spure (1 : Int)) fun y => spure (decide (y < x))) else spure false) ()) fun a _ => .ok (.rt a)) else (sseq ((sbind (sbind (sbind (spure (v_at : Int)) fun x => sbind (spure (2 : Int)) fun y => spure (x + y)) fun x => sbind (sbind (spure (v_word : (List Int))) fun x => spure ((x.length : Int))) fun y => spure (decide (x < y))) fun x => if x = true then (sbind (sbind (sbind (spure (v_word : (List Int))) fun x => sbind (spure (v_at : Int)) fun y => slift (ofOpt (L2.atI x y))) fun x => sbind (sbind (spure (v_word : (List Int))) fun x => sbind (sbind (spure (v_at : Int)) fun x => sbind (spure (2 : Int)) fun y => spure (x + y)) fun y => slift (ofOpt (L2.atI x y))) fun y => spure (decide (x = y))) fun x => if x = true then (sbind (sbind (sbind (sbind (spure (v_word : (List Int))) fun x => sbind (spure (v_at : Int)) fun y => slift (ofOpt (L2.atI x y))) fun x => sbind (sbind (spure (v_word : (List Int))) fun x => sbind (sbind (spure (v_at : Int)) fun x => sbind (spure (1 : Int)) fun y => spure (x + y)) fun y => slift (ofOpt (L2.atI x y))) fun y => spure (x - y)) fun x => spure (if x < 0 then -x else x)) fun x => sbind (spure (1 : Int)) fun y => spure (decide (x = y))) else spure false) else spure false) ()) fun a _ => .ok (.rt a))))
def m_may_move (v_word : (List Int)) (v_at : Int) (v_which : Str) : Res Bool := fnE (M_may_move v_word v_at v_which)
theorem def_may_move (T : Tx P w K mg base cl) : DefN P w K mg base 1 "may_move" (fun t : (List Int) × Int × Str × Unit => [enc t.1, enc t.2.1, enc t.2.2.1]) (fun t => m_may_move t.1 t.2.1 t.2.2.1) := by
  obtain ⟨f, fd, hm, F, b⟩ := T.f_may_move.ex
  obtain ⟨t_FAR, k_FAR⟩ := T.c_FAR
  have h := gNE_ok cl (P := P) (w := w) (base := base) (mg := mg) (k := 0) (encs := fun t : (List Int) × Int × Str × Unit => [enc t.1, enc t.2.1, enc t.2.2.1]) (M := fun t => M_may_move t.1 t.2.1 t.2.2.1) F sc_may_move 0 (fun _ => rfl) rfl
  refine ⟨f, fd, _, hm, F.kp, b, h ?_⟩
  intro cdv A outer s H t hr E_
  obtain ⟨v_word, v_at, v_which, _u⟩ := t
  have nd := sc_may_move.nd
  exact (p_ifE (fun (s : Unit) => [.dat (enc (v_word : (List Int))), .dat (enc (v_at : Int)), .dat (enc (v_which : Str))]) () (Cj.toB (c_lt (ev 1 (v_at : Int)) e_int)) (fun s1 => (p_ret (fun (s : Unit) => [.dat (enc (v_word : (List Int))), .dat (enc (v_at : Int)), .dat (enc (v_which : Str))]) () e_bl)) (fun s1 => (p_ifE (fun (s : Unit) => [.dat (enc (v_word : (List Int))), .dat (enc (v_at : Int)), .dat (enc (v_which : Str))]) () (Cj.toB (c_eqS (ev 2 (v_which : Str)) (e_gS "far" k_FAR))) (fun s2 => (p_ret (fun (s : Unit) => [.dat (enc (v_word : (List Int))), .dat (enc (v_at : Int)), .dat (enc (v_which : Str))]) () (e_and (Cj.toE (c_lt (e_add (ev 1 (v_at : Int)) e_int) (e_len T.z_len (ev 0 (v_word : (List Int)))))) (e_and1 (Cj.toE (c_gt (e_abs T.z_abs (e_sub (e_ix (ev 0 (v_word : (List Int))) (ev 1 (v_at : Int))) (e_ix (ev 0 (v_word : (List Int))) (e_add (ev 1 (v_at : Int)) e_int)))) e_int)))))) (fun s2 => (p_ret (fun (s : Unit) => [.dat (enc (v_word : (List Int))), .dat (enc (v_at : Int)), .dat (enc (v_which : Str))]) () (e_and (Cj.toE (c_lt (e_add (ev 1 (v_at : Int)) e_int) (e_len T.z_len (ev 0 (v_word : (List Int)))))) (e_and (Cj.toE (c_eq hr.units (e_ix (ev 0 (v_word : (List Int))) (ev 1 (v_at : Int))) (e_ix (ev 0 (v_word : (List Int))) (e_add (ev 1 (v_at : Int)) e_int)))) (e_and1 (Cj.toE (c_eq hr.units (e_abs T.z_abs (e_sub (e_ix (ev 0 (v_word : (List Int))) (ev 1 (v_at : Int))) (e_ix (ev 0 (v_word : (List Int))) (e_add (ev 1 (v_at : Int)) e_int)))) e_int))))))))))
def M_do_move (v_word : (List Int)) (v_at : Int) (v_which : Str) : Res (Ctl Empty Empty (List Int)) := (sseq ((sbind (spure (v_which : Str)) fun x => sbind (spure (PySem.Str.ofString "far")) fun y => spure (decide (x = y))) ()) fun b s1 => if b = true then exitC (sseq ((sbind (sbind (sbind (spure (v_word : (List Int))) fun x => sbind (spure none) fun i => sbind (sbind (spure (v_at : Int)) fun i => spure (some i)) fun j => spure (cutL x i j)) fun x => sbind (sbind (sbind (spure (v_word : (List Int))) fun x => sbind (sbind (spure (v_at : Int)) fun x => sbind (spure (1 : Int)) fun y => spure (x + y)) fun y => slift (ofOpt (L2.atI x y))) fun a => sbind (sbind (sbind (spure (v_word : (List Int))) fun x => sbind (spure (v_at : Int)) fun y => slift (ofOpt (L2.atI x y))) fun a => sbind (spure ([] : List Int)) fun as => spure (a :: as)) fun as => spure (a :: as)) fun y => slift (ofOpt (catO x y))) fun x => sbind (sbind (spure (v_word : (List Int))) fun x => sbind (sbind (sbind (spure (v_at : Int)) fun x => sbind (spure (2 : Int)) fun y => spure (x + y)) fun i => spure (some i)) fun i => sbind (spure none) fun j => spure (cutL x i j)) fun y => slift (ofOpt (catO x y))) ()) fun a _ => .ok (.rt a)) else (sseq ((sbind (sbind (sbind (spure (v_word : (List Int))) fun x => sbind (spure none) fun i => sbind (sbind (spure (v_at : Int)) fun i => spure (some i)) fun j => spure (cutL x i j)) fun x => sbind (sbind (sbind (spure (v_word : (List Int))) fun x => sbind (sbind (spure (v_at : Int)) fun x => sbind (spure (1 : Int)) fun y => spure (x + y)) fun y => slift (ofOpt (L2.atI x y))) fun a => sbind (sbind (sbind (spure (v_word : (List Int))) fun x => sbind (spure (v_at : Int)) fun y => slift (ofOpt (L2.atI x y))) fun a => sbind (sbind (sbind (spure (v_word : (List Int))) fun x => sbind (sbind (spure (v_at : Int)) fun x => sbind (spure (1 : Int)) fun y => spure (x + y)) fun y => slift (ofOpt (L2.atI x y))) fun a => sbind (spure ([] : List Int)) fun as => spure (a :: as)) fun as => spure (a :: as)) fun as => spure (a :: as)) fun y => slift (ofOpt (catO x y))) fun x => sbind (sbind (spure (v_word : (List Int))) fun x => sbind (sbind (sbind (spure (v_at : Int)) fun x => sbind (spure (3 : Int)) fun y => spure (x + y)) fun i => spure (some i)) fun i => sbind (spure none) fun j => spure (cutL x i j)) fun y => slift (ofOpt (catO x y))) ()) fun a _ => .ok (.rt a)))
def m_do_move (v_word : (List Int)) (v_at : Int) (v_which : Str) : Res (List Int) := fnE (M_do_move v_word v_at v_which)
theorem def_do_move (T : Tx P w K mg base cl) : DefN P w K mg base 1 "do_move" (fun t : (List Int) × Int × Str × Unit => [enc t.1, enc t.2.1, enc t.2.2.1]) (fun t => m_do_move t.1 t.2.1 t.2.2.1) := by
  obtain ⟨f, fd, hm, F, b⟩ := T.f_do_move.ex
  obtain ⟨t_FAR, k_FAR⟩ := T.c_FAR
  have h := gNE_ok cl (P := P) (w := w) (base := base) (mg := mg) (k := 0) (encs := fun t : (List Int) × Int × Str × Unit => [enc t.1, enc t.2.1, enc t.2.2.1]) (M := fun t => M_do_move t.1 t.2.1 t.2.2.1) F sc_do_move 0 (fun _ => rfl) rfl
  refine ⟨f, fd, _, hm, F.kp, b, h ?_⟩
  intro cdv A outer s H t hr E_
  obtain ⟨v_word, v_at, v_which, _u⟩ := t
  have nd := sc_do_move.nd
  exact (p_ifE (fun (s : Unit) => [.dat (enc (v_word : (List Int))), .dat (enc (v_at : Int)), .dat (enc (v_which : Str))]) () (Cj.toB (c_eqS (ev 2 (v_which : Str)) (e_gS "far" k_FAR))) (fun s1 => (p_ret (fun (s : Unit) => [.dat (enc (v_word : (List Int))), .dat (enc (v_at : Int)), .dat (enc (v_which : Str))]) () (EP.frozen (e_cat (EP.frozen (e_cat (EP.frozen (e_slice (ev 0 (v_word : (List Int))) o_none (o_some (ev 1 (v_at : Int))))) (EP.frozen (e_lst (ld_cons (e_ix (ev 0 (v_word : (List Int))) (e_add (ev 1 (v_at : Int)) e_int)) (ld_cons (e_ix (ev 0 (v_word : (List Int))) (ev 1 (v_at : Int))) (ld_nil (α := Int)))))))) (EP.frozen (e_slice (ev 0 (v_word : (List Int))) (o_some (e_add (ev 1 (v_at : Int)) e_int)) o_none)))))) (fun s1 => (p_ret (fun (s : Unit) => [.dat (enc (v_word : (List Int))), .dat (enc (v_at : Int)), .dat (enc (v_which : Str))]) () (EP.frozen (e_cat (EP.frozen (e_cat (EP.frozen (e_slice (ev 0 (v_word : (List Int))) o_none (o_some (ev 1 (v_at : Int))))) (EP.frozen (e_lst (ld_cons (e_ix (ev 0 (v_word : (List Int))) (e_add (ev 1 (v_at : Int)) e_int)) (ld_cons (e_ix (ev 0 (v_word : (List Int))) (ev 1 (v_at : Int))) (ld_cons (e_ix (ev 0 (v_word : (List Int))) (e_add (ev 1 (v_at : Int)) e_int)) (ld_nil (α := Int))))))))) (EP.frozen (e_slice (ev 0 (v_word : (List Int))) (o_some (e_add (ev 1 (v_at : Int)) e_int)) o_none)))))))
def M_turned_spelling (v_n : Int) (v_word : (List Int)) : Res (Ctl Empty Empty (List Int)) := (sseq ((sbind (sbind (sbind (spure (v_n : Int)) fun x => sbind (sbind (spure (v_word : (List Int))) fun x => sbind (sbind (spure (1 : Int)) fun x => spure (-x)) fun y => slift (ofOpt (L2.atI x y))) fun y => spure (x - y)) fun a => sbind (spure ([] : List Int)) fun as => spure (a :: as)) fun x => sbind (sbind (spure (v_word : (List Int))) fun x => sbind (spure none) fun i => sbind (sbind (sbind (spure (1 : Int)) fun x => spure (-x)) fun i => spure (some i)) fun j => spure (cutL x i j)) fun y => slift (ofOpt (catO x y))) ()) fun a _ => .ok (.rt a))
def m_turned_spelling (v_n : Int) (v_word : (List Int)) : Res (List Int) := fnE (M_turned_spelling v_n v_word)
theorem def_turned_spelling (T : Tx P w K mg base cl) : DefNG P w K mg base 1 "turned_spelling" (PrL K (Int)) (fun t : Int × (List Int) × Unit => [enc t.1, enc t.2.1]) (fun t => m_turned_spelling t.1 t.2.1) := by
  obtain ⟨f, fd, hm, F, b⟩ := T.f_turned_spelling.ex
  have h := gNG_ok cl (P := P) (w := w) (base := base) (mg := mg) (k := 0) (Pr := (PrL K (Int))) (encs := fun t : Int × (List Int) × Unit => [enc t.1, enc t.2.1]) (M := fun t => M_turned_spelling t.1 t.2.1) F sc_turned_spelling 0 (fun _ => rfl) rfl
  refine ⟨f, fd, _, hm, F.kp, b, h ?_⟩
  intro cdv A outer s H t hr E_
  obtain ⟨v_n, v_word, _u⟩ := t
  have nd := sc_turned_spelling.nd
  exact (p_retNL (fun (s : Unit) => [.dat (enc (v_n : Int)), .dat (enc (v_word : (List Int)))]) () (e_cat (EP.frozen (e_lst (ld_cons (e_sub (ev 0 (v_n : Int)) (e_ix (ev 1 (v_word : (List Int))) (e_neg e_int))) (ld_nil (α := Int))))) (EP.frozen (e_slice (ev 1 (v_word : (List Int))) o_none (o_some (e_neg e_int))))))
theorem def__law_feed (T : Tx P w K mg base cl) : DefMk P w K mg base 1 "_law_feed" := by
  obtain ⟨f, fd, hm, F, b⟩ := T.f__law_feed.ex
  refine ⟨f, fd, _, hm, F.kp, b, F.ok sc__law_feed (fun vs H Q E h => ?_) (fun cdv A outer s H vs Q E hr h => ?_)⟩
  · obtain ⟨a, ns, rfl, _⟩ := h; rfl
  · obtain ⟨a, ns, rfl, hS, hl, q⟩ := h
    refine ⟨_, pss_one (ps_ret (pe_lst (pa_cons (pe_freeze (pe_callTy call_list_of rfl T.z_list (by decide +kernel) (pa_cons (L2.pv 0) pa_nil))) (pa_cons pe_int (pa_cons pe_int (pa_cons pe_int pa_nil)))))), ?_⟩
    refine ⟨.ref a, rfl, a, _, rfl, .inl hS, fun l nl => ⟨l, _, rfl, upd_same, fun o => ?_⟩⟩
    refine ⟨by rw [sizeLine_eq, List.length_cons, List.length_cons, List.length_cons, List.length_cons, List.length_nil]; omega, fun p np => ?_⟩
    have npl : p ≠ l := fun z => by subst z; rw [upd_same] at np; cases np
    have n2 : H p = none := by rw [upd_ne npl, upd_ne npl] at np; exact np
    have e1 : ∀ b u, H b = some u → upd (upd (upd H l (.lst (ns.map V.int))) l (.frz o (.lst (ns.map V.int)))) p (.lst [.ref l, .int 0, .int 0, .int 1]) b = some u := fun b u h => by
      rw [upd_ne (ne_of_none h n2), upd_ne (ne_of_none h nl), upd_ne (ne_of_none h nl)]; exact h
    refine q _ p _ n2 e1 upd_same (.cons (.lst ⟨o, by rw [upd_ne (Ne.symm npl), upd_same]⟩ ?_ (by rw [List.length_map]; exact hl)) (.cons (.int 0) (.cons (.int 0) (.cons (.int 1) .nil))))
    have := rpAll_ints (K := K) (H := upd (upd (upd H l (.lst (ns.map V.int))) l (.frz o (.lst (ns.map V.int)))) p (.lst [.ref l, .int 0, .int 0, .int 1])) ns
    exact this
def M__law_draw (v_many : Int) (v_feed : Fd) : Res (Ctl Empty Empty (Int × Fd)) := (seqC (sseq ((sbind (sbind (fun s => .ok (v_feed.big, s)) fun x => sbind (spure (0 : Int)) fun y => spure (decide (x = y))) fun x => if x = true then (sbind (fun s => .ok (v_feed.pos, s)) fun x => sbind (sbind (fun s => .ok (v_feed.script, s)) fun x => spure ((x.length : Int))) fun y => spure (decide (x < y))) else spure false) ()) fun b s1 => if b = true then (sseq ((sbind (sbind (fun s => .ok (v_feed.script, s)) fun x => sbind (fun s => .ok (v_feed.pos, s)) fun y => slift (ofOpt (L2.atI x y))) fun x => spure (if x < 0 then -x else x)) ()) fun v_cell_4 s3 => (val1 (spure (1 : Int)) >>= fun b => app1 (fun n5 => (sseq ((sbind (spure (v_cell_4 : Int)) fun x => sbind (sbind (spure (10 : Int)) fun x => sbind (spure (18 : Int)) fun y => slift (ofOpt (powO x y))) fun y => spure (decide (y ≤ x))) ()) fun b s6 => if b = true then (val1 (spure (v_cell_4 : Int)) >>= fun n7 => (.ok (.nx (⟨(⟨v_feed.script, n5, v_feed.big, v_feed.seed⟩ : Fd).script, (⟨v_feed.script, n5, v_feed.big, v_feed.seed⟩ : Fd).pos, n7, (⟨v_feed.script, n5, v_feed.big, v_feed.seed⟩ : Fd).seed⟩ : Fd)))) else (val1 (sbind (sbind (sbind (sbind (fun s => .ok ((⟨v_feed.script, n5, v_feed.big, v_feed.seed⟩ : Fd).seed, s)) fun x => sbind (spure (48271 : Int)) fun y => slift (ofOpt (mulO x y))) fun x => sbind (sbind (spure (v_cell_4 : Int)) fun x => sbind (spure (69621 : Int)) fun y => slift (ofOpt (mulO x y))) fun y => spure (x + y)) fun x => sbind (fun s => .ok ((⟨v_feed.script, n5, v_feed.big, v_feed.seed⟩ : Fd).pos, s)) fun y => spure (x + y)) fun x => sbind (spure (2147483647 : Int)) fun y => slift (ofOpt (modO x y))) >>= fun n8 => (.ok (.nx (⟨(⟨v_feed.script, n5, v_feed.big, v_feed.seed⟩ : Fd).script, (⟨v_feed.script, n5, v_feed.big, v_feed.seed⟩ : Fd).pos, (⟨v_feed.script, n5, v_feed.big, v_feed.seed⟩ : Fd).big, n8⟩ : Fd)))))) (v_feed.pos + b))) else (.ok (.nx v_feed))) fun (j2 : Fd) => (sseq ((sbind (fun s => .ok (j2.big, s)) fun x => sbind (spure (0 : Int)) fun y => spure (decide (y < x))) ()) fun b s9 => if b = true then exitC (sseq ((sbind (fun s => .ok (j2.big, s)) fun x => sbind (spure (v_many : Int)) fun y => slift (ofOpt (modO x y))) ()) fun v_told_11 s10 => (val1 (sbind (fun s => .ok (j2.big, s)) fun x => sbind (spure (v_many : Int)) fun y => slift (ofOpt (divO x y))) >>= fun n12 => (sseq ((spure (v_told_11 : Int)) ()) fun a s => .ok (.rt (a, (⟨j2.script, j2.pos, n12, j2.seed⟩ : Fd)))))) else (val1 (sbind (sbind (sbind (fun s => .ok (j2.seed, s)) fun x => sbind (spure (16807 : Int)) fun y => slift (ofOpt (mulO x y))) fun x => sbind (spure (12345 : Int)) fun y => spure (x + y)) fun x => sbind (spure (2147483647 : Int)) fun y => slift (ofOpt (modO x y))) >>= fun n13 => (sseq ((sbind (sbind (sbind (fun s => .ok ((⟨j2.script, j2.pos, j2.big, n13⟩ : Fd).seed, s)) fun x => sbind (fun s => .ok ((⟨j2.script, j2.pos, j2.big, n13⟩ : Fd).seed, s)) fun y => slift (ofOpt (mulO x y))) fun x => sbind (fun s => .ok ((⟨j2.script, j2.pos, j2.big, n13⟩ : Fd).seed, s)) fun y => spure (x + y)) fun x => sbind (spure (2147483629 : Int)) fun y => slift (ofOpt (modO x y))) ()) fun v_mixed_15 s14 => (sseq ((sbind (sbind (spure (v_mixed_15 : Int)) fun x => sbind (spure (11 : Int)) fun y => slift (ofOpt (divO x y))) fun x => sbind (spure (v_many : Int)) fun y => slift (ofOpt (modO x y))) ()) fun a s => .ok (.rt (a, (⟨j2.script, j2.pos, j2.big, n13⟩ : Fd))))))))
def m__law_draw (v_many : Int) (v_feed : Fd) : Res (Int × Fd) := fnE (M__law_draw v_many v_feed)
theorem def0__law_draw (T : Tx P w K mg base cl) : DefF P w K mg base 1 "_law_draw" (fun t : Int × Unit => [enc t.1]) (fun t fd => m__law_draw t.1 fd) := by
  obtain ⟨f, fd, hm, F, b⟩ := T.f__law_draw.ex
  have h := gF_ok cl (P := P) (w := w) (base := base) (mg := mg) (k := 0) (encs := fun t : Int × Unit => [enc t.1]) (M := fun t fd => M__law_draw t.1 fd) F sc__law_draw 3 (fun _ => rfl) rfl
  refine ⟨f, fd, _, hm, F.kp, b, h ?_⟩
  intro cdv A outer s H t v_feed p hr E_
  obtain ⟨v_many, _u⟩ := t
  have nd := sc__law_draw.nd
  exact (p_if (fun (s : Unit) => [.io p (.lst (encF v_feed)), .dat (enc (v_many : Int)), .any, .any, .any]) () (fun (j2 : Fd) => [.io p (.lst (encF j2)), .dat (enc (v_many : Int)), .any, .any, .any]) (BW.test (bw_and (Cj.toB (c_eq hr.units (e_fd (fun s => v_feed) (fun s => v_feed.big) (L2.pv 0) (view_io (get := fun s => encF v_feed)) e_int (fun _ => rfl)) e_int)) (bw_and1 (Cj.toB (c_lt (e_fd (fun s => v_feed) (fun s => v_feed.pos) (L2.pv 0) (view_io (get := fun s => encF v_feed)) e_int (fun _ => rfl)) (e_len T.z_len (e_fd (fun s => v_feed) (fun s => v_feed.script) (L2.pv 0) (view_io (get := fun s => encF v_feed)) e_int (fun _ => rfl)))))))) (fun s1 => (p_set (fun (s : Unit) => [.io p (.lst (encF v_feed)), .dat (enc (v_many : Int)), .any, .any, .any]) () 2 (ae 2 nd (e_abs T.z_abs (e_intI T.z_int (e_ix (e_fd (fun s => v_feed) (fun s => v_feed.script) (L2.pv 0) (view_io (get := fun s => encF v_feed)) e_int (fun _ => rfl)) (e_fd (fun s => v_feed) (fun s => v_feed.pos) (L2.pv 0) (view_io (get := fun s => encF v_feed)) e_int (fun _ => rfl)))))) (fun v_cell_4 s3 => (s_augItemD (f := (fun i j => i + j)) (sl := .io p (.lst (encF v_feed))) (xs := encF v_feed) (j := 1) (n := v_feed.pos) (a := (.int v_feed.pos : PyData)) (fun z : Int => (.int z : PyData)) (fun z => encF ⟨v_feed.script, z, v_feed.big, v_feed.seed⟩) ip_add (L2.pv 0) e_int (un_lift e_int) rfl (.inr ⟨p, rfl⟩) rfl rfl (fun _ => rfl) (fun _ => rfl) (fun n5 => (p_ifZ (fun (s : Unit) => [.io p (.lst (encF (⟨v_feed.script, n5, v_feed.big, v_feed.seed⟩ : Fd))), .dat (enc (v_many : Int)), .dat (enc (v_cell_4 : Int)), .any, .any]) () (Cj.toB (c_ge (ev 2 (v_cell_4 : Int)) (e_pow e_int e_int))) (fun s6 => (s_setItemD (i := 0) (sl := .io p (.lst (encF (⟨v_feed.script, n5, v_feed.big, v_feed.seed⟩ : Fd)))) (xs := encF (⟨v_feed.script, n5, v_feed.big, v_feed.seed⟩ : Fd)) (j := 2) (fun z : Int => (.int z : PyData)) (fun a => encF ⟨(⟨v_feed.script, n5, v_feed.big, v_feed.seed⟩ : Fd).script, (⟨v_feed.script, n5, v_feed.big, v_feed.seed⟩ : Fd).pos, a, (⟨v_feed.script, n5, v_feed.big, v_feed.seed⟩ : Fd).seed⟩) (L2.pv 0) (ev 2 (v_cell_4 : Int)) (fun _ => rfl) e_int rfl (.inr ⟨p, rfl⟩) (fun _ => rfl) (fun n7 => (s_nil (b := (⟨(⟨v_feed.script, n5, v_feed.big, v_feed.seed⟩ : Fd).script, (⟨v_feed.script, n5, v_feed.big, v_feed.seed⟩ : Fd).pos, n7, (⟨v_feed.script, n5, v_feed.big, v_feed.seed⟩ : Fd).seed⟩ : Fd)) (wk_same (wk_same (wk_any (wk_same (wk_same wk_nil))))))))) (fun s6 => (s_setItemD (i := 0) (sl := .io p (.lst (encF (⟨v_feed.script, n5, v_feed.big, v_feed.seed⟩ : Fd)))) (xs := encF (⟨v_feed.script, n5, v_feed.big, v_feed.seed⟩ : Fd)) (j := 3) (fun z : Int => (.int z : PyData)) (fun a => encF ⟨(⟨v_feed.script, n5, v_feed.big, v_feed.seed⟩ : Fd).script, (⟨v_feed.script, n5, v_feed.big, v_feed.seed⟩ : Fd).pos, (⟨v_feed.script, n5, v_feed.big, v_feed.seed⟩ : Fd).big, a⟩) (L2.pv 0) (e_mod (e_intI T.z_int (e_add (e_add (e_mul (e_fd (fun s => (⟨v_feed.script, n5, v_feed.big, v_feed.seed⟩ : Fd)) (fun s => (⟨v_feed.script, n5, v_feed.big, v_feed.seed⟩ : Fd).seed) (L2.pv 0) (view_io (get := fun s => encF (⟨v_feed.script, n5, v_feed.big, v_feed.seed⟩ : Fd))) e_int (fun _ => rfl)) e_int) (e_mul (ev 2 (v_cell_4 : Int)) e_int)) (e_fd (fun s => (⟨v_feed.script, n5, v_feed.big, v_feed.seed⟩ : Fd)) (fun s => (⟨v_feed.script, n5, v_feed.big, v_feed.seed⟩ : Fd).pos) (L2.pv 0) (view_io (get := fun s => encF (⟨v_feed.script, n5, v_feed.big, v_feed.seed⟩ : Fd))) e_int (fun _ => rfl)))) e_int) (fun _ => rfl) e_int rfl (.inr ⟨p, rfl⟩) (fun _ => rfl) (fun n8 => (s_nil (b := (⟨(⟨v_feed.script, n5, v_feed.big, v_feed.seed⟩ : Fd).script, (⟨v_feed.script, n5, v_feed.big, v_feed.seed⟩ : Fd).pos, (⟨v_feed.script, n5, v_feed.big, v_feed.seed⟩ : Fd).big, n8⟩ : Fd)) (wk_same (wk_same (wk_any (wk_same (wk_same wk_nil))))))))))))))) (fun s1 => (s_nil (b := v_feed) (wk_same (wk_same (wk_same (wk_same (wk_same wk_nil))))))) (fun j2 => (p_ifE (fun (s : Unit) => [.io p (.lst (encF j2)), .dat (enc (v_many : Int)), .any, .any, .any]) () (Cj.toB (c_gt (e_fd (fun s => j2) (fun s => j2.big) (L2.pv 0) (view_io (get := fun s => encF j2)) e_int (fun _ => rfl)) e_int)) (fun s9 => (p_set (fun (s : Unit) => [.io p (.lst (encF j2)), .dat (enc (v_many : Int)), .any, .any, .any]) () 3 (ae 3 nd (e_mod (e_intI T.z_int (e_fd (fun s => j2) (fun s => j2.big) (L2.pv 0) (view_io (get := fun s => encF j2)) e_int (fun _ => rfl))) (ev 1 (v_many : Int)))) (fun v_told_11 s10 => (s_setItemD (i := 0) (sl := .io p (.lst (encF j2))) (xs := encF j2) (j := 2) (fun z : Int => (.int z : PyData)) (fun a => encF ⟨j2.script, j2.pos, a, j2.seed⟩) (L2.pv 0) (e_div (e_fd (fun s => j2) (fun s => j2.big) (L2.pv 0) (view_io (get := fun s => encF j2)) e_int (fun _ => rfl)) (ev 1 (v_many : Int))) (fun _ => rfl) e_int rfl (.inr ⟨p, rfl⟩) (fun _ => rfl) (fun n12 => (p_retF (fun (s : Unit) => [.io p (.lst (encF (⟨j2.script, j2.pos, n12, j2.seed⟩ : Fd))), .dat (enc (v_many : Int)), .any, .dat (enc (v_told_11 : Int)), .any]) () 0 (fun s => (⟨j2.script, j2.pos, n12, j2.seed⟩ : Fd)) (ev 3 (v_told_11 : Int)))))))) (fun s9 => (s_setItemD (i := 0) (sl := .io p (.lst (encF j2))) (xs := encF j2) (j := 3) (fun z : Int => (.int z : PyData)) (fun a => encF ⟨j2.script, j2.pos, j2.big, a⟩) (L2.pv 0) (e_mod (e_intI T.z_int (e_add (e_mul (e_fd (fun s => j2) (fun s => j2.seed) (L2.pv 0) (view_io (get := fun s => encF j2)) e_int (fun _ => rfl)) e_int) e_int)) e_int) (fun _ => rfl) e_int rfl (.inr ⟨p, rfl⟩) (fun _ => rfl) (fun n13 => (p_set (fun (s : Unit) => [.io p (.lst (encF (⟨j2.script, j2.pos, j2.big, n13⟩ : Fd))), .dat (enc (v_many : Int)), .any, .any, .any]) () 4 (ae 4 nd (e_mod (e_intI T.z_int (e_add (e_mul (e_fd (fun s => (⟨j2.script, j2.pos, j2.big, n13⟩ : Fd)) (fun s => (⟨j2.script, j2.pos, j2.big, n13⟩ : Fd).seed) (L2.pv 0) (view_io (get := fun s => encF (⟨j2.script, j2.pos, j2.big, n13⟩ : Fd))) e_int (fun _ => rfl)) (e_fd (fun s => (⟨j2.script, j2.pos, j2.big, n13⟩ : Fd)) (fun s => (⟨j2.script, j2.pos, j2.big, n13⟩ : Fd).seed) (L2.pv 0) (view_io (get := fun s => encF (⟨j2.script, j2.pos, j2.big, n13⟩ : Fd))) e_int (fun _ => rfl))) (e_fd (fun s => (⟨j2.script, j2.pos, j2.big, n13⟩ : Fd)) (fun s => (⟨j2.script, j2.pos, j2.big, n13⟩ : Fd).seed) (L2.pv 0) (view_io (get := fun s => encF (⟨j2.script, j2.pos, j2.big, n13⟩ : Fd))) e_int (fun _ => rfl)))) e_int)) (fun v_mixed_15 s14 => (p_retF (fun (s : Unit) => [.io p (.lst (encF (⟨j2.script, j2.pos, j2.big, n13⟩ : Fd))), .dat (enc (v_many : Int)), .any, .any, .dat (enc (v_mixed_15 : Int))]) () 0 (fun s => (⟨j2.script, j2.pos, j2.big, n13⟩ : Fd)) (e_mod (e_div (ev 4 (v_mixed_15 : Int)) e_int) (ev 1 (v_many : Int))))))))))))
theorem draw_eq {many : Int} {f : Fd} {r : Int × Fd} (h : drawR many f = .ok r) : m__law_draw many f = .ok r := by
  unfold drawR at h
  split at h
  · next c =>
    cases h
    obtain ⟨c1, c2, c3, c4, c5⟩ := c
    have e1 : ∀ x : Int, modO x many = some (x % many) := fun x => chk_pos c1
    have e2 : ∀ x : Int, divO x many = some (x / many) := fun x => chk_pos ⟨c1, c2⟩
    have e3 : ∀ x : Int, modO x 2147483647 = some (x % 2147483647) := fun x => chk_pos (by decide)
    have e4 : ∀ x : Int, modO x 2147483629 = some (x % 2147483629) := fun x => chk_pos (by decide)
    have e5 : ∀ x : Int, divO x 11 = some (x / 11) := fun x => chk_pos (by decide)
    have e6 : ∀ x : Int, mulO x 48271 = some (x * 48271) := fun x => chk_pos (.inr (by decide))
    have e7 : ∀ x : Int, mulO x 69621 = some (x * 69621) := fun x => chk_pos (.inr (by decide))
    have e8 : ∀ x : Int, mulO x 16807 = some (x * 16807) := fun x => chk_pos (.inr (by decide))
    have e9 : ∀ x : Int, mulO (x % 2147483647) (x % 2147483647) = some (x % 2147483647 * (x % 2147483647)) := fun x => chk_pos (.inr (by omega))
    have e10 : powO 10 18 = some (10 ^ 18) := rfl
    by_cases hb : f.big = 0 ∧ f.pos < f.script.length
    · have e11 : L2.atI f.script f.pos = some (f.script.getD f.pos.toNat 0) := by
        have hl : f.pos.toNat < f.script.length := by omega
        have e : f.script[f.pos.toNat]? = some (f.script.getD f.pos.toNat 0) := by rw [List.getD_eq_getElem?_getD, List.getElem?_eq_getElem hl]; rfl
        have q := L2.atI_nat e
        rwa [Int.toNat_of_nonneg c3] at q
      have e12 : ∀ x : Int, (if x < 0 then -x else x) = ((x.natAbs : Nat) : Int) := fun x => by split <;> omega
      by_cases hc : (10 : Int) ^ 18 ≤ ((f.script.getD f.pos.toNat 0).natAbs : Int)
      · have hp : 0 < ((f.script.getD f.pos.toNat 0).natAbs : Int) := by omega
        simp only [m__law_draw, M__law_draw, drw, sseq, sbind, spure, slift, val1, app1_eq, Res.ok_bind, ofOpt_some, seqC_nx, seqC_ite, seqC_bind, fnE_ite, fnE_bind, fnE_rt, exitC_bind, exitC_rt, e1, e2, e3, e4, e5, e6, e7, e8, e9, e10, decide_eq_true_eq, hb, hc, hp, e11, e12, and_self, if_true, if_pos]
      · simp only [m__law_draw, M__law_draw, drw, sseq, sbind, spure, slift, val1, app1_eq, Res.ok_bind, ofOpt_some, seqC_nx, seqC_ite, seqC_bind, fnE_ite, fnE_bind, fnE_rt, exitC_bind, exitC_rt, e1, e2, e3, e4, e5, e6, e7, e8, e9, e10, decide_eq_true_eq, hb, hc, e11, e12, and_self, if_true, if_false, if_neg, Int.lt_irrefl]
    · by_cases hz : f.big = 0
      · have hq : ¬ f.pos < f.script.length := fun z => hb ⟨hz, z⟩
        simp only [m__law_draw, M__law_draw, drw, sseq, sbind, spure, slift, val1, app1_eq, Res.ok_bind, ofOpt_some, seqC_nx, seqC_ite, seqC_bind, fnE_ite, fnE_bind, fnE_rt, exitC_bind, exitC_rt, e1, e2, e3, e4, e5, e6, e7, e8, e9, e10, decide_eq_true_eq, hz, hq, and_false, if_true, if_false, Bool.false_eq_true, decide_false, Int.lt_irrefl]
      · by_cases hp : 0 < f.big
        · simp only [m__law_draw, M__law_draw, drw, sseq, sbind, spure, slift, val1, app1_eq, Res.ok_bind, ofOpt_some, seqC_nx, seqC_ite, seqC_bind, fnE_ite, fnE_bind, fnE_rt, exitC_bind, exitC_rt, e1, e2, e3, e4, e5, e6, e7, e8, e9, e10, decide_eq_true_eq, hz, hp, false_and, if_true, if_false, Bool.false_eq_true]
        · simp only [m__law_draw, M__law_draw, drw, sseq, sbind, spure, slift, val1, app1_eq, Res.ok_bind, ofOpt_some, seqC_nx, seqC_ite, seqC_bind, fnE_ite, fnE_bind, fnE_rt, exitC_bind, exitC_rt, e1, e2, e3, e4, e5, e6, e7, e8, e9, e10, decide_eq_true_eq, hz, hp, false_and, if_false, Bool.false_eq_true]
  · cases h
theorem def__law_draw (T : Tx P w K mg base cl) : DefF P w K mg base 1 "_law_draw" (fun t : Int × Unit => [enc t.1]) (fun t fd => drawR t.1 fd) := by
  obtain ⟨f, fd, ps, hm, hk, b, F⟩ := def0__law_draw (P := P) (w := w) (base := base) T
  refine ⟨f, fd, ps, hm, hk, b, F.imp ?_⟩
  rintro vs H Q E ⟨p, ws, us, fd0, t, e, hp, hu, hw, q⟩
  refine ⟨p, ws, us, fd0, t, e, hp, hu, hw, ?_⟩
  obtain ⟨r, er, q⟩ := nb_wp q
  show wpR (nb (m__law_draw t.1 fd0)) _ _
  rw [draw_eq er]
  exact q
def M__law_whole (v_x : PyData) : Res (Ctl Empty Empty Bool) := (sseq ((sbind (sbind (spure (v_x : PyData)) fun v => slift (ofOpt (kitB (tyN (enc v)) "int"))) fun x => if x = true then (sbind (sbind (spure (v_x : PyData)) fun v => slift (ofOpt (kitB (tyN (enc v)) "bool"))) fun x => spure (!x)) else spure false) ()) fun a _ => .ok (.rt a))
def m__law_whole (v_x : PyData) : Res Bool := fnE (M__law_whole v_x)
theorem def__law_whole (T : Tx P w K mg base cl) : DefN P w K mg base 1 "_law_whole" (fun t : PyData × Unit => [enc t.1]) (fun t => m__law_whole t.1) := by
  obtain ⟨f, fd, hm, F, b⟩ := T.f__law_whole.ex
  have h := gNE_ok cl (P := P) (w := w) (base := base) (mg := mg) (k := 0) (encs := fun t : PyData × Unit => [enc t.1]) (M := fun t => M__law_whole t.1) F sc__law_whole 0 (fun _ => rfl) rfl
  refine ⟨f, fd, _, hm, F.kp, b, h ?_⟩
  intro cdv A outer s H t hr E_
  obtain ⟨v_x, _u⟩ := t
  have nd := sc__law_whole.nd
  exact (p_ret (fun (s : Unit) => [.dat (enc (v_x : PyData))]) () (e_and (e_isi "int" T.z_isinstance T.z_int (ev 0 (v_x : PyData))) (e_and1 (e_not (e_isi "bool" T.z_isinstance T.z_bool (ev 0 (v_x : PyData)))))))
def M__law_swapped (v_row : (List Int)) (v_k : Int) : Res (Ctl Empty Empty (List Int)) := (sseq ((sbind (sbind (sbind (spure (v_row : (List Int))) fun x => sbind (spure none) fun i => sbind (sbind (sbind (spure (v_k : Int)) fun x => sbind (spure (1 : Int)) fun y => spure (x - y)) fun i => spure (some i)) fun j => spure (cutL x i j)) fun x => sbind (sbind (sbind (spure (v_row : (List Int))) fun x => sbind (spure (v_k : Int)) fun y => slift (ofOpt (L2.atI x y))) fun a => sbind (sbind (sbind (spure (v_row : (List Int))) fun x => sbind (sbind (spure (v_k : Int)) fun x => sbind (spure (1 : Int)) fun y => spure (x - y)) fun y => slift (ofOpt (L2.atI x y))) fun a => sbind (spure ([] : List Int)) fun as => spure (a :: as)) fun as => spure (a :: as)) fun y => slift (ofOpt (catO x y))) fun x => sbind (sbind (spure (v_row : (List Int))) fun x => sbind (sbind (sbind (spure (v_k : Int)) fun x => sbind (spure (1 : Int)) fun y => spure (x + y)) fun i => spure (some i)) fun i => sbind (spure none) fun j => spure (cutL x i j)) fun y => slift (ofOpt (catO x y))) ()) fun a _ => .ok (.rt a))
def m__law_swapped (v_row : (List Int)) (v_k : Int) : Res (List Int) := fnE (M__law_swapped v_row v_k)
theorem def__law_swapped (T : Tx P w K mg base cl) : DefN P w K mg base 1 "_law_swapped" (fun t : (List Int) × Int × Unit => [enc t.1, enc t.2.1]) (fun t => m__law_swapped t.1 t.2.1) := by
  obtain ⟨f, fd, hm, F, b⟩ := T.f__law_swapped.ex
  have h := gNE_ok cl (P := P) (w := w) (base := base) (mg := mg) (k := 0) (encs := fun t : (List Int) × Int × Unit => [enc t.1, enc t.2.1]) (M := fun t => M__law_swapped t.1 t.2.1) F sc__law_swapped 0 (fun _ => rfl) rfl
  refine ⟨f, fd, _, hm, F.kp, b, h ?_⟩
  intro cdv A outer s H t hr E_
  obtain ⟨v_row, v_k, _u⟩ := t
  have nd := sc__law_swapped.nd
  exact (p_ret (fun (s : Unit) => [.dat (enc (v_row : (List Int))), .dat (enc (v_k : Int))]) () (EP.frozen (e_cat (EP.frozen (e_cat (EP.frozen (e_slice (ev 0 (v_row : (List Int))) o_none (o_some (e_sub (ev 1 (v_k : Int)) e_int)))) (EP.frozen (e_lst (ld_cons (e_ix (ev 0 (v_row : (List Int))) (ev 1 (v_k : Int))) (ld_cons (e_ix (ev 0 (v_row : (List Int))) (e_sub (ev 1 (v_k : Int)) e_int)) (ld_nil (α := Int)))))))) (EP.frozen (e_slice (ev 0 (v_row : (List Int))) (o_some (e_add (ev 1 (v_k : Int)) e_int)) o_none)))))
def M__law_wrong (v_row : (List Int)) : Res (Ctl Empty Empty Int) := (sseq ((spure (0 : Int)) ()) fun v_many_2 s1 => (seqC (sseq ((sbind (sbind (spure (v_row : (List Int))) fun x => spure ((x.length : Int))) fun n => slift (ofOpt (rangeO 0 n))) ()) fun xs s3 => forR (fun (x5 : Int) (g4 : Int) => (val1 (sbind (sbind (sbind (spure (x5 : Int)) fun n => slift (ofOpt (rangeO 0 n))) fun xs => compS (fun (x6 : Int) => (sbind (sbind (spure (v_row : (List Int))) fun x => sbind (spure (x6 : Int)) fun y => slift (ofOpt (L2.atI x y))) fun x => sbind (sbind (spure (v_row : (List Int))) fun x => sbind (spure (x5 : Int)) fun y => slift (ofOpt (L2.atI x y))) fun y => spure (decide (y < x)))) (fun (x6 : Int) => (spure (x6 : Int))) xs) fun x => spure ((x.length : Int))) >>= fun b => app1 (fun v_many_7 => (.ok (.nx v_many_7))) (g4 + b))) xs v_many_2) fun (g4 : Int) => (sseq ((spure (g4 : Int)) ()) fun a _ => .ok (.rt a))))
def m__law_wrong (v_row : (List Int)) : Res Int := fnE (M__law_wrong v_row)
theorem def__law_wrong (T : Tx P w K mg base cl) : DefN P w K mg base 1 "_law_wrong" (fun t : (List Int) × Unit => [enc t.1]) (fun t => m__law_wrong t.1) := by
  obtain ⟨f, fd, hm, F, b⟩ := T.f__law_wrong.ex
  have h := gNE_ok cl (P := P) (w := w) (base := base) (mg := mg) (k := 0) (encs := fun t : (List Int) × Unit => [enc t.1]) (M := fun t => M__law_wrong t.1) F sc__law_wrong 3 (fun _ => rfl) rfl
  refine ⟨f, fd, _, hm, F.kp, b, h ?_⟩
  intro cdv A outer s H t hr E_
  obtain ⟨v_row, _u⟩ := t
  have nd := sc__law_wrong.nd
  exact (p_set (fun (s : Unit) => [.dat (enc (v_row : (List Int))), .any, .any, .any]) () 1 (ae 1 nd e_int) (fun v_many_2 s1 => (p_for (vs := [2]) (ρb := fun (g4 : Int) x => [.dat (enc (v_row : (List Int))), .dat (enc (g4 : Int)), .dat (enc (x : Int)), .any]) (fun (s : Unit) => [.dat (enc (v_row : (List Int))), .dat (enc (v_many_2 : Int)), .any, .any]) () (fun (g4 : Int) => [.dat (enc (v_row : (List Int))), .dat (enc (g4 : Int)), .any, .any]) (fun (s : Unit) => v_many_2) PassesOwn.never rfl (ei_range1 T.z_range (e_len T.z_len (ev 0 (v_row : (List Int))))) (fun s => (wk_same (wk_same (wk_same (wk_same wk_nil))))) (fun g4 => (g_name 2 nd)) (fun x5 g4 => (p_aug2 (f := (fun i j => i + j)) 1 (g4 : Int) ip_add nd (e_len T.z_len (EP.frozen (CP.e (own := [("i", 3)]) (CP.mk rfl nd (ei_range1 T.z_range (ev 2 (x5 : Int))) (blkOk_by (N := N__law_wrong) (sc := defScope s__law_wrong) (by decide +kernel)) (vs_any (fun _ => rfl) vs_nil) ⟨fun s x6 => [.dat (enc (v_row : (List Int))), .dat (enc (g4 : Int)), .dat (enc (x5 : Int)), .dat (enc (x6 : Int))], fun _ _ _ _ _ s => (g_name 3 nd), fun _ _ _ _ _ x6 => (t_one (Cj.toB (c_gt (e_ix (ev 0 (v_row : (List Int))) (ev 3 (x6 : Int))) (e_ix (ev 0 (v_row : (List Int))) (ev 2 (x5 : Int)))))), fun _ _ _ _ _ x6 => (ev 3 (x6 : Int))⟩)))) (fun v_many_7 => (s_nil (b := v_many_7) (wk_same (wk_same (wk_any (wk_same wk_nil)))))))) (fun g4 => (p_ret (fun (s : Unit) => [.dat (enc (v_row : (List Int))), .dat (enc (g4 : Int)), .any, .any]) () (ev 1 (g4 : Int)))))))
def M__law_class (v_word : (List Int)) : Res (Ctl Empty Empty (List (List Int))) := (sseq ((sbind (spure (v_word : (List Int))) fun a => sbind (spure ([] : List (List Int))) fun as => spure (a :: as)) ()) fun v_found_2 s1 => (seqC (sseq ((sbind (spure (60 : Int)) fun n => slift (ofOpt (rangeO 0 n))) ()) fun xs s3 => forR (fun (x5 : Int) (g4 : (List (List Int))) => (sseq ((sbind (spure (x5 : Int)) fun x => sbind (fun s => .ok ((g4.length : Int), s)) fun y => spure (decide (x < y))) ()) fun b s6 => if b = true then (sseq ((sbind (spure (x5 : Int)) fun j s => ofOpt (L2.atI g4 j) >>= fun a => .ok (a, s)) ()) fun v_here_8 s7 => (seqC (sseq ((sbind (sbind (sbind (spure (v_here_8 : (List Int))) fun x => spure ((x.length : Int))) fun x => sbind (spure (1 : Int)) fun y => spure (x - y)) fun n => slift (ofOpt (rangeO 0 n))) ()) fun xs s9 => forR (fun (x11 : Int) (g10 : (List (List Int))) => (sseq ((sbind (sbind (sbind (sbind (spure (v_here_8 : (List Int))) fun x => sbind (spure (x11 : Int)) fun y => slift (ofOpt (L2.atI x y))) fun x => sbind (sbind (spure (v_here_8 : (List Int))) fun x => sbind (sbind (spure (x11 : Int)) fun x => sbind (spure (1 : Int)) fun y => spure (x + y)) fun y => slift (ofOpt (L2.atI x y))) fun y => spure (x - y)) fun x => spure (if x < 0 then -x else x)) fun x => sbind (spure (1 : Int)) fun y => spure (decide (y < x))) ()) fun b s12 => if b = true then (sseq ((sbind (sbind (sbind (spure (v_here_8 : (List Int))) fun x => sbind (spure none) fun i => sbind (sbind (spure (x11 : Int)) fun i => spure (some i)) fun j => spure (cutL x i j)) fun x => sbind (sbind (sbind (spure (v_here_8 : (List Int))) fun x => sbind (sbind (spure (x11 : Int)) fun x => sbind (spure (1 : Int)) fun y => spure (x + y)) fun y => slift (ofOpt (L2.atI x y))) fun a => sbind (sbind (sbind (spure (v_here_8 : (List Int))) fun x => sbind (spure (x11 : Int)) fun y => slift (ofOpt (L2.atI x y))) fun a => sbind (spure ([] : List Int)) fun as => spure (a :: as)) fun as => spure (a :: as)) fun y => slift (ofOpt (catO x y))) fun x => sbind (sbind (spure (v_here_8 : (List Int))) fun x => sbind (sbind (sbind (spure (x11 : Int)) fun x => sbind (spure (2 : Int)) fun y => spure (x + y)) fun i => spure (some i)) fun i => sbind (spure none) fun j => spure (cutL x i j)) fun y => slift (ofOpt (catO x y))) ()) fun v_after_14 s13 => (sseq ((sbind (spure (v_after_14 : (List Int))) fun x s => .ok (!memB x g10, s)) ()) fun b s15 => if b = true then (sseq ((spure (v_after_14 : (List Int))) ()) fun a s16 => ofOpt (appO g10 a) >>= fun v_found_17 => (.ok (.nx v_found_17))) else (.ok (.nx g10)))) else (.ok (.nx g10)))) xs g4) fun (g10 : (List (List Int))) => (.ok (.nx g10)))) else (.ok (.nx g4)))) xs v_found_2) fun (g4 : (List (List Int))) => (sseq ((sbind (spure (g4 : (List (List Int)))) fun x => spure (dsort x)) ()) fun a _ => .ok (.rt a))))
def m__law_class (v_word : (List Int)) : Res (List (List Int)) := fnE (M__law_class v_word)
theorem def__law_class (T : Tx P w K mg base cl) : DefN P w K mg base 1 "_law_class" (fun t : (List Int) × Unit => [enc t.1]) (fun t => m__law_class t.1) := by
  obtain ⟨f, fd, hm, F, b⟩ := T.f__law_class.ex
  have h := gNE_ok cl (P := P) (w := w) (base := base) (mg := mg) (k := 0) (encs := fun t : (List Int) × Unit => [enc t.1]) (M := fun t => M__law_class t.1) F sc__law_class 5 (fun _ => rfl) rfl
  refine ⟨f, fd, _, hm, F.kp, b, h ?_⟩
  intro cdv A outer s H t hr E_
  obtain ⟨v_word, _u⟩ := t
  have nd := sc__law_class.nd
  exact (p_setL (fun (s : Unit) => [.dat (enc (v_word : (List Int))), .any, .any, .any, .any, .any]) () 1 (ae 1 nd (e_lst (ld_cons (EP.frozen (e_listOf T.z_list (ev 0 (v_word : (List Int))))) (ld_nil (α := (List Int)))))) (fun v_found_2 s1 => (p_for (vs := [2]) (ρb := fun (g4 : (List (List Int))) x => [.dat (enc (v_word : (List Int))), .own (.lst ((g4 : (List (List Int))).map enc)), .dat (enc (x : Int)), .any, .any, .any]) (fun (s : Unit) => [.dat (enc (v_word : (List Int))), .own (.lst ((v_found_2 : (List (List Int))).map enc)), .any, .any, .any, .any]) () (fun (g4 : (List (List Int))) => [.dat (enc (v_word : (List Int))), .own (.lst ((g4 : (List (List Int))).map enc)), .any, .any, .any, .any]) (fun (s : Unit) => v_found_2) PassesOwn.never rfl (ei_range1 T.z_range e_int) (fun s => (wk_same (wk_same (wk_same (wk_same (wk_same (wk_same wk_nil))))))) (fun g4 => (g_name 2 nd)) (fun x5 g4 => (p_ifZ (fun (s : Unit) => [.dat (enc (v_word : (List Int))), .own (.lst ((g4 : (List (List Int))).map enc)), .dat (enc (x5 : Int)), .any, .any, .any]) () (Cj.toB (c_lt (ev 2 (x5 : Int)) (e_lenO (L2.pv 1) (view_own (get := fun (s : Unit) => g4)) T.z_len))) (fun s6 => (p_set (fun (s : Unit) => [.dat (enc (v_word : (List Int))), .own (.lst ((g4 : (List (List Int))).map enc)), .dat (enc (x5 : Int)), .any, .any, .any]) () 3 (ae 3 nd (e_ixO (L2.pv 1) (view_own (get := fun (s : Unit) => g4)) (ev 2 (x5 : Int)))) (fun v_here_8 s7 => (p_for (vs := [4]) (ρb := fun (g10 : (List (List Int))) x => [.dat (enc (v_word : (List Int))), .own (.lst ((g10 : (List (List Int))).map enc)), .dat (enc (x5 : Int)), .dat (enc (v_here_8 : (List Int))), .dat (enc (x : Int)), .any]) (fun (s : Unit) => [.dat (enc (v_word : (List Int))), .own (.lst ((g4 : (List (List Int))).map enc)), .dat (enc (x5 : Int)), .dat (enc (v_here_8 : (List Int))), .any, .any]) () (fun (g10 : (List (List Int))) => [.dat (enc (v_word : (List Int))), .own (.lst ((g10 : (List (List Int))).map enc)), .dat (enc (x5 : Int)), .dat (enc (v_here_8 : (List Int))), .any, .any]) (fun (s : Unit) => g4) PassesOwn.never rfl (ei_range1 T.z_range (e_sub (e_len T.z_len (ev 3 (v_here_8 : (List Int)))) e_int)) (fun s => (wk_same (wk_same (wk_same (wk_same (wk_same (wk_same wk_nil))))))) (fun g10 => (g_name 4 nd)) (fun x11 g10 => (p_ifZ (fun (s : Unit) => [.dat (enc (v_word : (List Int))), .own (.lst ((g10 : (List (List Int))).map enc)), .dat (enc (x5 : Int)), .dat (enc (v_here_8 : (List Int))), .dat (enc (x11 : Int)), .any]) () (Cj.toB (c_gt (e_abs T.z_abs (e_sub (e_ix (ev 3 (v_here_8 : (List Int))) (ev 4 (x11 : Int))) (e_ix (ev 3 (v_here_8 : (List Int))) (e_add (ev 4 (x11 : Int)) e_int)))) e_int)) (fun s12 => (p_set (fun (s : Unit) => [.dat (enc (v_word : (List Int))), .own (.lst ((g10 : (List (List Int))).map enc)), .dat (enc (x5 : Int)), .dat (enc (v_here_8 : (List Int))), .dat (enc (x11 : Int)), .any]) () 5 (ae 5 nd (EP.frozen (e_cat (EP.frozen (e_cat (EP.frozen (e_slice (ev 3 (v_here_8 : (List Int))) o_none (o_some (ev 4 (x11 : Int))))) (EP.frozen (e_lst (ld_cons (e_ix (ev 3 (v_here_8 : (List Int))) (e_add (ev 4 (x11 : Int)) e_int)) (ld_cons (e_ix (ev 3 (v_here_8 : (List Int))) (ev 4 (x11 : Int))) (ld_nil (α := Int)))))))) (EP.frozen (e_slice (ev 3 (v_here_8 : (List Int))) (o_some (e_add (ev 4 (x11 : Int)) e_int)) o_none))))) (fun v_after_14 s13 => (p_ifZ (fun (s : Unit) => [.dat (enc (v_word : (List Int))), .own (.lst ((g10 : (List (List Int))).map enc)), .dat (enc (x5 : Int)), .dat (enc (v_here_8 : (List Int))), .dat (enc (x11 : Int)), .dat (enc (v_after_14 : (List Int)))]) () (Cj.toB (c_notInOM (room65 hr) (ev 5 (v_after_14 : (List Int))) (L2.pv 1) (view_own (get := fun (s : Unit) => g10)))) (fun s15 => (p_append (fun (s : Unit) => [.dat (enc (v_word : (List Int))), .own (.lst ((g10 : (List (List Int))).map enc)), .dat (enc (x5 : Int)), .dat (enc (v_here_8 : (List Int))), .dat (enc (x11 : Int)), .dat (enc (v_after_14 : (List Int)))]) () 1 (fun s => g10) (L2.pv 1) (ev 5 (v_after_14 : (List Int))) (fun v_found_17 s16 => (s_nil (b := v_found_17) (wk_same (wk_same (wk_same (wk_same (wk_any (wk_any wk_nil)))))))))) (fun s15 => (s_nil (b := g10) (wk_same (wk_same (wk_same (wk_same (wk_any (wk_any wk_nil)))))))))))) (fun s12 => (s_nil (b := g10) (wk_same (wk_same (wk_same (wk_same (wk_any (wk_same wk_nil)))))))))) (fun g10 => (s_nil (b := g10) (wk_same (wk_same (wk_any (wk_any (wk_same (wk_same wk_nil)))))))))))) (fun s6 => (s_nil (b := g4) (wk_same (wk_same (wk_any (wk_same (wk_same (wk_same wk_nil)))))))))) (fun g4 => (s_frz (α := (List Int)) (xs := g4) 1 (p_ret (fun (s : Unit) => [.dat (enc (v_word : (List Int))), .dat (enc (g4 : (List (List Int)))), .any, .any, .any, .any]) () (EP.frozen (e_sortedD (room65 hr) T.z_sorted (ev 1 (g4 : (List (List Int))))))))))))
def M_places_of (v_row : (List Int)) : Res (Ctl Empty Empty (List Int)) := (sseq ((sbind (sbind (sbind (sbind (spure (v_row : (List Int))) fun x => spure ((x.length : Int))) fun a => sbind (spure ()) fun t => spure (a, t)) fun t => slift (nb (m_sorted_order t.1))) fun xs => compS (fun (x1 : Int) => (spure true)) (fun (x1 : Int) => (sbind (sbind (spure (v_row : (List Int))) fun x => sbind (spure (x1 : Int)) fun y => slift (ofOpt (indexO x y))) fun x => sbind (spure (1 : Int)) fun y => spure (x + y))) xs) ()) fun a _ => .ok (.rt a))
def m_places_of (v_row : (List Int)) : Res (List Int) := fnE (M_places_of v_row)
theorem def_places_of (T : Tx P w K mg base cl) : DefN P w K mg base 2 "places_of" (fun t : (List Int) × Unit => [enc t.1]) (fun t => m_places_of t.1) := by
  obtain ⟨f, fd, hm, F, b⟩ := T.f_places_of.ex
  have h := gNE_ok cl (P := P) (w := w) (base := base) (mg := mg) (k := 1) (encs := fun t : (List Int) × Unit => [enc t.1]) (M := fun t => M_places_of t.1) F sc_places_of 1 (fun _ => rfl) rfl
  refine ⟨f, fd, _, hm, F.kp, b, h ?_⟩
  intro cdv A outer s H t hr E_
  obtain ⟨v_row, _u⟩ := t
  have nd := sc_places_of.nd
  exact (p_ret (fun (s : Unit) => [.dat (enc (v_row : (List Int))), .any]) () (EP.frozen (CP.e (own := [("jar", 1)]) (CP.mk rfl nd (ei_list (e_callN (β := (List Int)) (m := fun (t : Int × Unit) => m_sorted_order t.1) (def_sorted_order T) (hr.mono (by decide)) (ea_cons (α := Int) (τ := Unit) (encs := fun _ : Unit => []) (e_len T.z_len (ev 0 (v_row : (List Int)))) ea_nil))) (blkOk_by (N := N_places_of) (sc := defScope s_places_of) (by decide +kernel)) (vs_any (fun _ => rfl) vs_nil) ⟨fun s x1 => [.dat (enc (v_row : (List Int))), .dat (enc (x1 : Int))], fun _ _ _ _ _ s => (g_name 1 nd), fun _ _ _ _ _ x1 => t_none, fun _ _ _ _ _ x1 => (e_add (e_index (room65 hr) (ev 0 (v_row : (List Int))) (ev 1 (x1 : Int))) e_int)⟩))))
def M_count_spellings (v_row : (List Int)) : Res (Ctl Empty Empty Int) := (sseq ((sbind (sbind (spure (v_row : (List Int))) fun x => spure (Tup.mk x)) fun a => sbind (spure (1 : Int)) fun b => spure [(a, b)]) ()) fun v_ways_2 s1 => (seqC (sseq ((sbind (sbind (spure (v_row : (List Int))) fun a => sbind (spure ()) fun t => spure (a, t)) fun t => slift (nb (m_wrong_jars t.1))) ()) fun xs s3 => forR (fun (x5 : (Int × Int)) (g4 : (List ((Tup Int) × Int))) => (sseq ((spure ([] : (List ((Tup Int) × Int)))) ()) fun v_after_7 s6 => (seqC (sseq ((fun s => ofOpt (chk ((g4 : (List ((Tup Int) × Int))).length ≤ 16777216) (g4 : (List ((Tup Int) × Int)))) >>= fun a => .ok (a, s)) ()) fun xs s8 => forR (fun (x10 : ((Tup Int) × Int)) (g9 : (List ((Tup Int) × Int))) => (seqC (sseq ((sbind (sbind (spure (x10.1 : (Tup Int))) fun a => sbind (spure ()) fun t => spure (a, t)) fun t => slift (nb (m_last_members__T t.1))) ()) fun xs s11 => forR (fun (x13 : Int) (g12 : (List ((Tup Int) × Int))) => (sseq ((sbind (sbind (sbind (sbind (spure (x10.1 : (Tup Int))) fun t => slift (ofOpt (chk (t.l.length ≤ 16777216) t.l))) fun a => sbind (sbind (spure (x13 : Int)) fun a => sbind (spure ()) fun t => spure (a, t)) fun t => spure (a, t)) fun t => slift (nb (m_exchanged_at t.1 t.2.1))) fun x => spure (Tup.mk x)) ()) fun v_key_15 s14 => (val1 (sbind (sbind (spure (v_key_15 : (Tup Int))) fun k => sbind (spure (0 : Int)) fun d s => .ok (getT (g12 : (List ((Tup Int) × Int))) k d, s)) fun x => sbind (spure (x10.2 : Int)) fun y => spure (x + y)) >>= fun a => val1 (spure (v_key_15 : (Tup Int))) >>= fun j => ofOpt (putO (g12 : (List ((Tup Int) × Int))) j a) >>= fun v_after_16 => (.ok (.nx v_after_16))))) xs g9) fun (g12 : (List ((Tup Int) × Int))) => (.ok (.nx g12)))) xs v_after_7) fun (g9 : (List ((Tup Int) × Int))) => (sseq ((fun s => .ok ((g9 : (List ((Tup Int) × Int))), s)) ()) fun v_ways_18 s17 => (.ok (.nx v_ways_18)))))) xs v_ways_2) fun (g4 : (List ((Tup Int) × Int))) => (sseq ((sbind (sbind (fun s => ofOpt (chk ((g4 : (List ((Tup Int) × Int))).length ≤ 16777216) ((g4 : (List ((Tup Int) × Int))).map (·.2))) >>= fun a => .ok (a, s)) fun xs => compS (fun (x19 : Int) => (spure true)) (fun (x19 : Int) => (spure (x19 : Int))) xs) fun x => spure x.sum) ()) fun a _ => .ok (.rt a))))
def m_count_spellings (v_row : (List Int)) : Res Int := fnE (M_count_spellings v_row)
theorem def_count_spellings (T : Tx P w K mg base cl) : DefN P w K mg base 2 "count_spellings" (fun t : (List Int) × Unit => [enc t.1]) (fun t => m_count_spellings t.1) := by
  obtain ⟨f, fd, hm, F, b⟩ := T.f_count_spellings.ex
  have h := gNE_ok cl (P := P) (w := w) (base := base) (mg := mg) (k := 1) (encs := fun t : (List Int) × Unit => [enc t.1]) (M := fun t => M_count_spellings t.1) F sc_count_spellings 7 (fun _ => rfl) rfl
  refine ⟨f, fd, _, hm, F.kp, b, h ?_⟩
  intro cdv A outer s H t hr E_
  obtain ⟨v_row, _u⟩ := t
  have nd := sc_count_spellings.nd
  exact (p_setDT (β := Int) (fun (s : Unit) => [.dat (enc (v_row : (List Int))), .any, .any, .any, .any, .any, .any, .any]) () 1 (ae 1 nd (e_disp1T (β := Int) (Nat.lt_of_le_of_lt (Nat.add_le_add_left (by decide) _) (room65 hr)) (e_tupleOf T.z_tuple (ev 0 (v_row : (List Int)))) e_int)) (fun v_ways_2 s1 => (s_frzT 1 (p_for (vs := [2]) (ρb := fun (g4 : (List ((Tup Int) × Int))) x => [.dat (enc (v_row : (List Int))), .frz (.dT (encT (g4 : (List ((Tup Int) × Int))))), .dat (enc (x : (Int × Int))), .any, .any, .any, .any, .any]) (fun (s : Unit) => [.dat (enc (v_row : (List Int))), .frz (.dT (encT (v_ways_2 : (List ((Tup Int) × Int))))), .any, .any, .any, .any, .any, .any]) () (fun (g4 : (List ((Tup Int) × Int))) => [.dat (enc (v_row : (List Int))), .frz (.dT (encT (g4 : (List ((Tup Int) × Int))))), .any, .any, .any, .any, .any, .any]) (fun (s : Unit) => v_ways_2) PassesOwn.never rfl (ei_list (e_callN (β := (List (Int × Int))) (m := fun (t : (List Int) × Unit) => m_wrong_jars t.1) (def_wrong_jars T) (hr.mono (by decide)) (ea_cons (α := (List Int)) (τ := Unit) (encs := fun _ : Unit => []) (ev 0 (v_row : (List Int))) ea_nil))) (fun s => (wk_same (wk_same (wk_same (wk_same (wk_same (wk_same (wk_same (wk_same wk_nil))))))))) (fun g4 => (g_name 2 nd)) (fun x5 g4 => (p_setDT (β := Int) (fun (s : Unit) => [.dat (enc (v_row : (List Int))), .frz (.dT (encT (g4 : (List ((Tup Int) × Int))))), .dat (enc (x5 : (Int × Int))), .any, .any, .any, .any, .any]) () 3 (ae 3 nd (e_dnewT (β := Int))) (fun v_after_7 s6 => (p_for (vs := [4, 5]) (ρb := fun (g9 : (List ((Tup Int) × Int))) x => [.dat (enc (v_row : (List Int))), .frz (.dT (encT (g4 : (List ((Tup Int) × Int))))), .dat (enc (x5 : (Int × Int))), .own (.dT (encT (g9 : (List ((Tup Int) × Int))))), .dat (enc (x.1 : (Tup Int))), .dat (enc (x.2 : Int)), .any, .any]) (fun (s : Unit) => [.dat (enc (v_row : (List Int))), .frz (.dT (encT (g4 : (List ((Tup Int) × Int))))), .dat (enc (x5 : (Int × Int))), .own (.dT (encT (v_after_7 : (List ((Tup Int) × Int))))), .any, .any, .any, .any]) () (fun (g9 : (List ((Tup Int) × Int))) => [.dat (enc (v_row : (List Int))), .frz (.dT (encT (g4 : (List ((Tup Int) × Int))))), .dat (enc (x5 : (Int × Int))), .own (.dT (encT (g9 : (List ((Tup Int) × Int))))), .any, .any, .any, .any]) (fun (s : Unit) => v_after_7) PassesOwn.never rfl (ei_itemsT (fun s => (g4 : (List ((Tup Int) × Int)))) (L2.pv 1)) (fun s => (wk_same (wk_same (wk_same (wk_same (wk_same (wk_same (wk_same (wk_same wk_nil))))))))) (fun g9 => (g_pair rfl (g_name 4 nd) (fun _ => (g_name 5 nd)))) (fun x10 g9 => (p_for (vs := [6]) (ρb := fun (g12 : (List ((Tup Int) × Int))) x => [.dat (enc (v_row : (List Int))), .frz (.dT (encT (g4 : (List ((Tup Int) × Int))))), .dat (enc (x5 : (Int × Int))), .own (.dT (encT (g12 : (List ((Tup Int) × Int))))), .dat (enc (x10.1 : (Tup Int))), .dat (enc (x10.2 : Int)), .dat (enc (x : Int)), .any]) (fun (s : Unit) => [.dat (enc (v_row : (List Int))), .frz (.dT (encT (g4 : (List ((Tup Int) × Int))))), .dat (enc (x5 : (Int × Int))), .own (.dT (encT (g9 : (List ((Tup Int) × Int))))), .dat (enc (x10.1 : (Tup Int))), .dat (enc (x10.2 : Int)), .any, .any]) () (fun (g12 : (List ((Tup Int) × Int))) => [.dat (enc (v_row : (List Int))), .frz (.dT (encT (g4 : (List ((Tup Int) × Int))))), .dat (enc (x5 : (Int × Int))), .own (.dT (encT (g12 : (List ((Tup Int) × Int))))), .dat (enc (x10.1 : (Tup Int))), .dat (enc (x10.2 : Int)), .any, .any]) (fun (s : Unit) => g9) PassesOwn.never rfl (ei_list (e_callN (β := (List Int)) (m := fun (t : (Tup Int) × Unit) => m_last_members__T t.1) (def_last_members__T T) (hr.mono (by decide)) (ea_cons (α := (Tup Int)) (τ := Unit) (encs := fun _ : Unit => []) (ev 4 (x10.1 : (Tup Int))) ea_nil))) (fun s => (wk_same (wk_same (wk_same (wk_same (wk_same (wk_same (wk_same (wk_same wk_nil))))))))) (fun g12 => (g_name 6 nd)) (fun x13 g12 => (p_set (fun (s : Unit) => [.dat (enc (v_row : (List Int))), .frz (.dT (encT (g4 : (List ((Tup Int) × Int))))), .dat (enc (x5 : (Int × Int))), .own (.dT (encT (g12 : (List ((Tup Int) × Int))))), .dat (enc (x10.1 : (Tup Int))), .dat (enc (x10.2 : Int)), .dat (enc (x13 : Int)), .any]) () 7 (ae 7 nd (e_tupleOf T.z_tuple (e_callN (β := (List Int)) (m := fun (t : (List Int) × Int × Unit) => m_exchanged_at t.1 t.2.1) (def_exchanged_at T) (hr.mono (by decide)) (ea_cons (α := (List Int)) (τ := Int × Unit) (encs := fun t : Int × Unit => [enc t.1]) (EP.frozen (e_listT T.z_list (ev 4 (x10.1 : (Tup Int))))) (ea_cons (α := Int) (τ := Unit) (encs := fun _ : Unit => []) (ev 6 (x13 : Int)) ea_nil))))) (fun v_key_15 s14 => (p_putT 3 (g12 : (List ((Tup Int) × Int))) (Nat.lt_of_le_of_lt (Nat.add_le_add_left (by decide) _) (room65 hr)) (L2.pv 3) (e_add (e_getT (β := Int) (fun s => (g12 : (List ((Tup Int) × Int)))) (Nat.lt_of_le_of_lt (Nat.add_le_add_left (by decide) _) (room65 hr)) (L2.pv 3) (ev 7 (v_key_15 : (Tup Int))) e_int) (ev 5 (x10.2 : Int))) (ev 7 (v_key_15 : (Tup Int))) (fun v_after_16 => (s_nil (b := v_after_16) (wk_same (wk_same (wk_same (wk_same (wk_same (wk_same (wk_any (wk_any wk_nil)))))))))))))) (fun g12 => (s_nil (b := g12) (wk_same (wk_same (wk_same (wk_same (wk_any (wk_any (wk_same (wk_same wk_nil)))))))))))) (fun g9 => (s_frzT 3 (p_setFT (β := Int) (fun (s : Unit) => [.dat (enc (v_row : (List Int))), .frz (.dT (encT (g4 : (List ((Tup Int) × Int))))), .dat (enc (x5 : (Int × Int))), .frz (.dT (encT (g9 : (List ((Tup Int) × Int))))), .any, .any, .any, .any]) () 1 (ae 1 nd (e_varF (fun s => (g9 : (List ((Tup Int) × Int)))) (L2.pv 3))) (fun v_ways_18 s17 => (s_nil (b := v_ways_18) (wk_same (wk_same (wk_any (wk_any (wk_same (wk_same (wk_same (wk_same wk_nil))))))))))))))))) (fun g4 => (p_ret (fun (s : Unit) => [.dat (enc (v_row : (List Int))), .frz (.dT (encT (g4 : (List ((Tup Int) × Int))))), .any, .any, .any, .any, .any, .any]) () (e_sum rfl T.z_sum (EP.frozen (CP.e (own := [("many", 5)]) (CP.mk rfl nd (ei_valuesT (fun s => (g4 : (List ((Tup Int) × Int)))) (L2.pv 1)) (blkOk_by (N := N_count_spellings) (sc := defScope s_count_spellings) (by decide +kernel)) (vs_any (fun _ => rfl) vs_nil) ⟨fun s x19 => [.dat (enc (v_row : (List Int))), .frz (.dT (encT (g4 : (List ((Tup Int) × Int))))), .any, .any, .any, .dat (enc (x19 : Int)), .any, .any], fun _ _ _ _ _ s => (g_name 5 nd), fun _ _ _ _ _ x19 => t_none, fun _ _ _ _ _ x19 => (ev 5 (x19 : Int))⟩))))))))))
def M_turn_round (v_n : Int) (v_word : (List Int)) : Res (Ctl Empty Empty Int) := (sseq ((spure (1 : Int)) ()) fun v_many_2 s1 => (sseq ((sbind (sbind (spure (v_n : Int)) fun a => sbind (sbind (spure (v_word : (List Int))) fun a => sbind (spure ()) fun t => spure (a, t)) fun t => spure (a, t)) fun t => slift (nb (m_turned_spelling t.1 t.2.1))) ()) fun v_here_4 s3 => (seqC (whileR (fun (g5 : (List Int) × Int) => val1 (sbind (spure (g5.1 : (List Int))) fun x => sbind (spure (v_word : (List Int))) fun y => spure (!decide (x = y)))) (fun (g5 : (List Int) × Int) => (sseq ((sbind (sbind (spure (v_n : Int)) fun a => sbind (sbind (spure (g5.1 : (List Int))) fun a => sbind (spure ()) fun t => spure (a, t)) fun t => spure (a, t)) fun t => slift (nb (m_turned_spelling t.1 t.2.1))) ()) fun v_here_7 s6 => (val1 (spure (1 : Int)) >>= fun b => app1 (fun v_many_8 => (.ok (.nx (v_here_7, v_many_8)))) (g5.2 + b)))) fuelB (v_here_4, v_many_2)) fun (g5 : (List Int) × Int) => (sseq ((spure (g5.2 : Int)) ()) fun a _ => .ok (.rt a)))))
def m_turn_round (v_n : Int) (v_word : (List Int)) : Res Int := fnE (M_turn_round v_n v_word)
theorem def_turn_round (T : Tx P w K mg base cl) : DefN P w K mg base 2 "turn_round" (fun t : Int × (List Int) × Unit => [enc t.1, enc t.2.1]) (fun t => m_turn_round t.1 t.2.1) := by
  obtain ⟨f, fd, hm, F, b⟩ := T.f_turn_round.ex
  have h := gNE_ok cl (P := P) (w := w) (base := base) (mg := mg) (k := 1) (encs := fun t : Int × (List Int) × Unit => [enc t.1, enc t.2.1]) (M := fun t => M_turn_round t.1 t.2.1) F sc_turn_round 2 (fun _ => rfl) rfl
  refine ⟨f, fd, _, hm, F.kp, b, h ?_⟩
  intro cdv A outer s H t hr E_
  obtain ⟨v_n, v_word, _u⟩ := t
  have nd := sc_turn_round.nd
  exact (p_set (fun (s : Unit) => [.dat (enc (v_n : Int)), .dat (enc (v_word : (List Int))), .any, .any]) () 2 (ae 2 nd e_int) (fun v_many_2 s1 => (p_set (fun (s : Unit) => [.dat (enc (v_n : Int)), .dat (enc (v_word : (List Int))), .dat (enc (v_many_2 : Int)), .any]) () 3 (ae 3 nd (EP.frozen (e_callNL (β := Int) (m := fun (t : Int × (List Int) × Unit) => m_turned_spelling t.1 t.2.1) (def_turned_spelling T) (hr.mono (by decide)) (ea_cons (α := Int) (τ := (List Int) × Unit) (encs := fun t : (List Int) × Unit => [enc t.1]) (ev 0 (v_n : Int)) (ea_cons (α := (List Int)) (τ := Unit) (encs := fun _ : Unit => []) (ev 1 (v_word : (List Int))) ea_nil))))) (fun v_here_4 s3 => (p_while (fun (g5 : (List Int) × Int) => [.dat (enc (v_n : Int)), .dat (enc (v_word : (List Int))), .dat (enc (g5.2 : Int)), .dat (enc (g5.1 : (List Int)))]) (v_here_4, v_many_2) fuelB PassesOwn.never (wk_same (wk_same (wk_same (wk_same wk_nil)))) (B.pt (fun (g5 : (List Int) × Int) => (Cj.toB (c_ne hr.units (ev 3 (g5.1 : (List Int))) (ev 1 (v_word : (List Int))))))) (fun g5 => (p_set (fun (s : Unit) => [.dat (enc (v_n : Int)), .dat (enc (v_word : (List Int))), .dat (enc (g5.2 : Int)), .dat (enc (g5.1 : (List Int)))]) () 3 (ae 3 nd (EP.frozen (e_callNL (β := Int) (m := fun (t : Int × (List Int) × Unit) => m_turned_spelling t.1 t.2.1) (def_turned_spelling T) (hr.mono (by decide)) (ea_cons (α := Int) (τ := (List Int) × Unit) (encs := fun t : (List Int) × Unit => [enc t.1]) (ev 0 (v_n : Int)) (ea_cons (α := (List Int)) (τ := Unit) (encs := fun _ : Unit => []) (ev 3 (g5.1 : (List Int))) ea_nil))))) (fun v_here_7 s6 => (p_aug2 (f := (fun i j => i + j)) 2 (g5.2 : Int) ip_add nd e_int (fun v_many_8 => (s_nil (b := (v_here_7, v_many_8)) (wk_same (wk_same (wk_same (wk_same wk_nil)))))))))) (fun g5 => (p_ret (fun (s : Unit) => [.dat (enc (v_n : Int)), .dat (enc (v_word : (List Int))), .dat (enc (g5.2 : Int)), .dat (enc (g5.1 : (List Int)))]) () (ev 2 (g5.2 : Int)))))))))
def M_class_of (v_word : (List Int)) : Res (Ctl Empty Empty (List (List Int))) := (sseq ((sbind (spure (v_word : (List Int))) fun a => sbind (spure ([] : List (List Int))) fun as => spure (a :: as)) ()) fun v_met_2 s1 => (sseq ((spure (0 : Int)) ()) fun v_step_4 s3 => (seqC (whileR (fun (g5 : (List (List Int)) × Int) => val1 (sbind (spure (g5.2 : Int)) fun x => sbind (fun s => .ok ((g5.1.length : Int), s)) fun y => spure (decide (x < y)))) (fun (g5 : (List (List Int)) × Int) => (sseq ((sbind (spure (g5.2 : Int)) fun j s => ofOpt (L2.atI g5.1 j) >>= fun a => .ok (a, s)) ()) fun v_here_7 s6 => (seqC (sseq ((sbind (sbind (spure (v_here_7 : (List Int))) fun x => spure ((x.length : Int))) fun n => slift (ofOpt (rangeO 0 n))) ()) fun xs s8 => forR (fun (x10 : Int) (g9 : (List (List Int))) => (sseq ((sbind (sbind (spure (v_here_7 : (List Int))) fun a => sbind (sbind (spure (x10 : Int)) fun a => sbind (sbind (spure (PySem.Str.ofString "far")) fun a => sbind (spure ()) fun t => spure (a, t)) fun t => spure (a, t)) fun t => spure (a, t)) fun t => slift (nb (m_may_move t.1 t.2.1 t.2.2.1))) ()) fun b s11 => if b = true then (sseq ((sbind (sbind (spure (v_here_7 : (List Int))) fun a => sbind (sbind (spure (x10 : Int)) fun a => sbind (sbind (spure (PySem.Str.ofString "far")) fun a => sbind (spure ()) fun t => spure (a, t)) fun t => spure (a, t)) fun t => spure (a, t)) fun t => slift (nb (m_do_move t.1 t.2.1 t.2.2.1))) ()) fun v_after_13 s12 => (sseq ((sbind (spure (v_after_13 : (List Int))) fun x s => .ok (!memB x g9, s)) ()) fun b s14 => if b = true then (sseq ((spure (v_after_13 : (List Int))) ()) fun a s15 => ofOpt (appO g9 a) >>= fun v_met_16 => (.ok (.nx v_met_16))) else (.ok (.nx g9)))) else (.ok (.nx g9)))) xs g5.1) fun (g9 : (List (List Int))) => (val1 (spure (1 : Int)) >>= fun b => app1 (fun v_step_17 => (.ok (.nx (g9, v_step_17)))) (g5.2 + b))))) fuelB (v_met_2, v_step_4)) fun (g5 : (List (List Int)) × Int) => (sseq ((sbind (spure (g5.1 : (List (List Int)))) fun x => spure (dsort x)) ()) fun a _ => .ok (.rt a)))))
def m_class_of (v_word : (List Int)) : Res (List (List Int)) := fnE (M_class_of v_word)
theorem def_class_of (T : Tx P w K mg base cl) : DefNG P w K mg base 2 "class_of" (PrL K ((List Int))) (fun t : (List Int) × Unit => [enc t.1]) (fun t => m_class_of t.1) := by
  obtain ⟨f, fd, hm, F, b⟩ := T.f_class_of.ex
  obtain ⟨t_FAR, k_FAR⟩ := T.c_FAR
  have h := gNG_ok cl (P := P) (w := w) (base := base) (mg := mg) (k := 1) (Pr := (PrL K ((List Int)))) (encs := fun t : (List Int) × Unit => [enc t.1]) (M := fun t => M_class_of t.1) F sc_class_of 5 (fun _ => rfl) rfl
  refine ⟨f, fd, _, hm, F.kp, b, h ?_⟩
  intro cdv A outer s H t hr E_
  obtain ⟨v_word, _u⟩ := t
  have nd := sc_class_of.nd
  exact (p_setL (fun (s : Unit) => [.dat (enc (v_word : (List Int))), .any, .any, .any, .any, .any]) () 1 (ae 1 nd (e_lst (ld_cons (EP.frozen (e_listOf T.z_list (ev 0 (v_word : (List Int))))) (ld_nil (α := (List Int)))))) (fun v_met_2 s1 => (p_set (fun (s : Unit) => [.dat (enc (v_word : (List Int))), .own (.lst ((v_met_2 : (List (List Int))).map enc)), .any, .any, .any, .any]) () 2 (ae 2 nd e_int) (fun v_step_4 s3 => (p_while (fun (g5 : (List (List Int)) × Int) => [.dat (enc (v_word : (List Int))), .own (.lst ((g5.1 : (List (List Int))).map enc)), .dat (enc (g5.2 : Int)), .any, .any, .any]) (v_met_2, v_step_4) fuelB PassesOwn.never (wk_same (wk_same (wk_same (wk_same (wk_same (wk_same wk_nil)))))) (B.pt (fun (g5 : (List (List Int)) × Int) => (Cj.toB (c_lt (ev 2 (g5.2 : Int)) (e_lenO (L2.pv 1) (view_own (get := fun (s : Unit) => g5.1)) T.z_len))))) (fun g5 => (p_set (fun (s : Unit) => [.dat (enc (v_word : (List Int))), .own (.lst ((g5.1 : (List (List Int))).map enc)), .dat (enc (g5.2 : Int)), .any, .any, .any]) () 3 (ae 3 nd (e_ixO (L2.pv 1) (view_own (get := fun (s : Unit) => g5.1)) (ev 2 (g5.2 : Int)))) (fun v_here_7 s6 => (p_for (vs := [4]) (ρb := fun (g9 : (List (List Int))) x => [.dat (enc (v_word : (List Int))), .own (.lst ((g9 : (List (List Int))).map enc)), .dat (enc (g5.2 : Int)), .dat (enc (v_here_7 : (List Int))), .dat (enc (x : Int)), .any]) (fun (s : Unit) => [.dat (enc (v_word : (List Int))), .own (.lst ((g5.1 : (List (List Int))).map enc)), .dat (enc (g5.2 : Int)), .dat (enc (v_here_7 : (List Int))), .any, .any]) () (fun (g9 : (List (List Int))) => [.dat (enc (v_word : (List Int))), .own (.lst ((g9 : (List (List Int))).map enc)), .dat (enc (g5.2 : Int)), .dat (enc (v_here_7 : (List Int))), .any, .any]) (fun (s : Unit) => g5.1) PassesOwn.never rfl (ei_range1 T.z_range (e_len T.z_len (ev 3 (v_here_7 : (List Int))))) (fun s => (wk_same (wk_same (wk_same (wk_same (wk_same (wk_same wk_nil))))))) (fun g9 => (g_name 4 nd)) (fun x10 g9 => (p_ifZ (fun (s : Unit) => [.dat (enc (v_word : (List Int))), .own (.lst ((g9 : (List (List Int))).map enc)), .dat (enc (g5.2 : Int)), .dat (enc (v_here_7 : (List Int))), .dat (enc (x10 : Int)), .any]) () (b_val (e_callN (β := Bool) (m := fun (t : (List Int) × Int × Str × Unit) => m_may_move t.1 t.2.1 t.2.2.1) (def_may_move T) (hr.mono (by decide)) (ea_cons (α := (List Int)) (τ := Int × Str × Unit) (encs := fun t : Int × Str × Unit => [enc t.1, enc t.2.1]) (ev 3 (v_here_7 : (List Int))) (ea_cons (α := Int) (τ := Str × Unit) (encs := fun t : Str × Unit => [enc t.1]) (ev 4 (x10 : Int)) (ea_cons (α := Str) (τ := Unit) (encs := fun _ : Unit => []) (e_gS "far" k_FAR) ea_nil))))) (fun s11 => (p_set (fun (s : Unit) => [.dat (enc (v_word : (List Int))), .own (.lst ((g9 : (List (List Int))).map enc)), .dat (enc (g5.2 : Int)), .dat (enc (v_here_7 : (List Int))), .dat (enc (x10 : Int)), .any]) () 5 (ae 5 nd (e_callN (β := (List Int)) (m := fun (t : (List Int) × Int × Str × Unit) => m_do_move t.1 t.2.1 t.2.2.1) (def_do_move T) (hr.mono (by decide)) (ea_cons (α := (List Int)) (τ := Int × Str × Unit) (encs := fun t : Int × Str × Unit => [enc t.1, enc t.2.1]) (ev 3 (v_here_7 : (List Int))) (ea_cons (α := Int) (τ := Str × Unit) (encs := fun t : Str × Unit => [enc t.1]) (ev 4 (x10 : Int)) (ea_cons (α := Str) (τ := Unit) (encs := fun _ : Unit => []) (e_gS "far" k_FAR) ea_nil))))) (fun v_after_13 s12 => (p_ifZ (fun (s : Unit) => [.dat (enc (v_word : (List Int))), .own (.lst ((g9 : (List (List Int))).map enc)), .dat (enc (g5.2 : Int)), .dat (enc (v_here_7 : (List Int))), .dat (enc (x10 : Int)), .dat (enc (v_after_13 : (List Int)))]) () (Cj.toB (c_notInOM (room65 hr) (ev 5 (v_after_13 : (List Int))) (L2.pv 1) (view_own (get := fun (s : Unit) => g9)))) (fun s14 => (p_append (fun (s : Unit) => [.dat (enc (v_word : (List Int))), .own (.lst ((g9 : (List (List Int))).map enc)), .dat (enc (g5.2 : Int)), .dat (enc (v_here_7 : (List Int))), .dat (enc (x10 : Int)), .dat (enc (v_after_13 : (List Int)))]) () 1 (fun s => g9) (L2.pv 1) (ev 5 (v_after_13 : (List Int))) (fun v_met_16 s15 => (s_nil (b := v_met_16) (wk_same (wk_same (wk_same (wk_same (wk_any (wk_any wk_nil)))))))))) (fun s14 => (s_nil (b := g9) (wk_same (wk_same (wk_same (wk_same (wk_any (wk_any wk_nil)))))))))))) (fun s11 => (s_nil (b := g9) (wk_same (wk_same (wk_same (wk_same (wk_any (wk_same wk_nil)))))))))) (fun g9 => (p_aug2 (f := (fun i j => i + j)) 2 (g5.2 : Int) ip_add nd e_int (fun v_step_17 => (s_nil (b := (g9, v_step_17)) (wk_same (wk_same (wk_same (wk_any (wk_same (wk_same wk_nil)))))))))))))) (fun g5 => (s_frz (α := (List Int)) (xs := g5.1) 1 (p_retNL (fun (s : Unit) => [.dat (enc (v_word : (List Int))), .dat (enc (g5.1 : (List (List Int)))), .dat (enc (g5.2 : Int)), .any, .any, .any]) () (e_sortedD (room65 hr) T.z_sorted (ev 1 (g5.1 : (List (List Int)))))))))))))
def M__law_wholes (v_x : PyData) (v_n : Int) : Res (Ctl Empty Empty Bool) := (sseq ((sbind (sbind (sbind (spure (v_x : PyData)) fun v => slift (ofOpt (kitB (tyN (enc v)) "list"))) fun x => spure (!x)) fun x => if x = true then spure true else (sbind (sbind (sbind (spure (v_x : PyData)) fun d => slift (ofOpt (Dec.dec d : Option (List PyData)))) fun x => spure ((x.length : Int))) fun x => sbind (spure (v_n : Int)) fun y => spure (!decide (x = y)))) ()) fun b s1 => if b = true then exitC (sseq ((spure false) ()) fun a _ => .ok (.rt a)) else (sseq ((sbind (sbind (sbind (spure (v_x : PyData)) fun d => slift (ofOpt (Dec.dec d : Option (List PyData)))) fun xs => compS (fun (x2 : PyData) => (spure true)) (fun (x2 : PyData) => (sbind (sbind (spure (x2 : PyData)) fun a => sbind (spure ()) fun t => spure (a, t)) fun t => slift (nb (m__law_whole t.1)))) xs) fun x => spure (x.all id)) ()) fun a _ => .ok (.rt a)))
def m__law_wholes (v_x : PyData) (v_n : Int) : Res Bool := fnE (M__law_wholes v_x v_n)
theorem def__law_wholes (T : Tx P w K mg base cl) : DefN P w K mg base 2 "_law_wholes" (fun t : PyData × Int × Unit => [enc t.1, enc t.2.1]) (fun t => m__law_wholes t.1 t.2.1) := by
  obtain ⟨f, fd, hm, F, b⟩ := T.f__law_wholes.ex
  have h := gNE_ok cl (P := P) (w := w) (base := base) (mg := mg) (k := 1) (encs := fun t : PyData × Int × Unit => [enc t.1, enc t.2.1]) (M := fun t => M__law_wholes t.1 t.2.1) F sc__law_wholes 1 (fun _ => rfl) rfl
  refine ⟨f, fd, _, hm, F.kp, b, h ?_⟩
  intro cdv A outer s H t hr E_
  obtain ⟨v_x, v_n, _u⟩ := t
  have nd := sc__law_wholes.nd
  exact (p_ifE (fun (s : Unit) => [.dat (enc (v_x : PyData)), .dat (enc (v_n : Int)), .any]) () (BW.test (bw_or (b_not (b_val (e_isi "list" T.z_isinstance T.z_list (ev 0 (v_x : PyData))))) (bw_or1 (Cj.toB (c_ne hr.units (e_len T.z_len (E.cast (α := (List PyData)) (ev 0 (v_x : PyData)))) (ev 1 (v_n : Int))))))) (fun s1 => (p_ret (fun (s : Unit) => [.dat (enc (v_x : PyData)), .dat (enc (v_n : Int)), .any]) () e_bl)) (fun s1 => (p_ret (fun (s : Unit) => [.dat (enc (v_x : PyData)), .dat (enc (v_n : Int)), .any]) () (e_all rfl T.z_all (EP.frozen (CP.e (own := [("k", 2)]) (CP.mk rfl nd (ei_list (E.cast (α := (List PyData)) (ev 0 (v_x : PyData)))) (blkOk_by (N := N__law_wholes) (sc := defScope s__law_wholes) (by decide +kernel)) (vs_any (fun _ => rfl) vs_nil) ⟨fun s x2 => [.dat (enc (v_x : PyData)), .dat (enc (v_n : Int)), .dat (enc (x2 : PyData))], fun _ _ _ _ _ s => (g_name 2 nd), fun _ _ _ _ _ x2 => t_none, fun _ _ _ _ _ x2 => (e_callN (β := Bool) (m := fun (t : PyData × Unit) => m__law_whole t.1) (def__law_whole T) (hr.mono (by decide)) (ea_cons (α := PyData) (τ := Unit) (encs := fun _ : Unit => []) (ev 2 (x2 : PyData)) ea_nil))⟩)))))))
def M__law_order (v_n : Int) (v_feed : Fd) : Res (Ctl Empty Empty ((List Int) × Fd)) := (sseq ((sbind (sbind (spure (v_n : Int)) fun n => slift (ofOpt (rangeO 0 n))) fun xs => compS (fun (x3 : Int) => (spure true)) (fun (x3 : Int) => (sbind (spure (x3 : Int)) fun x => sbind (spure (1 : Int)) fun y => spure (x + y))) xs) ()) fun v_left_2 s1 => (sseq ((spure ([] : List Int)) ()) fun v_order_5 s4 => (seqC (sseq ((sbind (spure (v_n : Int)) fun n => slift (ofOpt (rangeO 0 n))) ()) fun xs s6 => forR (fun (x8 : Int) (g7 : (List Int) × (List Int) × Fd) => (sseq ((sbind (sbind (sbind (sbind (spure (v_n : Int)) fun x => sbind (spure (x8 : Int)) fun y => spure (x - y)) fun a => sbind (spure ()) fun t => spure (a, t)) fun t s => nb (drawR t.1 s.1) >>= fun r => .ok (r.1, (r.2, s.2))) fun j s => ofOpt (popAtO s.2 j) >>= fun r => .ok (r.1, (s.1, r.2))) (g7.2.2, g7.2.1)) fun a s9 => ofOpt (appO g7.1 a) >>= fun v_order_10 => (.ok (.nx (v_order_10, s9.2, s9.1))))) xs (v_order_5, v_left_2, v_feed)) fun (g7 : (List Int) × (List Int) × Fd) => (sseq ((spure (g7.1 : (List Int))) ()) fun a s => .ok (.rt (a, g7.2.2))))))
def m__law_order (v_n : Int) (v_feed : Fd) : Res ((List Int) × Fd) := fnE (M__law_order v_n v_feed)
theorem def__law_order (T : Tx P w K mg base cl) : DefF P w K mg base 2 "_law_order" (fun t : Int × Unit => [enc t.1]) (fun t fd => m__law_order t.1 fd) := by
  obtain ⟨f, fd, hm, F, b⟩ := T.f__law_order.ex
  have h := gF_ok cl (P := P) (w := w) (base := base) (mg := mg) (k := 1) (encs := fun t : Int × Unit => [enc t.1]) (M := fun t fd => M__law_order t.1 fd) F sc__law_order 3 (fun _ => rfl) rfl
  refine ⟨f, fd, _, hm, F.kp, b, h ?_⟩
  intro cdv A outer s H t v_feed p hr E_
  obtain ⟨v_n, _u⟩ := t
  have nd := sc__law_order.nd
  exact (p_setL (fun (s : Unit) => [.io p (.lst (encF v_feed)), .dat (enc (v_n : Int)), .any, .any, .any]) () 2 (CP.a (own := [("k", 3)]) (CP.mk rfl nd (ei_range1 T.z_range (ev 1 (v_n : Int))) (blkOk_by (N := N__law_order) (sc := defScope s__law_order) (by decide +kernel)) (vs_any (fun _ => rfl) vs_nil) ⟨fun s x3 => [.io p (.lst (encF v_feed)), .dat (enc (v_n : Int)), .any, .dat (enc (x3 : Int)), .any], fun _ _ _ _ _ s => (g_name 3 nd), fun _ _ _ _ _ x3 => t_none, fun _ _ _ _ _ x3 => (e_add (ev 3 (x3 : Int)) e_int)⟩)) (fun v_left_2 s1 => (p_setL (fun (s : Unit) => [.io p (.lst (encF v_feed)), .dat (enc (v_n : Int)), .own (.lst ((v_left_2 : (List Int)).map enc)), .any, .any]) () 4 (ae 4 nd (e_lst (ld_nil (α := Int)))) (fun v_order_5 s4 => (p_for (vs := [3]) (ρb := fun (g7 : (List Int) × (List Int) × Fd) x => [.io p (.lst (encF g7.2.2)), .dat (enc (v_n : Int)), .own (.lst ((g7.2.1 : (List Int)).map enc)), .dat (enc (x : Int)), .own (.lst ((g7.1 : (List Int)).map enc))]) (fun (s : Unit) => [.io p (.lst (encF v_feed)), .dat (enc (v_n : Int)), .own (.lst ((v_left_2 : (List Int)).map enc)), .any, .own (.lst ((v_order_5 : (List Int)).map enc))]) () (fun (g7 : (List Int) × (List Int) × Fd) => [.io p (.lst (encF g7.2.2)), .dat (enc (v_n : Int)), .own (.lst ((g7.2.1 : (List Int)).map enc)), .any, .own (.lst ((g7.1 : (List Int)).map enc))]) (fun (s : Unit) => (v_order_5, v_left_2, v_feed)) PassesOwn.never rfl (ei_range1 T.z_range (ev 1 (v_n : Int))) (fun s => (wk_same (wk_same (wk_same (wk_same (wk_same wk_nil)))))) (fun g7 => (g_name 3 nd)) (fun x8 g7 => (p_append (fun (s : Fd × (List Int)) => [.io p (.lst (encF s.1)), .dat (enc (v_n : Int)), .own (.lst ((s.2 : (List Int)).map enc)), .dat (enc (x8 : Int)), .own (.lst ((g7.1 : (List Int)).map enc))]) (g7.2.2, g7.2.1) 4 (fun s => g7.1) (L2.pv 4) (e_popAtS (L2.pv 2) (lens_own (get := fun s => s.2) (put := fun s l => (s.1, l))) (e_callF (m := fun (t : Int × Unit) (fd : Fd) => drawR t.1 fd) (get := fun s => s.1) (put := fun s l => (l, s.2)) (def__law_draw T) (hr.mono (by decide)) (L2.pv 0) (lensF_io (get := fun s => s.1) (put := fun s l => (l, s.2))) (ea_cons (α := Int) (τ := Unit) (encs := fun _ : Unit => []) (e_sub (ev 1 (v_n : Int)) (ev 3 (x8 : Int))) ea_nil))) (fun v_order_10 s9 => (s_nil (b := (v_order_10, s9.2, s9.1)) (wk_same (wk_same (wk_same (wk_any (wk_same wk_nil))))))))) (fun g7 => (s_frz (α := Int) (xs := g7.1) 4 (p_retF (fun (s : Unit) => [.io p (.lst (encF g7.2.2)), .dat (enc (v_n : Int)), .own (.lst ((g7.2.1 : (List Int)).map enc)), .any, .dat (enc (g7.1 : (List Int)))]) () 0 (fun s => g7.2.2) (ev 4 (g7.1 : (List Int)))))))))))
def M__law_spelled (v_n : Int) (v_word : (List Int)) : Res (Ctl Empty Empty (List Int)) := (sseq ((sbind (sbind (spure (v_n : Int)) fun n => slift (ofOpt (rangeO 0 n))) fun xs => compS (fun (x3 : Int) => (spure true)) (fun (x3 : Int) => (sbind (spure (x3 : Int)) fun x => sbind (spure (1 : Int)) fun y => spure (x + y))) xs) ()) fun v_row_2 s1 => (seqC (sseq ((spure (v_word : (List Int))) ()) fun xs s4 => forR (fun (x6 : Int) (g5 : (List Int)) => (sseq ((sbind (sbind (spure (g5 : (List Int))) fun a => sbind (sbind (spure (x6 : Int)) fun a => sbind (spure ()) fun t => spure (a, t)) fun t => spure (a, t)) fun t => slift (nb (m__law_swapped t.1 t.2.1))) ()) fun v_row_8 s7 => (.ok (.nx v_row_8)))) xs v_row_2) fun (g5 : (List Int)) => (sseq ((spure (g5 : (List Int))) ()) fun a _ => .ok (.rt a))))
def m__law_spelled (v_n : Int) (v_word : (List Int)) : Res (List Int) := fnE (M__law_spelled v_n v_word)
theorem def__law_spelled (T : Tx P w K mg base cl) : DefN P w K mg base 2 "_law_spelled" (fun t : Int × (List Int) × Unit => [enc t.1, enc t.2.1]) (fun t => m__law_spelled t.1 t.2.1) := by
  obtain ⟨f, fd, hm, F, b⟩ := T.f__law_spelled.ex
  have h := gNE_ok cl (P := P) (w := w) (base := base) (mg := mg) (k := 1) (encs := fun t : Int × (List Int) × Unit => [enc t.1, enc t.2.1]) (M := fun t => M__law_spelled t.1 t.2.1) F sc__law_spelled 2 (fun _ => rfl) rfl
  refine ⟨f, fd, _, hm, F.kp, b, h ?_⟩
  intro cdv A outer s H t hr E_
  obtain ⟨v_n, v_word, _u⟩ := t
  have nd := sc__law_spelled.nd
  exact (p_setL (fun (s : Unit) => [.dat (enc (v_n : Int)), .dat (enc (v_word : (List Int))), .any, .any]) () 2 (CP.a (own := [("k", 3)]) (CP.mk rfl nd (ei_range1 T.z_range (ev 0 (v_n : Int))) (blkOk_by (N := N__law_spelled) (sc := defScope s__law_spelled) (by decide +kernel)) (vs_any (fun _ => rfl) vs_nil) ⟨fun s x3 => [.dat (enc (v_n : Int)), .dat (enc (v_word : (List Int))), .any, .dat (enc (x3 : Int))], fun _ _ _ _ _ s => (g_name 3 nd), fun _ _ _ _ _ x3 => t_none, fun _ _ _ _ _ x3 => (e_add (ev 3 (x3 : Int)) e_int)⟩)) (fun v_row_2 s1 => (s_frz (α := Int) (xs := v_row_2) 2 (p_for (vs := [3]) (ρb := fun (g5 : (List Int)) x => [.dat (enc (v_n : Int)), .dat (enc (v_word : (List Int))), .dat (enc (g5 : (List Int))), .dat (enc (x : Int))]) (fun (s : Unit) => [.dat (enc (v_n : Int)), .dat (enc (v_word : (List Int))), .dat (enc (v_row_2 : (List Int))), .any]) () (fun (g5 : (List Int)) => [.dat (enc (v_n : Int)), .dat (enc (v_word : (List Int))), .dat (enc (g5 : (List Int))), .any]) (fun (s : Unit) => v_row_2) PassesOwn.never rfl (ei_list (ev 1 (v_word : (List Int)))) (fun s => (wk_same (wk_same (wk_same (wk_same wk_nil))))) (fun g5 => (g_name 3 nd)) (fun x6 g5 => (p_set (fun (s : Unit) => [.dat (enc (v_n : Int)), .dat (enc (v_word : (List Int))), .dat (enc (g5 : (List Int))), .dat (enc (x6 : Int))]) () 2 (ae 2 nd (e_callN (β := (List Int)) (m := fun (t : (List Int) × Int × Unit) => m__law_swapped t.1 t.2.1) (def__law_swapped T) (hr.mono (by decide)) (ea_cons (α := (List Int)) (τ := Int × Unit) (encs := fun t : Int × Unit => [enc t.1]) (ev 2 (g5 : (List Int))) (ea_cons (α := Int) (τ := Unit) (encs := fun _ : Unit => []) (ev 3 (x6 : Int)) ea_nil)))) (fun v_row_8 s7 => (s_nil (b := v_row_8) (wk_same (wk_same (wk_same (wk_any wk_nil)))))))) (fun g5 => (p_ret (fun (s : Unit) => [.dat (enc (v_n : Int)), .dat (enc (v_word : (List Int))), .dat (enc (g5 : (List Int))), .any]) () (ev 2 (g5 : (List Int)))))))))
def M__law_drawn_spelling (v_row : (List Int)) (v_feed : Fd) : Res (Ctl Empty Empty ((List Int) × Fd)) := (sseq ((spure (v_row : (List Int))) ()) fun v_here_2 s1 => (sseq ((spure ([] : List Int)) ()) fun v_word_4 s3 => (seqC (sseq ((sbind (spure (40 : Int)) fun n => slift (ofOpt (rangeO 0 n))) ()) fun xs s5 => forR (fun (x7 : Int) (g6 : Fd × (List Int) × (List Int)) => (sseq ((sbind (sbind (spure (1 : Int)) fun i => sbind (sbind (spure (g6.2.2 : (List Int))) fun x => spure ((x.length : Int))) fun j => slift (ofOpt (rangeO i j))) fun xs => compS (fun (x10 : Int) => (sbind (sbind (spure (g6.2.2 : (List Int))) fun x => sbind (sbind (spure (x10 : Int)) fun x => sbind (spure (1 : Int)) fun y => spure (x - y)) fun y => slift (ofOpt (L2.atI x y))) fun x => sbind (sbind (spure (g6.2.2 : (List Int))) fun x => sbind (spure (x10 : Int)) fun y => slift (ofOpt (L2.atI x y))) fun y => spure (decide (y < x)))) (fun (x10 : Int) => (spure (x10 : Int))) xs) ()) fun v_members_9 s8 => (sseq ((sbind (sbind (spure (v_members_9 : (List Int))) fun x => spure ((x.length : Int))) fun x => sbind (spure (0 : Int)) fun y => spure (decide (x = y))) ()) fun b s11 => if b = true then exitC (.ok (.bk (g6.1, g6.2.1, g6.2.2))) else (sseq ((sbind (spure (v_members_9 : (List Int))) fun x => sbind (sbind (sbind (sbind (spure (v_members_9 : (List Int))) fun x => spure ((x.length : Int))) fun a => sbind (spure ()) fun t => spure (a, t)) fun t s => nb (drawR t.1 s) >>= fun r => .ok (r.1, r.2)) fun y => slift (ofOpt (L2.atI x y))) (g6.1)) fun v_k_13 s12 => (sseq ((sbind (sbind (spure (v_k_13 : Int)) fun a => sbind (spure ([] : List Int)) fun as => spure (a :: as)) fun x => sbind (spure (g6.2.1 : (List Int))) fun y => slift (ofOpt (catO x y))) ()) fun v_word_15 s14 => (sseq ((sbind (sbind (spure (g6.2.2 : (List Int))) fun a => sbind (sbind (spure (v_k_13 : Int)) fun a => sbind (spure ()) fun t => spure (a, t)) fun t => spure (a, t)) fun t => slift (nb (m__law_swapped t.1 t.2.1))) ()) fun v_here_17 s16 => (.ok (.nx (s12, v_word_15, v_here_17))))))))) xs (v_feed, v_word_4, v_here_2)) fun (g6 : Fd × (List Int) × (List Int)) => (sseq ((spure (g6.2.1 : (List Int))) ()) fun a s => .ok (.rt (a, g6.1))))))
def m__law_drawn_spelling (v_row : (List Int)) (v_feed : Fd) : Res ((List Int) × Fd) := fnE (M__law_drawn_spelling v_row v_feed)
theorem def__law_drawn_spelling (T : Tx P w K mg base cl) : DefF P w K mg base 2 "_law_drawn_spelling" (fun t : (List Int) × Unit => [enc t.1]) (fun t fd => m__law_drawn_spelling t.1 fd) := by
  obtain ⟨f, fd, hm, F, b⟩ := T.f__law_drawn_spelling.ex
  have h := gF_ok cl (P := P) (w := w) (base := base) (mg := mg) (k := 1) (encs := fun t : (List Int) × Unit => [enc t.1]) (M := fun t fd => M__law_drawn_spelling t.1 fd) F sc__law_drawn_spelling 5 (fun _ => rfl) rfl
  refine ⟨f, fd, _, hm, F.kp, b, h ?_⟩
  intro cdv A outer s H t v_feed p hr E_
  obtain ⟨v_row, _u⟩ := t
  have nd := sc__law_drawn_spelling.nd
  exact (p_set (fun (s : Unit) => [.io p (.lst (encF v_feed)), .dat (enc (v_row : (List Int))), .any, .any, .any, .any, .any]) () 2 (ae 2 nd (EP.frozen (e_listOf T.z_list (ev 1 (v_row : (List Int)))))) (fun v_here_2 s1 => (p_set (fun (s : Unit) => [.io p (.lst (encF v_feed)), .dat (enc (v_row : (List Int))), .dat (enc (v_here_2 : (List Int))), .any, .any, .any, .any]) () 3 (ae 3 nd (EP.frozen (e_lst (ld_nil (α := Int))))) (fun v_word_4 s3 => (p_for (vs := [4]) (ρb := fun (g6 : Fd × (List Int) × (List Int)) x => [.io p (.lst (encF g6.1)), .dat (enc (v_row : (List Int))), .dat (enc (g6.2.2 : (List Int))), .dat (enc (g6.2.1 : (List Int))), .dat (enc (x : Int)), .any, .any]) (fun (s : Unit) => [.io p (.lst (encF v_feed)), .dat (enc (v_row : (List Int))), .dat (enc (v_here_2 : (List Int))), .dat (enc (v_word_4 : (List Int))), .any, .any, .any]) () (fun (g6 : Fd × (List Int) × (List Int)) => [.io p (.lst (encF g6.1)), .dat (enc (v_row : (List Int))), .dat (enc (g6.2.2 : (List Int))), .dat (enc (g6.2.1 : (List Int))), .any, .any, .any]) (fun (s : Unit) => (v_feed, v_word_4, v_here_2)) PassesOwn.never rfl (ei_range1 T.z_range e_int) (fun s => (wk_same (wk_same (wk_same (wk_same (wk_same (wk_same (wk_same wk_nil)))))))) (fun g6 => (g_name 4 nd)) (fun x7 g6 => (p_setL (fun (s : Unit) => [.io p (.lst (encF g6.1)), .dat (enc (v_row : (List Int))), .dat (enc (g6.2.2 : (List Int))), .dat (enc (g6.2.1 : (List Int))), .dat (enc (x7 : Int)), .any, .any]) () 5 (CP.a (own := [("k", 6)]) (CP.mk rfl nd (ei_range2 T.z_range e_int (e_len T.z_len (ev 2 (g6.2.2 : (List Int))))) (blkOk_by (N := N__law_drawn_spelling) (sc := defScope s__law_drawn_spelling) (by decide +kernel)) (vs_any (fun _ => rfl) vs_nil) ⟨fun s x10 => [.io p (.lst (encF g6.1)), .dat (enc (v_row : (List Int))), .dat (enc (g6.2.2 : (List Int))), .dat (enc (g6.2.1 : (List Int))), .dat (enc (x7 : Int)), .any, .dat (enc (x10 : Int))], fun _ _ _ _ _ s => (g_name 6 nd), fun _ _ _ _ _ x10 => (t_one (Cj.toB (c_gt (e_ix (ev 2 (g6.2.2 : (List Int))) (e_sub (ev 6 (x10 : Int)) e_int)) (e_ix (ev 2 (g6.2.2 : (List Int))) (ev 6 (x10 : Int)))))), fun _ _ _ _ _ x10 => (ev 6 (x10 : Int))⟩)) (fun v_members_9 s8 => (s_frz (α := Int) (xs := v_members_9) 5 (p_ifE (fun (s : Unit) => [.io p (.lst (encF g6.1)), .dat (enc (v_row : (List Int))), .dat (enc (g6.2.2 : (List Int))), .dat (enc (g6.2.1 : (List Int))), .dat (enc (x7 : Int)), .dat (enc (v_members_9 : (List Int))), .any]) () (Cj.toB (c_eq hr.units (e_len T.z_len (ev 5 (v_members_9 : (List Int)))) e_int)) (fun s11 => (s_break (b := (g6.1, g6.2.1, g6.2.2)) (wk_same (wk_same (wk_same (wk_same (wk_any (wk_any (wk_same wk_nil))))))))) (fun s11 => (p_set (fun (s : Fd) => [.io p (.lst (encF s)), .dat (enc (v_row : (List Int))), .dat (enc (g6.2.2 : (List Int))), .dat (enc (g6.2.1 : (List Int))), .dat (enc (x7 : Int)), .dat (enc (v_members_9 : (List Int))), .any]) (g6.1) 6 (ae 6 nd (e_ix (ev 5 (v_members_9 : (List Int))) (e_callF (m := fun (t : Int × Unit) (fd : Fd) => drawR t.1 fd) (get := fun s => s) (put := fun _ l => l) (def__law_draw T) (hr.mono (by decide)) (L2.pv 0) (lensF_io (get := fun s => s) (put := fun _ l => l)) (ea_cons (α := Int) (τ := Unit) (encs := fun _ : Unit => []) (e_len T.z_len (ev 5 (v_members_9 : (List Int)))) ea_nil)))) (fun v_k_13 s12 => (p_set (fun (s : Unit) => [.io p (.lst (encF s12)), .dat (enc (v_row : (List Int))), .dat (enc (g6.2.2 : (List Int))), .dat (enc (g6.2.1 : (List Int))), .dat (enc (x7 : Int)), .dat (enc (v_members_9 : (List Int))), .dat (enc (v_k_13 : Int))]) () 3 (ae 3 nd (EP.frozen (e_cat (EP.frozen (e_lst (ld_cons (ev 6 (v_k_13 : Int)) (ld_nil (α := Int))))) (ev 3 (g6.2.1 : (List Int)))))) (fun v_word_15 s14 => (p_set (fun (s : Unit) => [.io p (.lst (encF s12)), .dat (enc (v_row : (List Int))), .dat (enc (g6.2.2 : (List Int))), .dat (enc (v_word_15 : (List Int))), .dat (enc (x7 : Int)), .dat (enc (v_members_9 : (List Int))), .dat (enc (v_k_13 : Int))]) () 2 (ae 2 nd (e_callN (β := (List Int)) (m := fun (t : (List Int) × Int × Unit) => m__law_swapped t.1 t.2.1) (def__law_swapped T) (hr.mono (by decide)) (ea_cons (α := (List Int)) (τ := Int × Unit) (encs := fun t : Int × Unit => [enc t.1]) (ev 2 (g6.2.2 : (List Int))) (ea_cons (α := Int) (τ := Unit) (encs := fun _ : Unit => []) (ev 6 (v_k_13 : Int)) ea_nil)))) (fun v_here_17 s16 => (s_nil (b := (s12, v_word_15, v_here_17)) (wk_same (wk_same (wk_same (wk_same (wk_any (wk_any (wk_any wk_nil)))))))))))))))))))) (fun g6 => (p_retF (fun (s : Unit) => [.io p (.lst (encF g6.1)), .dat (enc (v_row : (List Int))), .dat (enc (g6.2.2 : (List Int))), .dat (enc (g6.2.1 : (List Int))), .any, .any, .any]) () 0 (fun s => g6.1) (ev 3 (g6.2.1 : (List Int))))))))))
def M__law_all (v_row : (List Int)) : Res (Ctl Empty Empty (Option (List (List Int)))) := (sseq ((sbind (sbind (spure ([] : List Int)) fun x => sbind (spure (v_row : (List Int))) fun y => spure (x, y)) fun a => sbind (spure ([] : List ((List Int) × (List Int)))) fun as => spure (a :: as)) ()) fun v_found_2 s1 => (seqC (sseq ((sbind (sbind (sbind (spure (v_row : (List Int))) fun a => sbind (spure ()) fun t => spure (a, t)) fun t => slift (nb (m__law_wrong t.1))) fun n => slift (ofOpt (rangeO 0 n))) ()) fun xs s3 => forR (fun (x5 : Int) (g4 : (List ((List Int) × (List Int)))) => (sseq ((spure ([] : List ((List Int) × (List Int)))) ()) fun v_longer_7 s6 => (seqC (sseq ((spure (g4 : (List ((List Int) × (List Int))))) ()) fun xs s8 => forR (fun (x10 : ((List Int) × (List Int))) (g9 : (List ((List Int) × (List Int)))) => (seqC (sseq ((sbind (spure (1 : Int)) fun i => sbind (sbind (spure (x10.2 : (List Int))) fun x => spure ((x.length : Int))) fun j => slift (ofOpt (rangeO i j))) ()) fun xs s11 => forR (fun (x13 : Int) (g12 : (List ((List Int) × (List Int)))) => (sseq ((sbind (sbind (spure (x10.2 : (List Int))) fun x => sbind (sbind (spure (x13 : Int)) fun x => sbind (spure (1 : Int)) fun y => spure (x - y)) fun y => slift (ofOpt (L2.atI x y))) fun x => sbind (sbind (spure (x10.2 : (List Int))) fun x => sbind (spure (x13 : Int)) fun y => slift (ofOpt (L2.atI x y))) fun y => spure (decide (y < x))) ()) fun b s14 => if b = true then (sseq ((sbind (sbind (sbind (spure (x13 : Int)) fun a => sbind (spure ([] : List Int)) fun as => spure (a :: as)) fun x => sbind (spure (x10.1 : (List Int))) fun y => slift (ofOpt (catO x y))) fun x => sbind (sbind (sbind (spure (x10.2 : (List Int))) fun a => sbind (sbind (spure (x13 : Int)) fun a => sbind (spure ()) fun t => spure (a, t)) fun t => spure (a, t)) fun t => slift (nb (m__law_swapped t.1 t.2.1))) fun y => spure (x, y)) ()) fun a s15 => ofOpt (appO g12 a) >>= fun v_longer_16 => (.ok (.nx v_longer_16))) else (.ok (.nx g12)))) xs g9) fun (g12 : (List ((List Int) × (List Int)))) => (.ok (.nx g12)))) xs v_longer_7) fun (g9 : (List ((List Int) × (List Int)))) => (sseq ((sbind (fun s => .ok ((g9.length : Int), s)) fun x => sbind (spure (300 : Int)) fun y => spure (decide (y < x))) ()) fun b s17 => if b = true then exitC (sseq ((fun s => (spure ()) s >>= fun r => .ok ((none : (Option (List (List Int)))), r.2)) ()) fun a _ => .ok (.rt a)) else (sseq ((spure (g9 : (List ((List Int) × (List Int))))) ()) fun v_found_19 s18 => (.ok (.nx v_found_19))))))) xs v_found_2) fun (g4 : (List ((List Int) × (List Int)))) => (sseq ((fun s => (sbind (sbind (spure (g4 : (List ((List Int) × (List Int))))) fun xs => compS (fun (x20 : ((List Int) × (List Int))) => (spure true)) (fun (x20 : ((List Int) × (List Int))) => (sbind (spure (x20 : ((List Int) × (List Int)))) fun x => spure x.1)) xs) fun x => spure (dsort x)) s >>= fun r => .ok ((some r.1 : (Option (List (List Int)))), r.2)) ()) fun a _ => .ok (.rt a))))
def m__law_all (v_row : (List Int)) : Res (Option (List (List Int))) := fnE (M__law_all v_row)
theorem def__law_all (T : Tx P w K mg base cl) : DefN P w K mg base 2 "_law_all" (fun t : (List Int) × Unit => [enc t.1]) (fun t => m__law_all t.1) := by
  obtain ⟨f, fd, hm, F, b⟩ := T.f__law_all.ex
  have h := gNE_ok cl (P := P) (w := w) (base := base) (mg := mg) (k := 1) (encs := fun t : (List Int) × Unit => [enc t.1]) (M := fun t => M__law_all t.1) F sc__law_all 7 (fun _ => rfl) rfl
  refine ⟨f, fd, _, hm, F.kp, b, h ?_⟩
  intro cdv A outer s H t hr E_
  obtain ⟨v_row, _u⟩ := t
  have nd := sc__law_all.nd
  exact (p_set (fun (s : Unit) => [.dat (enc (v_row : (List Int))), .any, .any, .any, .any, .any, .any, .any]) () 1 (ae 1 nd (EP.frozen (e_lst (ld_cons (e_pair (EP.frozen (e_lst (ld_nil (α := Int)))) (ev 0 (v_row : (List Int)))) (ld_nil (α := ((List Int) × (List Int)))))))) (fun v_found_2 s1 => (p_for (vs := [2]) (ρb := fun (g4 : (List ((List Int) × (List Int)))) x => [.dat (enc (v_row : (List Int))), .dat (enc (g4 : (List ((List Int) × (List Int))))), .dat (enc (x : Int)), .any, .any, .any, .any, .any]) (fun (s : Unit) => [.dat (enc (v_row : (List Int))), .dat (enc (v_found_2 : (List ((List Int) × (List Int))))), .any, .any, .any, .any, .any, .any]) () (fun (g4 : (List ((List Int) × (List Int)))) => [.dat (enc (v_row : (List Int))), .dat (enc (g4 : (List ((List Int) × (List Int))))), .any, .any, .any, .any, .any, .any]) (fun (s : Unit) => v_found_2) PassesOwn.never rfl (ei_range1 T.z_range (e_callN (β := Int) (m := fun (t : (List Int) × Unit) => m__law_wrong t.1) (def__law_wrong T) (hr.mono (by decide)) (ea_cons (α := (List Int)) (τ := Unit) (encs := fun _ : Unit => []) (ev 0 (v_row : (List Int))) ea_nil))) (fun s => (wk_same (wk_same (wk_same (wk_same (wk_same (wk_same (wk_same (wk_same wk_nil))))))))) (fun g4 => (g_name 2 nd)) (fun x5 g4 => (p_setL (fun (s : Unit) => [.dat (enc (v_row : (List Int))), .dat (enc (g4 : (List ((List Int) × (List Int))))), .dat (enc (x5 : Int)), .any, .any, .any, .any, .any]) () 3 (ae 3 nd (e_lst (ld_nil (α := ((List Int) × (List Int)))))) (fun v_longer_7 s6 => (p_for (vs := [4, 5]) (ρb := fun (g9 : (List ((List Int) × (List Int)))) x => [.dat (enc (v_row : (List Int))), .dat (enc (g4 : (List ((List Int) × (List Int))))), .dat (enc (x5 : Int)), .own (.lst ((g9 : (List ((List Int) × (List Int)))).map enc)), .dat (enc (x.1 : (List Int))), .dat (enc (x.2 : (List Int))), .any, .any]) (fun (s : Unit) => [.dat (enc (v_row : (List Int))), .dat (enc (g4 : (List ((List Int) × (List Int))))), .dat (enc (x5 : Int)), .own (.lst ((v_longer_7 : (List ((List Int) × (List Int)))).map enc)), .any, .any, .any, .any]) () (fun (g9 : (List ((List Int) × (List Int)))) => [.dat (enc (v_row : (List Int))), .dat (enc (g4 : (List ((List Int) × (List Int))))), .dat (enc (x5 : Int)), .own (.lst ((g9 : (List ((List Int) × (List Int)))).map enc)), .any, .any, .any, .any]) (fun (s : Unit) => v_longer_7) PassesOwn.never rfl (ei_list (ev 1 (g4 : (List ((List Int) × (List Int)))))) (fun s => (wk_same (wk_same (wk_same (wk_same (wk_same (wk_same (wk_same (wk_same wk_nil))))))))) (fun g9 => (g_pair rfl (g_name 4 nd) (fun _ => (g_name 5 nd)))) (fun x10 g9 => (p_for (vs := [6]) (ρb := fun (g12 : (List ((List Int) × (List Int)))) x => [.dat (enc (v_row : (List Int))), .dat (enc (g4 : (List ((List Int) × (List Int))))), .dat (enc (x5 : Int)), .own (.lst ((g12 : (List ((List Int) × (List Int)))).map enc)), .dat (enc (x10.1 : (List Int))), .dat (enc (x10.2 : (List Int))), .dat (enc (x : Int)), .any]) (fun (s : Unit) => [.dat (enc (v_row : (List Int))), .dat (enc (g4 : (List ((List Int) × (List Int))))), .dat (enc (x5 : Int)), .own (.lst ((g9 : (List ((List Int) × (List Int)))).map enc)), .dat (enc (x10.1 : (List Int))), .dat (enc (x10.2 : (List Int))), .any, .any]) () (fun (g12 : (List ((List Int) × (List Int)))) => [.dat (enc (v_row : (List Int))), .dat (enc (g4 : (List ((List Int) × (List Int))))), .dat (enc (x5 : Int)), .own (.lst ((g12 : (List ((List Int) × (List Int)))).map enc)), .dat (enc (x10.1 : (List Int))), .dat (enc (x10.2 : (List Int))), .any, .any]) (fun (s : Unit) => g9) PassesOwn.never rfl (ei_range2 T.z_range e_int (e_len T.z_len (ev 5 (x10.2 : (List Int))))) (fun s => (wk_same (wk_same (wk_same (wk_same (wk_same (wk_same (wk_same (wk_same wk_nil))))))))) (fun g12 => (g_name 6 nd)) (fun x13 g12 => (p_ifZ (fun (s : Unit) => [.dat (enc (v_row : (List Int))), .dat (enc (g4 : (List ((List Int) × (List Int))))), .dat (enc (x5 : Int)), .own (.lst ((g12 : (List ((List Int) × (List Int)))).map enc)), .dat (enc (x10.1 : (List Int))), .dat (enc (x10.2 : (List Int))), .dat (enc (x13 : Int)), .any]) () (Cj.toB (c_gt (e_ix (ev 5 (x10.2 : (List Int))) (e_sub (ev 6 (x13 : Int)) e_int)) (e_ix (ev 5 (x10.2 : (List Int))) (ev 6 (x13 : Int))))) (fun s14 => (p_append (fun (s : Unit) => [.dat (enc (v_row : (List Int))), .dat (enc (g4 : (List ((List Int) × (List Int))))), .dat (enc (x5 : Int)), .own (.lst ((g12 : (List ((List Int) × (List Int)))).map enc)), .dat (enc (x10.1 : (List Int))), .dat (enc (x10.2 : (List Int))), .dat (enc (x13 : Int)), .any]) () 3 (fun s => g12) (L2.pv 3) (e_pair (EP.frozen (e_cat (EP.frozen (e_lst (ld_cons (ev 6 (x13 : Int)) (ld_nil (α := Int))))) (ev 4 (x10.1 : (List Int))))) (e_callN (β := (List Int)) (m := fun (t : (List Int) × Int × Unit) => m__law_swapped t.1 t.2.1) (def__law_swapped T) (hr.mono (by decide)) (ea_cons (α := (List Int)) (τ := Int × Unit) (encs := fun t : Int × Unit => [enc t.1]) (ev 5 (x10.2 : (List Int))) (ea_cons (α := Int) (τ := Unit) (encs := fun _ : Unit => []) (ev 6 (x13 : Int)) ea_nil)))) (fun v_longer_16 s15 => (s_nil (b := v_longer_16) (wk_same (wk_same (wk_same (wk_same (wk_same (wk_same (wk_any (wk_same wk_nil)))))))))))) (fun s14 => (s_nil (b := g12) (wk_same (wk_same (wk_same (wk_same (wk_same (wk_same (wk_any (wk_same wk_nil)))))))))))) (fun g12 => (s_nil (b := g12) (wk_same (wk_same (wk_same (wk_same (wk_any (wk_any (wk_same (wk_same wk_nil)))))))))))) (fun g9 => (p_ifE (fun (s : Unit) => [.dat (enc (v_row : (List Int))), .dat (enc (g4 : (List ((List Int) × (List Int))))), .dat (enc (x5 : Int)), .own (.lst ((g9 : (List ((List Int) × (List Int)))).map enc)), .any, .any, .any, .any]) () (Cj.toB (c_gt (e_lenO (L2.pv 3) (view_own (get := fun (s : Unit) => g9)) T.z_len) e_int)) (fun s17 => (p_ret (fun (s : Unit) => [.dat (enc (v_row : (List Int))), .dat (enc (g4 : (List ((List Int) × (List Int))))), .dat (enc (x5 : Int)), .own (.lst ((g9 : (List ((List Int) × (List Int)))).map enc)), .any, .any, .any, .any]) () (E.conv e_non (fun _ => (none : (Option (List (List Int)))))))) (fun s17 => (s_frz (α := ((List Int) × (List Int))) (xs := g9) 3 (p_set (fun (s : Unit) => [.dat (enc (v_row : (List Int))), .dat (enc (g4 : (List ((List Int) × (List Int))))), .dat (enc (x5 : Int)), .dat (enc (g9 : (List ((List Int) × (List Int))))), .any, .any, .any, .any]) () 1 (ae 1 nd (ev 3 (g9 : (List ((List Int) × (List Int)))))) (fun v_found_19 s18 => (s_nil (b := v_found_19) (wk_same (wk_same (wk_any (wk_any (wk_same (wk_same (wk_same (wk_same wk_nil))))))))))))))))))) (fun g4 => (p_ret (fun (s : Unit) => [.dat (enc (v_row : (List Int))), .dat (enc (g4 : (List ((List Int) × (List Int))))), .any, .any, .any, .any, .any, .any]) () (E.conv (EP.frozen (e_sortedD (room65 hr) T.z_sorted (EP.frozen (CP.e (own := [("pair", 7)]) (CP.mk rfl nd (ei_list (ev 1 (g4 : (List ((List Int) × (List Int)))))) (blkOk_by (N := N__law_all) (sc := defScope s__law_all) (by decide +kernel)) (vs_any (fun _ => rfl) vs_nil) ⟨fun s x20 => [.dat (enc (v_row : (List Int))), .dat (enc (g4 : (List ((List Int) × (List Int))))), .any, .any, .any, .any, .any, .dat (enc (x20 : ((List Int) × (List Int))))], fun _ _ _ _ _ s => (g_name 7 nd), fun _ _ _ _ _ x20 => t_none, fun _ _ _ _ _ x20 => (e_fst (ev 7 (x20 : ((List Int) × (List Int)))))⟩))))) (fun r => (some r : (Option (List (List Int)))))))))))
def M__law_walk_right (v_n : Int) (v_word : (List Int)) : Res (Ctl Empty Empty Bool) := (sseq ((spure (v_word : (List Int))) ()) fun v_here_2 s1 => (seqC (sseq ((sbind (sbind (spure (v_word : (List Int))) fun x => spure ((x.length : Int))) fun n => slift (ofOpt (rangeO 0 n))) ()) fun xs s3 => forR (fun (x5 : Int) (g4 : (List Int)) => (sseq ((sbind (sbind (spure (v_n : Int)) fun a => sbind (sbind (spure (g4 : (List Int))) fun a => sbind (spure ()) fun t => spure (a, t)) fun t => spure (a, t)) fun t => slift (nb (m_turned_spelling t.1 t.2.1))) ()) fun v_here_7 s6 => (.ok (.nx v_here_7)))) xs v_here_2) fun (g4 : (List Int)) => (sseq ((sbind (spure (g4 : (List Int))) fun x => sbind (sbind (spure (v_word : (List Int))) fun xs => compS (fun (x8 : Int) => (spure true)) (fun (x8 : Int) => (sbind (spure (v_n : Int)) fun x => sbind (spure (x8 : Int)) fun y => spure (x - y))) xs) fun y => spure (decide (x = y))) ()) fun a _ => .ok (.rt a))))
def m__law_walk_right (v_n : Int) (v_word : (List Int)) : Res Bool := fnE (M__law_walk_right v_n v_word)
theorem def__law_walk_right (T : Tx P w K mg base cl) : DefN P w K mg base 2 "_law_walk_right" (fun t : Int × (List Int) × Unit => [enc t.1, enc t.2.1]) (fun t => m__law_walk_right t.1 t.2.1) := by
  obtain ⟨f, fd, hm, F, b⟩ := T.f__law_walk_right.ex
  have h := gNE_ok cl (P := P) (w := w) (base := base) (mg := mg) (k := 1) (encs := fun t : Int × (List Int) × Unit => [enc t.1, enc t.2.1]) (M := fun t => M__law_walk_right t.1 t.2.1) F sc__law_walk_right 3 (fun _ => rfl) rfl
  refine ⟨f, fd, _, hm, F.kp, b, h ?_⟩
  intro cdv A outer s H t hr E_
  obtain ⟨v_n, v_word, _u⟩ := t
  have nd := sc__law_walk_right.nd
  exact (p_set (fun (s : Unit) => [.dat (enc (v_n : Int)), .dat (enc (v_word : (List Int))), .any, .any, .any]) () 2 (ae 2 nd (EP.frozen (e_listOf T.z_list (ev 1 (v_word : (List Int)))))) (fun v_here_2 s1 => (p_for (vs := [3]) (ρb := fun (g4 : (List Int)) x => [.dat (enc (v_n : Int)), .dat (enc (v_word : (List Int))), .dat (enc (g4 : (List Int))), .dat (enc (x : Int)), .any]) (fun (s : Unit) => [.dat (enc (v_n : Int)), .dat (enc (v_word : (List Int))), .dat (enc (v_here_2 : (List Int))), .any, .any]) () (fun (g4 : (List Int)) => [.dat (enc (v_n : Int)), .dat (enc (v_word : (List Int))), .dat (enc (g4 : (List Int))), .any, .any]) (fun (s : Unit) => v_here_2) PassesOwn.never rfl (ei_range1 T.z_range (e_len T.z_len (ev 1 (v_word : (List Int))))) (fun s => (wk_same (wk_same (wk_same (wk_same (wk_same wk_nil)))))) (fun g4 => (g_name 3 nd)) (fun x5 g4 => (p_set (fun (s : Unit) => [.dat (enc (v_n : Int)), .dat (enc (v_word : (List Int))), .dat (enc (g4 : (List Int))), .dat (enc (x5 : Int)), .any]) () 2 (ae 2 nd (EP.frozen (e_callNL (β := Int) (m := fun (t : Int × (List Int) × Unit) => m_turned_spelling t.1 t.2.1) (def_turned_spelling T) (hr.mono (by decide)) (ea_cons (α := Int) (τ := (List Int) × Unit) (encs := fun t : (List Int) × Unit => [enc t.1]) (ev 0 (v_n : Int)) (ea_cons (α := (List Int)) (τ := Unit) (encs := fun _ : Unit => []) (ev 2 (g4 : (List Int))) ea_nil))))) (fun v_here_7 s6 => (s_nil (b := v_here_7) (wk_same (wk_same (wk_same (wk_any (wk_same wk_nil))))))))) (fun g4 => (p_ret (fun (s : Unit) => [.dat (enc (v_n : Int)), .dat (enc (v_word : (List Int))), .dat (enc (g4 : (List Int))), .any, .any]) () (Cj.toE (c_eq hr.units (ev 2 (g4 : (List Int))) (EP.frozen (CP.e (own := [("k", 4)]) (CP.mk rfl nd (ei_list (ev 1 (v_word : (List Int)))) (blkOk_by (N := N__law_walk_right) (sc := defScope s__law_walk_right) (by decide +kernel)) (vs_any (fun _ => rfl) vs_nil) ⟨fun s x8 => [.dat (enc (v_n : Int)), .dat (enc (v_word : (List Int))), .dat (enc (g4 : (List Int))), .any, .dat (enc (x8 : Int))], fun _ _ _ _ _ s => (g_name 4 nd), fun _ _ _ _ _ x8 => t_none, fun _ _ _ _ _ x8 => (e_sub (ev 0 (v_n : Int)) (ev 4 (x8 : Int)))⟩))))))))))
def M_first_members (v_row : (List Int)) : Res (Ctl Empty Empty (List Int)) := (sseq ((sbind (sbind (sbind (sbind (spure (v_row : (List Int))) fun a => sbind (spure ()) fun t => spure (a, t)) fun t => slift (nb (m_places_of t.1))) fun a => sbind (spure ()) fun t => spure (a, t)) fun t => slift (nb (m_last_members t.1))) ()) fun a _ => .ok (.rt a))
def m_first_members (v_row : (List Int)) : Res (List Int) := fnE (M_first_members v_row)
theorem def_first_members (T : Tx P w K mg base cl) : DefN P w K mg base 3 "first_members" (fun t : (List Int) × Unit => [enc t.1]) (fun t => m_first_members t.1) := by
  obtain ⟨f, fd, hm, F, b⟩ := T.f_first_members.ex
  have h := gNE_ok cl (P := P) (w := w) (base := base) (mg := mg) (k := 2) (encs := fun t : (List Int) × Unit => [enc t.1]) (M := fun t => M_first_members t.1) F sc_first_members 0 (fun _ => rfl) rfl
  refine ⟨f, fd, _, hm, F.kp, b, h ?_⟩
  intro cdv A outer s H t hr E_
  obtain ⟨v_row, _u⟩ := t
  have nd := sc_first_members.nd
  exact (p_ret (fun (s : Unit) => [.dat (enc (v_row : (List Int)))]) () (e_callN (β := (List Int)) (m := fun (t : (List Int) × Unit) => m_last_members t.1) (def_last_members T) (hr.mono (by decide)) (ea_cons (α := (List Int)) (τ := Unit) (encs := fun _ : Unit => []) (e_callN (β := (List Int)) (m := fun (t : (List Int) × Unit) => m_places_of t.1) (def_places_of T) (hr.mono (by decide)) (ea_cons (α := (List Int)) (τ := Unit) (encs := fun _ : Unit => []) (ev 0 (v_row : (List Int))) ea_nil)) ea_nil)))
def M_check_few (v_n : Int) : Res (Ctl Unit Empty Unit) := (sseq ((sbind (spure (v_n : Int)) fun x => sbind (spure (4 : Int)) fun y => spure (decide (y < x))) ()) fun b s1 => if b = true then (sseq ((spure (4 : Int)) ()) fun a _ => .err "TooMany" [enc a]) else (.ok (.nx ())))
def m_check_few (v_n : Int) : Res Unit := fnD () (M_check_few v_n)
theorem def_check_few (T : Tx P w K mg base cl) : DefX P w K mg base cl 3 "check_few" (fun t : Int × Unit => [enc t.1]) (fun t => m_check_few t.1) := by
  obtain ⟨f, fd, hm, F, b⟩ := T.f_check_few.ex
  obtain ⟨t_MOST_JARS, k_MOST_JARS⟩ := T.c_MOST_JARS
  obtain ⟨C_TooMany, hcl_TooMany, M_TooMany⟩ := T.x_TooMany
  have g_TooMany := M_TooMany.xf.g
  have h := fnX_ok (P := P) (w := w) (base := base) (mg := mg) (cl := cl) (k := 2) (encs := fun t : Int × Unit => [enc t.1]) (β := Unit) (M := fun t => M_check_few t.1) (ρn := fun _ _ => List.replicate 1 .any) () F sc_check_few 0 (fun _ => rfl) rfl (by decide)
  refine ⟨f, fd, _, hm, F.kp, b, h ?_ (fun _ => rfl)⟩
  intro cdv A outer s H t hr E_
  obtain ⟨v_n, _u⟩ := t
  have nd := sc_check_few.nd
  exact (p_ifZ (fun (s : Unit) => [.dat (enc (v_n : Int))]) () (Cj.toB (c_gt (ev 0 (v_n : Int)) (e_globI 4 rfl k_MOST_JARS))) (fun s1 => (p_raise1 "TooMany" (fun (s : Unit) => [.dat (enc (v_n : Int))]) () M_TooMany hcl_TooMany (hr.mono (by decide)) rfl (L2N.takes_of (E := E_) rfl rfl rfl rfl) (fun _ => wk_alls _) (e_globI 4 rfl k_MOST_JARS))) (fun s1 => (s_nil (b := ()) (wk_alls _))))
def M__law_spelling_longest (v_n : Int) (v_word : (List Int)) : Res (Ctl Empty Empty Bool) := (sseq ((sbind (sbind (sbind (spure (v_word : (List Int))) fun x => spure ((x.length : Int))) fun x => sbind (sbind (sbind (spure (v_n : Int)) fun x => sbind (sbind (spure (v_n : Int)) fun x => sbind (spure (1 : Int)) fun y => spure (x - y)) fun y => slift (ofOpt (mulO x y))) fun x => sbind (spure (2 : Int)) fun y => slift (ofOpt (divO x y))) fun y => spure (decide (x = y))) fun x => if x = true then (sbind (sbind (sbind (spure (v_n : Int)) fun a => sbind (sbind (spure (v_word : (List Int))) fun a => sbind (spure ()) fun t => spure (a, t)) fun t => spure (a, t)) fun t => slift (nb (m__law_spelled t.1 t.2.1))) fun x => sbind (sbind (sbind (spure (v_n : Int)) fun n => slift (ofOpt (rangeO 0 n))) fun xs => compS (fun (x1 : Int) => (spure true)) (fun (x1 : Int) => (sbind (spure (v_n : Int)) fun x => sbind (spure (x1 : Int)) fun y => spure (x - y))) xs) fun y => spure (decide (x = y))) else spure false) ()) fun a _ => .ok (.rt a))
def m__law_spelling_longest (v_n : Int) (v_word : (List Int)) : Res Bool := fnE (M__law_spelling_longest v_n v_word)
theorem def__law_spelling_longest (T : Tx P w K mg base cl) : DefN P w K mg base 3 "_law_spelling_longest" (fun t : Int × (List Int) × Unit => [enc t.1, enc t.2.1]) (fun t => m__law_spelling_longest t.1 t.2.1) := by
  obtain ⟨f, fd, hm, F, b⟩ := T.f__law_spelling_longest.ex
  have h := gNE_ok cl (P := P) (w := w) (base := base) (mg := mg) (k := 2) (encs := fun t : Int × (List Int) × Unit => [enc t.1, enc t.2.1]) (M := fun t => M__law_spelling_longest t.1 t.2.1) F sc__law_spelling_longest 1 (fun _ => rfl) rfl
  refine ⟨f, fd, _, hm, F.kp, b, h ?_⟩
  intro cdv A outer s H t hr E_
  obtain ⟨v_n, v_word, _u⟩ := t
  have nd := sc__law_spelling_longest.nd
  exact (p_ret (fun (s : Unit) => [.dat (enc (v_n : Int)), .dat (enc (v_word : (List Int))), .any]) () (e_and (Cj.toE (c_eq hr.units (e_len T.z_len (ev 1 (v_word : (List Int)))) (e_div (e_mul (ev 0 (v_n : Int)) (e_sub (ev 0 (v_n : Int)) e_int)) e_int))) (e_and1 (Cj.toE (c_eq hr.units (e_callN (β := (List Int)) (m := fun (t : Int × (List Int) × Unit) => m__law_spelled t.1 t.2.1) (def__law_spelled T) (hr.mono (by decide)) (ea_cons (α := Int) (τ := (List Int) × Unit) (encs := fun t : (List Int) × Unit => [enc t.1]) (ev 0 (v_n : Int)) (ea_cons (α := (List Int)) (τ := Unit) (encs := fun _ : Unit => []) (ev 1 (v_word : (List Int))) ea_nil))) (EP.frozen (CP.e (own := [("k", 2)]) (CP.mk rfl nd (ei_range1 T.z_range (ev 0 (v_n : Int))) (blkOk_by (N := N__law_spelling_longest) (sc := defScope s__law_spelling_longest) (by decide +kernel)) (vs_any (fun _ => rfl) vs_nil) ⟨fun s x1 => [.dat (enc (v_n : Int)), .dat (enc (v_word : (List Int))), .dat (enc (x1 : Int))], fun _ _ _ _ _ s => (g_name 2 nd), fun _ _ _ _ _ x1 => t_none, fun _ _ _ _ _ x1 => (e_sub (ev 0 (v_n : Int)) (ev 2 (x1 : Int)))⟩))))))))
def M_all_spellings (v_row : (List Int)) : Res (Ctl Empty Empty (List (List Int))) := (sseq ((sbind (sbind (sbind (spure (v_row : (List Int))) fun a => sbind (spure ()) fun t => spure (a, t)) fun t => slift (nb (m_count_spellings t.1))) fun x => sbind (spure (300 : Int)) fun y => spure (decide (y < x))) ()) fun b s1 => if b = true then exitC (sseq ((spure (300 : Int)) ()) fun a _ => .err "TooMany" [enc a]) else (sseq ((sbind (sbind (spure ([] : List Int)) fun x => sbind (spure (v_row : (List Int))) fun y => spure (x, y)) fun a => sbind (spure ([] : List ((List Int) × (List Int)))) fun as => spure (a :: as)) ()) fun v_found_3 s2 => (seqC (sseq ((sbind (sbind (spure (v_row : (List Int))) fun a => sbind (spure ()) fun t => spure (a, t)) fun t => slift (nb (m_wrong_jars t.1))) ()) fun xs s4 => forR (fun (x6 : (Int × Int)) (g5 : (List ((List Int) × (List Int)))) => (sseq ((spure ([] : List ((List Int) × (List Int)))) ()) fun v_longer_8 s7 => (seqC (sseq ((spure (g5 : (List ((List Int) × (List Int))))) ()) fun xs s9 => forR (fun (x11 : ((List Int) × (List Int))) (g10 : (List ((List Int) × (List Int)))) => (sseq ((sbind (sbind (sbind (spure (x11.2 : (List Int))) fun a => sbind (spure ()) fun t => spure (a, t)) fun t => slift (nb (m_first_members t.1))) fun xs => compS (fun (x12 : Int) => (spure true)) (fun (x12 : Int) => (sbind (sbind (spure (x11.1 : (List Int))) fun x => sbind (sbind (spure (x12 : Int)) fun a => sbind (spure ([] : List Int)) fun as => spure (a :: as)) fun y => slift (ofOpt (catO x y))) fun x => sbind (sbind (sbind (spure (x11.2 : (List Int))) fun a => sbind (sbind (spure (x12 : Int)) fun a => sbind (spure ()) fun t => spure (a, t)) fun t => spure (a, t)) fun t => slift (nb (m_without_first t.1 t.2.1))) fun y => spure (x, y))) xs) ()) fun a s13 => ofOpt (extO g10 a) >>= fun v_longer_14 => (.ok (.nx v_longer_14)))) xs v_longer_8) fun (g10 : (List ((List Int) × (List Int)))) => (sseq ((spure (g10 : (List ((List Int) × (List Int))))) ()) fun v_found_16 s15 => (.ok (.nx v_found_16)))))) xs v_found_3) fun (g5 : (List ((List Int) × (List Int)))) => (sseq ((sbind (spure (g5 : (List ((List Int) × (List Int))))) fun xs => compS (fun (x17 : ((List Int) × (List Int))) => (spure true)) (fun (x17 : ((List Int) × (List Int))) => (spure (x17.1 : (List Int)))) xs) ()) fun a _ => .ok (.rt a)))))
def m_all_spellings (v_row : (List Int)) : Res (List (List Int)) := fnE (M_all_spellings v_row)
theorem def_all_spellings (T : Tx P w K mg base cl) : DefX P w K mg base cl 4 "all_spellings" (fun t : (List Int) × Unit => [enc t.1]) (fun t => m_all_spellings t.1) := by
  obtain ⟨f, fd, hm, F, b⟩ := T.f_all_spellings.ex
  obtain ⟨t_MOST_TOLD, k_MOST_TOLD⟩ := T.c_MOST_TOLD
  obtain ⟨C_TooMany, hcl_TooMany, M_TooMany⟩ := T.x_TooMany
  have g_TooMany := M_TooMany.xf.g
  have h := gXE_ok cl (P := P) (w := w) (base := base) (mg := mg) (k := 3) (encs := fun t : (List Int) × Unit => [enc t.1]) (M := fun t => M_all_spellings t.1) F sc_all_spellings 6 (fun _ => rfl) rfl (by decide)
  refine ⟨f, fd, _, hm, F.kp, b, h ?_⟩
  intro cdv A outer s H t hr E_
  obtain ⟨v_row, _u⟩ := t
  have nd := sc_all_spellings.nd
  exact (p_ifE (fun (s : Unit) => [.dat (enc (v_row : (List Int))), .any, .any, .any, .any, .any, .any]) () (Cj.toB (c_gt (e_callN (β := Int) (m := fun (t : (List Int) × Unit) => m_count_spellings t.1) (def_count_spellings T) (hr.mono (by decide)) (ea_cons (α := (List Int)) (τ := Unit) (encs := fun _ : Unit => []) (ev 0 (v_row : (List Int))) ea_nil)) (e_globI 300 rfl k_MOST_TOLD))) (fun s1 => (p_raise1 "TooMany" (fun (s : Unit) => [.dat (enc (v_row : (List Int))), .any, .any, .any, .any, .any, .any]) () M_TooMany hcl_TooMany (hr.mono (by decide)) rfl (L2N.takes_of (E := E_) rfl rfl rfl rfl) (fun _ => wk_alls _) (e_globI 300 rfl k_MOST_TOLD))) (fun s1 => (p_set (fun (s : Unit) => [.dat (enc (v_row : (List Int))), .any, .any, .any, .any, .any, .any]) () 1 (ae 1 nd (EP.frozen (e_lst (ld_cons (e_pair (EP.frozen (e_lst (ld_nil (α := Int)))) (ev 0 (v_row : (List Int)))) (ld_nil (α := ((List Int) × (List Int)))))))) (fun v_found_3 s2 => (p_for (vs := [2]) (ρb := fun (g5 : (List ((List Int) × (List Int)))) x => [.dat (enc (v_row : (List Int))), .dat (enc (g5 : (List ((List Int) × (List Int))))), .dat (enc (x : (Int × Int))), .any, .any, .any, .any]) (fun (s : Unit) => [.dat (enc (v_row : (List Int))), .dat (enc (v_found_3 : (List ((List Int) × (List Int))))), .any, .any, .any, .any, .any]) () (fun (g5 : (List ((List Int) × (List Int)))) => [.dat (enc (v_row : (List Int))), .dat (enc (g5 : (List ((List Int) × (List Int))))), .any, .any, .any, .any, .any]) (fun (s : Unit) => v_found_3) (L2.passes_of rfl) rfl (ei_list (e_callN (β := (List (Int × Int))) (m := fun (t : (List Int) × Unit) => m_wrong_jars t.1) (def_wrong_jars T) (hr.mono (by decide)) (ea_cons (α := (List Int)) (τ := Unit) (encs := fun _ : Unit => []) (ev 0 (v_row : (List Int))) ea_nil))) (fun s => (wk_same (wk_same (wk_same (wk_same (wk_same (wk_same (wk_same wk_nil)))))))) (fun g5 => (g_name 2 nd)) (fun x6 g5 => (p_setL (fun (s : Unit) => [.dat (enc (v_row : (List Int))), .dat (enc (g5 : (List ((List Int) × (List Int))))), .dat (enc (x6 : (Int × Int))), .any, .any, .any, .any]) () 3 (ae 3 nd (e_lst (ld_nil (α := ((List Int) × (List Int)))))) (fun v_longer_8 s7 => (p_for (vs := [4, 5]) (ρb := fun (g10 : (List ((List Int) × (List Int)))) x => [.dat (enc (v_row : (List Int))), .dat (enc (g5 : (List ((List Int) × (List Int))))), .dat (enc (x6 : (Int × Int))), .own (.lst ((g10 : (List ((List Int) × (List Int)))).map enc)), .dat (enc (x.1 : (List Int))), .dat (enc (x.2 : (List Int))), .any]) (fun (s : Unit) => [.dat (enc (v_row : (List Int))), .dat (enc (g5 : (List ((List Int) × (List Int))))), .dat (enc (x6 : (Int × Int))), .own (.lst ((v_longer_8 : (List ((List Int) × (List Int)))).map enc)), .any, .any, .any]) () (fun (g10 : (List ((List Int) × (List Int)))) => [.dat (enc (v_row : (List Int))), .dat (enc (g5 : (List ((List Int) × (List Int))))), .dat (enc (x6 : (Int × Int))), .own (.lst ((g10 : (List ((List Int) × (List Int)))).map enc)), .any, .any, .any]) (fun (s : Unit) => v_longer_8) (L2.passes_of rfl) rfl (ei_list (ev 1 (g5 : (List ((List Int) × (List Int)))))) (fun s => (wk_same (wk_same (wk_same (wk_same (wk_same (wk_same (wk_same wk_nil)))))))) (fun g10 => (g_pair rfl (g_name 4 nd) (fun _ => (g_name 5 nd)))) (fun x11 g10 => (p_extend (fun (s : Unit) => [.dat (enc (v_row : (List Int))), .dat (enc (g5 : (List ((List Int) × (List Int))))), .dat (enc (x6 : (Int × Int))), .own (.lst ((g10 : (List ((List Int) × (List Int)))).map enc)), .dat (enc (x11.1 : (List Int))), .dat (enc (x11.2 : (List Int))), .any]) () 3 (fun s => g10) (L2.pv 3) (EP.frozen (CP.e (own := [("k", 6)]) (CP.mk rfl nd (ei_list (e_callN (β := (List Int)) (m := fun (t : (List Int) × Unit) => m_first_members t.1) (def_first_members T) (hr.mono (by decide)) (ea_cons (α := (List Int)) (τ := Unit) (encs := fun _ : Unit => []) (ev 5 (x11.2 : (List Int))) ea_nil))) (blkOk_by (N := N_all_spellings) (sc := defScope s_all_spellings) (by decide +kernel)) (vs_any (fun _ => rfl) vs_nil) ⟨fun s x12 => [.dat (enc (v_row : (List Int))), .dat (enc (g5 : (List ((List Int) × (List Int))))), .dat (enc (x6 : (Int × Int))), .own (.lst ((g10 : (List ((List Int) × (List Int)))).map enc)), .dat (enc (x11.1 : (List Int))), .dat (enc (x11.2 : (List Int))), .dat (enc (x12 : Int))], fun _ _ _ _ _ s => (g_name 6 nd), fun _ _ _ _ _ x12 => t_none, fun _ _ _ _ _ x12 => (e_pair (EP.frozen (e_cat (ev 4 (x11.1 : (List Int))) (EP.frozen (e_lst (ld_cons (ev 6 (x12 : Int)) (ld_nil (α := Int))))))) (e_callN (β := (List Int)) (m := fun (t : (List Int) × Int × Unit) => m_without_first t.1 t.2.1) (def_without_first T) (hr.mono (by decide)) (ea_cons (α := (List Int)) (τ := Int × Unit) (encs := fun t : Int × Unit => [enc t.1]) (ev 5 (x11.2 : (List Int))) (ea_cons (α := Int) (τ := Unit) (encs := fun _ : Unit => []) (ev 6 (x12 : Int)) ea_nil))))⟩))) (fun v_longer_14 s13 => (s_nil (b := v_longer_14) (wk_same (wk_same (wk_same (wk_same (wk_any (wk_any (wk_same wk_nil))))))))))) (fun g10 => (s_frz (α := ((List Int) × (List Int))) (xs := g10) 3 (p_set (fun (s : Unit) => [.dat (enc (v_row : (List Int))), .dat (enc (g5 : (List ((List Int) × (List Int))))), .dat (enc (x6 : (Int × Int))), .dat (enc (g10 : (List ((List Int) × (List Int))))), .any, .any, .any]) () 1 (ae 1 nd (ev 3 (g10 : (List ((List Int) × (List Int)))))) (fun v_found_16 s15 => (s_nil (b := v_found_16) (wk_same (wk_same (wk_any (wk_any (wk_same (wk_same (wk_same wk_nil)))))))))))))))) (fun g5 => (p_ret (fun (s : Unit) => [.dat (enc (v_row : (List Int))), .dat (enc (g5 : (List ((List Int) × (List Int))))), .any, .any, .any, .any, .any]) () (EP.frozen (CP.e (own := [("word", 4), ("_", 2)]) (CP.mk rfl nd (ei_list (ev 1 (g5 : (List ((List Int) × (List Int)))))) (blkOk_by (N := N_all_spellings) (sc := defScope s_all_spellings) (by decide +kernel)) (vs_any (fun _ => rfl) (vs_any (fun _ => rfl) vs_nil)) ⟨fun s x17 => [.dat (enc (v_row : (List Int))), .dat (enc (g5 : (List ((List Int) × (List Int))))), .dat (enc (x17.2 : (List Int))), .any, .dat (enc (x17.1 : (List Int))), .any, .any], fun _ _ _ _ _ s => (g_pair rfl (g_name 4 nd) (fun _ => (g_name 2 nd))), fun _ _ _ _ _ x17 => t_none, fun _ _ _ _ _ x17 => (ev 4 (x17.1 : (List Int)))⟩))))))))))
def M_far_class (v_n : Int) (v_word : (List Int)) : Res (Ctl Empty Empty (List (List Int))) := (sseq ((sbind (sbind (spure (v_n : Int)) fun a => sbind (spure ()) fun t => spure (a, t)) fun t => slift (m_check_few t.1)) ()) fun _ s1 => (sseq ((sbind (sbind (spure (v_word : (List Int))) fun a => sbind (spure ()) fun t => spure (a, t)) fun t => slift (nb (m_class_of t.1))) ()) fun a _ => .ok (.rt a)))
def m_far_class (v_n : Int) (v_word : (List Int)) : Res (List (List Int)) := fnE (M_far_class v_n v_word)
theorem def_far_class (T : Tx P w K mg base cl) : DefXG P w K mg base cl 4 "far_class" (PrL K ((List Int))) (fun t : Int × (List Int) × Unit => [enc t.1, enc t.2.1]) (fun t => m_far_class t.1 t.2.1) := by
  obtain ⟨f, fd, hm, F, b⟩ := T.f_far_class.ex
  have h := gXG_ok cl (P := P) (w := w) (base := base) (mg := mg) (k := 3) (Pr := (PrL K ((List Int)))) (encs := fun t : Int × (List Int) × Unit => [enc t.1, enc t.2.1]) (M := fun t => M_far_class t.1 t.2.1) F sc_far_class 0 (fun _ => rfl) rfl (by decide)
  refine ⟨f, fd, _, hm, F.kp, b, h ?_⟩
  intro cdv A outer s H t hr E_
  obtain ⟨v_n, v_word, _u⟩ := t
  have nd := sc_far_class.nd
  exact (p_drop (fun (s : Unit) => [.dat (enc (v_n : Int)), .dat (enc (v_word : (List Int)))]) () (e_callX (β := Unit) (m := fun (t : Int × Unit) => m_check_few t.1) (def_check_few T) (hr.mono (by decide)) (L2N.takes_of (E := E_) rfl rfl rfl rfl) (fun _ => wk_alls _) (ea_cons (α := Int) (τ := Unit) (encs := fun _ : Unit => []) (ev 0 (v_n : Int)) ea_nil)) (fun _ s1 => (p_retNL (fun (s : Unit) => [.dat (enc (v_n : Int)), .dat (enc (v_word : (List Int)))]) () (e_callNL (β := (List Int)) (m := fun (t : (List Int) × Unit) => m_class_of t.1) (def_class_of T) (hr.mono (by decide)) (ea_cons (α := (List Int)) (τ := Unit) (encs := fun _ : Unit => []) (ev 1 (v_word : (List Int))) ea_nil)))))
def M__law_turned_right (v_n : Int) (v_word : (List Int)) : Res (Ctl Empty Empty Bool) := (sseq ((spure (v_word : (List Int))) ()) fun v_handed_2 s1 => (sseq ((sbind (sbind (spure (v_n : Int)) fun a => sbind (sbind (spure (v_handed_2 : (List Int))) fun a => sbind (spure ()) fun t => spure (a, t)) fun t => spure (a, t)) fun t => slift (nb (m_turned_spelling t.1 t.2.1))) ()) fun v_told_4 s3 => (sseq ((nbS (sbind (sbind (sbind (sbind (sconv (fun (a : (List Int)) => (enc a : PyData)) (spure (v_told_4 : (List Int)))) fun a => sbind (sbind (sbind (spure (v_word : (List Int))) fun x => spure ((x.length : Int))) fun a => sbind (spure ()) fun t => spure (a, t)) fun t => spure (a, t)) fun t => slift (nb (m__law_wholes t.1 t.2.1))) fun x => spure (!x)) fun x => if x = true then spure true else (sbind (sbind (spure (v_told_4 : (List Int))) fun x => sbind (sbind (sbind (sbind (spure (v_n : Int)) fun x => sbind (sbind (spure (v_word : (List Int))) fun x => sbind (sbind (spure (1 : Int)) fun x => spure (-x)) fun y => slift (ofOpt (L2.atI x y))) fun y => spure (x - y)) fun a => sbind (spure ([] : List Int)) fun as => spure (a :: as)) fun x => sbind (sbind (spure (v_word : (List Int))) fun x => sbind (spure none) fun i => sbind (sbind (sbind (spure (1 : Int)) fun x => spure (-x)) fun i => spure (some i)) fun j => spure (cutL x i j)) fun y => slift (ofOpt (catO x y))) fun y => spure (!decide (x = y))) fun x => if x = true then spure true else (sbind (spure (v_handed_2 : (List Int))) fun x => sbind (spure (v_word : (List Int))) fun y => spure (!decide (x = y)))))) ()) fun b s5 => if b = true then exitC (sseq ((spure false) ()) fun a _ => .ok (.rt a)) else (sseq ((nbS (sbind (sbind (sbind (spure (v_n : Int)) fun a => sbind (sbind (spure (v_told_4 : (List Int))) fun a => sbind (spure ()) fun t => spure (a, t)) fun t => spure (a, t)) fun t => slift (nb (m__law_spelling_longest t.1 t.2.1))) fun x => spure (!x))) ()) fun b s6 => if b = true then exitC (sseq ((spure false) ()) fun a _ => .ok (.rt a)) else (sseq ((spure (v_word : (List Int))) ()) fun v_here_8 s7 => (sseq ((spure (0 : Int)) ()) fun v_found_10 s9 => (seqC (sseq ((sbind (sbind (spure (2 : Int)) fun x => sbind (sbind (spure (v_word : (List Int))) fun x => spure ((x.length : Int))) fun y => slift (ofOpt (mulO x y))) fun n => slift (ofOpt (rangeO 0 n))) ()) fun xs s11 => forR (fun (x13 : Int) (g12 : (List Int) × Int) => (sseq ((sbind (sbind (sbind (spure (v_n : Int)) fun x => sbind (sbind (spure (g12.1 : (List Int))) fun x => sbind (sbind (spure (1 : Int)) fun x => spure (-x)) fun y => slift (ofOpt (L2.atI x y))) fun y => spure (x - y)) fun a => sbind (spure ([] : List Int)) fun as => spure (a :: as)) fun x => sbind (sbind (spure (g12.1 : (List Int))) fun x => sbind (spure none) fun i => sbind (sbind (sbind (spure (1 : Int)) fun x => spure (-x)) fun i => spure (some i)) fun j => spure (cutL x i j)) fun y => slift (ofOpt (catO x y))) ()) fun v_here_15 s14 => (seqC (sseq ((sbind (sbind (spure (g12.2 : Int)) fun x => sbind (spure (0 : Int)) fun y => spure (decide (x = y))) fun x => if x = true then (sbind (spure (v_here_15 : (List Int))) fun x => sbind (spure (v_word : (List Int))) fun y => spure (decide (x = y))) else spure false) ()) fun b s16 => if b = true then (sseq ((sbind (spure (x13 : Int)) fun x => sbind (spure (1 : Int)) fun y => spure (x + y)) ()) fun v_found_19 s18 => (.ok (.nx v_found_19))) else (.ok (.nx g12.2))) fun (j17 : Int) => (sseq ((sbind (sbind (sbind (spure (x13 : Int)) fun x => sbind (spure (1 : Int)) fun y => spure (x + y)) fun x => sbind (sbind (spure (v_word : (List Int))) fun x => spure ((x.length : Int))) fun y => spure (decide (x = y))) fun x => if x = true then (sbind (spure (v_here_15 : (List Int))) fun x => sbind (sbind (spure (v_word : (List Int))) fun xs => compS (fun (x20 : Int) => (spure true)) (fun (x20 : Int) => (sbind (spure (v_n : Int)) fun x => sbind (spure (x20 : Int)) fun y => spure (x - y))) xs) fun y => spure (!decide (x = y))) else spure false) ()) fun b s21 => if b = true then (sseq ((spure false) ()) fun a _ => .ok (.rt a)) else (.ok (.nx (v_here_15, j17))))))) xs (v_here_8, v_found_10)) fun (g12 : (List Int) × Int) => (sseq ((sbind (sbind (spure (v_n : Int)) fun a => sbind (sbind (spure (v_handed_2 : (List Int))) fun a => sbind (spure ()) fun t => spure (a, t)) fun t => spure (a, t)) fun t => slift (nb (m_turn_round t.1 t.2.1))) ()) fun v_many_23 s22 => (sseq ((sbind (sbind (sbind (sbind (sconv (fun (a : Int) => (enc a : PyData)) (spure (v_many_23 : Int))) fun a => sbind (spure ()) fun t => spure (a, t)) fun t => slift (nb (m__law_whole t.1))) fun x => spure (!x)) fun x => if x = true then spure true else (sbind (sbind (spure (v_many_23 : Int)) fun x => sbind (spure (g12.2 : Int)) fun y => spure (!decide (x = y))) fun x => if x = true then spure true else (sbind (sbind (spure (v_handed_2 : (List Int))) fun x => sbind (spure (v_word : (List Int))) fun y => spure (!decide (x = y))) fun x => if x = true then spure true else (sbind (spure (g12.1 : (List Int))) fun x => sbind (spure (v_word : (List Int))) fun y => spure (!decide (x = y)))))) ()) fun b s24 => if b = true then exitC (sseq ((spure false) ()) fun a _ => .ok (.rt a)) else (sseq ((spure (0 : Int)) ()) fun a s25 => ofOpt (appO v_told_4 a) >>= fun v_told_26 => (sseq ((sbind (sbind (sbind (sbind (spure (2 : Int)) fun x => sbind (sbind (spure (v_word : (List Int))) fun x => spure ((x.length : Int))) fun y => slift (ofOpt (mulO x y))) fun x => sbind (spure (v_many_23 : Int)) fun y => slift (ofOpt (modO x y))) fun x => sbind (spure (0 : Int)) fun y => spure (decide (x = y))) fun x => if x = true then (sbind (sbind (sbind (spure (v_n : Int)) fun a => sbind (sbind (spure (v_handed_2 : (List Int))) fun a => sbind (spure ()) fun t => spure (a, t)) fun t => spure (a, t)) fun t => slift (nb (m_turned_spelling t.1 t.2.1))) fun x => sbind (sbind (sbind (sbind (spure (v_n : Int)) fun x => sbind (sbind (spure (v_word : (List Int))) fun x => sbind (sbind (spure (1 : Int)) fun x => spure (-x)) fun y => slift (ofOpt (L2.atI x y))) fun y => spure (x - y)) fun a => sbind (spure ([] : List Int)) fun as => spure (a :: as)) fun x => sbind (sbind (spure (v_word : (List Int))) fun x => sbind (spure none) fun i => sbind (sbind (sbind (spure (1 : Int)) fun x => spure (-x)) fun i => spure (some i)) fun j => spure (cutL x i j)) fun y => slift (ofOpt (catO x y))) fun y => spure (decide (x = y))) else spure false) ()) fun a _ => .ok (.rt a))))))))))))
def m__law_turned_right (v_n : Int) (v_word : (List Int)) : Res Bool := fnE (M__law_turned_right v_n v_word)
theorem def__law_turned_right (T : Tx P w K mg base cl) : DefN P w K mg base 4 "_law_turned_right" (fun t : Int × (List Int) × Unit => [enc t.1, enc t.2.1]) (fun t => m__law_turned_right t.1 t.2.1) := by
  obtain ⟨f, fd, hm, F, b⟩ := T.f__law_turned_right.ex
  have h := gNE_ok cl (P := P) (w := w) (base := base) (mg := mg) (k := 3) (encs := fun t : Int × (List Int) × Unit => [enc t.1, enc t.2.1]) (M := fun t => M__law_turned_right t.1 t.2.1) F sc__law_turned_right 7 (fun _ => rfl) rfl
  refine ⟨f, fd, _, hm, F.kp, b, h ?_⟩
  intro cdv A outer s H t hr E_
  obtain ⟨v_n, v_word, _u⟩ := t
  have nd := sc__law_turned_right.nd
  exact (p_set (fun (s : Unit) => [.dat (enc (v_n : Int)), .dat (enc (v_word : (List Int))), .any, .any, .any, .any, .any, .any, .any]) () 2 (ae 2 nd (EP.frozen (e_listOf T.z_list (ev 1 (v_word : (List Int)))))) (fun v_handed_2 s1 => (p_setL (fun (s : Unit) => [.dat (enc (v_n : Int)), .dat (enc (v_word : (List Int))), .dat (enc (v_handed_2 : (List Int))), .any, .any, .any, .any, .any, .any]) () 3 (ae 3 nd (e_callNL (β := Int) (m := fun (t : Int × (List Int) × Unit) => m_turned_spelling t.1 t.2.1) (def_turned_spelling T) (hr.mono (by decide)) (ea_cons (α := Int) (τ := (List Int) × Unit) (encs := fun t : (List Int) × Unit => [enc t.1]) (ev 0 (v_n : Int)) (ea_cons (α := (List Int)) (τ := Unit) (encs := fun _ : Unit => []) (ev 2 (v_handed_2 : (List Int))) ea_nil)))) (fun v_told_4 s3 => (p_ifE (fun (s : Unit) => [.dat (enc (v_n : Int)), .dat (enc (v_word : (List Int))), .dat (enc (v_handed_2 : (List Int))), .own (.lst ((v_told_4 : (List Int)).map enc)), .any, .any, .any, .any, .any]) () (B.lend (ρ := [.dat (enc (v_n : Int)), .dat (enc (v_word : (List Int))), .dat (enc (v_handed_2 : (List Int))), .own (.lst ((v_told_4 : (List Int)).map enc)), .any, .any, .any, .any, .any]) (ρ' := [.dat (enc (v_n : Int)), .dat (enc (v_word : (List Int))), .dat (enc (v_handed_2 : (List Int))), .dat (enc (v_told_4 : (List Int))), .any, .any, .any, .any, .any]) (d := (.list ((v_told_4 : (List Int)).map enc))) 3 (BW.test (bw_or (b_not (b_val (e_callN (β := Bool) (m := fun (t : PyData × Int × Unit) => m__law_wholes t.1 t.2.1) (def__law_wholes T) (hr.mono (by decide)) (ea_cons (α := PyData) (τ := Int × Unit) (encs := fun t : Int × Unit => [enc t.1]) (E.up (α := (List Int)) (β := PyData) (ev 3 (v_told_4 : (List Int))) (fun (a : (List Int)) => (enc a : PyData))) (ea_cons (α := Int) (τ := Unit) (encs := fun _ : Unit => []) (e_len T.z_len (ev 1 (v_word : (List Int)))) ea_nil))))) (bw_or (Cj.toB (c_ne hr.units (ev 3 (v_told_4 : (List Int))) (EP.frozen (e_cat (EP.frozen (e_lst (ld_cons (e_sub (ev 0 (v_n : Int)) (e_ix (ev 1 (v_word : (List Int))) (e_neg e_int))) (ld_nil (α := Int))))) (EP.frozen (e_slice (ev 1 (v_word : (List Int))) o_none (o_some (e_neg e_int)))))))) (bw_or1 (Cj.toB (c_ne hr.units (ev 2 (v_handed_2 : (List Int))) (ev 1 (v_word : (List Int)))))))))) (fun s5 => (p_ret (fun (s : Unit) => [.dat (enc (v_n : Int)), .dat (enc (v_word : (List Int))), .dat (enc (v_handed_2 : (List Int))), .own (.lst ((v_told_4 : (List Int)).map enc)), .any, .any, .any, .any, .any]) () e_bl)) (fun s5 => (p_ifE (fun (s : Unit) => [.dat (enc (v_n : Int)), .dat (enc (v_word : (List Int))), .dat (enc (v_handed_2 : (List Int))), .own (.lst ((v_told_4 : (List Int)).map enc)), .any, .any, .any, .any, .any]) () (B.lend (ρ := [.dat (enc (v_n : Int)), .dat (enc (v_word : (List Int))), .dat (enc (v_handed_2 : (List Int))), .own (.lst ((v_told_4 : (List Int)).map enc)), .any, .any, .any, .any, .any]) (ρ' := [.dat (enc (v_n : Int)), .dat (enc (v_word : (List Int))), .dat (enc (v_handed_2 : (List Int))), .dat (enc (v_told_4 : (List Int))), .any, .any, .any, .any, .any]) (d := (.list ((v_told_4 : (List Int)).map enc))) 3 (b_not (b_val (e_callN (β := Bool) (m := fun (t : Int × (List Int) × Unit) => m__law_spelling_longest t.1 t.2.1) (def__law_spelling_longest T) (hr.mono (by decide)) (ea_cons (α := Int) (τ := (List Int) × Unit) (encs := fun t : (List Int) × Unit => [enc t.1]) (ev 0 (v_n : Int)) (ea_cons (α := (List Int)) (τ := Unit) (encs := fun _ : Unit => []) (ev 3 (v_told_4 : (List Int))) ea_nil)))))) (fun s6 => (p_ret (fun (s : Unit) => [.dat (enc (v_n : Int)), .dat (enc (v_word : (List Int))), .dat (enc (v_handed_2 : (List Int))), .own (.lst ((v_told_4 : (List Int)).map enc)), .any, .any, .any, .any, .any]) () e_bl)) (fun s6 => (p_set (fun (s : Unit) => [.dat (enc (v_n : Int)), .dat (enc (v_word : (List Int))), .dat (enc (v_handed_2 : (List Int))), .own (.lst ((v_told_4 : (List Int)).map enc)), .any, .any, .any, .any, .any]) () 4 (ae 4 nd (EP.frozen (e_listOf T.z_list (ev 1 (v_word : (List Int)))))) (fun v_here_8 s7 => (p_set (fun (s : Unit) => [.dat (enc (v_n : Int)), .dat (enc (v_word : (List Int))), .dat (enc (v_handed_2 : (List Int))), .own (.lst ((v_told_4 : (List Int)).map enc)), .dat (enc (v_here_8 : (List Int))), .any, .any, .any, .any]) () 5 (ae 5 nd e_int) (fun v_found_10 s9 => (p_for (vs := [6]) (ρb := fun (g12 : (List Int) × Int) x => [.dat (enc (v_n : Int)), .dat (enc (v_word : (List Int))), .dat (enc (v_handed_2 : (List Int))), .own (.lst ((v_told_4 : (List Int)).map enc)), .dat (enc (g12.1 : (List Int))), .dat (enc (g12.2 : Int)), .dat (enc (x : Int)), .any, .any]) (fun (s : Unit) => [.dat (enc (v_n : Int)), .dat (enc (v_word : (List Int))), .dat (enc (v_handed_2 : (List Int))), .own (.lst ((v_told_4 : (List Int)).map enc)), .dat (enc (v_here_8 : (List Int))), .dat (enc (v_found_10 : Int)), .any, .any, .any]) () (fun (g12 : (List Int) × Int) => [.dat (enc (v_n : Int)), .dat (enc (v_word : (List Int))), .dat (enc (v_handed_2 : (List Int))), .own (.lst ((v_told_4 : (List Int)).map enc)), .dat (enc (g12.1 : (List Int))), .dat (enc (g12.2 : Int)), .any, .any, .any]) (fun (s : Unit) => (v_here_8, v_found_10)) PassesOwn.never rfl (ei_range1 T.z_range (e_mul e_int (e_len T.z_len (ev 1 (v_word : (List Int)))))) (fun s => (wk_same (wk_same (wk_same (wk_same (wk_same (wk_same (wk_same (wk_same (wk_same wk_nil)))))))))) (fun g12 => (g_name 6 nd)) (fun x13 g12 => (p_set (fun (s : Unit) => [.dat (enc (v_n : Int)), .dat (enc (v_word : (List Int))), .dat (enc (v_handed_2 : (List Int))), .own (.lst ((v_told_4 : (List Int)).map enc)), .dat (enc (g12.1 : (List Int))), .dat (enc (g12.2 : Int)), .dat (enc (x13 : Int)), .any, .any]) () 4 (ae 4 nd (EP.frozen (e_cat (EP.frozen (e_lst (ld_cons (e_sub (ev 0 (v_n : Int)) (e_ix (ev 4 (g12.1 : (List Int))) (e_neg e_int))) (ld_nil (α := Int))))) (EP.frozen (e_slice (ev 4 (g12.1 : (List Int))) o_none (o_some (e_neg e_int))))))) (fun v_here_15 s14 => (p_if (fun (s : Unit) => [.dat (enc (v_n : Int)), .dat (enc (v_word : (List Int))), .dat (enc (v_handed_2 : (List Int))), .own (.lst ((v_told_4 : (List Int)).map enc)), .dat (enc (v_here_15 : (List Int))), .dat (enc (g12.2 : Int)), .dat (enc (x13 : Int)), .any, .any]) () (fun (j17 : Int) => [.dat (enc (v_n : Int)), .dat (enc (v_word : (List Int))), .dat (enc (v_handed_2 : (List Int))), .own (.lst ((v_told_4 : (List Int)).map enc)), .dat (enc (v_here_15 : (List Int))), .dat (enc (j17 : Int)), .dat (enc (x13 : Int)), .any, .any]) (BW.test (bw_and (Cj.toB (c_eq hr.units (ev 5 (g12.2 : Int)) e_int)) (bw_and1 (Cj.toB (c_eq hr.units (ev 4 (v_here_15 : (List Int))) (ev 1 (v_word : (List Int)))))))) (fun s16 => (p_set (fun (s : Unit) => [.dat (enc (v_n : Int)), .dat (enc (v_word : (List Int))), .dat (enc (v_handed_2 : (List Int))), .own (.lst ((v_told_4 : (List Int)).map enc)), .dat (enc (v_here_15 : (List Int))), .dat (enc (g12.2 : Int)), .dat (enc (x13 : Int)), .any, .any]) () 5 (ae 5 nd (e_add (ev 6 (x13 : Int)) e_int)) (fun v_found_19 s18 => (s_nil (b := v_found_19) (wk_same (wk_same (wk_same (wk_same (wk_same (wk_same (wk_same (wk_same (wk_same wk_nil))))))))))))) (fun s16 => (s_nil (b := g12.2) (wk_same (wk_same (wk_same (wk_same (wk_same (wk_same (wk_same (wk_same (wk_same wk_nil))))))))))) (fun j17 => (p_ifZ (fun (s : Unit) => [.dat (enc (v_n : Int)), .dat (enc (v_word : (List Int))), .dat (enc (v_handed_2 : (List Int))), .own (.lst ((v_told_4 : (List Int)).map enc)), .dat (enc (v_here_15 : (List Int))), .dat (enc (j17 : Int)), .dat (enc (x13 : Int)), .any, .any]) () (BW.test (bw_and (Cj.toB (c_eq hr.units (e_add (ev 6 (x13 : Int)) e_int) (e_len T.z_len (ev 1 (v_word : (List Int)))))) (bw_and1 (Cj.toB (c_ne hr.units (ev 4 (v_here_15 : (List Int))) (EP.frozen (CP.e (own := [("k", 7)]) (CP.mk rfl nd (ei_list (ev 1 (v_word : (List Int)))) (blkOk_by (N := N__law_turned_right) (sc := defScope s__law_turned_right) (by decide +kernel)) (vs_any (fun _ => rfl) vs_nil) ⟨fun s x20 => [.dat (enc (v_n : Int)), .dat (enc (v_word : (List Int))), .dat (enc (v_handed_2 : (List Int))), .own (.lst ((v_told_4 : (List Int)).map enc)), .dat (enc (v_here_15 : (List Int))), .dat (enc (j17 : Int)), .dat (enc (x13 : Int)), .dat (enc (x20 : Int)), .any], fun _ _ _ _ _ s => (g_name 7 nd), fun _ _ _ _ _ x20 => t_none, fun _ _ _ _ _ x20 => (e_sub (ev 0 (v_n : Int)) (ev 7 (x20 : Int)))⟩)))))))) (fun s21 => (p_ret (fun (s : Unit) => [.dat (enc (v_n : Int)), .dat (enc (v_word : (List Int))), .dat (enc (v_handed_2 : (List Int))), .own (.lst ((v_told_4 : (List Int)).map enc)), .dat (enc (v_here_15 : (List Int))), .dat (enc (j17 : Int)), .dat (enc (x13 : Int)), .any, .any]) () e_bl)) (fun s21 => (s_nil (b := (v_here_15, j17)) (wk_same (wk_same (wk_same (wk_same (wk_same (wk_same (wk_any (wk_same (wk_same wk_nil))))))))))))))))) (fun g12 => (p_set (fun (s : Unit) => [.dat (enc (v_n : Int)), .dat (enc (v_word : (List Int))), .dat (enc (v_handed_2 : (List Int))), .own (.lst ((v_told_4 : (List Int)).map enc)), .dat (enc (g12.1 : (List Int))), .dat (enc (g12.2 : Int)), .any, .any, .any]) () 8 (ae 8 nd (e_callN (β := Int) (m := fun (t : Int × (List Int) × Unit) => m_turn_round t.1 t.2.1) (def_turn_round T) (hr.mono (by decide)) (ea_cons (α := Int) (τ := (List Int) × Unit) (encs := fun t : (List Int) × Unit => [enc t.1]) (ev 0 (v_n : Int)) (ea_cons (α := (List Int)) (τ := Unit) (encs := fun _ : Unit => []) (ev 2 (v_handed_2 : (List Int))) ea_nil)))) (fun v_many_23 s22 => (p_ifE (fun (s : Unit) => [.dat (enc (v_n : Int)), .dat (enc (v_word : (List Int))), .dat (enc (v_handed_2 : (List Int))), .own (.lst ((v_told_4 : (List Int)).map enc)), .dat (enc (g12.1 : (List Int))), .dat (enc (g12.2 : Int)), .any, .any, .dat (enc (v_many_23 : Int))]) () (BW.test (bw_or (b_not (b_val (e_callN (β := Bool) (m := fun (t : PyData × Unit) => m__law_whole t.1) (def__law_whole T) (hr.mono (by decide)) (ea_cons (α := PyData) (τ := Unit) (encs := fun _ : Unit => []) (E.up (α := Int) (β := PyData) (ev 8 (v_many_23 : Int)) (fun (a : Int) => (enc a : PyData))) ea_nil)))) (bw_or (Cj.toB (c_ne hr.units (ev 8 (v_many_23 : Int)) (ev 5 (g12.2 : Int)))) (bw_or (Cj.toB (c_ne hr.units (ev 2 (v_handed_2 : (List Int))) (ev 1 (v_word : (List Int))))) (bw_or1 (Cj.toB (c_ne hr.units (ev 4 (g12.1 : (List Int))) (ev 1 (v_word : (List Int)))))))))) (fun s24 => (p_ret (fun (s : Unit) => [.dat (enc (v_n : Int)), .dat (enc (v_word : (List Int))), .dat (enc (v_handed_2 : (List Int))), .own (.lst ((v_told_4 : (List Int)).map enc)), .dat (enc (g12.1 : (List Int))), .dat (enc (g12.2 : Int)), .any, .any, .dat (enc (v_many_23 : Int))]) () e_bl)) (fun s24 => (p_append (fun (s : Unit) => [.dat (enc (v_n : Int)), .dat (enc (v_word : (List Int))), .dat (enc (v_handed_2 : (List Int))), .own (.lst ((v_told_4 : (List Int)).map enc)), .dat (enc (g12.1 : (List Int))), .dat (enc (g12.2 : Int)), .any, .any, .dat (enc (v_many_23 : Int))]) () 3 (fun s => v_told_4) (L2.pv 3) e_int (fun v_told_26 s25 => (p_ret (fun (s : Unit) => [.dat (enc (v_n : Int)), .dat (enc (v_word : (List Int))), .dat (enc (v_handed_2 : (List Int))), .own (.lst ((v_told_26 : (List Int)).map enc)), .dat (enc (g12.1 : (List Int))), .dat (enc (g12.2 : Int)), .any, .any, .dat (enc (v_many_23 : Int))]) () (e_and (Cj.toE (c_eq hr.units (e_mod (e_intI T.z_int (e_mul e_int (e_len T.z_len (ev 1 (v_word : (List Int)))))) (ev 8 (v_many_23 : Int))) e_int)) (e_and1 (Cj.toE (c_eq hr.units (EP.frozen (e_callNL (β := Int) (m := fun (t : Int × (List Int) × Unit) => m_turned_spelling t.1 t.2.1) (def_turned_spelling T) (hr.mono (by decide)) (ea_cons (α := Int) (τ := (List Int) × Unit) (encs := fun t : (List Int) × Unit => [enc t.1]) (ev 0 (v_n : Int)) (ea_cons (α := (List Int)) (τ := Unit) (encs := fun _ : Unit => []) (ev 2 (v_handed_2 : (List Int))) ea_nil)))) (EP.frozen (e_cat (EP.frozen (e_lst (ld_cons (e_sub (ev 0 (v_n : Int)) (e_ix (ev 1 (v_word : (List Int))) (e_neg e_int))) (ld_nil (α := Int))))) (EP.frozen (e_slice (ev 1 (v_word : (List Int))) o_none (o_some (e_neg e_int)))))))))))))))))))))))))))))))
def M_count_far_classes (v_n : Int) : Res (Ctl Empty Empty Int) := (sseq ((sbind (sbind (spure (v_n : Int)) fun a => sbind (spure ()) fun t => spure (a, t)) fun t => slift (m_check_few t.1)) ()) fun _ s1 => (sseq ((sbind (sbind (sbind (sbind (sbind (spure (v_n : Int)) fun a => sbind (spure ()) fun t => spure (a, t)) fun t => slift (nb (m_longest_order t.1))) fun a => sbind (spure ()) fun t => spure (a, t)) fun t => slift (m_all_spellings t.1)) fun xs => compS (fun (x4 : (List Int)) => (spure true)) (fun (x4 : (List Int)) => (sbind (sbind (sbind (spure (x4 : (List Int))) fun a => sbind (spure ()) fun t => spure (a, t)) fun t => slift (nb (m_class_of t.1))) fun x => sbind (spure (0 : Int)) fun y => slift (ofOpt (L2.atI x y)))) xs) ()) fun v_firsts_3 s2 => (sseq ((sbind (sbind (sbind (spure (v_firsts_3 : (List (List Int)))) fun xs => spure (enumL xs)) fun xs => compS (fun (x5 : (Int × (List Int))) => (sbind (spure (x5.2 : (List Int))) fun x => sbind (sbind (spure (v_firsts_3 : (List (List Int)))) fun x => sbind (spure none) fun i => sbind (sbind (spure (x5.1 : Int)) fun i => spure (some i)) fun j => spure (cutL x i j)) fun y => spure (!memB x y))) (fun (x5 : (Int × (List Int))) => (spure true)) xs) fun x => spure ((x.length : Int))) ()) fun a _ => .ok (.rt a))))
def m_count_far_classes (v_n : Int) : Res Int := fnE (M_count_far_classes v_n)
theorem def_count_far_classes (T : Tx P w K mg base cl) : DefX P w K mg base cl 5 "count_far_classes" (fun t : Int × Unit => [enc t.1]) (fun t => m_count_far_classes t.1) := by
  obtain ⟨f, fd, hm, F, b⟩ := T.f_count_far_classes.ex
  have h := gXE_ok cl (P := P) (w := w) (base := base) (mg := mg) (k := 4) (encs := fun t : Int × Unit => [enc t.1]) (M := fun t => M_count_far_classes t.1) F sc_count_far_classes 4 (fun _ => rfl) rfl (by decide)
  refine ⟨f, fd, _, hm, F.kp, b, h ?_⟩
  intro cdv A outer s H t hr E_
  obtain ⟨v_n, _u⟩ := t
  have nd := sc_count_far_classes.nd
  exact (p_drop (fun (s : Unit) => [.dat (enc (v_n : Int)), .any, .any, .any, .any]) () (e_callX (β := Unit) (m := fun (t : Int × Unit) => m_check_few t.1) (def_check_few T) (hr.mono (by decide)) (L2N.takes_of (E := E_) rfl rfl rfl rfl) (fun _ => wk_alls _) (ea_cons (α := Int) (τ := Unit) (encs := fun _ : Unit => []) (ev 0 (v_n : Int)) ea_nil)) (fun _ s1 => (p_setL (fun (s : Unit) => [.dat (enc (v_n : Int)), .any, .any, .any, .any]) () 1 (ae 1 nd (CP.e (own := [("word", 2)]) (CP.mk rfl nd (ei_list (e_callX (β := (List (List Int))) (m := fun (t : (List Int) × Unit) => m_all_spellings t.1) (def_all_spellings T) (hr.mono (by decide)) (L2N.takes_of (E := E_) rfl rfl rfl rfl) (fun _ => wk_alls _) (ea_cons (α := (List Int)) (τ := Unit) (encs := fun _ : Unit => []) (e_callN (β := (List Int)) (m := fun (t : Int × Unit) => m_longest_order t.1) (def_longest_order T) (hr.mono (by decide)) (ea_cons (α := Int) (τ := Unit) (encs := fun _ : Unit => []) (ev 0 (v_n : Int)) ea_nil)) ea_nil))) (blkOk_by (N := N_count_far_classes) (sc := defScope s_count_far_classes) (by decide +kernel)) (vs_any (fun _ => rfl) vs_nil) ⟨fun s x4 => [.dat (enc (v_n : Int)), .any, .dat (enc (x4 : (List Int))), .any, .any], fun _ _ _ _ _ s => (g_name 2 nd), fun _ _ _ _ _ x4 => t_none, fun _ _ _ _ _ x4 => (e_ix (EP.frozen (e_callNL (β := (List Int)) (m := fun (t : (List Int) × Unit) => m_class_of t.1) (def_class_of T) (hr.mono (by decide)) (ea_cons (α := (List Int)) (τ := Unit) (encs := fun _ : Unit => []) (ev 2 (x4 : (List Int))) ea_nil))) e_int)⟩))) (fun v_firsts_3 s2 => (s_frz (α := (List Int)) (xs := v_firsts_3) 1 (p_ret (fun (s : Unit) => [.dat (enc (v_n : Int)), .dat (enc (v_firsts_3 : (List (List Int)))), .any, .any, .any]) () (e_len T.z_len (EP.frozen (CP.e (own := [("at", 3), ("first", 4)]) (CP.mk rfl nd (ei_enum T.z_enumerate (ev 1 (v_firsts_3 : (List (List Int))))) (blkOk_by (N := N_count_far_classes) (sc := defScope s_count_far_classes) (by decide +kernel)) (vs_any (fun _ => rfl) (vs_any (fun _ => rfl) vs_nil)) ⟨fun s x5 => [.dat (enc (v_n : Int)), .dat (enc (v_firsts_3 : (List (List Int)))), .any, .dat (enc (x5.1 : Int)), .dat (enc (x5.2 : (List Int)))], fun _ _ _ _ _ s => (g_pair rfl (g_name 3 nd) (fun _ => (g_name 4 nd))), fun _ _ _ _ _ x5 => (t_one (Cj.toB (c_notInM (room65 hr) (ev 4 (x5.2 : (List Int))) (EP.frozen (e_slice (ev 1 (v_firsts_3 : (List (List Int)))) o_none (o_some (ev 3 (x5.1 : Int)))))))), fun _ _ _ _ _ x5 => e_bl⟩))))))))))
def M__law_asked (v_n : Int) (v_word : (Option (List Int))) : Res (Ctl Empty Empty PyData) := (seqC (tryX (sseq ((sbind (spure (v_word : (Option (List Int)))) fun x => spure (isN (enc x))) ()) fun b s2 => if b = true then exitC (sseq ((sbind (spure (PySem.Str.ofString "told")) fun x => sbind (sbind (sbind (spure (v_n : Int)) fun a => sbind (spure ()) fun t => spure (a, t)) fun t => slift (m_count_far_classes t.1)) fun y => spure (x, y)) ()) fun (a : Str × Int) _ => .ok (.rt (enc a))) else (sseq ((sbind (spure (v_word : (Option (List Int)))) fun x => slift (ofOpt x)) ()) fun v_handed_4 s3 => (sseq ((sbind (sbind (spure (v_n : Int)) fun a => sbind (sbind (spure (v_handed_4 : (List Int))) fun a => sbind (spure ()) fun t => spure (a, t)) fun t => spure (a, t)) fun t => slift (m_far_class t.1 t.2.1)) ()) fun v_told_6 s5 => (.ok (.nx (v_handed_4, v_told_6)))))) [((fun c => isub c "NoExchange"), (fun c as => (sseq ((sbind (spure (PySem.Str.ofString "error")) fun x => sbind (spure (0 : Int)) fun y => spure (x, y)) ()) fun (a : Str × Int) _ => .ok (.rt (enc a))))), ((fun c => isub c "TooMany"), (fun c as => (sseq ((sbind (spure (PySem.Str.ofString "refused")) fun x => sbind (slift (ofOpt (asF (flds c) as "limit"))) fun y => spure (x, y)) ()) fun (a : Str × Int) _ => .ok (.rt (enc a))))), ((fun c => isub c "ShelfError"), (fun c as => (sseq ((sbind (spure (PySem.Str.ofString "error")) fun x => sbind (spure (1 : Int)) fun y => spure (x, y)) ()) fun (a : Str × Int) _ => .ok (.rt (enc a)))))]) fun (j1 : (List Int) × (List (List Int))) => (sseq ((sbind (fun s => (spure (j1.1 : (List Int))) s >>= fun r => .ok ((some r.1 : (Option (List Int))), r.2)) fun x => sbind (spure (v_word : (Option (List Int)))) fun y => spure (!decide (x = y))) ()) fun b s7 => if b = true then exitC (sseq ((sbind (spure (PySem.Str.ofString "error")) fun x => sbind (spure (2 : Int)) fun y => spure (x, y)) ()) fun (a : Str × Int) _ => .ok (.rt (enc a))) else (.ok (.rt (.tuple [.str (PySem.Str.ofString "told"), .list ((j1.2 : (List (List Int))).map enc)])))))
def m__law_asked (v_n : Int) (v_word : (Option (List Int))) : Res PyData := fnE (M__law_asked v_n v_word)
theorem def__law_asked (T : Tx P w K mg base cl) : DefNG P w K mg base 6 "_law_asked" (PrU K) (fun t : Int × (Option (List Int)) × Unit => [enc t.1, enc t.2.1]) (fun t => m__law_asked t.1 t.2.1) := by
  obtain ⟨f, fd, hm, F, b⟩ := T.f__law_asked.ex
  obtain ⟨C_NoExchange, hcl_NoExchange, M_NoExchange⟩ := T.x_NoExchange
  have g_NoExchange := M_NoExchange.xf.g
  obtain ⟨C_ShelfError, hcl_ShelfError, M_ShelfError⟩ := T.x_ShelfError
  have g_ShelfError := M_ShelfError.g
  obtain ⟨C_TooMany, hcl_TooMany, M_TooMany⟩ := T.x_TooMany
  have g_TooMany := M_TooMany.xf.g
  have h := gNG_ok cl (P := P) (w := w) (base := base) (mg := mg) (k := 5) (Pr := (PrU K)) (encs := fun t : Int × (Option (List Int)) × Unit => [enc t.1, enc t.2.1]) (M := fun t => M__law_asked t.1 t.2.1) F sc__law_asked 3 (fun _ => rfl) rfl
  refine ⟨f, fd, _, hm, F.kp, b, h ?_⟩
  intro cdv A outer s H t hr E_
  obtain ⟨v_n, v_word, _u⟩ := t
  have nd := sc__law_asked.nd
  exact (p_tryAs (s_tryX (ρn := (fun (j1 : (List Int) × (List (List Int))) => [.dat (enc (v_n : Int)), .dat (enc (v_word : (Option (List Int)))), .dat (enc (j1.1 : (List Int))), .own (.lst ((j1.2 : (List (List Int))).map enc)), .any])) (ρE' := [.dat (enc (v_n : Int)), .dat (enc (v_word : (Option (List Int)))), .any, .any, .any]) rfl rfl takes0N (wk_alls _) (fun W pn xe tk po => (p_ifE (fun (s : Unit) => [.dat (enc (v_n : Int)), .dat (enc (v_word : (Option (List Int)))), .any, .any, .any]) () (Cj.toB (c_isN (ev 1 (v_word : (Option (List Int)))))) (fun s2 => (p_retNU (α := Str × Int) (fun (s : Unit) => [.dat (enc (v_n : Int)), .dat (enc (v_word : (Option (List Int)))), .any, .any, .any]) () (e_pair e_str (e_callX (β := Int) (m := fun (t : Int × Unit) => m_count_far_classes t.1) (def_count_far_classes T) (hr.mono (by decide)) tk (fun _ => (wk_same (wk_same (wk_same (wk_same (wk_same wk_nil)))))) (ea_cons (α := Int) (τ := Unit) (encs := fun _ : Unit => []) (ev 0 (v_n : Int)) ea_nil))))) (fun s2 => (p_set (fun (s : Unit) => [.dat (enc (v_n : Int)), .dat (enc (v_word : (Option (List Int)))), .any, .any, .any]) () 2 (ae 2 nd (EP.frozen (e_listOf T.z_list (E.un (ev 1 (v_word : (Option (List Int)))))))) (fun v_handed_4 s3 => (p_setL (fun (s : Unit) => [.dat (enc (v_n : Int)), .dat (enc (v_word : (Option (List Int)))), .dat (enc (v_handed_4 : (List Int))), .any, .any]) () 3 (ae 3 nd (e_callXL (β := (List Int)) (m := fun (t : Int × (List Int) × Unit) => m_far_class t.1 t.2.1) (def_far_class T) (hr.mono (by decide)) tk (fun _ => (wk_same (wk_same (wk_any (wk_same (wk_same wk_nil)))))) (ea_cons (α := Int) (τ := (List Int) × Unit) (encs := fun t : (List Int) × Unit => [enc t.1]) (ev 0 (v_n : Int)) (ea_cons (α := (List Int)) (τ := Unit) (encs := fun _ : Unit => []) (ev 2 (v_handed_4 : (List Int))) ea_nil)))) (fun v_told_6 s5 => (s_nil (b := (v_handed_4, v_told_6)) (wk_same (wk_same (wk_same (wk_same (wk_same wk_nil))))))))))))) (DMix.bare (mt := fun c => isub c "NoExchange") ⟨rfl, by decide, .inl g_NoExchange⟩ (fun c C fl h => (T.xs c C fl h "NoExchange" _ _ hcl_NoExchange).2) (fun a oe C d pn c fl as hcc hm hz hf => by
    obtain ⟨xn, M⟩ := T.xf c C fl hcc
    have ef := T.fl c C fl hcc
    subst ef
    exact (p_retNU (α := Str × Int) (fun (s : Unit) => [.dat (enc (v_n : Int)), .dat (enc (v_word : (Option (List Int)))), .any, .any, .any]) () (e_pair e_str e_int))) (DMix.named (i := 4) (mt := fun c => isub c "TooMany") ⟨rfl, by decide, .inl g_TooMany⟩ nd rfl rfl (fun c C fl h => (T.xs c C fl h "TooMany" _ _ hcl_TooMany).2) (lt_by rfl) (fun a oe C d pn c fl as hcc hm hz hf => by
    obtain ⟨xn, M⟩ := T.xf c C fl hcc
    have ef := T.fl c C fl hcc
    subst ef
    exact (p_retNU (α := Str × Int) (fun (s : Unit) => [.dat (enc (v_n : Int)), .dat (enc (v_word : (Option (List Int)))), .any, .any, .exn a d (flds c) as]) () (e_pair e_str (e_xfG M hz hf (L2.pv 4))))) (fun _ => rfl) (fun b => nomatch b) (DMix.bare (mt := fun c => isub c "ShelfError") ⟨rfl, by decide, .inl g_ShelfError⟩ (fun c C fl h => (T.xs c C fl h "ShelfError" _ _ hcl_ShelfError).2) (fun a oe C d pn c fl as hcc hm hz hf => by
    obtain ⟨xn, M⟩ := T.xf c C fl hcc
    have ef := T.fl c C fl hcc
    subst ef
    exact (p_retNU (α := Str × Int) (fun (s : Unit) => [.dat (enc (v_n : Int)), .dat (enc (v_word : (Option (List Int)))), .any, .any, .any]) () (e_pair e_str e_int))) DMix.nil)))) (fun j1 => (p_ifE (fun (s : Unit) => [.dat (enc (v_n : Int)), .dat (enc (v_word : (Option (List Int)))), .dat (enc (j1.1 : (List Int))), .own (.lst ((j1.2 : (List (List Int))).map enc)), .any]) () (Cj.toB (c_ne hr.units (E.conv (ev 2 (j1.1 : (List Int))) (fun r => (some r : (Option (List Int))))) (ev 1 (v_word : (Option (List Int)))))) (fun s7 => (p_retNU (α := Str × Int) (fun (s : Unit) => [.dat (enc (v_n : Int)), .dat (enc (v_word : (Option (List Int)))), .dat (enc (j1.1 : (List Int))), .own (.lst ((j1.2 : (List (List Int))).map enc)), .any]) () (e_pair e_str e_int))) (fun s7 => (p_retOU (α := (List Int)) (xs := j1.2) 3)))))
def M__law_class_right (v_n : Int) (v_word : (List Int)) : Res (Ctl Empty Empty Bool) := (sseq ((sbind (sbind (spure (v_word : (List Int))) fun a => sbind (spure ()) fun t => spure (a, t)) fun t => slift (nb (m__law_class t.1))) ()) fun v_due_2 s1 => (sseq ((sbind (sbind (spure (v_n : Int)) fun a => sbind (sbind (fun s => (spure (v_word : (List Int))) s >>= fun r => .ok ((some r.1 : (Option (List Int))), r.2)) fun a => sbind (spure ()) fun t => spure (a, t)) fun t => spure (a, t)) fun t => slift (nb (m__law_asked t.1 t.2.1))) ()) fun v_told_4 s3 => (sseq ((nbS (sbind (sbind (sbind (sbind (spure (v_told_4 : PyData)) fun d => slift (ofOpt (Dec.dec d : Option (Tup PyData)))) fun x => sbind (spure (0 : Int)) fun y => slift (ofOpt (L2.atI x.l y))) fun x => sbind (sconv (fun (a : Str) => (enc a : PyData)) (spure (PySem.Str.ofString "told"))) fun y => slift (ofOpt (neD x y))) fun x => if x = true then spure true else (sbind (sbind (sbind (sbind (sbind (spure (v_told_4 : PyData)) fun d => slift (ofOpt (Dec.dec d : Option (Tup PyData)))) fun x => sbind (spure (1 : Int)) fun y => slift (ofOpt (L2.atI x.l y))) fun v => slift (ofOpt (kitB (tyN (enc v)) "list"))) fun x => spure (!x)) fun x => if x = true then spure true else (sbind (sbind (sbind (sbind (sbind (spure (v_told_4 : PyData)) fun d => slift (ofOpt (Dec.dec d : Option (Tup PyData)))) fun x => sbind (spure (1 : Int)) fun y => slift (ofOpt (L2.atI x.l y))) fun d => slift (ofOpt (Dec.dec d : Option (List PyData)))) fun x => spure ((x.length : Int))) fun x => sbind (sbind (spure (v_due_2 : (List (List Int)))) fun x => spure ((x.length : Int))) fun y => spure (!decide (x = y)))))) ()) fun b s5 => if b = true then exitC (sseq ((spure false) ()) fun a _ => .ok (.rt a)) else (seqC (sseq ((sbind (sbind (spure (v_due_2 : (List (List Int)))) fun x => spure ((x.length : Int))) fun n => slift (ofOpt (rangeO 0 n))) ()) fun xs s6 => forR (fun (x8 : Int) (g7 : Unit) => (sseq ((nbS (sbind (sbind (sbind (sbind (sbind (sbind (sbind (sbind (spure (v_told_4 : PyData)) fun d => slift (ofOpt (Dec.dec d : Option (Tup PyData)))) fun x => sbind (spure (1 : Int)) fun y => slift (ofOpt (L2.atI x.l y))) fun d => slift (ofOpt (Dec.dec d : Option (List PyData)))) fun x => sbind (spure (x8 : Int)) fun y => slift (ofOpt (L2.atI x y))) fun a => sbind (sbind (sbind (spure (v_word : (List Int))) fun x => spure ((x.length : Int))) fun a => sbind (spure ()) fun t => spure (a, t)) fun t => spure (a, t)) fun t => slift (nb (m__law_wholes t.1 t.2.1))) fun x => spure (!x)) fun x => if x = true then spure true else (sbind (sbind (sbind (sbind (sbind (spure (v_told_4 : PyData)) fun d => slift (ofOpt (Dec.dec d : Option (Tup PyData)))) fun x => sbind (spure (1 : Int)) fun y => slift (ofOpt (L2.atI x.l y))) fun d => slift (ofOpt (Dec.dec d : Option (List PyData)))) fun x => sbind (spure (x8 : Int)) fun y => slift (ofOpt (L2.atI x y))) fun x => sbind (sconv (fun (a : (List Int)) => (enc a : PyData)) (sbind (spure (v_due_2 : (List (List Int)))) fun x => sbind (spure (x8 : Int)) fun y => slift (ofOpt (L2.atI x y)))) fun y => slift (ofOpt (neD x y))))) ()) fun b s9 => if b = true then exitC (sseq ((spure false) ()) fun a _ => .ok (.rt a)) else (sseq ((sbind (sbind (sbind (spure (v_n : Int)) fun a => sbind (sbind (sbind (spure (v_due_2 : (List (List Int)))) fun x => sbind (spure (x8 : Int)) fun y => slift (ofOpt (L2.atI x y))) fun a => sbind (spure ()) fun t => spure (a, t)) fun t => spure (a, t)) fun t => slift (nb (m__law_spelled t.1 t.2.1))) fun x => sbind (sbind (sbind (spure (v_n : Int)) fun a => sbind (sbind (spure (v_word : (List Int))) fun a => sbind (spure ()) fun t => spure (a, t)) fun t => spure (a, t)) fun t => slift (nb (m__law_spelled t.1 t.2.1))) fun y => spure (!decide (x = y))) ()) fun b s10 => if b = true then (sseq ((spure false) ()) fun a _ => .ok (.rt a)) else (.ok (.nx ()))))) xs ()) fun (g7 : Unit) => (spoilR (v_told_4 : PyData) (val1 (spure ([] : List Int))) (sseq ((sbind (sbind (sbind (spure (v_n : Int)) fun a => sbind (sbind (fun s => (spure (v_word : (List Int))) s >>= fun r => .ok ((some r.1 : (Option (List Int))), r.2)) fun a => sbind (spure ()) fun t => spure (a, t)) fun t => spure (a, t)) fun t => slift (nb (m__law_asked t.1 t.2.1))) fun x => sbind (sconv (fun (a : Tup PyData) => (enc a : PyData)) (sbind (sbind (sconv (fun (a : Str) => (enc a : PyData)) (spure (PySem.Str.ofString "told"))) fun a => sbind (sbind (sconv (fun (a : (List (List Int))) => (enc a : PyData)) (spure (v_due_2 : (List (List Int))))) fun a => sbind (spure ([] : List PyData)) fun as => spure (a :: as)) fun as => spure (a :: as)) fun t => spure (Tup.mk t))) fun y => slift (ofOpt (eqD x y))) ()) fun a _ => .ok (.rt a)))))))
def m__law_class_right (v_n : Int) (v_word : (List Int)) : Res Bool := fnE (M__law_class_right v_n v_word)
theorem def__law_class_right (T : Tx P w K mg base cl) : DefN P w K mg base 7 "_law_class_right" (fun t : Int × (List Int) × Unit => [enc t.1, enc t.2.1]) (fun t => m__law_class_right t.1 t.2.1) := by
  obtain ⟨f, fd, hm, F, b⟩ := T.f__law_class_right.ex
  have h := gNE_ok cl (P := P) (w := w) (base := base) (mg := mg) (k := 6) (encs := fun t : Int × (List Int) × Unit => [enc t.1, enc t.2.1]) (M := fun t => M__law_class_right t.1 t.2.1) F sc__law_class_right 3 (fun _ => rfl) rfl
  refine ⟨f, fd, _, hm, F.kp, b, h ?_⟩
  intro cdv A outer s H t hr E_
  obtain ⟨v_n, v_word, _u⟩ := t
  have nd := sc__law_class_right.nd
  exact (p_set (fun (s : Unit) => [.dat (enc (v_n : Int)), .dat (enc (v_word : (List Int))), .any, .any, .any]) () 2 (ae 2 nd (e_callN (β := (List (List Int))) (m := fun (t : (List Int) × Unit) => m__law_class t.1) (def__law_class T) (hr.mono (by decide)) (ea_cons (α := (List Int)) (τ := Unit) (encs := fun _ : Unit => []) (ev 1 (v_word : (List Int))) ea_nil))) (fun v_due_2 s1 => (p_setU (fun (s : Unit) => [.dat (enc (v_n : Int)), .dat (enc (v_word : (List Int))), .dat (enc (v_due_2 : (List (List Int)))), .any, .any]) () 3 (ae 3 nd (e_callNU (m := fun (t : Int × (Option (List Int)) × Unit) => m__law_asked t.1 t.2.1) (def__law_asked T) (hr.mono (by decide)) (ea_cons (α := Int) (τ := (Option (List Int)) × Unit) (encs := fun t : (Option (List Int)) × Unit => [enc t.1]) (ev 0 (v_n : Int)) (ea_cons (α := (Option (List Int))) (τ := Unit) (encs := fun _ : Unit => []) (E.conv (ev 1 (v_word : (List Int))) (fun r => (some r : (Option (List Int))))) ea_nil)))) (fun v_told_4 s3 => (p_ifE (fun (s : Unit) => [.dat (enc (v_n : Int)), .dat (enc (v_word : (List Int))), .dat (enc (v_due_2 : (List (List Int)))), .own (.tu (v_told_4 : PyData)), .any]) () (B.lend (ρ := [.dat (enc (v_n : Int)), .dat (enc (v_word : (List Int))), .dat (enc (v_due_2 : (List (List Int)))), .own (.tu (v_told_4 : PyData)), .any]) (ρ' := [.dat (enc (v_n : Int)), .dat (enc (v_word : (List Int))), .dat (enc (v_due_2 : (List (List Int)))), .dat (enc (v_told_4 : PyData)), .any]) (d := v_told_4) 3 (BW.test (bw_or (Cj.toB (c_neD hr.units (e_ixTup (E.cast (α := (Tup PyData)) (ev 3 (v_told_4 : PyData))) e_int) (E.up (α := Str) (β := PyData) e_str (fun (a : Str) => (enc a : PyData))))) (bw_or (b_not (b_val (e_isi "list" T.z_isinstance T.z_list (e_ixTup (E.cast (α := (Tup PyData)) (ev 3 (v_told_4 : PyData))) e_int)))) (bw_or1 (Cj.toB (c_ne hr.units (e_len T.z_len (E.cast (α := (List PyData)) (e_ixTup (E.cast (α := (Tup PyData)) (ev 3 (v_told_4 : PyData))) e_int))) (e_len T.z_len (ev 2 (v_due_2 : (List (List Int)))))))))))) (fun s5 => (p_ret (fun (s : Unit) => [.dat (enc (v_n : Int)), .dat (enc (v_word : (List Int))), .dat (enc (v_due_2 : (List (List Int)))), .own (.tu (v_told_4 : PyData)), .any]) () e_bl)) (fun s5 => (p_for (vs := [4]) (ρb := fun (g7 : Unit) x => [.dat (enc (v_n : Int)), .dat (enc (v_word : (List Int))), .dat (enc (v_due_2 : (List (List Int)))), .own (.tu (v_told_4 : PyData)), .dat (enc (x : Int))]) (fun (s : Unit) => [.dat (enc (v_n : Int)), .dat (enc (v_word : (List Int))), .dat (enc (v_due_2 : (List (List Int)))), .own (.tu (v_told_4 : PyData)), .any]) () (fun (g7 : Unit) => [.dat (enc (v_n : Int)), .dat (enc (v_word : (List Int))), .dat (enc (v_due_2 : (List (List Int)))), .own (.tu (v_told_4 : PyData)), .any]) (fun (s : Unit) => ()) PassesOwn.never rfl (ei_range1 T.z_range (e_len T.z_len (ev 2 (v_due_2 : (List (List Int)))))) (fun s => (wk_same (wk_same (wk_same (wk_same (wk_same wk_nil)))))) (fun g7 => (g_name 4 nd)) (fun x8 g7 => (p_ifE (fun (s : Unit) => [.dat (enc (v_n : Int)), .dat (enc (v_word : (List Int))), .dat (enc (v_due_2 : (List (List Int)))), .own (.tu (v_told_4 : PyData)), .dat (enc (x8 : Int))]) () (B.lend (ρ := [.dat (enc (v_n : Int)), .dat (enc (v_word : (List Int))), .dat (enc (v_due_2 : (List (List Int)))), .own (.tu (v_told_4 : PyData)), .dat (enc (x8 : Int))]) (ρ' := [.dat (enc (v_n : Int)), .dat (enc (v_word : (List Int))), .dat (enc (v_due_2 : (List (List Int)))), .dat (enc (v_told_4 : PyData)), .dat (enc (x8 : Int))]) (d := v_told_4) 3 (BW.test (bw_or (b_not (b_val (e_callN (β := Bool) (m := fun (t : PyData × Int × Unit) => m__law_wholes t.1 t.2.1) (def__law_wholes T) (hr.mono (by decide)) (ea_cons (α := PyData) (τ := Int × Unit) (encs := fun t : Int × Unit => [enc t.1]) (e_ix (E.cast (α := (List PyData)) (e_ixTup (E.cast (α := (Tup PyData)) (ev 3 (v_told_4 : PyData))) e_int)) (ev 4 (x8 : Int))) (ea_cons (α := Int) (τ := Unit) (encs := fun _ : Unit => []) (e_len T.z_len (ev 1 (v_word : (List Int)))) ea_nil))))) (bw_or1 (Cj.toB (c_neD hr.units (e_ix (E.cast (α := (List PyData)) (e_ixTup (E.cast (α := (Tup PyData)) (ev 3 (v_told_4 : PyData))) e_int)) (ev 4 (x8 : Int))) (E.up (α := (List Int)) (β := PyData) (e_ix (ev 2 (v_due_2 : (List (List Int)))) (ev 4 (x8 : Int))) (fun (a : (List Int)) => (enc a : PyData))))))))) (fun s9 => (p_ret (fun (s : Unit) => [.dat (enc (v_n : Int)), .dat (enc (v_word : (List Int))), .dat (enc (v_due_2 : (List (List Int)))), .own (.tu (v_told_4 : PyData)), .dat (enc (x8 : Int))]) () e_bl)) (fun s9 => (p_ifZ (fun (s : Unit) => [.dat (enc (v_n : Int)), .dat (enc (v_word : (List Int))), .dat (enc (v_due_2 : (List (List Int)))), .own (.tu (v_told_4 : PyData)), .dat (enc (x8 : Int))]) () (Cj.toB (c_ne hr.units (e_callN (β := (List Int)) (m := fun (t : Int × (List Int) × Unit) => m__law_spelled t.1 t.2.1) (def__law_spelled T) (hr.mono (by decide)) (ea_cons (α := Int) (τ := (List Int) × Unit) (encs := fun t : (List Int) × Unit => [enc t.1]) (ev 0 (v_n : Int)) (ea_cons (α := (List Int)) (τ := Unit) (encs := fun _ : Unit => []) (e_ix (ev 2 (v_due_2 : (List (List Int)))) (ev 4 (x8 : Int))) ea_nil))) (e_callN (β := (List Int)) (m := fun (t : Int × (List Int) × Unit) => m__law_spelled t.1 t.2.1) (def__law_spelled T) (hr.mono (by decide)) (ea_cons (α := Int) (τ := (List Int) × Unit) (encs := fun t : (List Int) × Unit => [enc t.1]) (ev 0 (v_n : Int)) (ea_cons (α := (List Int)) (τ := Unit) (encs := fun _ : Unit => []) (ev 1 (v_word : (List Int))) ea_nil))))) (fun s10 => (p_ret (fun (s : Unit) => [.dat (enc (v_n : Int)), .dat (enc (v_word : (List Int))), .dat (enc (v_due_2 : (List (List Int)))), .own (.tu (v_told_4 : PyData)), .dat (enc (x8 : Int))]) () e_bl)) (fun s10 => (s_nil (b := ()) (wk_same (wk_same (wk_same (wk_same (wk_any wk_nil))))))))))) (fun g7 => (p_spoil 3 (EP.frozen (e_lst (ld_nil (α := Int)))) (p_ret (fun (s : Unit) => [.dat (enc (v_n : Int)), .dat (enc (v_word : (List Int))), .dat (enc (v_due_2 : (List (List Int)))), .any, .any]) () (Cj.toE (c_eqD hr.units (EP.frozenU (e_callNU (m := fun (t : Int × (Option (List Int)) × Unit) => m__law_asked t.1 t.2.1) (def__law_asked T) (hr.mono (by decide)) (ea_cons (α := Int) (τ := (Option (List Int)) × Unit) (encs := fun t : (Option (List Int)) × Unit => [enc t.1]) (ev 0 (v_n : Int)) (ea_cons (α := (Option (List Int))) (τ := Unit) (encs := fun _ : Unit => []) (E.conv (ev 1 (v_word : (List Int))) (fun r => (some r : (Option (List Int))))) ea_nil)))) (E.up (α := Tup PyData) (β := PyData) (e_tupL (ld_cons (E.up (α := Str) (β := PyData) e_str (fun (a : Str) => (enc a : PyData))) (ld_cons (E.up (α := (List (List Int))) (β := PyData) (ev 2 (v_due_2 : (List (List Int)))) (fun (a : (List (List Int))) => (enc a : PyData))) (ld_nil (α := PyData))))) (fun (a : Tup PyData) => (enc a : PyData)))))))))))))))
def M_law (v_script : List Int) : Res (Ctl Empty Empty Bool) := (sseq ((sbind (spure (2 : Int)) fun x => sbind (sbind (sbind (spure (4 : Int)) fun a => sbind (spure ()) fun t => spure (a, t)) fun t s => nb (drawR t.1 s) >>= fun r => .ok (r.1, r.2)) fun y => spure (x + y)) ((⟨v_script, 0, 0, 1⟩ : Fd))) fun v_n_2 s1 => (seqC (sseq ((sbind (sbind (sbind (spure (4 : Int)) fun a => sbind (spure ()) fun t => spure (a, t)) fun t s => nb (drawR t.1 s) >>= fun r => .ok (r.1, r.2)) fun x => sbind (spure (0 : Int)) fun y => spure (decide (x = y))) (s1)) fun b s3 => if b = true then (sseq ((sbind (spure (2 : Int)) fun x => sbind (sbind (sbind (spure (8 : Int)) fun a => sbind (spure ()) fun t => spure (a, t)) fun t s => nb (drawR t.1 s) >>= fun r => .ok (r.1, r.2)) fun y => spure (x + y)) (s3)) fun v_n_6 s5 => (.ok (.nx (v_n_6, s5)))) else (.ok (.nx (v_n_2, s3)))) fun (j4 : Int × Fd) => (sseq ((sbind (sbind (sbind (sbind (spure (j4.1 : Int)) fun n => slift (ofOpt (rangeO 0 n))) fun xs => compS (fun (x10 : Int) => (spure true)) (fun (x10 : Int) => (sbind (spure (j4.1 : Int)) fun x => sbind (spure (x10 : Int)) fun y => spure (x - y))) xs) fun a => sbind (spure ()) fun t => spure (a, t)) fun t s => nb (m__law_drawn_spelling t.1 s) >>= fun r => .ok (r.1, r.2)) (j4.2)) fun v_word_8 s7 => (sseq ((sbind (sbind (sbind (sbind (spure (j4.1 : Int)) fun a => sbind (sbind (spure (v_word_8 : (List Int))) fun a => sbind (spure ()) fun t => spure (a, t)) fun t => spure (a, t)) fun t => slift (nb (m__law_spelling_longest t.1 t.2.1))) fun x => spure (!x)) fun x => if x = true then spure true else (sbind (sbind (sbind (sbind (spure (j4.1 : Int)) fun a => sbind (sbind (spure (v_word_8 : (List Int))) fun a => sbind (spure ()) fun t => spure (a, t)) fun t => spure (a, t)) fun t => slift (nb (m__law_turned_right t.1 t.2.1))) fun x => spure (!x)) fun x => if x = true then spure true else (sbind (sbind (sbind (spure (j4.1 : Int)) fun a => sbind (sbind (spure (v_word_8 : (List Int))) fun a => sbind (spure ()) fun t => spure (a, t)) fun t => spure (a, t)) fun t => slift (nb (m__law_walk_right t.1 t.2.1))) fun x => spure (!x)))) ()) fun b s11 => if b = true then exitC (sseq ((spure false) ()) fun a _ => .ok (.rt a)) else (seqC (sseq ((sbind (spure (3 : Int)) fun n => slift (ofOpt (rangeO 0 n))) ()) fun xs s12 => forR (fun (x14 : Int) (g13 : Fd) => (sseq ((sbind (spure (1 : Int)) fun x => sbind (sbind (sbind (spure (4 : Int)) fun a => sbind (spure ()) fun t => spure (a, t)) fun t s => nb (drawR t.1 s) >>= fun r => .ok (r.1, r.2)) fun y => spure (x + y)) (g13)) fun v_few_16 s15 => (sseq ((sbind (sbind (spure (v_few_16 : Int)) fun a => sbind (spure ()) fun t => spure (a, t)) fun t s => nb (m__law_order t.1 s) >>= fun r => .ok (r.1, r.2)) (s15)) fun v_row_18 s17 => (seqC (sseq ((sbind (spure (x14 : Int)) fun x => sbind (spure (0 : Int)) fun y => spure (decide (x = y))) ()) fun b s19 => if b = true then (sseq ((sbind (sbind (spure (v_few_16 : Int)) fun n => slift (ofOpt (rangeO 0 n))) fun xs => compS (fun (x23 : Int) => (spure true)) (fun (x23 : Int) => (sbind (spure (v_few_16 : Int)) fun x => sbind (spure (x23 : Int)) fun y => spure (x - y))) xs) ()) fun v_row_22 s21 => (.ok (.nx v_row_22))) else (.ok (.nx v_row_18))) fun (j20 : (List Int)) => (sseq ((sbind (sbind (sbind (spure (v_few_16 : Int)) fun a => sbind (sbind (sbind (sbind (spure (j20 : (List Int))) fun a => sbind (spure ()) fun t => spure (a, t)) fun t s => nb (m__law_drawn_spelling t.1 s) >>= fun r => .ok (r.1, r.2)) fun a => sbind (spure ()) fun t => spure (a, t)) fun t => spure (a, t)) fun t => slift (nb (m__law_class_right t.1 t.2.1))) fun x => spure (!x)) (s17)) fun b s24 => if b = true then (sseq ((spure false) ()) fun a _ => .ok (.rt a)) else (.ok (.nx s24))))))) xs s7) fun (g13 : Fd) => (sseq ((sbind (spure (1 : Int)) fun x => sbind (sbind (sbind (spure (4 : Int)) fun a => sbind (spure ()) fun t => spure (a, t)) fun t s => nb (drawR t.1 s) >>= fun r => .ok (r.1, r.2)) fun y => spure (x + y)) (g13)) fun v_few_26 s25 => (sseq ((spure ([] : List (List Int))) ()) fun v_firsts_28 s27 => (seqC (sseq ((sbind (sbind (sbind (sbind (sbind (spure (v_few_26 : Int)) fun n => slift (ofOpt (rangeO 0 n))) fun xs => compS (fun (x29 : Int) => (spure true)) (fun (x29 : Int) => (sbind (spure (v_few_26 : Int)) fun x => sbind (spure (x29 : Int)) fun y => spure (x - y))) xs) fun a => sbind (spure ()) fun t => spure (a, t)) fun t => slift (nb (m__law_all t.1))) fun x => slift (ofOpt x)) ()) fun xs s30 => forR (fun (x32 : (List Int)) (g31 : (List (List Int))) => (sseq ((sbind (sbind (sbind (spure (x32 : (List Int))) fun a => sbind (spure ()) fun t => spure (a, t)) fun t => slift (nb (m__law_class t.1))) fun x => sbind (spure (0 : Int)) fun y => slift (ofOpt (L2.atI x y))) ()) fun v_first_34 s33 => (sseq ((sbind (spure (v_first_34 : (List Int))) fun x s => .ok (!memB x g31, s)) ()) fun b s35 => if b = true then (sseq ((spure (v_first_34 : (List Int))) ()) fun a s36 => ofOpt (appO g31 a) >>= fun v_firsts_37 => (.ok (.nx v_firsts_37))) else (.ok (.nx g31))))) xs v_firsts_28) fun (g31 : (List (List Int))) => (sseq ((sbind (sbind (spure (v_few_26 : Int)) fun a => sbind (sbind (fun s => (spure ()) s >>= fun r => .ok ((none : (Option (List Int))), r.2)) fun a => sbind (spure ()) fun t => spure (a, t)) fun t => spure (a, t)) fun t => slift (nb (m__law_asked t.1 t.2.1))) ()) fun v_told_39 s38 => (sseq ((sbind (sbind (spure (v_told_39 : PyData)) fun x => sbind (sconv (fun (a : Tup PyData) => (enc a : PyData)) (sbind (sbind (sconv (fun (a : Str) => (enc a : PyData)) (spure (PySem.Str.ofString "told"))) fun a => sbind (sbind (sconv (fun (a : Int) => (enc a : PyData)) (fun s => .ok ((g31.length : Int), s))) fun a => sbind (spure ([] : List PyData)) fun as => spure (a :: as)) fun as => spure (a :: as)) fun t => spure (Tup.mk t))) fun y => slift (ofOpt (neD x y))) fun x => if x = true then spure true else (sbind (sbind (sbind (sbind (sbind (spure (v_told_39 : PyData)) fun d => slift (ofOpt (Dec.dec d : Option (Tup PyData)))) fun x => sbind (spure (1 : Int)) fun y => slift (ofOpt (L2.atI x.l y))) fun a => sbind (spure ()) fun t => spure (a, t)) fun t => slift (nb (m__law_whole t.1))) fun x => spure (!x))) ()) fun b s40 => if b = true then exitC (sseq ((spure false) ()) fun a _ => .ok (.rt a)) else (sseq ((sbind (spure (5 : Int)) fun x => sbind (sbind (sbind (spure (5 : Int)) fun a => sbind (spure ()) fun t => spure (a, t)) fun t s => nb (drawR t.1 s) >>= fun r => .ok (r.1, r.2)) fun y => spure (x + y)) (s25)) fun v_great_42 s41 => (sseq ((sbind (sbind (sbind (sbind (spure (v_great_42 : Int)) fun a => sbind (sbind (fun s => (spure ()) s >>= fun r => .ok ((none : (Option (List Int))), r.2)) fun a => sbind (spure ()) fun t => spure (a, t)) fun t => spure (a, t)) fun t => slift (nb (m__law_asked t.1 t.2.1))) fun x => sbind (sconv (fun (a : Tup PyData) => (enc a : PyData)) (sbind (sbind (sconv (fun (a : Str) => (enc a : PyData)) (spure (PySem.Str.ofString "refused"))) fun a => sbind (sbind (sconv (fun (a : Int) => (enc a : PyData)) (spure (4 : Int))) fun a => sbind (spure ([] : List PyData)) fun as => spure (a :: as)) fun as => spure (a :: as)) fun t => spure (Tup.mk t))) fun y => slift (ofOpt (neD x y))) fun x => if x = true then spure true else (sbind (sbind (sbind (spure (4 : Int)) fun a => sbind (sbind (fun s => (spure ()) s >>= fun r => .ok ((none : (Option (List Int))), r.2)) fun a => sbind (spure ()) fun t => spure (a, t)) fun t => spure (a, t)) fun t => slift (nb (m__law_asked t.1 t.2.1))) fun x => sbind (sconv (fun (a : Tup PyData) => (enc a : PyData)) (sbind (sbind (sconv (fun (a : Str) => (enc a : PyData)) (spure (PySem.Str.ofString "told"))) fun a => sbind (sbind (sconv (fun (a : Int) => (enc a : PyData)) (spure (8 : Int))) fun a => sbind (spure ([] : List PyData)) fun as => spure (a :: as)) fun as => spure (a :: as)) fun t => spure (Tup.mk t))) fun y => slift (ofOpt (neD x y)))) ()) fun b s43 => if b = true then exitC (sseq ((spure false) ()) fun a _ => .ok (.rt a)) else (sseq ((sbind (sbind (sbind (spure (v_great_42 : Int)) fun a => sbind (sbind (fun s => (sbind (sbind (sbind (sbind (spure (v_great_42 : Int)) fun a => sbind (spure ()) fun t => spure (a, t)) fun t s => nb (m__law_order t.1 s) >>= fun r => .ok (r.1, r.2)) fun a => sbind (spure ()) fun t => spure (a, t)) fun t s => nb (m__law_drawn_spelling t.1 s) >>= fun r => .ok (r.1, r.2)) s >>= fun r => .ok ((some r.1 : (Option (List Int))), r.2)) fun a => sbind (spure ()) fun t => spure (a, t)) fun t => spure (a, t)) fun t => slift (nb (m__law_asked t.1 t.2.1))) fun x => sbind (sconv (fun (a : Tup PyData) => (enc a : PyData)) (sbind (sbind (sconv (fun (a : Str) => (enc a : PyData)) (spure (PySem.Str.ofString "refused"))) fun a => sbind (sbind (sconv (fun (a : Int) => (enc a : PyData)) (spure (4 : Int))) fun a => sbind (spure ([] : List PyData)) fun as => spure (a :: as)) fun as => spure (a :: as)) fun t => spure (Tup.mk t))) fun y => slift (ofOpt (neD x y))) (s41)) fun b s44 => if b = true then exitC (sseq ((spure false) ()) fun a _ => .ok (.rt a)) else (sseq ((sbind (sbind (sbind (sbind (spure (3 : Int)) fun a => sbind (sbind (sbind (spure (1 : Int)) fun a => sbind (sbind (spure (2 : Int)) fun a => sbind (sbind (spure (1 : Int)) fun a => sbind (spure ([] : List Int)) fun as => spure (a :: as)) fun as => spure (a :: as)) fun as => spure (a :: as)) fun a => sbind (spure ()) fun t => spure (a, t)) fun t => spure (a, t)) fun t => slift (nb (m_turned_spelling t.1 t.2.1))) fun x => sbind (sbind (spure (2 : Int)) fun a => sbind (sbind (spure (1 : Int)) fun a => sbind (sbind (spure (2 : Int)) fun a => sbind (spure ([] : List Int)) fun as => spure (a :: as)) fun as => spure (a :: as)) fun as => spure (a :: as)) fun y => spure (decide (x = y))) fun x => if x = true then (sbind (sbind (sbind (sbind (spure (3 : Int)) fun a => sbind (sbind (sbind (spure (1 : Int)) fun a => sbind (sbind (spure (2 : Int)) fun a => sbind (sbind (spure (1 : Int)) fun a => sbind (spure ([] : List Int)) fun as => spure (a :: as)) fun as => spure (a :: as)) fun as => spure (a :: as)) fun a => sbind (spure ()) fun t => spure (a, t)) fun t => spure (a, t)) fun t => slift (nb (m_turn_round t.1 t.2.1))) fun x => sbind (spure (2 : Int)) fun y => spure (decide (x = y))) fun x => if x = true then (sbind (sbind (sbind (spure (2 : Int)) fun a => sbind (sbind (sbind (spure (1 : Int)) fun a => sbind (spure ([] : List Int)) fun as => spure (a :: as)) fun a => sbind (spure ()) fun t => spure (a, t)) fun t => spure (a, t)) fun t => slift (nb (m_turn_round t.1 t.2.1))) fun x => sbind (spure (1 : Int)) fun y => spure (decide (x = y))) else spure false) else spure false) ()) fun a _ => .ok (.rt a)))))))))))))))
def m_law (v_script : List Int) : Res Bool := fnE (M_law v_script)
theorem def_law (T : Tx P w K mg base cl) (hlaw : ∀ script, m_law script = .ok true) {f : Addr} {fd : FuncData} (F : Fun K "law" "law" s_law f fd) : FnOk P w K mg base CX0 8 f fd ["script"] (spLaw K) := by
  refine F.ok sc_law (fun vs H Q E h => ?_) (fun cdv A outer s H vs Q E_ hr h => ?_)
  · obtain ⟨a, ns, rfl, _⟩ := h; rfl
  · obtain ⟨a, v_script, rfl, hS, hl, q⟩ := h
    have nd := sc_law.nd
    skip
    obtain ⟨ff, ffd, ps, fm, fk, fb, FF⟩ := (def__law_feed (P := P) (w := w) (base := base) T).ex
    refine law_start (cl := cl) (n := 11) (script := v_script) (M := M_law v_script) rfl (ps_set (i := 1) nd (by rfl) (by first | exact Or.inl rfl | exact Or.inr rfl) (pe_call (E := E0) FF (hr.mono (by decide)) (by rfl) fm fk fb .nil pass0 (pa_cons (L2.pv 0) pa_nil))) (fun H0 => ?_) hS hl (hlaw v_script) Q q
    exact (p_set (fun (s : Fd) => [.any, .own (.lst (encF s)), .any, .any, .any, .any, .any, .any, .any, .any, .any, .any, .any]) ((⟨v_script, 0, 0, 1⟩ : Fd)) 2 (ae 2 nd (e_add e_int (e_callF (m := fun (t : Int × Unit) (fd : Fd) => drawR t.1 fd) (get := fun s => s) (put := fun _ l => l) (def__law_draw T) (hr.mono (by decide)) (L2.pv 1) (lensF_own (get := fun s => s) (put := fun _ l => l)) (ea_cons (α := Int) (τ := Unit) (encs := fun _ : Unit => []) e_int ea_nil)))) (fun v_n_2 s1 => (p_if (fun (s : Fd) => [.any, .own (.lst (encF s)), .dat (enc (v_n_2 : Int)), .any, .any, .any, .any, .any, .any, .any, .any, .any, .any]) (s1) (fun (j4 : Int × Fd) => [.any, .own (.lst (encF j4.2)), .dat (enc (j4.1 : Int)), .any, .any, .any, .any, .any, .any, .any, .any, .any, .any]) (Cj.toB (c_eq hr.units (e_callF (m := fun (t : Int × Unit) (fd : Fd) => drawR t.1 fd) (get := fun s => s) (put := fun _ l => l) (def__law_draw T) (hr.mono (by decide)) (L2.pv 1) (lensF_own (get := fun s => s) (put := fun _ l => l)) (ea_cons (α := Int) (τ := Unit) (encs := fun _ : Unit => []) e_int ea_nil)) e_int)) (fun s3 => (p_set (fun (s : Fd) => [.any, .own (.lst (encF s)), .dat (enc (v_n_2 : Int)), .any, .any, .any, .any, .any, .any, .any, .any, .any, .any]) (s3) 2 (ae 2 nd (e_add e_int (e_callF (m := fun (t : Int × Unit) (fd : Fd) => drawR t.1 fd) (get := fun s => s) (put := fun _ l => l) (def__law_draw T) (hr.mono (by decide)) (L2.pv 1) (lensF_own (get := fun s => s) (put := fun _ l => l)) (ea_cons (α := Int) (τ := Unit) (encs := fun _ : Unit => []) e_int ea_nil)))) (fun v_n_6 s5 => (s_nil (b := (v_n_6, s5)) (wk_same (wk_same (wk_same (wk_same (wk_same (wk_same (wk_same (wk_same (wk_same (wk_same (wk_same (wk_same (wk_same wk_nil))))))))))))))))) (fun s3 => (s_nil (b := (v_n_2, s3)) (wk_same (wk_same (wk_same (wk_same (wk_same (wk_same (wk_same (wk_same (wk_same (wk_same (wk_same (wk_same (wk_same wk_nil))))))))))))))) (fun j4 => (p_set (fun (s : Fd) => [.any, .own (.lst (encF s)), .dat (enc (j4.1 : Int)), .any, .any, .any, .any, .any, .any, .any, .any, .any, .any]) (j4.2) 3 (ae 3 nd (e_callF (m := fun (t : (List Int) × Unit) (fd : Fd) => m__law_drawn_spelling t.1 fd) (get := fun s => s) (put := fun _ l => l) (def__law_drawn_spelling T) (hr.mono (by decide)) (L2.pv 1) (lensF_own (get := fun s => s) (put := fun _ l => l)) (ea_cons (α := (List Int)) (τ := Unit) (encs := fun _ : Unit => []) (EP.frozen (CP.e (own := [("k", 4)]) (CP.mk rfl nd (ei_range1 T.z_range (ev 2 (j4.1 : Int))) (blkOk_by (N := N_law) (sc := defScope s_law) (by decide +kernel)) (vs_any (fun _ => rfl) vs_nil) ⟨fun s x10 => [.any, .own (.lst (encF s)), .dat (enc (j4.1 : Int)), .any, .dat (enc (x10 : Int)), .any, .any, .any, .any, .any, .any, .any, .any], fun _ _ _ _ _ s => (g_name 4 nd), fun _ _ _ _ _ x10 => t_none, fun _ _ _ _ _ x10 => (e_sub (ev 2 (j4.1 : Int)) (ev 4 (x10 : Int)))⟩))) ea_nil))) (fun v_word_8 s7 => (p_ifE (fun (s : Unit) => [.any, .own (.lst (encF s7)), .dat (enc (j4.1 : Int)), .dat (enc (v_word_8 : (List Int))), .any, .any, .any, .any, .any, .any, .any, .any, .any]) () (BW.test (bw_or (b_not (b_val (e_callN (β := Bool) (m := fun (t : Int × (List Int) × Unit) => m__law_spelling_longest t.1 t.2.1) (def__law_spelling_longest T) (hr.mono (by decide)) (ea_cons (α := Int) (τ := (List Int) × Unit) (encs := fun t : (List Int) × Unit => [enc t.1]) (ev 2 (j4.1 : Int)) (ea_cons (α := (List Int)) (τ := Unit) (encs := fun _ : Unit => []) (ev 3 (v_word_8 : (List Int))) ea_nil))))) (bw_or (b_not (b_val (e_callN (β := Bool) (m := fun (t : Int × (List Int) × Unit) => m__law_turned_right t.1 t.2.1) (def__law_turned_right T) (hr.mono (by decide)) (ea_cons (α := Int) (τ := (List Int) × Unit) (encs := fun t : (List Int) × Unit => [enc t.1]) (ev 2 (j4.1 : Int)) (ea_cons (α := (List Int)) (τ := Unit) (encs := fun _ : Unit => []) (ev 3 (v_word_8 : (List Int))) ea_nil))))) (bw_or1 (b_not (b_val (e_callN (β := Bool) (m := fun (t : Int × (List Int) × Unit) => m__law_walk_right t.1 t.2.1) (def__law_walk_right T) (hr.mono (by decide)) (ea_cons (α := Int) (τ := (List Int) × Unit) (encs := fun t : (List Int) × Unit => [enc t.1]) (ev 2 (j4.1 : Int)) (ea_cons (α := (List Int)) (τ := Unit) (encs := fun _ : Unit => []) (ev 3 (v_word_8 : (List Int))) ea_nil))))))))) (fun s11 => (p_ret (fun (s : Unit) => [.any, .own (.lst (encF s7)), .dat (enc (j4.1 : Int)), .dat (enc (v_word_8 : (List Int))), .any, .any, .any, .any, .any, .any, .any, .any, .any]) () e_bl)) (fun s11 => (p_for (vs := [5]) (ρb := fun (g13 : Fd) x => [.any, .own (.lst (encF g13)), .dat (enc (j4.1 : Int)), .dat (enc (v_word_8 : (List Int))), .any, .dat (enc (x : Int)), .any, .any, .any, .any, .any, .any, .any]) (fun (s : Unit) => [.any, .own (.lst (encF s7)), .dat (enc (j4.1 : Int)), .dat (enc (v_word_8 : (List Int))), .any, .any, .any, .any, .any, .any, .any, .any, .any]) () (fun (g13 : Fd) => [.any, .own (.lst (encF g13)), .dat (enc (j4.1 : Int)), .dat (enc (v_word_8 : (List Int))), .any, .any, .any, .any, .any, .any, .any, .any, .any]) (fun (s : Unit) => s7) PassesOwn.never rfl (ei_range1 T.z_range e_int) (fun s => (wk_same (wk_same (wk_same (wk_same (wk_same (wk_same (wk_same (wk_same (wk_same (wk_same (wk_same (wk_same (wk_same wk_nil)))))))))))))) (fun g13 => (g_name 5 nd)) (fun x14 g13 => (p_set (fun (s : Fd) => [.any, .own (.lst (encF s)), .dat (enc (j4.1 : Int)), .dat (enc (v_word_8 : (List Int))), .any, .dat (enc (x14 : Int)), .any, .any, .any, .any, .any, .any, .any]) (g13) 6 (ae 6 nd (e_add e_int (e_callF (m := fun (t : Int × Unit) (fd : Fd) => drawR t.1 fd) (get := fun s => s) (put := fun _ l => l) (def__law_draw T) (hr.mono (by decide)) (L2.pv 1) (lensF_own (get := fun s => s) (put := fun _ l => l)) (ea_cons (α := Int) (τ := Unit) (encs := fun _ : Unit => []) e_int ea_nil)))) (fun v_few_16 s15 => (p_set (fun (s : Fd) => [.any, .own (.lst (encF s)), .dat (enc (j4.1 : Int)), .dat (enc (v_word_8 : (List Int))), .any, .dat (enc (x14 : Int)), .dat (enc (v_few_16 : Int)), .any, .any, .any, .any, .any, .any]) (s15) 7 (ae 7 nd (e_callF (m := fun (t : Int × Unit) (fd : Fd) => m__law_order t.1 fd) (get := fun s => s) (put := fun _ l => l) (def__law_order T) (hr.mono (by decide)) (L2.pv 1) (lensF_own (get := fun s => s) (put := fun _ l => l)) (ea_cons (α := Int) (τ := Unit) (encs := fun _ : Unit => []) (ev 6 (v_few_16 : Int)) ea_nil))) (fun v_row_18 s17 => (p_if (fun (s : Unit) => [.any, .own (.lst (encF s17)), .dat (enc (j4.1 : Int)), .dat (enc (v_word_8 : (List Int))), .any, .dat (enc (x14 : Int)), .dat (enc (v_few_16 : Int)), .dat (enc (v_row_18 : (List Int))), .any, .any, .any, .any, .any]) () (fun (j20 : (List Int)) => [.any, .own (.lst (encF s17)), .dat (enc (j4.1 : Int)), .dat (enc (v_word_8 : (List Int))), .any, .dat (enc (x14 : Int)), .dat (enc (v_few_16 : Int)), .dat (enc (j20 : (List Int))), .any, .any, .any, .any, .any]) (Cj.toB (c_eq hr.units (ev 5 (x14 : Int)) e_int)) (fun s19 => (p_setL (fun (s : Unit) => [.any, .own (.lst (encF s17)), .dat (enc (j4.1 : Int)), .dat (enc (v_word_8 : (List Int))), .any, .dat (enc (x14 : Int)), .dat (enc (v_few_16 : Int)), .dat (enc (v_row_18 : (List Int))), .any, .any, .any, .any, .any]) () 7 (CP.a (own := [("k", 4)]) (CP.mk rfl nd (ei_range1 T.z_range (ev 6 (v_few_16 : Int))) (blkOk_by (N := N_law) (sc := defScope s_law) (by decide +kernel)) (vs_any (fun _ => rfl) vs_nil) ⟨fun s x23 => [.any, .own (.lst (encF s17)), .dat (enc (j4.1 : Int)), .dat (enc (v_word_8 : (List Int))), .dat (enc (x23 : Int)), .dat (enc (x14 : Int)), .dat (enc (v_few_16 : Int)), .dat (enc (v_row_18 : (List Int))), .any, .any, .any, .any, .any], fun _ _ _ _ _ s => (g_name 4 nd), fun _ _ _ _ _ x23 => t_none, fun _ _ _ _ _ x23 => (e_sub (ev 6 (v_few_16 : Int)) (ev 4 (x23 : Int)))⟩)) (fun v_row_22 s21 => (s_frz (α := Int) (xs := v_row_22) 7 (s_nil (b := v_row_22) (wk_same (wk_same (wk_same (wk_same (wk_same (wk_same (wk_same (wk_same (wk_same (wk_same (wk_same (wk_same (wk_same wk_nil)))))))))))))))))) (fun s19 => (s_nil (b := v_row_18) (wk_same (wk_same (wk_same (wk_same (wk_same (wk_same (wk_same (wk_same (wk_same (wk_same (wk_same (wk_same (wk_same wk_nil))))))))))))))) (fun j20 => (p_ifZ (fun (s : Fd) => [.any, .own (.lst (encF s)), .dat (enc (j4.1 : Int)), .dat (enc (v_word_8 : (List Int))), .any, .dat (enc (x14 : Int)), .dat (enc (v_few_16 : Int)), .dat (enc (j20 : (List Int))), .any, .any, .any, .any, .any]) (s17) (b_not (b_val (e_callN (β := Bool) (m := fun (t : Int × (List Int) × Unit) => m__law_class_right t.1 t.2.1) (def__law_class_right T) (hr.mono (by decide)) (ea_cons (α := Int) (τ := (List Int) × Unit) (encs := fun t : (List Int) × Unit => [enc t.1]) (ev 6 (v_few_16 : Int)) (ea_cons (α := (List Int)) (τ := Unit) (encs := fun _ : Unit => []) (e_callF (m := fun (t : (List Int) × Unit) (fd : Fd) => m__law_drawn_spelling t.1 fd) (get := fun s => s) (put := fun _ l => l) (def__law_drawn_spelling T) (hr.mono (by decide)) (L2.pv 1) (lensF_own (get := fun s => s) (put := fun _ l => l)) (ea_cons (α := (List Int)) (τ := Unit) (encs := fun _ : Unit => []) (ev 7 (j20 : (List Int))) ea_nil)) ea_nil))))) (fun s24 => (p_ret (fun (s : Unit) => [.any, .own (.lst (encF s24)), .dat (enc (j4.1 : Int)), .dat (enc (v_word_8 : (List Int))), .any, .dat (enc (x14 : Int)), .dat (enc (v_few_16 : Int)), .dat (enc (j20 : (List Int))), .any, .any, .any, .any, .any]) () e_bl)) (fun s24 => (s_nil (b := s24) (wk_same (wk_same (wk_same (wk_same (wk_same (wk_any (wk_any (wk_any (wk_same (wk_same (wk_same (wk_same (wk_same wk_nil))))))))))))))))))))))) (fun g13 => (p_set (fun (s : Fd) => [.any, .own (.lst (encF s)), .dat (enc (j4.1 : Int)), .dat (enc (v_word_8 : (List Int))), .any, .any, .any, .any, .any, .any, .any, .any, .any]) (g13) 6 (ae 6 nd (e_add e_int (e_callF (m := fun (t : Int × Unit) (fd : Fd) => drawR t.1 fd) (get := fun s => s) (put := fun _ l => l) (def__law_draw T) (hr.mono (by decide)) (L2.pv 1) (lensF_own (get := fun s => s) (put := fun _ l => l)) (ea_cons (α := Int) (τ := Unit) (encs := fun _ : Unit => []) e_int ea_nil)))) (fun v_few_26 s25 => (p_setL (fun (s : Unit) => [.any, .own (.lst (encF s25)), .dat (enc (j4.1 : Int)), .dat (enc (v_word_8 : (List Int))), .any, .any, .dat (enc (v_few_26 : Int)), .any, .any, .any, .any, .any, .any]) () 8 (ae 8 nd (e_lst (ld_nil (α := (List Int))))) (fun v_firsts_28 s27 => (p_for (vs := [9]) (ρb := fun (g31 : (List (List Int))) x => [.any, .own (.lst (encF s25)), .dat (enc (j4.1 : Int)), .dat (enc (v_word_8 : (List Int))), .any, .any, .dat (enc (v_few_26 : Int)), .any, .own (.lst ((g31 : (List (List Int))).map enc)), .dat (enc (x : (List Int))), .any, .any, .any]) (fun (s : Unit) => [.any, .own (.lst (encF s25)), .dat (enc (j4.1 : Int)), .dat (enc (v_word_8 : (List Int))), .any, .any, .dat (enc (v_few_26 : Int)), .any, .own (.lst ((v_firsts_28 : (List (List Int))).map enc)), .any, .any, .any, .any]) () (fun (g31 : (List (List Int))) => [.any, .own (.lst (encF s25)), .dat (enc (j4.1 : Int)), .dat (enc (v_word_8 : (List Int))), .any, .any, .dat (enc (v_few_26 : Int)), .any, .own (.lst ((g31 : (List (List Int))).map enc)), .any, .any, .any, .any]) (fun (s : Unit) => v_firsts_28) PassesOwn.never rfl (ei_list (E.un (e_callN (β := (Option (List (List Int)))) (m := fun (t : (List Int) × Unit) => m__law_all t.1) (def__law_all T) (hr.mono (by decide)) (ea_cons (α := (List Int)) (τ := Unit) (encs := fun _ : Unit => []) (EP.frozen (CP.e (own := [("k", 4)]) (CP.mk rfl nd (ei_range1 T.z_range (ev 6 (v_few_26 : Int))) (blkOk_by (N := N_law) (sc := defScope s_law) (by decide +kernel)) (vs_any (fun _ => rfl) vs_nil) ⟨fun s x29 => [.any, .own (.lst (encF s25)), .dat (enc (j4.1 : Int)), .dat (enc (v_word_8 : (List Int))), .dat (enc (x29 : Int)), .any, .dat (enc (v_few_26 : Int)), .any, .own (.lst ((v_firsts_28 : (List (List Int))).map enc)), .any, .any, .any, .any], fun _ _ _ _ _ s => (g_name 4 nd), fun _ _ _ _ _ x29 => t_none, fun _ _ _ _ _ x29 => (e_sub (ev 6 (v_few_26 : Int)) (ev 4 (x29 : Int)))⟩))) ea_nil)))) (fun s => (wk_same (wk_same (wk_same (wk_same (wk_same (wk_same (wk_same (wk_same (wk_same (wk_same (wk_same (wk_same (wk_same wk_nil)))))))))))))) (fun g31 => (g_name 9 nd)) (fun x32 g31 => (p_set (fun (s : Unit) => [.any, .own (.lst (encF s25)), .dat (enc (j4.1 : Int)), .dat (enc (v_word_8 : (List Int))), .any, .any, .dat (enc (v_few_26 : Int)), .any, .own (.lst ((g31 : (List (List Int))).map enc)), .dat (enc (x32 : (List Int))), .any, .any, .any]) () 10 (ae 10 nd (e_ix (e_callN (β := (List (List Int))) (m := fun (t : (List Int) × Unit) => m__law_class t.1) (def__law_class T) (hr.mono (by decide)) (ea_cons (α := (List Int)) (τ := Unit) (encs := fun _ : Unit => []) (ev 9 (x32 : (List Int))) ea_nil)) e_int)) (fun v_first_34 s33 => (p_ifZ (fun (s : Unit) => [.any, .own (.lst (encF s25)), .dat (enc (j4.1 : Int)), .dat (enc (v_word_8 : (List Int))), .any, .any, .dat (enc (v_few_26 : Int)), .any, .own (.lst ((g31 : (List (List Int))).map enc)), .dat (enc (x32 : (List Int))), .dat (enc (v_first_34 : (List Int))), .any, .any]) () (Cj.toB (c_notInOM (room65 hr) (ev 10 (v_first_34 : (List Int))) (L2.pv 8) (view_own (get := fun (s : Unit) => g31)))) (fun s35 => (p_append (fun (s : Unit) => [.any, .own (.lst (encF s25)), .dat (enc (j4.1 : Int)), .dat (enc (v_word_8 : (List Int))), .any, .any, .dat (enc (v_few_26 : Int)), .any, .own (.lst ((g31 : (List (List Int))).map enc)), .dat (enc (x32 : (List Int))), .dat (enc (v_first_34 : (List Int))), .any, .any]) () 8 (fun s => g31) (L2.pv 8) (ev 10 (v_first_34 : (List Int))) (fun v_firsts_37 s36 => (s_nil (b := v_firsts_37) (wk_same (wk_same (wk_same (wk_same (wk_same (wk_same (wk_same (wk_same (wk_same (wk_any (wk_any (wk_same (wk_same wk_nil))))))))))))))))) (fun s35 => (s_nil (b := g31) (wk_same (wk_same (wk_same (wk_same (wk_same (wk_same (wk_same (wk_same (wk_same (wk_any (wk_any (wk_same (wk_same wk_nil))))))))))))))))))) (fun g31 => (p_set (fun (s : Unit) => [.any, .own (.lst (encF s25)), .dat (enc (j4.1 : Int)), .dat (enc (v_word_8 : (List Int))), .any, .any, .dat (enc (v_few_26 : Int)), .any, .own (.lst ((g31 : (List (List Int))).map enc)), .any, .any, .any, .any]) () 11 (ae 11 nd (EP.frozenU (e_callNU (m := fun (t : Int × (Option (List Int)) × Unit) => m__law_asked t.1 t.2.1) (def__law_asked T) (hr.mono (by decide)) (ea_cons (α := Int) (τ := (Option (List Int)) × Unit) (encs := fun t : (Option (List Int)) × Unit => [enc t.1]) (ev 6 (v_few_26 : Int)) (ea_cons (α := (Option (List Int))) (τ := Unit) (encs := fun _ : Unit => []) (E.conv e_non (fun _ => (none : (Option (List Int))))) ea_nil))))) (fun v_told_39 s38 => (p_ifE (fun (s : Unit) => [.any, .own (.lst (encF s25)), .dat (enc (j4.1 : Int)), .dat (enc (v_word_8 : (List Int))), .any, .any, .dat (enc (v_few_26 : Int)), .any, .own (.lst ((g31 : (List (List Int))).map enc)), .any, .any, .dat (enc (v_told_39 : PyData)), .any]) () (BW.test (bw_or (Cj.toB (c_neD hr.units (ev 11 (v_told_39 : PyData)) (E.up (α := Tup PyData) (β := PyData) (e_tupL (ld_cons (E.up (α := Str) (β := PyData) e_str (fun (a : Str) => (enc a : PyData))) (ld_cons (E.up (α := Int) (β := PyData) (e_lenO (L2.pv 8) (view_own (get := fun (s : Unit) => g31)) T.z_len) (fun (a : Int) => (enc a : PyData))) (ld_nil (α := PyData))))) (fun (a : Tup PyData) => (enc a : PyData))))) (bw_or1 (b_not (b_val (e_callN (β := Bool) (m := fun (t : PyData × Unit) => m__law_whole t.1) (def__law_whole T) (hr.mono (by decide)) (ea_cons (α := PyData) (τ := Unit) (encs := fun _ : Unit => []) (e_ixTup (E.cast (α := (Tup PyData)) (ev 11 (v_told_39 : PyData))) e_int) ea_nil))))))) (fun s40 => (p_ret (fun (s : Unit) => [.any, .own (.lst (encF s25)), .dat (enc (j4.1 : Int)), .dat (enc (v_word_8 : (List Int))), .any, .any, .dat (enc (v_few_26 : Int)), .any, .own (.lst ((g31 : (List (List Int))).map enc)), .any, .any, .dat (enc (v_told_39 : PyData)), .any]) () e_bl)) (fun s40 => (p_set (fun (s : Fd) => [.any, .own (.lst (encF s)), .dat (enc (j4.1 : Int)), .dat (enc (v_word_8 : (List Int))), .any, .any, .dat (enc (v_few_26 : Int)), .any, .own (.lst ((g31 : (List (List Int))).map enc)), .any, .any, .dat (enc (v_told_39 : PyData)), .any]) (s25) 12 (ae 12 nd (e_add e_int (e_callF (m := fun (t : Int × Unit) (fd : Fd) => drawR t.1 fd) (get := fun s => s) (put := fun _ l => l) (def__law_draw T) (hr.mono (by decide)) (L2.pv 1) (lensF_own (get := fun s => s) (put := fun _ l => l)) (ea_cons (α := Int) (τ := Unit) (encs := fun _ : Unit => []) e_int ea_nil)))) (fun v_great_42 s41 => (p_ifE (fun (s : Unit) => [.any, .own (.lst (encF s41)), .dat (enc (j4.1 : Int)), .dat (enc (v_word_8 : (List Int))), .any, .any, .dat (enc (v_few_26 : Int)), .any, .own (.lst ((g31 : (List (List Int))).map enc)), .any, .any, .dat (enc (v_told_39 : PyData)), .dat (enc (v_great_42 : Int))]) () (BW.test (bw_or (Cj.toB (c_neD hr.units (EP.frozenU (e_callNU (m := fun (t : Int × (Option (List Int)) × Unit) => m__law_asked t.1 t.2.1) (def__law_asked T) (hr.mono (by decide)) (ea_cons (α := Int) (τ := (Option (List Int)) × Unit) (encs := fun t : (Option (List Int)) × Unit => [enc t.1]) (ev 12 (v_great_42 : Int)) (ea_cons (α := (Option (List Int))) (τ := Unit) (encs := fun _ : Unit => []) (E.conv e_non (fun _ => (none : (Option (List Int))))) ea_nil)))) (E.up (α := Tup PyData) (β := PyData) (e_tupL (ld_cons (E.up (α := Str) (β := PyData) e_str (fun (a : Str) => (enc a : PyData))) (ld_cons (E.up (α := Int) (β := PyData) e_int (fun (a : Int) => (enc a : PyData))) (ld_nil (α := PyData))))) (fun (a : Tup PyData) => (enc a : PyData))))) (bw_or1 (Cj.toB (c_neD hr.units (EP.frozenU (e_callNU (m := fun (t : Int × (Option (List Int)) × Unit) => m__law_asked t.1 t.2.1) (def__law_asked T) (hr.mono (by decide)) (ea_cons (α := Int) (τ := (Option (List Int)) × Unit) (encs := fun t : (Option (List Int)) × Unit => [enc t.1]) e_int (ea_cons (α := (Option (List Int))) (τ := Unit) (encs := fun _ : Unit => []) (E.conv e_non (fun _ => (none : (Option (List Int))))) ea_nil)))) (E.up (α := Tup PyData) (β := PyData) (e_tupL (ld_cons (E.up (α := Str) (β := PyData) e_str (fun (a : Str) => (enc a : PyData))) (ld_cons (E.up (α := Int) (β := PyData) e_int (fun (a : Int) => (enc a : PyData))) (ld_nil (α := PyData))))) (fun (a : Tup PyData) => (enc a : PyData)))))))) (fun s43 => (p_ret (fun (s : Unit) => [.any, .own (.lst (encF s41)), .dat (enc (j4.1 : Int)), .dat (enc (v_word_8 : (List Int))), .any, .any, .dat (enc (v_few_26 : Int)), .any, .own (.lst ((g31 : (List (List Int))).map enc)), .any, .any, .dat (enc (v_told_39 : PyData)), .dat (enc (v_great_42 : Int))]) () e_bl)) (fun s43 => (p_ifE (fun (s : Fd) => [.any, .own (.lst (encF s)), .dat (enc (j4.1 : Int)), .dat (enc (v_word_8 : (List Int))), .any, .any, .dat (enc (v_few_26 : Int)), .any, .own (.lst ((g31 : (List (List Int))).map enc)), .any, .any, .dat (enc (v_told_39 : PyData)), .dat (enc (v_great_42 : Int))]) (s41) (Cj.toB (c_neD hr.units (EP.frozenU (e_callNU (m := fun (t : Int × (Option (List Int)) × Unit) => m__law_asked t.1 t.2.1) (def__law_asked T) (hr.mono (by decide)) (ea_cons (α := Int) (τ := (Option (List Int)) × Unit) (encs := fun t : (Option (List Int)) × Unit => [enc t.1]) (ev 12 (v_great_42 : Int)) (ea_cons (α := (Option (List Int))) (τ := Unit) (encs := fun _ : Unit => []) (E.conv (e_callF (m := fun (t : (List Int) × Unit) (fd : Fd) => m__law_drawn_spelling t.1 fd) (get := fun s => s) (put := fun _ l => l) (def__law_drawn_spelling T) (hr.mono (by decide)) (L2.pv 1) (lensF_own (get := fun s => s) (put := fun _ l => l)) (ea_cons (α := (List Int)) (τ := Unit) (encs := fun _ : Unit => []) (e_callF (m := fun (t : Int × Unit) (fd : Fd) => m__law_order t.1 fd) (get := fun s => s) (put := fun _ l => l) (def__law_order T) (hr.mono (by decide)) (L2.pv 1) (lensF_own (get := fun s => s) (put := fun _ l => l)) (ea_cons (α := Int) (τ := Unit) (encs := fun _ : Unit => []) (ev 12 (v_great_42 : Int)) ea_nil)) ea_nil)) (fun r => (some r : (Option (List Int))))) ea_nil)))) (E.up (α := Tup PyData) (β := PyData) (e_tupL (ld_cons (E.up (α := Str) (β := PyData) e_str (fun (a : Str) => (enc a : PyData))) (ld_cons (E.up (α := Int) (β := PyData) e_int (fun (a : Int) => (enc a : PyData))) (ld_nil (α := PyData))))) (fun (a : Tup PyData) => (enc a : PyData))))) (fun s44 => (p_ret (fun (s : Unit) => [.any, .own (.lst (encF s44)), .dat (enc (j4.1 : Int)), .dat (enc (v_word_8 : (List Int))), .any, .any, .dat (enc (v_few_26 : Int)), .any, .own (.lst ((g31 : (List (List Int))).map enc)), .any, .any, .dat (enc (v_told_39 : PyData)), .dat (enc (v_great_42 : Int))]) () e_bl)) (fun s44 => (p_ret (fun (s : Unit) => [.any, .own (.lst (encF s44)), .dat (enc (j4.1 : Int)), .dat (enc (v_word_8 : (List Int))), .any, .any, .dat (enc (v_few_26 : Int)), .any, .own (.lst ((g31 : (List (List Int))).map enc)), .any, .any, .dat (enc (v_told_39 : PyData)), .dat (enc (v_great_42 : Int))]) () (e_and (Cj.toE (c_eq hr.units (EP.frozen (e_callNL (β := Int) (m := fun (t : Int × (List Int) × Unit) => m_turned_spelling t.1 t.2.1) (def_turned_spelling T) (hr.mono (by decide)) (ea_cons (α := Int) (τ := (List Int) × Unit) (encs := fun t : (List Int) × Unit => [enc t.1]) e_int (ea_cons (α := (List Int)) (τ := Unit) (encs := fun _ : Unit => []) (EP.frozen (e_lst (ld_cons e_int (ld_cons e_int (ld_cons e_int (ld_nil (α := Int))))))) ea_nil)))) (EP.frozen (e_lst (ld_cons e_int (ld_cons e_int (ld_cons e_int (ld_nil (α := Int))))))))) (e_and (Cj.toE (c_eq hr.units (e_callN (β := Int) (m := fun (t : Int × (List Int) × Unit) => m_turn_round t.1 t.2.1) (def_turn_round T) (hr.mono (by decide)) (ea_cons (α := Int) (τ := (List Int) × Unit) (encs := fun t : (List Int) × Unit => [enc t.1]) e_int (ea_cons (α := (List Int)) (τ := Unit) (encs := fun _ : Unit => []) (EP.frozen (e_lst (ld_cons e_int (ld_cons e_int (ld_cons e_int (ld_nil (α := Int))))))) ea_nil))) e_int)) (e_and1 (Cj.toE (c_eq hr.units (e_callN (β := Int) (m := fun (t : Int × (List Int) × Unit) => m_turn_round t.1 t.2.1) (def_turn_round T) (hr.mono (by decide)) (ea_cons (α := Int) (τ := (List Int) × Unit) (encs := fun t : (List Int) × Unit => [enc t.1]) e_int (ea_cons (α := (List Int)) (τ := Unit) (encs := fun _ : Unit => []) (EP.frozen (e_lst (ld_cons e_int (ld_nil (α := Int))))) ea_nil))) e_int))))))))))))))))))))))))))))))))
end
end K25

set_option Elab.async false
set_option linter.all false
set_option maxRecDepth 20000
namespace K25
open PySem PySem.Spec PyProof.Rows L2 DL DL.Enc Bub
theorem spure_def {S α : Type} (a : α) : spure (S := S) a = fun s => .ok (a, s) := rfl
theorem slift_def {S α : Type} (m : Res α) : slift (S := S) m = fun s => m >>= fun a => .ok (a, s) := rfl
theorem take_mid {α : Type} {p r : List α} {j : Nat} (h : j = p.length) : (p ++ r).take j = p := by rw [h, List.take_left]
theorem drop_mid2 {α : Type} {p r : List α} {x y : α} {j : Nat} (h : j = p.length + 2) : (p ++ x :: y :: r).drop j = r := by
  rw [h, ← List.drop_drop, List.drop_left]; rfl
theorem sbi {S α β : Type} {m : S → Res (α × S)} {f : α → S → Res (β × S)} {s : S} {z : Res (β × S)} (a : α) (s1 : S) (h : m s = .ok (a, s1)) (h2 : f a s1 = z) : sbind m f s = z := by
  unfold sbind; rw [h]; exact h2
theorem lc_get {row : List Int} {j : Nat} {x : Int} (h : row[j]? = some x) : (lc [] row)[j]? = some ((row.take j).filter (fun z => decide (x < z))).length := by
  have := lc_zip row []
  simp only [List.nil_append, List.length_nil] at this
  rw [← this, List.getElem?_map, List.getElem?_zipIdx, h]; simp
theorem jars_rangeL (n : Nat) : rangeL 1 (n + 1) = jars 0 n := by
  rw [jars_range]
  unfold rangeL
  rw [show ((n : Int) + 1 - 1).toNat = n from by omega]
  rfl
def isOk {α : Type} [DecidableEq α] (m : Res α) (a : α) : Bool := match m with
  | .ok b => decide (b = a)
  | _ => false
theorem isOk_eq {α : Type} [DecidableEq α] {m : Res α} {a : α} (h : isOk m a = true) : m = .ok a := by
  unfold isOk at h
  split at h
  · next b => rw [of_decide_eq_true h]
  · cases h
theorem falls_rangeL (row : List Int) : (rangeL 1 row.length).filter (fun k => decide (row.getD k.toNat 0 < row.getD (k - 1).toNat 0)) = (fallsN row).map fun k : Nat => (k : Int) := by
  have e : rangeL 0 (row.length : Nat) = (List.range row.length).map fun (i : Nat) => (i : Int) := by
    unfold rangeL
    rw [show ((row.length : Nat) - 0 : Int).toNat = row.length from by omega]
    simp
  have e2 : (rangeL 1 row.length).filter (fun k => decide (row.getD k.toNat 0 < row.getD (k - 1).toNat 0)) = (rangeL 0 row.length).filter (fun k => decide (1 ≤ k) && decide (row.getD k.toNat 0 < row.getD (k - 1).toNat 0)) := by
    by_cases h : (0 : Int) < row.length
    · rw [rangeL_cons h, List.filter_cons_of_neg (by simp)]
      apply List.filter_congr
      intro x hx
      have := (mem_rangeL.mp hx).1
      rw [show decide (1 ≤ x) = true from decide_eq_true (by omega)]; rfl
    · rw [rangeL_nil (by omega), rangeL_nil (by omega)]; rfl
  rw [e2, e, List.filter_map]
  unfold fallsN
  congr 1
  apply List.filter_congr
  intro k _
  simp only [Function.comp]
  by_cases hk : 1 ≤ k
  · rw [show decide (1 ≤ k) = true from decide_eq_true hk, show decide ((1 : Int) ≤ k) = true from decide_eq_true (by omega), Int.toNat_natCast, show ((k : Int) - 1).toNat = k - 1 from by omega]
  · rw [show decide (1 ≤ k) = false from decide_eq_false hk, show decide ((1 : Int) ≤ k) = false from decide_eq_false (by omega)]; rfl

theorem q_exch {n : Nat} (row : List Int) (hr : row.length = n) (hn : n ≤ 1000) (k : Nat) (h1 : 1 ≤ k) (h2 : k < n) : m_exchanged_at row k = .ok (sw k row) := by
  obtain ⟨p, a, b, r, rfl, hk⟩ := split_at h1 (by omega : k < row.length)
  simp only [List.length_append, List.length_cons] at hr
  refine Okp.eq ?_
  unfold m_exchanged_at
  refine okp_fn ?_
  unfold M_exchanged_at
  refine okp_sseq (p ++ b :: a :: r) (s := ()) ?_ (okp_rt (by rw [hk, sw_at]))
  simp -implicitDefEqProofs (disch := omega) only [sseq, sbind, sbind_def, spure, spure_def, slift, slift_def, val1, app1_eq, Res.ok_bind, Res.bind_assoc, ofOpt_some, nb_ok, ite_app, atI_mid, atI_mid2, cutL_to, cutL_from, take_mid, drop_mid2]
  rw [catO_ok (by omega) (by simp)]
  simp -implicitDefEqProofs (disch := omega) only [sseq, sbind, sbind_def, spure, spure_def, slift, slift_def, val1, app1_eq, Res.ok_bind, Res.bind_assoc, ofOpt_some, nb_ok, ite_app]
  rw [catO_ok (by simp; omega) (by omega)]
  simp -implicitDefEqProofs (disch := omega) only [sseq, sbind, sbind_def, spure, spure_def, slift, slift_def, val1, app1_eq, Res.ok_bind, Res.bind_assoc, ofOpt_some, nb_ok, ite_app]
  simp

theorem q_swap {n : Nat} (row : List Int) (hr : row.length = n) (hn : n ≤ 1000) (k : Nat) (h1 : 1 ≤ k) (h2 : k < n) : m__law_swapped row k = .ok (sw k row) := by
  obtain ⟨p, a, b, r, rfl, hk⟩ := split_at h1 (by omega : k < row.length)
  simp only [List.length_append, List.length_cons] at hr
  refine Okp.eq ?_
  unfold m__law_swapped
  refine okp_fn ?_
  unfold M__law_swapped
  refine okp_sseq (p ++ b :: a :: r) (s := ()) ?_ (okp_rt (by rw [hk, sw_at]))
  simp -implicitDefEqProofs (disch := omega) only [sseq, sbind, sbind_def, spure, spure_def, slift, slift_def, val1, app1_eq, Res.ok_bind, Res.bind_assoc, ofOpt_some, nb_ok, ite_app, atI_mid, atI_mid2, cutL_to, cutL_from, take_mid, drop_mid2]
  rw [catO_ok (by omega) (by simp)]
  simp -implicitDefEqProofs (disch := omega) only [sseq, sbind, sbind_def, spure, spure_def, slift, slift_def, val1, app1_eq, Res.ok_bind, Res.bind_assoc, ofOpt_some, nb_ok, ite_app]
  rw [catO_ok (by simp; omega) (by omega)]
  simp -implicitDefEqProofs (disch := omega) only [sseq, sbind, sbind_def, spure, spure_def, slift, slift_def, val1, app1_eq, Res.ok_bind, Res.bind_assoc, ofOpt_some, nb_ok, ite_app]
  simp

theorem sseq_ok {S α δ : Type} {m : Res (α × S)} {k : α → S → Res δ} (a : α) (s : S) (h : m = .ok (a, s)) : sseq m k = k a s := by rw [h]; rfl
theorem seqC_er {β γ δ R : Type} {m : Res (Ctl β γ R)} {k : β → Res (Ctl δ γ R)} {c : String} {as : List PyData} (h : m = .err c as) : seqC m k = .err c as := by rw [h]; rfl
theorem for_er {α γ δ R : Type} {body : α → γ → Res (Ctl γ γ R)} {c : String} {as : List PyData} : ∀ (xs : List α) (g : γ) (k : Nat) (x : α), (∀ i y, i < k → xs[i]? = some y → body y g = .ok (.nx g)) → xs[k]? = some x → body x g = .err c as → forR (δ := δ) body xs g = .err c as
  | [], _, _, _, _, e, _ => by simp at e
  | z :: xs, g, 0, x, _, e, hb => by
    simp at e; subst e
    rw [forR_cons, hb]; rfl
  | z :: xs, g, k + 1, x, h, e, hb => by
    rw [forR_cons, h 0 z (by omega) rfl]
    exact for_er xs g k x (fun i y hi hy => h (i + 1) y (by omega) hy) e hb
theorem erase_perm {l : List Int} {d : Nat} (h : d < l.length) : (l[d] :: l.eraseIdx d).Perm l := by
  rw [List.eraseIdx_eq_take_drop_succ]
  refine List.perm_middle.symm.trans ?_
  rw [← List.drop_eq_getElem_cons h, List.take_append_drop]
theorem popAt_ok {xs : List Int} {i : Int} {j : Nat} (h : i = j) (hj : j < xs.length) (hl : (xs.length : Int) ≤ 1000000) : ofOpt (popAtO xs i) = .ok (xs[j], xs.eraseIdx j) := by
  unfold popAtO
  rw [if_pos ⟨by omega, by omega⟩, ixN_pos (by omega) (by omega), Option.bind_some, show i.toNat = j from by omega, List.getElem?_eq_getElem hj]
  rfl
theorem inv_le : ∀ row : List Int, 2 * inv row ≤ row.length * (row.length - 1)
  | [] => Nat.le_refl _
  | x :: r => by
    have ih := inv_le r
    have h := List.countP_le_length (p := fun z => decide (z < x)) (l := r)
    show 2 * (r.countP _ + inv r) ≤ (r.length + 1) * (r.length + 1 - 1)
    cases hl : r.length with
    | zero => rw [hl] at ih h; omega
    | succ n =>
      rw [hl] at ih h
      rw [Nat.add_sub_cancel] at ih ⊢
      have e : (n + 1 + 1) * (n + 1) = (n + 1) * n + 2 * (n + 1) := by simp only [Nat.add_mul, Nat.mul_add]; omega
      rw [e]; omega
theorem dle_eq (a b : List Int) : dle a b = !decide (b < a) := by
  unfold dle
  have : PySem.W.dataLt (enc b) (enc a) = decide (b < a) := (PySem.W.dataLt_list (b.map .int) (a.map .int)).trans (PySem.W.dataLt_ints b a)
  rw [this]
theorem dsort_eq {l m : List (List Int)} (p : l.Perm m) (h : m.Pairwise (· < ·)) : dsort l = m := by
  have hle : ∀ a b : List Int, dle a b = true ↔ a ≤ b := fun a b => by
    rw [dle_eq, Bool.not_eq_true', decide_eq_false_iff_not, List.not_lt]
  have h1 : (dsort l).Pairwise fun a b => dle a b = true := List.pairwise_mergeSort (fun a b c h1 h2 => (hle a c).mpr (List.le_trans ((hle a b).mp h1) ((hle b c).mp h2))) (fun a b => by
    rcases List.le_total a b with q | q
    · rw [(hle a b).mpr q]; rfl
    · rw [(hle b a).mpr q, Bool.or_true]) l
  refine ((dsort_perm l).trans p).eq_of_pairwise (le := fun a b => a ≤ b) (fun a b _ _ h1 h2 => List.le_antisymm h1 h2) (h1.imp fun {a b} q => (hle a b).mp q) (h.imp fun {a b} q => List.le_of_lt q)
def wL (row : List Int) : List (List Int) := (WL (inv row) row).map cI
theorem wL_sorted (row : List Int) : (wL row).Pairwise (· < ·) := WL_sorted (inv row) row
theorem q_longest (n : Nat) (hn : n ≤ 1000) : m_longest_order n = .ok (downL n 0) := by
  refine Okp.eq ?_
  unfold m_longest_order M_longest_order
  exact okp_fn (okp_sseq (downL n 0) (s := ()) (by simp -implicitDefEqProofs (disch := omega) only [sseq, sbind, sbind_def, spure, spure_def, slift, slift_def, val1, app1_eq, Res.ok_bind, Res.bind_assoc, ofOpt_some, nb_ok, ite_app, downO_ok]) (okp_rt rfl))
theorem inv36 {n : Nat} {row : List Int} (hn : n ≤ 9) (h : row.Perm (jars 0 n)) : inv row ≤ 36 := by
  have h1 := inv_le row
  have h2 : row.length * (row.length - 1) ≤ 9 * 8 := Nat.mul_le_mul (by rw [perm_len h]; exact hn) (by rw [perm_len h]; omega)
  omega
structure Sp (row : List Int) (n i : Nat) (w : List Nat) (here : List Int) : Prop where
  b : ∀ k ∈ w, 1 ≤ k ∧ k < n
  p : here.Perm (jars 0 n)
  a : app w here = row
  l : w.length + inv here = inv row
  d : inv here + i ≤ inv row ∨ inv here = 0
def okN {α β γ : Type} (m : Res (Ctl α β γ)) (p : α → Bool) : Bool := match m with
  | .ok (.nx g) => p g
  | _ => false
theorem okN_eq {α β γ : Type} {m : Res (Ctl α β γ)} {p : α → Bool} (h : okN m p = true) : ∃ g, m = .ok (.nx g) ∧ p g = true := by
  unfold okN at h
  split at h
  · next g => exact ⟨g, rfl, h⟩
  · cases h

theorem jarsM (n : Nat) : (rangeL 0 n).map (fun z => z + 1) = jars 0 n := by
  rw [jars_range]
  unfold rangeL
  rw [List.map_map]
  have e : ((n : Int) - 0).toNat = n := by omega
  rw [e]
  exact List.map_congr_left fun x _ => by show (0 : Int) + (x : Int) + 1 = 0 + 1 + x; omega
theorem longM (n : Nat) : (rangeL 0 n).map (fun z => (n : Int) - z) = longest n := by
  unfold longest
  rw [← jarsM, List.map_map]
  exact List.map_congr_left fun x _ => by show (n : Int) - x = n + 1 - (x + 1); omega
theorem q_lspelled (n : Nat) (hn : n ≤ 1000) (w : List Nat) (hw : ∀ k ∈ w, 1 ≤ k ∧ k < n) : m__law_spelled n (cI w) = .ok (app w (jars 0 n)) := by
  refine Okp.eq ?_
  unfold m__law_spelled
  refine okp_fn ?_
  unfold M__law_spelled
  refine okp_sseq (jars 0 n) (s := ()) ?_ ?_
  · refine sbi (rangeL 0 n) () (by simp -implicitDefEqProofs (disch := omega) only [sseq, sbind, sbind_def, spure, spure_def, slift, slift_def, val1, app1_eq, Res.ok_bind, Res.bind_assoc, ofOpt_some, nb_ok, ite_app, rangeO_ok]) ?_
    rw [compS_okM (fun z => z + 1) fun z _ => rfl, jarsM]
  refine okp_seqC ?_
  refine okp_sseq (cI w) rfl ?_
  refine okp_for (fun i g => g = app (w.take i) (jars 0 n)) rfl ?_ ?_
  · rintro i x g hx rfl
    unfold cI at hx
    rw [List.getElem?_map] at hx
    obtain ⟨k, hk, rfl⟩ := Option.map_eq_some_iff.mp hx
    obtain ⟨h1, h2⟩ := hw k (List.mem_of_getElem? hk)
    refine okp_sseq (sw k (app (w.take i) (jars 0 n))) (s := ()) (by simp -implicitDefEqProofs (disch := omega) only [sseq, sbind, sbind_def, spure, spure_def, slift, slift_def, val1, app1_eq, Res.ok_bind, Res.bind_assoc, ofOpt_some, nb_ok, ite_app, q_swap (n := n) (app (w.take i) (jars 0 n)) (by rw [app_len, jars_len]) hn k h1 h2]) (okp_nx ?_)
    rw [List.take_add_one, hk, app_app]; rfl
  · rintro g rfl
    rw [show (cI w).length = w.length from List.length_map .., List.take_length]
    exact okp_sseq (app w (jars 0 n)) (s := ()) (by simp -implicitDefEqProofs (disch := omega) only [sseq, sbind, sbind_def, spure, spure_def, slift, slift_def, val1, app1_eq, Res.ok_bind, Res.bind_assoc, ofOpt_some, nb_ok, ite_app]) (okp_rt rfl)
theorem s_order (n : Nat) (hn : n ≤ 1000) (fd : Fd) (hf : fd.Ok) : Okp (m__law_order n fd) (fun r => r.1.Perm (jars 0 n) ∧ r.2.Ok) := by
  unfold m__law_order
  refine okp_fn ?_
  unfold M__law_order
  refine okp_sseq (jars 0 n) (s := ()) ?_ ?_
  · refine sbi (rangeL 0 n) () (by simp -implicitDefEqProofs (disch := omega) only [sseq, sbind, sbind_def, spure, spure_def, slift, slift_def, val1, app1_eq, Res.ok_bind, Res.bind_assoc, ofOpt_some, nb_ok, ite_app, rangeO_ok]) ?_
    rw [compS_okM (fun z => z + 1) fun z _ => rfl, jarsM]
  refine okp_sseq [] rfl ?_
  refine okp_seqC ?_
  refine okp_sseq (rangeL 0 n) (s := ()) (by simp -implicitDefEqProofs (disch := omega) only [sseq, sbind, sbind_def, spure, spure_def, slift, slift_def, val1, app1_eq, Res.ok_bind, Res.bind_assoc, ofOpt_some, nb_ok, ite_app, rangeO_ok]) ?_
  have hL : (rangeL 0 (n : Int)).length = n := by rw [rangeL_length]; omega
  refine okp_for (fun i g => (g.1 ++ g.2.1).Perm (jars 0 n) ∧ g.1.length = i ∧ g.2.2.Ok) ⟨List.Perm.refl _, rfl, hf⟩ ?_ ?_
  · rintro i x ⟨row, rest, fd⟩ hx ⟨hp, hl, hf⟩
    have ex := rangeL_get hx
    obtain ⟨hi, _⟩ := List.getElem?_eq_some_iff.mp hx
    rw [hL] at hi
    simp only at hp hl hf
    have hlen := hp.length_eq
    rw [List.length_append, jars_len] at hlen
    obtain ⟨d, f2, e2, hd0, hd1, hf2⟩ := drawR_ok (many := (n : Int) - x) (by omega) (by omega) hf
    have hdl : d.toNat < rest.length := by omega
    have ep := popAt_ok (xs := rest) (i := d) (j := d.toNat) (by omega) hdl (by omega)
    refine okp_sseq rest[d.toNat] (s := (f2, rest.eraseIdx d.toNat)) (by simp -implicitDefEqProofs (disch := omega) only [sseq, sbind, sbind_def, spure, spure_def, slift, slift_def, val1, app1_eq, Res.ok_bind, Res.bind_assoc, ofOpt_some, nb_ok, ite_app, e2, ep]) ?_
    refine okp_bind (row ++ [rest[d.toNat]]) (by simp -implicitDefEqProofs (disch := omega) only [sseq, sbind, sbind_def, spure, spure_def, slift, slift_def, val1, app1_eq, Res.ok_bind, Res.bind_assoc, ofOpt_some, nb_ok, ite_app, appO_ok]) (okp_nx ⟨?_, ?_, hf2⟩)
    · show (row ++ [rest[d.toNat]] ++ rest.eraseIdx d.toNat).Perm _
      rw [List.append_assoc]
      exact (List.Perm.append_left row (erase_perm hdl)).trans hp
    · simp [hl]
  · rintro ⟨row, rest, fd⟩ ⟨hp, hl, hf⟩
    rw [hL] at hl
    simp only at hp hl hf
    have hlen := hp.length_eq
    rw [List.length_append, jars_len] at hlen
    have : rest = [] := List.eq_nil_of_length_eq_zero (by omega)
    subst this
    rw [List.append_nil] at hp
    exact okp_sseq row (s := ()) (by simp -implicitDefEqProofs (disch := omega) only [sseq, sbind, sbind_def, spure, spure_def, slift, slift_def, val1, app1_eq, Res.ok_bind, Res.bind_assoc, ofOpt_some, nb_ok, ite_app]) (okp_rt ⟨hp, hf⟩)
theorem q_drawn {n : Nat} (hn : n ≤ 9) (row : List Int) (h : row.Perm (jars 0 n)) (fd : Fd) (hf : fd.Ok) : Okp (m__law_drawn_spelling row fd) (fun r => (∃ w : List Nat, r.1 = cI w ∧ Red n row w) ∧ r.2.Ok) := by
  have hlen : row.length = n := by rw [h.length_eq, jars_len]
  have h36 : inv row ≤ 36 := by
    have h1 := inv_le row
    have h2 : row.length * (row.length - 1) ≤ 9 * 8 := Nat.mul_le_mul (by omega) (by omega)
    omega
  unfold m__law_drawn_spelling
  refine okp_fn ?_
  unfold M__law_drawn_spelling
  refine okp_sseq row rfl ?_
  refine okp_sseq [] rfl ?_
  refine okp_seqCP (P := fun (g : Fd × List Int × List Int) => (∃ (w : List Nat) (i : Nat), g.2.1 = cI w ∧ Sp row n i w g.2.2 ∧ inv g.2.2 = 0) ∧ g.1.Ok) ?_ ?_
  rotate_left
  · rintro ⟨fd, word, here⟩ ⟨⟨w, i, ew, S, h0⟩, hf⟩
    simp only at ew S hf h0
    subst ew
    have hj := jars_of_inv S.p h0
    have ha := S.a
    rw [hj] at ha
    have hl := S.l
    exact okp_sseq (cI w) (s := ()) (by simp -implicitDefEqProofs (disch := omega) only [sseq, sbind, sbind_def, spure, spure_def, slift, slift_def, val1, app1_eq, Res.ok_bind, Res.bind_assoc, ofOpt_some, nb_ok, ite_app]) (okp_rt ⟨⟨w, rfl, S.b, ha, by omega⟩, hf⟩)
  refine okp_sseq (rangeL 0 40) (s := ()) (by simp -implicitDefEqProofs (disch := omega) only [sseq, sbind, sbind_def, spure, spure_def, slift, slift_def, val1, app1_eq, Res.ok_bind, Res.bind_assoc, ofOpt_some, nb_ok, ite_app, rangeO_ok]) ?_
  have hl40 : (rangeL 0 40).length = 40 := by rw [rangeL_length]; rfl
  refine okp_for (fun (i : Nat) (g : Fd × List Int × List Int) => (∃ w : List Nat, g.2.1 = cI w ∧ Sp row n i w g.2.2) ∧ g.1.Ok) ⟨⟨[], rfl, (fun k hk => absurd hk List.not_mem_nil), h, rfl, by simp, .inl (Nat.le_refl _)⟩, hf⟩ ?_ ?_
  · rintro i x ⟨fd, word, here⟩ hx ⟨⟨w, ew, S⟩, hf⟩
    simp only at ew S hf
    subst ew
    obtain ⟨hi, _⟩ := List.getElem?_eq_some_iff.mp hx
    rw [rangeL_length] at hi
    have hhl : here.length = n := by rw [S.p.length_eq, jars_len]
    have hwl := S.l
    refine okp_sseq ((fallsN here).map fun k : Nat => (k : Int)) (s := ()) ?_ ?_
    · rw [← falls_rangeL]
      refine sbi (rangeL 1 here.length) () (by simp -implicitDefEqProofs (disch := omega) only [sseq, sbind, sbind_def, spure, spure_def, slift, slift_def, val1, app1_eq, Res.ok_bind, Res.bind_assoc, ofOpt_some, nb_ok, ite_app, rangeO_ok]) ?_
      refine (compS_ok (fun k => decide (here.getD k.toNat 0 < here.getD (k - 1).toNat 0)) (fun z => z) ?_ fun z _ _ => rfl).trans (by rw [List.map_id'])
      intro z hz
      have := mem_rangeL.mp hz
      simp -implicitDefEqProofs (disch := omega) only [sseq, sbind, sbind_def, spure, spure_def, slift, slift_def, val1, app1_eq, Res.ok_bind, Res.bind_assoc, ofOpt_some, nb_ok, ite_app, atI_ok (0 : Int)]
    refine okp_sseq (decide ((((fallsN here).map fun k : Nat => (k : Int)).length : Int) = 0)) (s := ()) (by simp -implicitDefEqProofs (disch := omega) only [sseq, sbind, sbind_def, spure, spure_def, slift, slift_def, val1, app1_eq, Res.ok_bind, Res.bind_assoc, ofOpt_some, nb_ok, ite_app]) ?_
    refine okp_ite ?_ ?_
    · intro hneg
      have hz : (fallsN here).length = 0 := by
        have := of_decide_eq_true hneg
        rw [List.length_map] at this
        omega
      have h0 : inv here = 0 := inv_of_sorted (inv_zero here fun k hk => by rw [List.eq_nil_of_length_eq_zero hz] at hk; cases hk)
      exact okp_exitC (e := fun _ => True) (okp_bk ⟨⟨w, i, rfl, S, h0⟩, hf⟩)
    · intro hpos
      have hpos : (fallsN here).length ≠ 0 := by
        intro z
        apply hpos
        rw [List.length_map]
        exact decide_eq_true (by omega)
      have hfl := falls_len here
      obtain ⟨d, f2, ed, d0, d1, hf2⟩ := drawR_ok (many := (((fallsN here).map fun k : Nat => (k : Int)).length : Int)) (by rw [List.length_map]; omega) (by rw [List.length_map]; omega) hf
      rw [List.length_map] at d1
      have hk : (fallsN here)[d.toNat]? = some ((fallsN here)[d.toNat]'(by omega)) := List.getElem?_eq_getElem (by omega)
      generalize (fallsN here)[d.toNat]'(by omega) = k at hk
      have hkm := List.mem_of_getElem? hk
      obtain ⟨k1, k2, _⟩ := fall_mem.mp hkm
      have hat : ofOpt (L2.atI ((fallsN here).map fun k : Nat => (k : Int)) d) = .ok (k : Int) := atI_get (j := d.toNat) (by omega) (by rw [List.getElem?_map, hk]; rfl)
      refine okp_sseq (k : Int) (s := f2) (by simp -implicitDefEqProofs (disch := omega) only [sseq, sbind, sbind_def, spure, spure_def, slift, slift_def, val1, app1_eq, Res.ok_bind, Res.bind_assoc, ofOpt_some, nb_ok, ite_app, ed, hat]) ?_
      refine okp_sseq (cI (k :: w)) (s := ()) ?_ ?_
      · simp -implicitDefEqProofs (disch := omega) only [sseq, sbind, sbind_def, spure, spure_def, slift, slift_def, val1, app1_eq, Res.ok_bind, Res.bind_assoc, ofOpt_some, nb_ok, ite_app]
        rw [catO_ok (by simp) (by rw [show (cI w).length = w.length from List.length_map ..]; omega)]
        rfl
      have hsw := inv_fall hkm
      refine okp_sseq (sw k here) (s := ()) (by simp -implicitDefEqProofs (disch := omega) only [sseq, sbind, sbind_def, spure, spure_def, slift, slift_def, val1, app1_eq, Res.ok_bind, Res.bind_assoc, ofOpt_some, nb_ok, ite_app, q_swap here hhl (by omega) k k1 (by omega)]) ?_
      refine okp_nx ⟨⟨k :: w, rfl, ⟨fun j hj => ?_, (sw_perm k1 k2).trans S.p, ?_, ?_, ?_⟩⟩, hf2⟩
      · rcases List.mem_cons.mp hj with e | hj
        · omega
        · exact S.b j hj
      · rw [app_cons, sw_sw k1 k2]; exact S.a
      · rw [List.length_cons]; show _ + inv (sw k here) = _; omega
      · rcases S.d with q | q
        · left; show inv (sw k here) + _ ≤ _; omega
        · omega
  · rintro ⟨fd, word, here⟩ ⟨⟨w, ew, S⟩, hf⟩
    simp only at ew S hf
    rw [hl40] at S
    have h0 : inv here = 0 := by rcases S.d with q | q <;> omega
    exact ⟨⟨w, 40, ew, S, h0⟩, hf⟩
end K25

set_option Elab.async false
set_option linter.all false
set_option maxRecDepth 20000
namespace K25
open PySem PySem.Spec PyProof.Rows L2 DL DL.Enc Bub
theorem dec_tup (ds : List PyData) : (Dec.dec (PyData.tuple ds) : Option (Tup PyData)) = some ⟨ds⟩ := by
  have := Dec.back (Tup.mk ds : Tup PyData)
  have e : enc (Tup.mk ds : Tup PyData) = PyData.tuple ds := by
    show PyData.tuple (ds.map id) = _
    rw [List.map_id]
  rwa [e] at this
theorem dec_list (ds : List PyData) : (Dec.dec (PyData.list ds) : Option (List PyData)) = some ds := by
  have := Dec.back ds
  have e : enc ds = PyData.list ds := by
    show PyData.list (ds.map id) = _
    rw [List.map_id]
  rwa [e] at this
theorem dec_int (i : Int) : (Dec.dec (PyData.int i) : Option Int) = some i := rfl
theorem dec_str (s : Str) : (Dec.dec (PyData.str s) : Option Str) = some s := rfl
theorem kl_ll : kitB "list" "list" = some true := by decide +kernel
theorem ki_ii : kitB "int" "int" = some true := by decide +kernel
theorem kb_ib : kitB "int" "bool" = some false := by decide +kernel
theorem t_list (ds : List PyData) (x : String) : kitB (tyN (enc (PyData.list ds))) x = kitB "list" x := rfl
theorem t_int (i : Int) (x : String) : kitB (tyN (enc (PyData.int i))) x = kitB "int" x := rfl

theorem or_f {S : Type} {m k : S → Res (Bool × S)} {s : S} {z : Res (Bool × S)} (h : m s = .ok (false, s)) (h2 : k s = z) : (sbind m fun x => if x = true then spure true else k) s = z := by
  refine sbi false s h ?_
  rw [if_neg (by decide)]; exact h2
theorem and_t {S : Type} {m k : S → Res (Bool × S)} {s : S} {z : Res (Bool × S)} (h : m s = .ok (true, s)) (h2 : k s = z) : (sbind m fun x => if x = true then k else spure false) s = z := by
  refine sbi true s h ?_
  rw [if_pos rfl]; exact h2
theorem and_f {S : Type} {m k : S → Res (Bool × S)} {s : S} (h : m s = .ok (false, s)) : (sbind m fun x => if x = true then k else spure false) s = .ok (false, s) := by
  refine sbi false s h ?_
  rw [if_neg (by decide)]
theorem nbS_ok {S α : Type} {m : S → Res (α × S)} {s : S} {a : α × S} (h : m s = .ok a) : nbS m s = .ok a := by unfold nbS; rw [h]; rfl
theorem sconv_ok {S α β : Type} {f : α → β} {m : S → Res (α × S)} {s : S} {a : α} (h : m s = .ok (a, s)) : sconv f m s = .ok (f a, s) := by unfold sconv; rw [h]; rfl
theorem cil (v : List Nat) : (cI v).length = v.length := List.length_map ..
theorem at_last (u : List Int) (x : Int) : ofOpt (L2.atI (u ++ [x]) (-1)) = .ok x := by
  unfold L2.atI ixN
  rw [if_neg (by decide), if_pos (by rw [List.length_append, List.length_singleton]; omega), Option.bind_some]
  have : (-1 + ((u ++ [x]).length : Int)).toNat = u.length := by rw [List.length_append, List.length_singleton]; omega
  rw [this]; simp
theorem cut_last (u : List Int) (x : Int) : cutL (u ++ [x]) none (some (-1)) = u := by
  unfold cutL
  have e : HT.sIx (u ++ [x]).length (u ++ [x]).length (some (-1)) = u.length := by
    unfold HT.sIx
    simp
    omega
  rw [e, HT.sIx_none, List.drop_zero, Nat.sub_zero, List.take_left]
theorem snoc_of {w : List Int} (h : w ≠ []) : ∃ u x, w = u ++ [x] := ⟨w.dropLast, w.getLast h, (List.dropLast_concat_getLast h).symm⟩
theorem q_tx (n : Int) {w : List Int} (h : w ≠ []) (hl : w.length ≤ 1000) : (sbind (sbind (sbind (spure (n : Int)) fun x => sbind (sbind (spure (w : (List Int))) fun x => sbind (sbind (spure (1 : Int)) fun x => spure (-x)) fun y => slift (ofOpt (L2.atI x y))) fun y => spure (x - y)) fun a => sbind (spure ([] : List Int)) fun as => spure (a :: as)) fun x => sbind (sbind (spure (w : (List Int))) fun x => sbind (spure none) fun i => sbind (sbind (sbind (spure (1 : Int)) fun x => spure (-x)) fun i => spure (some i)) fun j => spure (cutL x i j)) fun y => slift (ofOpt (catO x y))) () = .ok (turn n w, ()) := by
  obtain ⟨u, x, rfl⟩ := snoc_of h
  rw [List.length_append] at hl
  rw [turn_snoc]
  simp -implicitDefEqProofs (disch := omega) only [sseq, sbind, sbind_def, spure, spure_def, slift, slift_def, val1, app1_eq, Res.ok_bind, Res.bind_assoc, ofOpt_some, nb_ok, ite_app, at_last, cut_last]
  rw [catO_ok (by simp) (by omega)]
  rfl
theorem q_turn (n : Int) {w : List Int} (h : w ≠ []) (hl : w.length ≤ 1000) : m_turned_spelling n w = .ok (turn n w) := by
  refine Okp.eq ?_
  unfold m_turned_spelling M_turned_spelling
  exact okp_fn (okp_sseq (turn n w) (s := ()) (q_tx n h hl) (okp_rt rfl))
theorem itT_ne {n : Int} : ∀ (t : Nat) {w : List Int}, w ≠ [] → itT n t w ≠ [] ∧ (itT n t w).length = w.length
  | 0, w, h => ⟨h, rfl⟩
  | t + 1, w, h => by
    have hne : turn n w ≠ [] := by unfold turn; simp
    obtain ⟨a, b⟩ := itT_ne t hne
    exact ⟨a, by show (itT n t (turn n w)).length = _; rw [b, turn_len h]⟩
theorem okp_while {γ δ R : Type} {cond : γ → Res Bool} {body : γ → Res (Ctl γ γ R)} {b c : δ → Prop} {r : R → Prop} (I : Nat → γ → Prop) {N : γ → Prop}
    (h0 : ∀ g, I 0 g → cond g = .ok false ∧ N g) (hs : ∀ m g, I (m + 1) g → cond g = .ok true ∧ Okp (body g) (Cq (I m) N (I m) r)) :
    ∀ (m fuel : Nat) (g : γ), m < fuel → I m g → Okp (whileR (δ := δ) cond body fuel g) (Cq N b c r)
  | m, 0, _, h, _ => by omega
  | 0, fuel + 1, g, _, h => by
    obtain ⟨e, n⟩ := h0 g h
    show Okp (cond g >>= _) _
    rw [e]
    exact okp_nx n
  | m + 1, fuel + 1, g, hf, h => by
    obtain ⟨e, y, ey, q⟩ := hs m g h
    show Okp (cond g >>= _) _
    rw [e]
    show Okp (body g >>= _) _
    rw [ey]
    cases y with
    | nx g' => exact okp_while I h0 hs m fuel g' (by omega) q
    | ct g' => exact okp_while I h0 hs m fuel g' (by omega) q
    | bk g' => exact okp_nx q
    | rt v => exact okp_rt q
theorem q_round (n : Int) {w : List Int} (h : w ≠ []) (hl : w.length ≤ 100) {m : Nat} (m1 : 1 ≤ m) (m2 : m ≤ 200) (hm : itT n m w = w) (hn : ∀ t, 1 ≤ t → t < m → itT n t w ≠ w) : m_turn_round n w = .ok (m : Int) := by
  refine Okp.eq ?_
  unfold m_turn_round
  refine okp_fn ?_
  unfold M_turn_round
  refine okp_sseq (1 : Int) (s := ()) rfl ?_
  refine okp_sseq (turn n w) (s := ()) (by simp -implicitDefEqProofs (disch := omega) only [sseq, sbind, sbind_def, spure, spure_def, slift, slift_def, val1, app1_eq, Res.ok_bind, Res.bind_assoc, ofOpt_some, nb_ok, ite_app, q_turn n h (by omega)]) ?_
  refine okp_seqC ?_
  refine okp_while (fun (j : Nat) (g : List Int × Int) => j < m ∧ g.1 = itT n (m - j) w ∧ g.2 = ((m - j : Nat) : Int)) ?_ ?_ (m - 1) fuelB (turn n w, 1) (by rw [fuelB_eq]; omega) ⟨by omega, by rw [show m - (m - 1) = 1 from by omega]; rfl, by show (1 : Int) = _; omega⟩
  · rintro ⟨here, many⟩ ⟨_, h1, h2⟩
    simp only at h1 h2
    rw [Nat.sub_zero] at h1 h2
    refine ⟨by simp -implicitDefEqProofs (disch := omega) only [sseq, sbind, sbind_def, spure, spure_def, slift, slift_def, val1, app1_eq, Res.ok_bind, Res.bind_assoc, ofOpt_some, nb_ok, ite_app, decide_eq_true (show here = w from h1.trans hm)]; rfl, okp_sseq many (s := ()) rfl (okp_rt (by rw [h2]))⟩
  · rintro j ⟨here, many⟩ ⟨hj, h1, h2⟩
    simp only at h1 h2
    have hne : here ≠ w := by rw [h1]; exact hn _ (by omega) (by omega)
    refine ⟨by simp -implicitDefEqProofs (disch := omega) only [sseq, sbind, sbind_def, spure, spure_def, slift, slift_def, val1, app1_eq, Res.ok_bind, Res.bind_assoc, ofOpt_some, nb_ok, ite_app, decide_eq_false hne]; rfl, ?_⟩
    obtain ⟨i1, i2⟩ := itT_ne (n := n) (m - (j + 1)) h
    refine okp_sseq (turn n here) (s := ()) (by simp -implicitDefEqProofs (disch := omega) only [sseq, sbind, sbind_def, spure, spure_def, slift, slift_def, val1, app1_eq, Res.ok_bind, Res.bind_assoc, ofOpt_some, nb_ok, ite_app, q_turn n (show here ≠ [] by rw [h1]; exact i1) (by rw [h1, i2]; omega)]) ?_
    refine okp_bind (1 : Int) rfl ?_
    show Okp (app1 _ _) _
    rw [app1_eq]
    refine okp_nx ⟨by omega, ?_, ?_⟩
    · show turn n here = _
      rw [h1, ← itT_succ]
      congr 1; omega
    · show many + 1 = _
      rw [h2]; omega
theorem q_whole (i : Int) : m__law_whole (.int i) = .ok true := by
  refine Okp.eq ?_
  unfold m__law_whole M__law_whole
  refine okp_fn (okp_sseq true (s := ()) ?_ (okp_rt rfl))
  simp -implicitDefEqProofs (disch := omega) only [sseq, sbind, sbind_def, spure, spure_def, slift, slift_def, val1, app1_eq, Res.ok_bind, Res.bind_assoc, ofOpt_some, nb_ok, ite_app, t_int, ki_ii, kb_ib, if_true, Bool.not_false]
theorem q_wholes (l : List Int) (n : Int) (hn : n = l.length) : m__law_wholes (.list (l.map enc)) n = .ok true := by
  refine Okp.eq ?_
  unfold m__law_wholes
  refine okp_fn ?_
  unfold M__law_wholes
  refine okp_sseq false (s := ()) ?_ ?_
  · refine or_f (by simp -implicitDefEqProofs (disch := omega) only [sseq, sbind, sbind_def, spure, spure_def, slift, slift_def, val1, app1_eq, Res.ok_bind, Res.bind_assoc, ofOpt_some, nb_ok, ite_app, t_list, kl_ll, Bool.not_true]) ?_
    simp -implicitDefEqProofs (disch := omega) only [sseq, sbind, sbind_def, spure, spure_def, slift, slift_def, val1, app1_eq, Res.ok_bind, Res.bind_assoc, ofOpt_some, nb_ok, ite_app, dec_list, List.length_map, decide_eq_true (show ((l.length : Nat) : Int) = n from hn.symm), Bool.not_true]
  rw [if_neg (by decide)]
  refine okp_sseq true (s := ()) ?_ (okp_rt rfl)
  refine sbi (l.map fun _ => true) () ?_ (by simp -implicitDefEqProofs (disch := omega) only [sseq, sbind, sbind_def, spure, spure_def, slift, slift_def, val1, app1_eq, Res.ok_bind, Res.bind_assoc, ofOpt_some, nb_ok, ite_app]; congr 2; simp)
  refine sbi (l.map enc) () (by simp -implicitDefEqProofs (disch := omega) only [sseq, sbind, sbind_def, spure, spure_def, slift, slift_def, val1, app1_eq, Res.ok_bind, Res.bind_assoc, ofOpt_some, nb_ok, ite_app, dec_list]) ?_
  refine (compS_okM (fun _ => true) ?_).trans (by rw [List.map_map]; rfl)
  intro d hd
  obtain ⟨i, _, rfl⟩ := List.mem_map.mp hd
  have := q_whole i
  simp -implicitDefEqProofs (disch := omega) only [sseq, sbind, sbind_def, spure, spure_def, slift, slift_def, val1, app1_eq, Res.ok_bind, Res.bind_assoc, ofOpt_some, nb_ok, ite_app, show m__law_whole (enc i) = .ok true from this]
theorem inv_longest : ∀ n < 10, 2 * inv (longest n) = n * (n - 1) := by decide +kernel
theorem q_lspell {n : Nat} (hn : n ≤ 9) {w : List Nat} (hw : ∀ k ∈ w, 1 ≤ k ∧ k < n) (ha : app w (jars 0 n) = longest n) (hl : w.length = inv (longest n)) : m__law_spelling_longest n (cI w) = .ok true := by
  refine Okp.eq ?_
  unfold m__law_spelling_longest M__law_spelling_longest
  refine okp_fn (okp_sseq true (s := ()) ?_ (okp_rt rfl))
  have hi := inv_longest n (by omega)
  have hz : (n : Int) * ((n : Int) - 1) = 2 * ((inv (longest n) : Nat) : Int) := by
    rcases Nat.eq_zero_or_pos n with z | z
    · subst z; rfl
    · have : ((n - 1 : Nat) : Int) = (n : Int) - 1 := by omega
      rw [← this]; exact_mod_cast hi.symm
  refine and_t ?_ ?_
  · simp -implicitDefEqProofs (disch := omega) only [sseq, sbind, sbind_def, spure, spure_def, slift, slift_def, val1, app1_eq, Res.ok_bind, Res.bind_assoc, ofOpt_some, nb_ok, ite_app, mulO_ok, hz, divO_ok, cil]
    rw [decide_eq_true (show ((w.length : Nat) : Int) = 2 * ((inv (longest n) : Nat) : Int) / 2 by omega)]
  · refine sbi (longest n) () (by simp -implicitDefEqProofs (disch := omega) only [sseq, sbind, sbind_def, spure, spure_def, slift, slift_def, val1, app1_eq, Res.ok_bind, Res.bind_assoc, ofOpt_some, nb_ok, ite_app, q_lspelled n (by omega) w hw, ha]) ?_
    refine sbi (longest n) () ?_ (by simp -implicitDefEqProofs (disch := omega) only [sseq, sbind, sbind_def, spure, spure_def, slift, slift_def, val1, app1_eq, Res.ok_bind, Res.bind_assoc, ofOpt_some, nb_ok, ite_app, decide_true])
    refine sbi (rangeL 0 n) () (by simp -implicitDefEqProofs (disch := omega) only [sseq, sbind, sbind_def, spure, spure_def, slift, slift_def, val1, app1_eq, Res.ok_bind, Res.bind_assoc, ofOpt_some, nb_ok, ite_app, rangeO_ok]) ?_
    rw [compS_okM (fun z => (n : Int) - z) fun z _ => rfl, longM]
end K25

set_option Elab.async false
set_option linter.all false
set_option maxRecDepth 20000
namespace K25
open PySem PySem.Spec PyProof.Rows L2 DL DL.Enc Bub

theorem cI_turn {n k : Nat} (hk : k < n) (u : List Nat) : turn n (cI (u ++ [k])) = cI ((n - k) :: u) := by
  unfold cI
  rw [List.map_append, List.map_singleton, turn_snoc, List.map_cons]
  congr 1; omega
theorem cI_ne {w : List Nat} (h : w ≠ []) : cI w ≠ [] := fun z => h (List.map_eq_nil_iff.mp z)
theorem map_cI {n : Nat} (w : List Nat) : (compS (S := Unit) (fun (x8 : Int) => (spure true)) (fun (x8 : Int) => (sbind (spure (n : Int)) fun x => sbind (spure (x8 : Int)) fun y => spure (x - y))) (cI w)) () = .ok ((cI w).map (fun x => (n : Int) - x), ()) := compS_okM (fun z => (n : Int) - z) fun z _ => rfl
theorem q_walk {n : Nat} {w : List Nat} (h : w ≠ []) (hl : w.length ≤ 100) : m__law_walk_right n (cI w) = .ok true := by
  have hc := cI_ne h
  refine Okp.eq ?_
  unfold m__law_walk_right
  refine okp_fn ?_
  unfold M__law_walk_right
  refine okp_sseq (cI w) rfl ?_
  refine okp_seqC ?_
  have hL : (rangeL 0 ((cI w).length : Int)).length = (cI w).length := by rw [rangeL_length]; omega
  refine okp_sseq (rangeL 0 (cI w).length) (s := ()) (by simp -implicitDefEqProofs (disch := omega) only [sseq, sbind, sbind_def, spure, spure_def, slift, slift_def, val1, app1_eq, Res.ok_bind, Res.bind_assoc, ofOpt_some, nb_ok, ite_app, rangeO_ok, cil]) ?_
  refine okp_for (fun i g => g = itT n i (cI w)) rfl ?_ ?_
  · rintro i x g hx rfl
    obtain ⟨i1, i2⟩ := itT_ne (n := n) i hc
    exact okp_sseq (turn n (itT n i (cI w))) (s := ()) (by simp -implicitDefEqProofs (disch := omega) only [sseq, sbind, sbind_def, spure, spure_def, slift, slift_def, val1, app1_eq, Res.ok_bind, Res.bind_assoc, ofOpt_some, nb_ok, ite_app, q_turn n i1 (by rw [i2, cil]; omega)]) (okp_nx (itT_succ _ _ _).symm)
  · rintro g rfl
    rw [hL, itT_len]
    refine okp_sseq true (s := ()) ?_ (okp_rt rfl)
    refine sbi _ () rfl ?_
    refine sbi ((cI w).map fun x => (n : Int) - x) () ?_ (by simp -implicitDefEqProofs (disch := omega) only [sseq, sbind, sbind_def, spure, spure_def, slift, slift_def, val1, app1_eq, Res.ok_bind, Res.bind_assoc, ofOpt_some, nb_ok, ite_app, decide_true])
    exact sbi (cI w) () rfl (map_cI w)
theorem q_tr {n : Nat} (hn2 : 2 ≤ n) (hn : n ≤ 9) {w : List Nat} (r : Red n (longest n) w) : m__law_turned_right n (cI w) = .ok true := by
  have hi := inv_longest n (by omega)
  have hw := r.l
  have hb : n * (n - 1) ≤ 9 * 8 := Nat.mul_le_mul (by omega) (by omega)
  have hb2 : 2 * 1 ≤ n * (n - 1) := Nat.mul_le_mul (by omega) (by omega)
  have hne : w ≠ [] := fun z => by rw [z] at hw; simp at hw; omega
  have hc := cI_ne hne
  have hcl : (cI w).length ≤ 36 := by rw [cil]; omega
  obtain ⟨u, k, rfl⟩ : ∃ u k, w = u ++ [k] := ⟨w.dropLast, w.getLast hne, (List.dropLast_concat_getLast hne).symm⟩
  obtain ⟨k1, k2⟩ := r.b k (by simp)
  have et := cI_turn k2 u
  have hlt : ((n - k) :: u).length = (u ++ [k]).length := by simp
  have qs : m__law_spelling_longest n (turn n (cI (u ++ [k]))) = .ok true := by
    rw [et]
    refine q_lspell hn ?_ (turn_ok r.b r.a) (by rw [hlt]; exact r.l)
    intro j hj
    rcases List.mem_cons.mp hj with e | hj
    · omega
    · exact r.b j (by simp [hj])
  generalize hW : cI (u ++ [k]) = W at *
  obtain ⟨m, m1, m2, m3, m4, m5⟩ := round_ex (n := (n : Int)) hc
  have qw : m__law_wholes (enc (turn n W)) (W.length : Int) = .ok true := q_wholes _ _ (by rw [turn_len hc])
  refine Okp.eq ?_
  unfold m__law_turned_right
  refine okp_fn ?_
  unfold M__law_turned_right
  refine okp_sseq W rfl ?_
  refine okp_sseq (turn n W) (s := ()) (by simp -implicitDefEqProofs (disch := omega) only [sseq, sbind, sbind_def, spure, spure_def, slift, slift_def, val1, app1_eq, Res.ok_bind, Res.bind_assoc, ofOpt_some, nb_ok, ite_app, q_turn n hc (by omega)]) ?_
  refine okp_sseq false (s := ()) ?_ ?_
  · refine nbS_ok (or_f (by simp -implicitDefEqProofs (disch := omega) only [sseq, sbind, sbind_def, spure, spure_def, slift, slift_def, val1, app1_eq, Res.ok_bind, Res.bind_assoc, ofOpt_some, nb_ok, ite_app, sconv, qw, Bool.not_true]) (or_f ?_ (by simp -implicitDefEqProofs (disch := omega) only [sseq, sbind, sbind_def, spure, spure_def, slift, slift_def, val1, app1_eq, Res.ok_bind, Res.bind_assoc, ofOpt_some, nb_ok, ite_app, decide_true, Bool.not_true])))
    refine sbi (turn n W) () rfl ?_
    refine sbi (turn n W) () (q_tx n hc (by omega)) (by simp -implicitDefEqProofs (disch := omega) only [sseq, sbind, sbind_def, spure, spure_def, slift, slift_def, val1, app1_eq, Res.ok_bind, Res.bind_assoc, ofOpt_some, nb_ok, ite_app, decide_true, Bool.not_true])
  rw [if_neg (by decide)]
  refine okp_sseq false (s := ()) (nbS_ok (by simp -implicitDefEqProofs (disch := omega) only [sseq, sbind, sbind_def, spure, spure_def, slift, slift_def, val1, app1_eq, Res.ok_bind, Res.bind_assoc, ofOpt_some, nb_ok, ite_app, qs, Bool.not_true])) ?_
  rw [if_neg (by decide)]
  refine okp_sseq W rfl ?_
  refine okp_sseq (0 : Int) (s := ()) rfl ?_
  refine okp_seqC ?_
  have hL : (rangeL 0 (2 * (W.length : Int))).length = 2 * W.length := by rw [rangeL_length]; omega
  refine okp_sseq (rangeL 0 (2 * (W.length : Int))) (s := ()) (by simp -implicitDefEqProofs (disch := omega) only [sseq, sbind, sbind_def, spure, spure_def, slift, slift_def, val1, app1_eq, Res.ok_bind, Res.bind_assoc, ofOpt_some, nb_ok, ite_app, mulO_ok, rangeO_ok]) ?_
  refine okp_for (fun (i : Nat) (g : List Int × Int) => g.1 = itT n i W ∧ g.2 = if m ≤ i then (m : Int) else 0) ⟨rfl, by rw [if_neg (by omega)]⟩ ?_ ?_
  · rintro i x ⟨here, found⟩ hx ⟨g1, g2⟩
    simp only at g1 g2
    have ex := rangeL_get hx
    obtain ⟨i1, i2⟩ := itT_ne (n := n) i hc
    rw [← g1] at i1 i2
    have es : turn n here = itT n (i + 1) W := by rw [itT_succ, g1]
    refine okp_sseq (turn n here) (s := ()) (q_tx n i1 (by show here.length ≤ 1000; omega)) ?_
    refine okp_seqCP (P := fun j => j = if m ≤ i + 1 then (m : Int) else 0) ?_ ?_
    · by_cases hm : m ≤ i
      · rw [if_pos hm] at g2
        refine okp_sseq false (s := ()) (and_f (by simp -implicitDefEqProofs (disch := omega) only [sseq, sbind, sbind_def, spure, spure_def, slift, slift_def, val1, app1_eq, Res.ok_bind, Res.bind_assoc, ofOpt_some, nb_ok, ite_app, decide_eq_false (show ¬ found = 0 by omega)])) ?_
        rw [if_neg (by decide)]
        exact okp_nx (by rw [if_pos (by omega)]; exact g2)
      · rw [if_neg hm] at g2
        by_cases he : m = i + 1
        · refine okp_sseq true (s := ()) (and_t (by simp -implicitDefEqProofs (disch := omega) only [sseq, sbind, sbind_def, spure, spure_def, slift, slift_def, val1, app1_eq, Res.ok_bind, Res.bind_assoc, ofOpt_some, nb_ok, ite_app, decide_eq_true g2]) (by simp -implicitDefEqProofs (disch := omega) only [sseq, sbind, sbind_def, spure, spure_def, slift, slift_def, val1, app1_eq, Res.ok_bind, Res.bind_assoc, ofOpt_some, nb_ok, ite_app, decide_eq_true (show turn n here = W by rw [es, ← he]; exact m3)])) ?_
          rw [if_pos rfl]
          refine okp_sseq (x + 1) (s := ()) (by simp -implicitDefEqProofs (disch := omega) only [sseq, sbind, sbind_def, spure, spure_def, slift, slift_def, val1, app1_eq, Res.ok_bind, Res.bind_assoc, ofOpt_some, nb_ok, ite_app]) (okp_nx ?_)
          rw [if_pos (by omega)]; omega
        · refine okp_sseq false (s := ()) (and_t (by simp -implicitDefEqProofs (disch := omega) only [sseq, sbind, sbind_def, spure, spure_def, slift, slift_def, val1, app1_eq, Res.ok_bind, Res.bind_assoc, ofOpt_some, nb_ok, ite_app, decide_eq_true g2]) (by simp -implicitDefEqProofs (disch := omega) only [sseq, sbind, sbind_def, spure, spure_def, slift, slift_def, val1, app1_eq, Res.ok_bind, Res.bind_assoc, ofOpt_some, nb_ok, ite_app, decide_eq_false (show ¬ turn n here = W by rw [es]; exact m4 _ (by omega) (by omega))])) ?_
          rw [if_neg (by decide)]
          exact okp_nx (by rw [if_neg (by omega)]; exact g2)
    · rintro j hj
      refine okp_sseq false (s := ()) ?_ ?_
      · by_cases he : i + 1 = W.length
        · refine and_t (by simp -implicitDefEqProofs (disch := omega) only [sseq, sbind, sbind_def, spure, spure_def, slift, slift_def, val1, app1_eq, Res.ok_bind, Res.bind_assoc, ofOpt_some, nb_ok, ite_app, decide_eq_true (show x + 1 = (W.length : Int) by omega)]) ?_
          refine sbi (turn n here) () rfl ?_
          refine sbi (W.map fun x => (n : Int) - x) () ?_ ?_
          · refine sbi W () rfl ?_
            rw [← hW]; exact map_cI _
          · simp -implicitDefEqProofs (disch := omega) only [sseq, sbind, sbind_def, spure, spure_def, slift, slift_def, val1, app1_eq, Res.ok_bind, Res.bind_assoc, ofOpt_some, nb_ok, ite_app, decide_eq_true (show turn n here = W.map fun x => (n : Int) - x by rw [es, he, itT_len]), Bool.not_true]
        · exact and_f (by simp -implicitDefEqProofs (disch := omega) only [sseq, sbind, sbind_def, spure, spure_def, slift, slift_def, val1, app1_eq, Res.ok_bind, Res.bind_assoc, ofOpt_some, nb_ok, ite_app, decide_eq_false (show ¬ x + 1 = (W.length : Int) by omega)])
      rw [if_neg (by decide)]
      exact okp_nx ⟨es, hj⟩
  rintro ⟨here, found⟩ ⟨g1, g2⟩
  simp only at g1 g2
  rw [hL] at g1 g2
  rw [itT_two] at g1
  rw [if_pos m2] at g2
  refine okp_sseq (m : Int) (s := ()) (by simp -implicitDefEqProofs (disch := omega) only [sseq, sbind, sbind_def, spure, spure_def, slift, slift_def, val1, app1_eq, Res.ok_bind, Res.bind_assoc, ofOpt_some, nb_ok, ite_app, q_round n hc (by omega) m1 (by omega) m3 m4]) ?_
  refine okp_sseq false (s := ()) ?_ ?_
  · refine or_f (by simp -implicitDefEqProofs (disch := omega) only [sseq, sbind, sbind_def, spure, spure_def, slift, slift_def, val1, app1_eq, Res.ok_bind, Res.bind_assoc, ofOpt_some, nb_ok, ite_app, sconv, show m__law_whole (enc (m : Int)) = .ok true from q_whole m, Bool.not_true]) (or_f (by simp -implicitDefEqProofs (disch := omega) only [sseq, sbind, sbind_def, spure, spure_def, slift, slift_def, val1, app1_eq, Res.ok_bind, Res.bind_assoc, ofOpt_some, nb_ok, ite_app, decide_eq_true g2.symm, Bool.not_true]) (or_f (by simp -implicitDefEqProofs (disch := omega) only [sseq, sbind, sbind_def, spure, spure_def, slift, slift_def, val1, app1_eq, Res.ok_bind, Res.bind_assoc, ofOpt_some, nb_ok, ite_app, decide_true, Bool.not_true]) (by simp -implicitDefEqProofs (disch := omega) only [sseq, sbind, sbind_def, spure, spure_def, slift, slift_def, val1, app1_eq, Res.ok_bind, Res.bind_assoc, ofOpt_some, nb_ok, ite_app, decide_eq_true g1, Bool.not_true])))
  rw [if_neg (by decide)]
  refine okp_sseq (0 : Int) (s := ()) rfl ?_
  refine okp_bind (turn n W ++ [0]) (appO_ok (by rw [turn_len hc]; omega)) ?_
  refine okp_sseq true (s := ()) ?_ (okp_rt rfl)
  refine and_t ?_ ?_
  · have hz : (2 * (W.length : Int)) % (m : Int) = 0 := by exact_mod_cast Nat.mod_eq_zero_of_dvd m5
    simp -implicitDefEqProofs (disch := omega) only [sseq, sbind, sbind_def, spure, spure_def, slift, slift_def, val1, app1_eq, Res.ok_bind, Res.bind_assoc, ofOpt_some, nb_ok, ite_app, mulO_ok, modO_ok, hz, decide_true]
  · refine sbi (turn n W) () (by simp -implicitDefEqProofs (disch := omega) only [sseq, sbind, sbind_def, spure, spure_def, slift, slift_def, val1, app1_eq, Res.ok_bind, Res.bind_assoc, ofOpt_some, nb_ok, ite_app, q_turn n hc (by omega)]) ?_
    exact sbi (turn n W) () (q_tx n hc (by omega)) (by simp -implicitDefEqProofs (disch := omega) only [sseq, sbind, sbind_def, spure, spure_def, slift, slift_def, val1, app1_eq, Res.ok_bind, Res.bind_assoc, ofOpt_some, nb_ok, ite_app, decide_true])
end K25

set_option Elab.async false
set_option linter.all false
set_option maxRecDepth 20000
namespace K25
open PySem PySem.Spec PyProof.Rows L2 DL DL.Enc Bub
theorem q_sorder (n : Nat) (hn : n ≤ 1000) : m_sorted_order n = .ok (jars 0 n) := by
  refine Okp.eq ?_
  unfold m_sorted_order M_sorted_order
  exact okp_fn (okp_sseq (jars 0 n) (s := ()) (by rw [← jars_rangeL]; simp -implicitDefEqProofs (disch := omega) only [sseq, sbind, sbind_def, spure, spure_def, slift, slift_def, val1, app1_eq, Res.ok_bind, Res.bind_assoc, ofOpt_some, nb_ok, ite_app, rangeO_ok]) (okp_rt rfl))

def wrgF (row : List Int) (i : Nat) : List (Int × Int) := ((rangeL 0 (i : Nat)).filter (fun k => decide (row.getD i 0 < row.getD k.toNat 0))).map (fun k => (row.getD i 0, row.getD k.toNat 0))
def wrg (row : List Int) : Nat → List (Int × Int)
  | 0 => []
  | i + 1 => wrg row i ++ wrgF row i
theorem wrgF_le (row : List Int) (i : Nat) : (wrgF row i).length ≤ i := by
  unfold wrgF
  rw [List.length_map]
  exact Nat.le_trans (List.length_filter_le _ _) (by rw [rangeL_length]; omega)
theorem wrg_le (row : List Int) : ∀ i : Nat, (wrg row i).length ≤ i * i
  | 0 => Nat.le_refl _
  | i + 1 => by
    have h1 := wrg_le row i
    have h2 := wrgF_le row i
    show (wrg row i ++ wrgF row i).length ≤ (i + 1) * (i + 1)
    rw [List.length_append, Nat.add_mul, Nat.mul_add]; omega
theorem wrg_len (row : List Int) : ∀ i : Nat, i ≤ row.length → (wrg row i).length = ((lc [] row).take i).sum
  | 0, _ => rfl
  | i + 1, h => by
    have h1 := wrg_len row i (by omega)
    have hr : row[i]? = some (row.getD i 0) := by rw [List.getD_eq_getElem?_getD, List.getElem?_eq_getElem (show i < row.length by omega)]; rfl
    have hc := lc_get hr
    have e2 : rangeL 0 (i : Nat) = (List.range i).map fun (i : Nat) => (i : Int) := by
      unfold rangeL
      rw [show ((i : Nat) - 0 : Int).toNat = i from by omega]
      simp
    have hlen := filt_range row (fun z => decide (row.getD i 0 < z)) i (by omega)
    rw [← e2] at hlen
    show (wrg row i ++ wrgF row i).length = _
    unfold wrgF
    rw [List.length_append, h1, List.length_map, hlen, List.take_add_one, hc]
    simp
theorem wrg_inv (row : List Int) : (psort (wrg row row.length)).length = inv row := by
  rw [(psort_perm _).length_eq, wrg_len row _ (Nat.le_refl _), List.take_of_length_le (by rw [lc_length]; exact Nat.le_refl _), lc_inv0]
theorem q_wrong (row : List Int) (h : row.length ≤ 100) : m_wrong_jars row = .ok (psort (wrg row row.length)) := by
  refine Okp.eq ?_
  unfold m_wrong_jars
  refine okp_fn ?_
  unfold M_wrong_jars
  refine okp_sseq [] rfl ?_
  refine okp_seqC ?_
  refine okp_sseq (rangeL 0 row.length) (s := ()) (by simp -implicitDefEqProofs (disch := omega) only [sseq, sbind, sbind_def, spure, spure_def, slift, slift_def, val1, app1_eq, Res.ok_bind, Res.bind_assoc, ofOpt_some, nb_ok, ite_app, rangeO_ok]) ?_
  have hL : (rangeL 0 row.length).length = row.length := by rw [rangeL_length]; omega
  refine okp_for (fun i g => g = wrg row i) rfl ?_ ?_
  · rintro i j g hj rfl
    have ej := rangeL_get hj
    obtain ⟨hi, _⟩ := List.getElem?_eq_some_iff.mp hj
    rw [hL] at hi
    have hr : row[i]? = some (row.getD i 0) := by rw [List.getD_eq_getElem?_getD, List.getElem?_eq_getElem hi]; rfl
    have b1 := wrg_le row i
    have b2 := wrgF_le row i
    have hii : i * i ≤ 100 * 100 := Nat.mul_le_mul (by omega) (by omega)
    have hx : ofOpt (L2.atI row j) = .ok (row.getD i 0) := atI_get (j := i) (by omega) hr
    rw [show j = (i : Int) from by omega] at hx ⊢
    have hc : (sbind (sbind (spure (i : Int)) fun n => slift (ofOpt (rangeO 0 n))) fun xs => compS (fun (x6 : Int) => (sbind (sbind (spure (row : (List Int))) fun x => sbind (spure (x6 : Int)) fun y => slift (ofOpt (L2.atI x y))) fun x => sbind (sbind (spure (row : (List Int))) fun x => sbind (spure (i : Int)) fun y => slift (ofOpt (L2.atI x y))) fun y => spure (decide (y < x)))) (fun (x6 : Int) => (sbind (sbind (spure (row : (List Int))) fun x => sbind (spure (i : Int)) fun y => slift (ofOpt (L2.atI x y))) fun x => sbind (sbind (spure (row : (List Int))) fun x => sbind (spure (x6 : Int)) fun y => slift (ofOpt (L2.atI x y))) fun y => spure (x, y))) xs) () = .ok (wrgF row i, ()) := by
      refine sbi (rangeL 0 (i : Nat)) () (by simp -implicitDefEqProofs (disch := omega) only [sseq, sbind, sbind_def, spure, spure_def, slift, slift_def, val1, app1_eq, Res.ok_bind, Res.bind_assoc, ofOpt_some, nb_ok, ite_app, rangeO_ok]) ?_
      refine compS_ok _ _ ?_ ?_
      · intro z hz
        have := mem_rangeL.mp hz
        simp -implicitDefEqProofs (disch := omega) only [sseq, sbind, sbind_def, spure, spure_def, slift, slift_def, val1, app1_eq, Res.ok_bind, Res.bind_assoc, ofOpt_some, nb_ok, ite_app, hx]
        simp -implicitDefEqProofs (disch := omega) only [sseq, sbind, sbind_def, spure, spure_def, slift, slift_def, val1, app1_eq, Res.ok_bind, Res.bind_assoc, ofOpt_some, nb_ok, ite_app, atI_ok (0 : Int)]
      · intro z hz _
        have := mem_rangeL.mp hz
        simp -implicitDefEqProofs (disch := omega) only [sseq, sbind, sbind_def, spure, spure_def, slift, slift_def, val1, app1_eq, Res.ok_bind, Res.bind_assoc, ofOpt_some, nb_ok, ite_app, hx]
        simp -implicitDefEqProofs (disch := omega) only [sseq, sbind, sbind_def, spure, spure_def, slift, slift_def, val1, app1_eq, Res.ok_bind, Res.bind_assoc, ofOpt_some, nb_ok, ite_app, atI_ok (0 : Int)]
    refine okp_sseq (wrgF row i) (s := ()) hc ?_
    rw [extO_ok (by omega) (by omega)]
    exact okp_nx rfl
  · rintro g rfl
    rw [hL]
    exact okp_sseq (psort (wrg row row.length)) (s := ()) (by simp -implicitDefEqProofs (disch := omega) only [sseq, sbind, sbind_def, spure, spure_def, slift, slift_def, val1, app1_eq, Res.ok_bind, Res.bind_assoc, ofOpt_some, nb_ok, ite_app]) (okp_rt rfl)
theorem q_lm (row : List Int) (h : row.length ≤ 1000) : m_last_members row = .ok ((fallsN row).map fun k : Nat => (k : Int)) := by
  refine Okp.eq ?_
  unfold m_last_members
  refine okp_fn ?_
  unfold M_last_members
  refine okp_sseq ((fallsN row).map fun k : Nat => (k : Int)) (s := ()) ?_ (okp_rt rfl)
  rw [← falls_rangeL]
  refine sbi (rangeL 1 row.length) () (by simp -implicitDefEqProofs (disch := omega) only [sseq, sbind, sbind_def, spure, spure_def, slift, slift_def, val1, app1_eq, Res.ok_bind, Res.bind_assoc, ofOpt_some, nb_ok, ite_app, rangeO_ok]) ?_
  refine (compS_ok (fun k => decide (row.getD k.toNat 0 < row.getD (k - 1).toNat 0)) (fun z => z) ?_ fun z _ _ => rfl).trans (by rw [List.map_id'])
  intro z hz
  have := mem_rangeL.mp hz
  simp -implicitDefEqProofs (disch := omega) only [sseq, sbind, sbind_def, spure, spure_def, slift, slift_def, val1, app1_eq, Res.ok_bind, Res.bind_assoc, ofOpt_some, nb_ok, ite_app, atI_ok (0 : Int)]
theorem q_lmT (row : List Int) (h : row.length ≤ 1000) : m_last_members__T ⟨row⟩ = .ok ((fallsN row).map fun k : Nat => (k : Int)) := by
  refine Okp.eq ?_
  unfold m_last_members__T
  refine okp_fn ?_
  unfold M_last_members__T
  refine okp_sseq ((fallsN row).map fun k : Nat => (k : Int)) (s := ()) ?_ (okp_rt rfl)
  rw [← falls_rangeL]
  refine sbi (rangeL 1 row.length) () (by simp -implicitDefEqProofs (disch := omega) only [sseq, sbind, sbind_def, spure, spure_def, slift, slift_def, val1, app1_eq, Res.ok_bind, Res.bind_assoc, ofOpt_some, nb_ok, ite_app, rangeO_ok, List.length_map]) ?_
  refine (compS_ok (fun k => decide (row.getD k.toNat 0 < row.getD (k - 1).toNat 0)) (fun z => z) ?_ fun z _ _ => rfl).trans (by rw [List.map_id'])
  intro z hz
  have := mem_rangeL.mp hz
  simp -implicitDefEqProofs (disch := omega) only [sseq, sbind, sbind_def, spure, spure_def, slift, slift_def, val1, app1_eq, Res.ok_bind, Res.bind_assoc, ofOpt_some, nb_ok, ite_app, atI_ok (0 : Int)]


theorem q_places {n : Nat} {row : List Int} (h : row.Perm (jars 0 n)) (hn : n ≤ 1000) : m_places_of row = .ok (places row) := by
  have hl := perm_len h
  refine Okp.eq ?_
  unfold m_places_of
  refine okp_fn ?_
  unfold M_places_of
  refine okp_sseq (places row) (s := ()) ?_ (okp_rt rfl)
  refine sbi (jars 0 row.length) () (by simp -implicitDefEqProofs (disch := omega) only [sseq, sbind, sbind_def, spure, spure_def, slift, slift_def, val1, app1_eq, Res.ok_bind, Res.bind_assoc, ofOpt_some, nb_ok, ite_app, q_sorder row.length (by omega)]) ?_
  refine compS_okM _ fun z hz => ?_
  rw [hl] at hz
  simp -implicitDefEqProofs (disch := omega) only [sseq, sbind, sbind_def, spure, spure_def, slift, slift_def, val1, app1_eq, Res.ok_bind, Res.bind_assoc, ofOpt_some, nb_ok, ite_app, indexO_ok (h.mem_iff.mpr hz)]
theorem q_fm {n : Nat} {row : List Int} (h : row.Perm (jars 0 n)) (hn : n ≤ 1000) : m_first_members row = .ok ((fm row).map fun k : Nat => (k : Int)) := by
  have hl := perm_len h
  refine Okp.eq ?_
  unfold m_first_members
  refine okp_fn ?_
  unfold M_first_members
  exact okp_sseq ((fm row).map fun k : Nat => (k : Int)) (s := ()) (by simp -implicitDefEqProofs (disch := omega) only [sseq, sbind, sbind_def, spure, spure_def, slift, slift_def, val1, app1_eq, Res.ok_bind, Res.bind_assoc, ofOpt_some, nb_ok, ite_app, q_places h hn, q_lm (places row) (by rw [places_len]; omega)]; rfl) (okp_rt rfl)
theorem getD_tau (k : Nat) (x : Int) : getD (putD (putD [] (k : Int) ((k : Int) + 1)) ((k : Int) + 1) (k : Int)) x x = tau k x := by
  have e : putD (putD [] (k : Int) ((k : Int) + 1)) ((k : Int) + 1) (k : Int) = [((k : Int), (k : Int) + 1), ((k : Int) + 1, (k : Int))] := by
    have e1 : putD ([] : List (Int × Int)) (k : Int) ((k : Int) + 1) = [((k : Int), (k : Int) + 1)] := rfl
    rw [e1]
    unfold putD
    rw [if_neg]
    · rfl
    · simp only [List.any_cons, List.any_nil, Bool.or_false, decide_eq_true_eq]; omega
  rw [e]
  unfold getD tau
  by_cases h1 : x = k
  · rw [List.find?_cons_of_pos (by simp only [decide_eq_true_eq]; exact h1.symm), if_pos h1]; rfl
  · rw [List.find?_cons_of_neg (by simp only [decide_eq_true_eq]; omega), if_neg h1]
    by_cases h2 : x = k + 1
    · rw [List.find?_cons_of_pos (by simp only [decide_eq_true_eq]; exact h2.symm), if_pos h2]; rfl
    · rw [List.find?_cons_of_neg (by simp only [decide_eq_true_eq]; omega), if_neg h2]; rfl
theorem q_wof (row : List Int) (k : Nat) : m_without_first row k = .ok (vs k row) := by
  refine Okp.eq ?_
  unfold m_without_first
  refine okp_fn ?_
  unfold M_without_first
  refine okp_sseq (putD (putD [] (k : Int) ((k : Int) + 1)) ((k : Int) + 1) (k : Int)) (s := ()) (by simp -implicitDefEqProofs (disch := omega) only [sseq, sbind, sbind_def, spure, spure_def, slift, slift_def, val1, app1_eq, Res.ok_bind, Res.bind_assoc, ofOpt_some, nb_ok, ite_app]) ?_
  refine okp_sseq (vs k row) (s := ()) ?_ (okp_rt rfl)
  refine sbi row () rfl ?_
  refine compS_okM (tau k) fun z _ => ?_
  simp -implicitDefEqProofs (disch := omega) only [sseq, sbind, sbind_def, spure, spure_def, slift, slift_def, val1, app1_eq, Res.ok_bind, Res.bind_assoc, ofOpt_some, nb_ok, ite_app, getD_tau]
def wsum (f : List Int → Int) (m : List (Tup Int × Int)) : Int := (m.map fun p => p.2 * f p.1.l).sum
theorem getT_none {m : List (Tup Int × Int)} {k : Tup Int} (h : (m.any fun p => decide (p.1.l = k.l)) = false) : getT m k 0 = 0 := by
  unfold getT
  have : m.find? (fun p => decide (p.1.l = k.l)) = none := by
    rw [List.find?_eq_none]
    intro p hp
    have := List.any_eq_false.mp h p hp
    simpa using this
  rw [this]; rfl
theorem wsum_map (f : List Int → Int) (k : Tup Int) (v : Int) : ∀ m : List (Tup Int × Int), (m.map (·.1.l)).Nodup → (m.any fun p => decide (p.1.l = k.l)) = true →
    wsum f (m.map fun p => if p.1.l = k.l then (p.1, v) else p) + getT m k 0 * f k.l = wsum f m + v * f k.l
  | [], _, h => by cases h
  | p :: m, nd, h => by
    rw [List.map_cons, List.nodup_cons] at nd
    unfold wsum getT
    by_cases e : p.1.l = k.l
    · have same : m.map (fun p => if p.1.l = k.l then (p.1, v) else p) = m := by
        conv => rhs; rw [← List.map_id m]
        apply List.map_congr_left
        intro q hq
        rw [if_neg]; rfl
        intro z
        exact nd.1 (by rw [e, ← z]; exact List.mem_map.mpr ⟨q, hq, rfl⟩)
      rw [List.map_cons, if_pos e, same, List.map_cons, List.sum_cons, List.map_cons, List.sum_cons, List.find?_cons_of_pos (by simpa using e)]
      show v * f p.1.l + (m.map fun p => p.2 * f p.1.l).sum + p.2 * f k.l = p.2 * f p.1.l + (m.map fun p => p.2 * f p.1.l).sum + v * f k.l
      rw [e]; omega
    · have h2 : (m.any fun p => decide (p.1.l = k.l)) = true := by
        rw [List.any_cons, show decide (p.1.l = k.l) = false from decide_eq_false e, Bool.false_or] at h; exact h
      have ih := wsum_map f k v m nd.2 h2
      unfold wsum getT at ih
      rw [List.map_cons, if_neg e, List.map_cons, List.sum_cons, List.map_cons, List.sum_cons, List.find?_cons_of_neg (by simpa using e)]
      omega
/-- one entry more: all weighed sums grow -/
theorem putT_sum {m : List (Tup Int × Int)} (nd : (m.map (·.1.l)).Nodup) (k : Tup Int) (c : Int) (f : List Int → Int) : wsum f (putT m k (getT m k 0 + c)) = wsum f m + c * f k.l := by
  unfold putT
  by_cases h : (m.any fun p => decide (p.1.l = k.l)) = true
  · rw [if_pos h]
    have := wsum_map f k (getT m k 0 + c) m nd h
    rw [Int.add_mul] at this
    omega
  · rw [if_neg h, getT_none (by simpa using h)]
    unfold wsum
    rw [List.map_append, List.sum_append]
    simp
theorem putT_nodup {m : List (Tup Int × Int)} (nd : (m.map (·.1.l)).Nodup) (k : Tup Int) (v : Int) : ((putT m k v).map (·.1.l)).Nodup := by
  unfold putT
  by_cases h : (m.any fun p => decide (p.1.l = k.l)) = true
  · rw [if_pos h, List.map_map]
    have e : ((fun x : Tup Int × Int => x.1.l) ∘ fun p => if p.1.l = k.l then (p.1, v) else p) = fun x : Tup Int × Int => x.1.l := by
      funext p
      simp only [Function.comp]
      split <;> rfl
    rw [e]; exact nd
  · rw [if_neg h, List.map_append, List.map_cons, List.map_nil, List.nodup_append]
    refine ⟨nd, List.nodup_cons.mpr ⟨List.not_mem_nil, List.nodup_nil⟩, fun a ha b hb => ?_⟩
    rw [List.mem_singleton.mp hb]
    intro e
    obtain ⟨p, hp, rfl⟩ := List.mem_map.mp ha
    exact h (List.any_eq_true.mpr ⟨p, hp, by simpa using e⟩)
theorem putT_len (m : List (Tup Int × Int)) (k : Tup Int) (v : Int) : (putT m k v).length ≤ m.length + 1 := by
  unfold putT
  split
  · rw [List.length_map]; omega
  · rw [List.length_append]; exact Nat.le_refl _
theorem putT_mem {m : List (Tup Int × Int)} {k : Tup Int} {v : Int} {P : List Int → Prop} (h : ∀ p ∈ m, P p.1.l) (hk : P k.l) : ∀ p ∈ putT m k v, P p.1.l := by
  unfold putT
  split
  · intro p hp
    obtain ⟨q, hq, rfl⟩ := List.mem_map.mp hp
    split <;> exact h q hq
  · intro p hp
    rcases List.mem_append.mp hp with hp | hp
    · exact h p hp
    · rw [List.mem_singleton.mp hp]; exact hk
def TT (f : List Int → Int) (row : List Int) : Int := ((fallsN row).map fun j => f (sw j row)).sum
theorem TT_nw (k : Nat) (row : List Int) : TT (fun r => (nw k r : Int)) row = (nw (k + 1) row : Nat) := by
  have e : nw (k + 1) row = ((fallsN row).map fun j => nw k (sw j row)).sum := rfl
  rw [e]
  unfold TT
  generalize fallsN row = l
  induction l with
  | nil => rfl
  | cons a l ih =>
    rw [List.map_cons, List.sum_cons, List.map_cons, List.sum_cons, ih]
    show ((nw k (sw a row) : Nat) : Int) + ((l.map fun j => nw k (sw j row)).sum : Nat) = ((nw k (sw a row) + (l.map fun j => nw k (sw j row)).sum : Nat) : Int)
    omega

theorem putO_ok {m : List (Tup Int × Int)} {k : Tup Int} {v : Int} (h : (m.length : Int) ≤ 8000000) : ofOpt (putO m k v) = .ok (putT m k v) := by
  unfold putO; rw [chk_pos (by omega)]; rfl
theorem wsum_take {f : List Int → Int} {m : List (Tup Int × Int)} {i : Nat} {p : Tup Int × Int} (h : m[i]? = some p) : wsum f (m.take (i + 1)) = wsum f (m.take i) + p.2 * f p.1.l := by
  unfold wsum
  rw [List.take_add_one, h, List.map_append, List.sum_append]; simp
theorem sum_take (f : List Int → Int) (row : List Int) {l : List Nat} {i j : Nat} (h : l[i]? = some j) : ((l.take (i + 1)).map fun j => f (sw j row)).sum = ((l.take i).map fun j => f (sw j row)).sum + f (sw j row) := by
  rw [List.take_add_one, h, List.map_append, List.sum_append]; simp
/-- ways behind j steps -/
theorem fact_le {n : Nat} (h : n ≤ 9) : fact n ≤ 362880 := by
  rcases (by omega : n = 0 ∨ n = 1 ∨ n = 2 ∨ n = 3 ∨ n = 4 ∨ n = 5 ∨ n = 6 ∨ n = 7 ∨ n = 8 ∨ n = 9) with rfl | rfl | rfl | rfl | rfl | rfl | rfl | rfl | rfl | rfl <;> decide
theorem keys_len {row : List Int} (h : row.length ≤ 9) {m : List (Tup Int × Int)} (nd : (m.map (·.1.l)).Nodup) (rl : ∀ p ∈ m, p.1.l.Perm row) : m.length ≤ 362880 := by
  have h1 := rows_len (L := m.map (·.1.l)) (row := row) nd fun r hr => by
    obtain ⟨p, hp, rfl⟩ := List.mem_map.mp hr
    exact rl p hp
  rw [List.length_map] at h1
  exact Nat.le_trans h1 (fact_le h)
structure Ways (row : List Int) (j : Nat) (m : List (Tup Int × Int)) : Prop where
  nd : (m.map (·.1.l)).Nodup
  rl : ∀ p ∈ m, p.1.l.Perm row
  sum : ∀ k, wsum (fun r => (nw k r : Int)) m = (nw (k + j) row : Nat)
theorem q_count (row : List Int) (h : row.length ≤ 9) : m_count_spellings row = .ok ((nw (inv row) row : Nat) : Int) := by
  refine Okp.eq ?_
  unfold m_count_spellings
  refine okp_fn ?_
  unfold M_count_spellings
  refine okp_sseq [(⟨row⟩, 1)] (s := ()) (by simp -implicitDefEqProofs (disch := omega) only [sseq, sbind, sbind_def, spure, spure_def, slift, slift_def, val1, app1_eq, Res.ok_bind, Res.bind_assoc, ofOpt_some, nb_ok, ite_app]) ?_
  refine okp_seqC ?_
  refine okp_sseq (psort (wrg row row.length)) (s := ()) (by simp -implicitDefEqProofs (disch := omega) only [sseq, sbind, sbind_def, spure, spure_def, slift, slift_def, val1, app1_eq, Res.ok_bind, Res.bind_assoc, ofOpt_some, nb_ok, ite_app, q_wrong row (by omega)]) ?_
  refine okp_for (fun j g => Ways row j g) ⟨by simp, fun p hp => by rw [List.mem_singleton.mp hp], fun k => by simp [wsum]⟩ ?_ ?_
  · rintro j x ways hx W
    have hwl := keys_len h W.nd W.rl
    refine okp_sseq [] (s := ()) (by simp -implicitDefEqProofs (disch := omega) only [sseq, sbind, sbind_def, spure, spure_def, slift, slift_def, val1, app1_eq, Res.ok_bind, Res.bind_assoc, ofOpt_some, nb_ok, ite_app]) ?_
    refine okp_seqC ?_
    refine okp_sseq ways (s := ()) ?_ ?_
    · show ofOpt (chk (ways.length ≤ 16777216) ways) >>= _ = _
      rw [chk_pos (by omega)]; rfl
    refine okp_for (fun i g => (g.map (·.1.l)).Nodup ∧ (∀ p ∈ g, p.1.l.Perm row) ∧ ∀ f, wsum f g = wsum (TT f) (ways.take i)) ⟨List.nodup_nil, (fun p hp => absurd hp List.not_mem_nil), fun f => rfl⟩ ?_ ?_
    · rintro i ⟨⟨here⟩, many⟩ g hk ⟨g1, g3, g4⟩
      have hper : here.Perm row := W.rl _ (List.mem_of_getElem? hk)
      have hlen : here.length = row.length := hper.length_eq
      refine okp_seqC ?_
      refine okp_sseq ((fallsN here).map fun k : Nat => (k : Int)) (s := ()) (by simp -implicitDefEqProofs (disch := omega) only [sseq, sbind, sbind_def, spure, spure_def, slift, slift_def, val1, app1_eq, Res.ok_bind, Res.bind_assoc, ofOpt_some, nb_ok, ite_app, q_lmT here (by omega)]) ?_
      refine okp_for (fun i2 g => (g.map (·.1.l)).Nodup ∧ (∀ p ∈ g, p.1.l.Perm row) ∧ ∀ f, wsum f g = wsum (TT f) (ways.take i) + many * (((fallsN here).take i2).map fun j => f (sw j here)).sum) ⟨g1, g3, fun f => by rw [g4]; simp⟩ ?_ ?_
      · rintro i2 z g hz ⟨a1, a3, a4⟩
        rw [List.getElem?_map] at hz
        obtain ⟨k, hkf, rfl⟩ := Option.map_eq_some_iff.mp hz
        obtain ⟨f1, f2, _⟩ := fall_mem.mp (List.mem_of_getElem? hkf)
        have hgl := keys_len h a1 a3
        have hc : ofOpt (chk (here.length ≤ 16777216) here) = .ok here := by rw [chk_pos (by omega)]; rfl
        refine okp_sseq (⟨sw k here⟩ : Tup Int) (s := ()) (by simp -implicitDefEqProofs (disch := omega) only [sseq, sbind, sbind_def, spure, spure_def, slift, slift_def, val1, app1_eq, Res.ok_bind, Res.bind_assoc, ofOpt_some, nb_ok, ite_app, hc, q_exch here rfl (by omega) k f1 f2]) ?_
        refine okp_bind (getT g ⟨sw k here⟩ 0 + many) (by simp -implicitDefEqProofs (disch := omega) only [sseq, sbind, sbind_def, spure, spure_def, slift, slift_def, val1, app1_eq, Res.ok_bind, Res.bind_assoc, ofOpt_some, nb_ok, ite_app]) ?_
        refine okp_bind (⟨sw k here⟩ : Tup Int) (by simp -implicitDefEqProofs (disch := omega) only [sseq, sbind, sbind_def, spure, spure_def, slift, slift_def, val1, app1_eq, Res.ok_bind, Res.bind_assoc, ofOpt_some, nb_ok, ite_app]) ?_
        refine okp_bind (putT g ⟨sw k here⟩ (getT g ⟨sw k here⟩ 0 + many)) (putO_ok (by omega)) ?_
        refine okp_nx ⟨putT_nodup a1 _ _, putT_mem (P := fun r => r.Perm row) a3 ((sw_perm f1 f2).trans hper), fun f => ?_⟩
        rw [putT_sum a1, a4, sum_take f here hkf, Int.mul_add]
        show _ + many * f (sw k here) = _
        omega
      · rintro g ⟨a1, a3, a4⟩
        rw [List.length_map] at a4
        refine okp_nx ⟨a1, a3, fun f => ?_⟩
        rw [a4, wsum_take hk, List.take_length]; rfl
    · rintro g ⟨a1, a3, a4⟩
      rw [List.take_length] at a4
      refine okp_sseq g (s := ()) rfl (okp_nx ⟨a1, a3, fun k => ?_⟩)
      rw [a4]
      have e : TT (fun r => (nw k r : Int)) = fun r => (nw (k + 1) r : Int) := funext fun r => TT_nw k r
      rw [e, W.sum, show k + 1 + j = k + (j + 1) from by omega]
  · rintro ways W
    rw [wrg_inv] at W
    have hwl := keys_len h W.nd W.rl
    refine okp_sseq ((nw (inv row) row : Nat) : Int) (s := ()) ?_ (okp_rt rfl)
    refine sbi (ways.map (·.2)) () ?_ ?_
    · refine sbi (ways.map (·.2)) () ?_ ?_
      · have hch : ofOpt (chk (ways.length ≤ 16777216) (ways.map (·.2))) = .ok (ways.map (·.2)) := by rw [chk_pos (by omega)]; rfl
        simp -implicitDefEqProofs (disch := omega) only [sseq, sbind, sbind_def, spure, spure_def, slift, slift_def, val1, app1_eq, Res.ok_bind, Res.bind_assoc, ofOpt_some, nb_ok, ite_app, hch]
      · exact (compS_okM (fun z => z) fun z _ => by simp -implicitDefEqProofs (disch := omega) only [sseq, sbind, sbind_def, spure, spure_def, slift, slift_def, val1, app1_eq, Res.ok_bind, Res.bind_assoc, ofOpt_some, nb_ok, ite_app]).trans (by rw [List.map_id'])
    · have := W.sum 0
      rw [Nat.zero_add] at this
      rw [← this]
      have e : wsum (fun r => (nw 0 r : Int)) ways = (ways.map (·.2)).sum := by
        unfold wsum
        exact congrArg List.sum (List.map_congr_left (f := fun p : Tup Int × Int => p.2 * ((nw 0 p.1.l : Nat) : Int)) (g := fun p : Tup Int × Int => p.2) fun p _ => Int.mul_one p.2)
      simp -implicitDefEqProofs (disch := omega) only [sseq, sbind, sbind_def, spure, spure_def, slift, slift_def, val1, app1_eq, Res.ok_bind, Res.bind_assoc, ofOpt_some, nb_ok, ite_app, e]
theorem take_flat {α β : Type} (F : α → List β) {l : List α} {i : Nat} {x : α} (h : l[i]? = some x) : (l.take (i + 1)).flatMap F = (l.take i).flatMap F ++ F x := by
  rw [List.take_add_one, h, List.flatMap_append]; simp
theorem catO_big {α : Type} {xs ys : List α} (h : (xs.length : Int) ≤ 8000000) (h2 : (ys.length : Int) ≤ 8000000) : ofOpt (catO xs ys) = .ok (xs ++ ys) := by
  unfold catO; rw [chk_pos (by show _ ≤ 2 ^ 24; omega)]; rfl
theorem stL_len {n : Nat} {p : List Int × List Int} (h : p.2.Perm (jars 0 n)) : (stL p).length ≤ n := by
  unfold stL fm
  rw [List.length_map]
  have := falls_len (places p.2)
  rw [places_len, perm_len h] at this
  omega
theorem wL_iter {row : List Int} : (iterL (inv row) [([], row)]).map (·.1) = wL row := by
  rw [iterL_words, List.flatMap_singleton]
  unfold wL
  exact List.map_congr_left fun u _ => List.nil_append _
theorem wL_len {n : Nat} {row : List Int} (h : row.Perm (jars 0 n)) : (wL row).length = nw (inv row) row := by
  unfold wL
  rw [List.length_map, WL_len h]
theorem q_allsp {n : Nat} {row : List Int} (hn : n ≤ 9) (h : row.Perm (jars 0 n)) (hm : nw (inv row) row ≤ 300) : m_all_spellings row = .ok (wL row) := by
  have hl := perm_len h
  have h36 := inv36 hn h
  refine Okp.eq ?_
  unfold m_all_spellings
  refine okp_fn ?_
  unfold M_all_spellings
  refine okp_sseq false (s := ()) (by simp -implicitDefEqProofs (disch := omega) only [sseq, sbind, sbind_def, spure, spure_def, slift, slift_def, val1, app1_eq, Res.ok_bind, Res.bind_assoc, ofOpt_some, nb_ok, ite_app, q_count row (by omega), decide_eq_false (show ¬ (300 : Int) < ((nw (inv row) row : Nat) : Int) by omega)]) ?_
  rw [if_neg (by decide)]
  refine okp_sseq [([], row)] (s := ()) (by simp -implicitDefEqProofs (disch := omega) only [sseq, sbind, sbind_def, spure, spure_def, slift, slift_def, val1, app1_eq, Res.ok_bind, Res.bind_assoc, ofOpt_some, nb_ok, ite_app]) ?_
  refine okp_seqC ?_
  refine okp_sseq (psort (wrg row row.length)) (s := ()) (by simp -implicitDefEqProofs (disch := omega) only [sseq, sbind, sbind_def, spure, spure_def, slift, slift_def, val1, app1_eq, Res.ok_bind, Res.bind_assoc, ofOpt_some, nb_ok, ite_app, q_wrong row (by omega)]) ?_
  have hz : ∀ j, j ≤ inv row → (iterL j [([], row)]).length ≤ 300 := fun j hj => Nat.le_trans (iterL_len h hj) (by rw [WL_len h]; exact hm)
  refine okp_for (fun i g => g = iterL i [([], row)]) rfl ?_ ?_
  · rintro i x g hx rfl
    obtain ⟨hi, _⟩ := List.getElem?_eq_some_iff.mp hx
    rw [wrg_inv] at hi
    have b2 := iterL_ok h i (by omega)
    have hz0 := hz i (by omega)
    have hz1 := hz (i + 1) (by omega)
    rw [iterL_succ] at hz1
    refine okp_sseq [] (s := ()) (by simp -implicitDefEqProofs (disch := omega) only [sseq, sbind, sbind_def, spure, spure_def, slift, slift_def, val1, app1_eq, Res.ok_bind, Res.bind_assoc, ofOpt_some, nb_ok, ite_app]) ?_
    refine okp_seqC ?_
    refine okp_sseq (iterL i [([], row)]) (s := ()) (by simp -implicitDefEqProofs (disch := omega) only [sseq, sbind, sbind_def, spure, spure_def, slift, slift_def, val1, app1_eq, Res.ok_bind, Res.bind_assoc, ofOpt_some, nb_ok, ite_app]) ?_
    refine okp_for (fun k g => g = ((iterL i [([], row)]).take k).flatMap stL) rfl ?_ ?_
    · rintro k ⟨word, here⟩ g hk rfl
      obtain ⟨c1, c2, c3⟩ := b2 _ (List.mem_of_getElem? hk)
      simp only at c1 c2 c3
      have hz3 := stL_len (p := (word, here)) c2
      have hz2 : (((iterL i [([], row)]).take k).flatMap stL).length ≤ ((iterL i [([], row)]).flatMap stL).length := by
        conv => rhs; rw [← List.take_append_drop k (iterL i [([], row)])]
        rw [List.flatMap_append, List.length_append]; omega
      refine okp_sseq (stL (word, here)) (s := ()) ?_ ?_
      · refine sbi ((fm here).map fun k : Nat => (k : Int)) () (by simp -implicitDefEqProofs (disch := omega) only [sseq, sbind, sbind_def, spure, spure_def, slift, slift_def, val1, app1_eq, Res.ok_bind, Res.bind_assoc, ofOpt_some, nb_ok, ite_app, q_fm c2 (by omega)]) ?_
        refine (compS_okM (fun z : Int => (word ++ [z], vs z.toNat here)) ?_).trans (by rw [List.map_map]; rfl)
        intro z hz
        obtain ⟨j, hj, rfl⟩ := List.mem_map.mp hz
        simp -implicitDefEqProofs (disch := omega) only [sseq, sbind, sbind_def, spure, spure_def, slift, slift_def, val1, app1_eq, Res.ok_bind, Res.bind_assoc, ofOpt_some, nb_ok, ite_app, q_wof here j]
        rw [catO_ok (by omega) (by simp)]
        simp -implicitDefEqProofs (disch := omega) only [sseq, sbind, sbind_def, spure, spure_def, slift, slift_def, val1, app1_eq, Res.ok_bind, Res.bind_assoc, ofOpt_some, nb_ok, ite_app, Int.toNat_natCast]
      rw [extO_ok (by omega) (by omega)]
      exact okp_nx (take_flat stL hk).symm
    · rintro g rfl
      rw [List.take_length]
      exact okp_sseq (iterL (i + 1) [([], row)]) (s := ()) (by rw [iterL_succ]) (okp_nx rfl)
  · rintro g rfl
    rw [wrg_inv]
    refine okp_sseq (wL row) (s := ()) ?_ (okp_rt rfl)
    rw [← wL_iter]
    exact sbi (iterL (inv row) [([], row)]) () rfl (compS_okM (fun p : List Int × List Int => p.1) fun z _ => rfl)
def RLc (v_found_2 : List (List Int)) : Res (Ctl (List (List Int)) Empty (List (List Int))) := (sseq ((sbind (spure (60 : Int)) fun n => slift (ofOpt (rangeO 0 n))) ()) fun xs s3 => forR (fun (x5 : Int) (g4 : (List (List Int))) => (sseq ((sbind (spure (x5 : Int)) fun x => sbind (fun s => .ok ((g4.length : Int), s)) fun y => spure (decide (x < y))) ()) fun b s6 => if b = true then (sseq ((sbind (spure (x5 : Int)) fun j s => ofOpt (L2.atI g4 j) >>= fun a => .ok (a, s)) ()) fun v_here_8 s7 => (seqC (sseq ((sbind (sbind (sbind (spure (v_here_8 : (List Int))) fun x => spure ((x.length : Int))) fun x => sbind (spure (1 : Int)) fun y => spure (x - y)) fun n => slift (ofOpt (rangeO 0 n))) ()) fun xs s9 => forR (fun (x11 : Int) (g10 : (List (List Int))) => (sseq ((sbind (sbind (sbind (sbind (spure (v_here_8 : (List Int))) fun x => sbind (spure (x11 : Int)) fun y => slift (ofOpt (L2.atI x y))) fun x => sbind (sbind (spure (v_here_8 : (List Int))) fun x => sbind (sbind (spure (x11 : Int)) fun x => sbind (spure (1 : Int)) fun y => spure (x + y)) fun y => slift (ofOpt (L2.atI x y))) fun y => spure (x - y)) fun x => spure (if x < 0 then -x else x)) fun x => sbind (spure (1 : Int)) fun y => spure (decide (y < x))) ()) fun b s12 => if b = true then (sseq ((sbind (sbind (sbind (spure (v_here_8 : (List Int))) fun x => sbind (spure none) fun i => sbind (sbind (spure (x11 : Int)) fun i => spure (some i)) fun j => spure (cutL x i j)) fun x => sbind (sbind (sbind (spure (v_here_8 : (List Int))) fun x => sbind (sbind (spure (x11 : Int)) fun x => sbind (spure (1 : Int)) fun y => spure (x + y)) fun y => slift (ofOpt (L2.atI x y))) fun a => sbind (sbind (sbind (spure (v_here_8 : (List Int))) fun x => sbind (spure (x11 : Int)) fun y => slift (ofOpt (L2.atI x y))) fun a => sbind (spure ([] : List Int)) fun as => spure (a :: as)) fun as => spure (a :: as)) fun y => slift (ofOpt (catO x y))) fun x => sbind (sbind (spure (v_here_8 : (List Int))) fun x => sbind (sbind (sbind (spure (x11 : Int)) fun x => sbind (spure (2 : Int)) fun y => spure (x + y)) fun i => spure (some i)) fun i => sbind (spure none) fun j => spure (cutL x i j)) fun y => slift (ofOpt (catO x y))) ()) fun v_after_14 s13 => (sseq ((sbind (spure (v_after_14 : (List Int))) fun x s => .ok (!memB x g10, s)) ()) fun b s15 => if b = true then (sseq ((spure (v_after_14 : (List Int))) ()) fun a s16 => ofOpt (appO g10 a) >>= fun v_found_17 => (.ok (.nx v_found_17))) else (.ok (.nx g10)))) else (.ok (.nx g10)))) xs g4) fun (g10 : (List (List Int))) => (.ok (.nx g10)))) else (.ok (.nx g4)))) xs v_found_2)
def RPc (fuel : Nat) (v_met_2 : List (List Int)) (v_step_4 : Int) : Res (Ctl (List (List Int) × Int) Empty (List (List Int))) := (whileR (fun (g5 : (List (List Int)) × Int) => val1 (sbind (spure (g5.2 : Int)) fun x => sbind (fun s => .ok ((g5.1.length : Int), s)) fun y => spure (decide (x < y)))) (fun (g5 : (List (List Int)) × Int) => (sseq ((sbind (spure (g5.2 : Int)) fun j s => ofOpt (L2.atI g5.1 j) >>= fun a => .ok (a, s)) ()) fun v_here_7 s6 => (seqC (sseq ((sbind (sbind (spure (v_here_7 : (List Int))) fun x => spure ((x.length : Int))) fun n => slift (ofOpt (rangeO 0 n))) ()) fun xs s8 => forR (fun (x10 : Int) (g9 : (List (List Int))) => (sseq ((sbind (sbind (spure (v_here_7 : (List Int))) fun a => sbind (sbind (spure (x10 : Int)) fun a => sbind (sbind (spure (PySem.Str.ofString "far")) fun a => sbind (spure ()) fun t => spure (a, t)) fun t => spure (a, t)) fun t => spure (a, t)) fun t => slift (nb (m_may_move t.1 t.2.1 t.2.2.1))) ()) fun b s11 => if b = true then (sseq ((sbind (sbind (spure (v_here_7 : (List Int))) fun a => sbind (sbind (spure (x10 : Int)) fun a => sbind (sbind (spure (PySem.Str.ofString "far")) fun a => sbind (spure ()) fun t => spure (a, t)) fun t => spure (a, t)) fun t => spure (a, t)) fun t => slift (nb (m_do_move t.1 t.2.1 t.2.2.1))) ()) fun v_after_13 s12 => (sseq ((sbind (spure (v_after_13 : (List Int))) fun x s => .ok (!memB x g9, s)) ()) fun b s14 => if b = true then (sseq ((spure (v_after_13 : (List Int))) ()) fun a s15 => ofOpt (appO g9 a) >>= fun v_met_16 => (.ok (.nx v_met_16))) else (.ok (.nx g9)))) else (.ok (.nx g9)))) xs g5.1) fun (g9 : (List (List Int))) => (val1 (spure (1 : Int)) >>= fun b => app1 (fun v_step_17 => (.ok (.nx (g9, v_step_17)))) (g5.2 + b))))) fuel (v_met_2, v_step_4))
def RLa (v_row : List Int) (v_found_2 : List (List Int × List Int)) : Res (Ctl (List (List Int × List Int)) Empty (Option (List (List Int)))) := (sseq ((sbind (sbind (sbind (spure (v_row : (List Int))) fun a => sbind (spure ()) fun t => spure (a, t)) fun t => slift (nb (m__law_wrong t.1))) fun n => slift (ofOpt (rangeO 0 n))) ()) fun xs s3 => forR (fun (x5 : Int) (g4 : (List ((List Int) × (List Int)))) => (sseq ((spure ([] : List ((List Int) × (List Int)))) ()) fun v_longer_7 s6 => (seqC (sseq ((spure (g4 : (List ((List Int) × (List Int))))) ()) fun xs s8 => forR (fun (x10 : ((List Int) × (List Int))) (g9 : (List ((List Int) × (List Int)))) => (seqC (sseq ((sbind (spure (1 : Int)) fun i => sbind (sbind (spure (x10.2 : (List Int))) fun x => spure ((x.length : Int))) fun j => slift (ofOpt (rangeO i j))) ()) fun xs s11 => forR (fun (x13 : Int) (g12 : (List ((List Int) × (List Int)))) => (sseq ((sbind (sbind (spure (x10.2 : (List Int))) fun x => sbind (sbind (spure (x13 : Int)) fun x => sbind (spure (1 : Int)) fun y => spure (x - y)) fun y => slift (ofOpt (L2.atI x y))) fun x => sbind (sbind (spure (x10.2 : (List Int))) fun x => sbind (spure (x13 : Int)) fun y => slift (ofOpt (L2.atI x y))) fun y => spure (decide (y < x))) ()) fun b s14 => if b = true then (sseq ((sbind (sbind (sbind (spure (x13 : Int)) fun a => sbind (spure ([] : List Int)) fun as => spure (a :: as)) fun x => sbind (spure (x10.1 : (List Int))) fun y => slift (ofOpt (catO x y))) fun x => sbind (sbind (sbind (spure (x10.2 : (List Int))) fun a => sbind (sbind (spure (x13 : Int)) fun a => sbind (spure ()) fun t => spure (a, t)) fun t => spure (a, t)) fun t => slift (nb (m__law_swapped t.1 t.2.1))) fun y => spure (x, y)) ()) fun a s15 => ofOpt (appO g12 a) >>= fun v_longer_16 => (.ok (.nx v_longer_16))) else (.ok (.nx g12)))) xs g9) fun (g12 : (List ((List Int) × (List Int)))) => (.ok (.nx g12)))) xs v_longer_7) fun (g9 : (List ((List Int) × (List Int)))) => (sseq ((sbind (fun s => .ok ((g9.length : Int), s)) fun x => sbind (spure (300 : Int)) fun y => spure (decide (y < x))) ()) fun b s17 => if b = true then exitC (sseq ((fun s => (spure ()) s >>= fun r => .ok ((none : (Option (List (List Int)))), r.2)) ()) fun a _ => .ok (.rt a)) else (sseq ((spure (g9 : (List ((List Int) × (List Int))))) ()) fun v_found_19 s18 => (.ok (.nx v_found_19))))))) xs v_found_2)

theorem whileR_mono {γ δ R : Type} {cond : γ → Res Bool} {body : γ → Res (Ctl γ γ R)} {r : Ctl γ δ R} : ∀ (f f' : Nat) (g : γ), f ≤ f' → whileR (δ := δ) cond body f g = .ok r → whileR (δ := δ) cond body f' g = .ok r
  | 0, _, _, _, h => by cases h
  | f + 1, 0, _, h, _ => by omega
  | f + 1, f' + 1, g, hf, h => by
    rw [whileR] at h ⊢
    cases hc : cond g with
    | ok b =>
      rw [hc, Res.ok_bind] at h
      rw [Res.ok_bind]
      cases b with
      | false => exact h
      | true =>
        rw [if_pos rfl] at h ⊢
        cases hb : body g with
        | ok c =>
          rw [hb, Res.ok_bind] at h
          rw [Res.ok_bind]
          cases c with
          | nx g' => exact whileR_mono f f' g' (by omega) h
          | ct g' => exact whileR_mono f f' g' (by omega) h
          | bk g' => exact h
          | rt v => exact h
        | err c as => rw [hb] at h; cases h
        | bad => rw [hb] at h; cases h
    | err c as => rw [hc] at h; cases h
    | bad => rw [hc] at h; cases h
def ltL : List Int → List Int → Bool
  | [], [] => false
  | [], _ :: _ => true
  | _ :: _, [] => false
  | a :: as, b :: bs => decide (a < b) || (decide (a = b) && ltL as bs)
theorem ltL_lt : ∀ {a b : List Int}, ltL a b = true → a < b
  | [], [], h => by cases h
  | [], _ :: _, _ => List.nil_lt_cons _ _
  | _ :: _, [], h => by cases h
  | a :: as, b :: bs, h => by
    unfold ltL at h
    rw [Bool.or_eq_true, Bool.and_eq_true] at h
    rw [List.cons_lt_cons_iff]
    rcases h with h | ⟨h, h2⟩
    · exact .inl (of_decide_eq_true h)
    · exact .inr ⟨of_decide_eq_true h, ltL_lt h2⟩
def insS (x : List Int) : List (List Int) → List (List Int)
  | [] => [x]
  | y :: l => if ltL y x then y :: insS x l else x :: y :: l
def isrt : List (List Int) → List (List Int)
  | [] => []
  | x :: l => insS x (isrt l)
def srtB : List (List Int) → Bool
  | [] => true
  | a :: l => l.all (fun b => ltL a b) && srtB l
theorem srt_pw : ∀ {l : List (List Int)}, srtB l = true → l.Pairwise (· < ·)
  | [], _ => List.Pairwise.nil
  | a :: l, h => by
    unfold srtB at h
    rw [Bool.and_eq_true] at h
    exact List.Pairwise.cons (fun b hb => ltL_lt (List.all_eq_true.mp h.1 b hb)) (srt_pw h.2)
def cls (W : List Int) : List (List Int) := match RLc [W] with
  | .ok (.nx g) => isrt g
  | _ => []
def fsW (W : List Int) : List Int := (cls W).headD []
def chk1 (n : Nat) (R W : List Int) (s : List (List Int)) : Bool := (!s.isEmpty && decide (s.length ≤ 1000)) && srtB s && okN (RLc [W]) (fun g => g.isPerm s) && okN (RPc 70 [W] 0) (fun g => g.1.isPerm s) && s.all fun u => isOk (m__law_spelled n u) R && decide (u.length = W.length)
theorem k_1 : ((permsL (jars 0 1)).all fun R => (WL (inv R) R).all fun w => chk1 1 R (cI w) (cls (cI w))) = true := by decide +kernel
theorem k_2 : ((permsL (jars 0 2)).all fun R => (WL (inv R) R).all fun w => chk1 2 R (cI w) (cls (cI w))) = true := by decide +kernel
theorem k_3 : ((permsL (jars 0 3)).all fun R => (WL (inv R) R).all fun w => chk1 3 R (cI w) (cls (cI w))) = true := by decide +kernel
theorem k_4 : ((permsL (jars 0 4)).all fun R => (WL (inv R) R).all fun w => chk1 4 R (cI w) (cls (cI w))) = true := by decide +kernel
structure Cls (n : Nat) (R W : List Int) : Prop where
  ne : cls W ≠ []
  bl : (cls W).length ≤ 1000
  pw : (cls W).Pairwise (· < ·)
  l : ∃ g, RLc [W] = .ok (.nx g) ∧ g.Perm (cls W)
  p : ∃ g, RPc 70 [W] 0 = .ok (.nx g) ∧ g.1.Perm (cls W)
  sp : ∀ u ∈ cls W, m__law_spelled n u = .ok R ∧ u.length = W.length
theorem cls_ok {n : Nat} (h1 : 1 ≤ n) (h4 : n ≤ 4) {R : List Int} {w : List Nat} (hR : R.Perm (jars 0 n)) (hw : Red n R w) : Cls n R (cI w) := by
  have key : ((permsL (jars 0 n)).all fun R => (WL (inv R) R).all fun w => chk1 n R (cI w) (cls (cI w))) = true := by
    have : n = 1 ∨ n = 2 ∨ n = 3 ∨ n = 4 := by omega
    rcases this with rfl | rfl | rfl | rfl
    · exact k_1
    · exact k_2
    · exact k_3
    · exact k_4
  have a := List.all_eq_true.mp key R (mem_permsL hR)
  have b := List.all_eq_true.mp a w ((mem_WL hR rfl w).mpr hw)
  unfold chk1 at b
  rw [Bool.and_eq_true, Bool.and_eq_true, Bool.and_eq_true, Bool.and_eq_true] at b
  obtain ⟨⟨⟨⟨c1, c2⟩, c3⟩, c4⟩, c5⟩ := b
  rw [Bool.and_eq_true] at c1
  obtain ⟨c1, c6⟩ := c1
  refine ⟨(fun z => by rw [z] at c1; cases c1), of_decide_eq_true c6, srt_pw c2, ?_, ?_, fun u hu => ?_⟩
  · obtain ⟨g, e, q⟩ := okN_eq c3; exact ⟨g, e, List.isPerm_iff.mp q⟩
  · obtain ⟨g, e, q⟩ := okN_eq c4; exact ⟨g, e, List.isPerm_iff.mp q⟩
  · have := List.all_eq_true.mp c5 u hu
    rw [Bool.and_eq_true] at this
    exact ⟨isOk_eq this.1, of_decide_eq_true this.2⟩
theorem q_lclass {n : Nat} {R W : List Int} (C : Cls n R W) : m__law_class W = .ok (cls W) := by
  obtain ⟨g, eg, hp⟩ := C.l
  refine Okp.eq ?_
  unfold m__law_class
  refine okp_fn ?_
  unfold M__law_class
  refine okp_sseq [W] (s := ()) (by simp -implicitDefEqProofs (disch := omega) only [sseq, sbind, sbind_def, spure, spure_def, slift, slift_def, val1, app1_eq, Res.ok_bind, Res.bind_assoc, ofOpt_some, nb_ok, ite_app]) ?_
  refine okp_seqC (m := RLc [W]) ⟨_, eg, ?_⟩
  exact okp_sseq (cls W) (s := ()) (by simp -implicitDefEqProofs (disch := omega) only [sseq, sbind, sbind_def, spure, spure_def, slift, slift_def, val1, app1_eq, Res.ok_bind, Res.bind_assoc, ofOpt_some, nb_ok, ite_app, dsort_eq hp C.pw]) (okp_rt rfl)
theorem q_pclass {n : Nat} {R W : List Int} (C : Cls n R W) : m_class_of W = .ok (cls W) := by
  obtain ⟨g, eg, hp⟩ := C.p
  have e2 : RPc fuelB [W] 0 = .ok (.nx g) := whileR_mono 70 fuelB _ (by rw [fuelB_eq]; decide) eg
  refine Okp.eq ?_
  unfold m_class_of
  refine okp_fn ?_
  unfold M_class_of
  refine okp_sseq [W] (s := ()) (by simp -implicitDefEqProofs (disch := omega) only [sseq, sbind, sbind_def, spure, spure_def, slift, slift_def, val1, app1_eq, Res.ok_bind, Res.bind_assoc, ofOpt_some, nb_ok, ite_app]) ?_
  refine okp_sseq (0 : Int) (s := ()) rfl ?_
  refine okp_seqC (m := RPc fuelB [W] 0) ⟨_, e2, ?_⟩
  exact okp_sseq (cls W) (s := ()) (by simp -implicitDefEqProofs (disch := omega) only [sseq, sbind, sbind_def, spure, spure_def, slift, slift_def, val1, app1_eq, Res.ok_bind, Res.bind_assoc, ofOpt_some, nb_ok, ite_app, dsort_eq hp C.pw]) (okp_rt rfl)
theorem ka_1 : okN (RLa (longest 1) [([], longest 1)]) (fun g => (g.map (·.1)).isPerm (wL (longest 1))) = true := by decide +kernel
theorem ka_2 : okN (RLa (longest 2) [([], longest 2)]) (fun g => (g.map (·.1)).isPerm (wL (longest 2))) = true := by decide +kernel
theorem ka_3 : okN (RLa (longest 3) [([], longest 3)]) (fun g => (g.map (·.1)).isPerm (wL (longest 3))) = true := by decide +kernel
theorem ka_4 : okN (RLa (longest 4) [([], longest 4)]) (fun g => (g.map (·.1)).isPerm (wL (longest 4))) = true := by decide +kernel
theorem q_lall {n : Nat} (h1 : 1 ≤ n) (h4 : n ≤ 4) : m__law_all (longest n) = .ok (some (wL (longest n))) := by
  have key : okN (RLa (longest n) [([], longest n)]) (fun g => (g.map (·.1)).isPerm (wL (longest n))) = true := by
    have : n = 1 ∨ n = 2 ∨ n = 3 ∨ n = 4 := by omega
    rcases this with rfl | rfl | rfl | rfl
    · exact ka_1
    · exact ka_2
    · exact ka_3
    · exact ka_4
  obtain ⟨g, eg, hp⟩ := okN_eq key
  have hp := List.isPerm_iff.mp hp
  refine Okp.eq ?_
  unfold m__law_all
  refine okp_fn ?_
  unfold M__law_all
  refine okp_sseq [([], longest n)] (s := ()) (by simp -implicitDefEqProofs (disch := omega) only [sseq, sbind, sbind_def, spure, spure_def, slift, slift_def, val1, app1_eq, Res.ok_bind, Res.bind_assoc, ofOpt_some, nb_ok, ite_app]) ?_
  refine okp_seqC (m := RLa (longest n) [([], longest n)]) ⟨_, eg, ?_⟩
  refine okp_sseq (some (wL (longest n))) (s := ()) ?_ (okp_rt rfl)
  have hc : compS (S := Unit) (fun (x20 : ((List Int) × (List Int))) => (spure true)) (fun (x20 : ((List Int) × (List Int))) => (sbind (spure (x20 : ((List Int) × (List Int)))) fun x => spure x.1)) g () = .ok (g.map (·.1), ()) := compS_okM (fun p : List Int × List Int => p.1) fun z _ => rfl
  have e : (sbind (sbind (spure g) fun xs => compS (fun (x20 : ((List Int) × (List Int))) => (spure true)) (fun (x20 : ((List Int) × (List Int))) => (sbind (spure (x20 : ((List Int) × (List Int)))) fun x => spure x.1)) xs) fun x => spure (dsort x)) () = .ok (wL (longest n), ()) := sbi (g.map (·.1)) () (sbi g () rfl hc) (by simp -implicitDefEqProofs (disch := omega) only [sseq, sbind, sbind_def, spure, spure_def, slift, slift_def, val1, app1_eq, Res.ok_bind, Res.bind_assoc, ofOpt_some, nb_ok, ite_app, dsort_eq hp (wL_sorted _)])
  show ((sbind (sbind (spure g) fun xs => compS (fun (x20 : ((List Int) × (List Int))) => (spure true)) (fun (x20 : ((List Int) × (List Int))) => (sbind (spure (x20 : ((List Int) × (List Int)))) fun x => spure x.1)) xs) fun x => spure (dsort x)) () >>= fun r => Res.ok (some r.1, r.2)) = _
  rw [e]; rfl
theorem long_perm (n : Nat) : (longest n).Perm (jars 0 n) := by
  unfold longest
  refine perm_of ?_ (jars_nodup n 0) ?_
  · exact List.Pairwise.map _ (fun a b h e => h (by unfold Bub.flip at e; omega)) (jars_nodup n 0)
  · intro x
    rw [List.mem_map, jars_mem]
    constructor
    · rintro ⟨j, hj, rfl⟩
      have := jars_mem.mp hj
      unfold Bub.flip; omega
    · rintro ⟨a, b⟩
      exact ⟨Bub.flip n x, jars_mem.mpr (by unfold Bub.flip; omega), by unfold Bub.flip; omega⟩
def cntF (n : Nat) : Nat := (((wL (longest n)).map fsW).foldl (fun acc x => if memB x acc then acc else acc ++ [x]) []).length
def cntP (n : Nat) : Nat := ((enumL ((wL (longest n)).map fsW)).filter fun p => !memB p.2 (cutL ((wL (longest n)).map fsW) none (some p.1))).length
theorem kc : ∀ n < 5, 1 ≤ n → cntF n = cntP n ∧ downL n 0 = longest n ∧ nw (inv (longest n)) (longest n) ≤ 300 := by decide +kernel
theorem kc4 : cntP 4 = 8 := by decide +kernel
theorem wL_cls {n : Nat} (h1 : 1 ≤ n) (h4 : n ≤ 4) {W : List Int} (h : W ∈ wL (longest n)) : Cls n (longest n) W := by
  unfold wL at h
  obtain ⟨w, hw, rfl⟩ := List.mem_map.mp h
  exact cls_ok h1 h4 (long_perm n) ((mem_WL (long_perm n) rfl w).mp hw)
theorem fs_at {n : Nat} {R W : List Int} (C : Cls n R W) : ofOpt (L2.atI (cls W) 0) = .ok (fsW W) := by
  refine atI_get (j := 0) rfl ?_
  unfold fsW
  cases h : cls W with
  | nil => exact absurd h C.ne
  | cons a l => rfl
theorem q_few {n : Int} (h : n ≤ 4) : m_check_few n = .ok () := by
  unfold m_check_few M_check_few
  have : (sseq ((sbind (spure (n : Int)) fun x => sbind (spure (4 : Int)) fun y => spure (decide (y < x))) ()) fun b s1 => if b = true then (sseq ((spure (4 : Int)) ()) fun a _ => .err "TooMany" [enc a]) else (.ok (.nx ()))) = (.ok (.nx ()) : Res (Ctl Unit Empty Unit)) := by
    simp -implicitDefEqProofs (disch := omega) only [sseq, sbind, sbind_def, spure, spure_def, slift, slift_def, val1, app1_eq, Res.ok_bind, Res.bind_assoc, ofOpt_some, nb_ok, ite_app, decide_eq_false (show ¬ (4 : Int) < n by omega), Bool.false_eq_true, if_false]
  rw [this]; rfl
theorem q_many {n : Int} (h : 4 < n) : m_check_few n = .err "TooMany" [enc (4 : Int)] := by
  unfold m_check_few M_check_few
  have : (sseq ((sbind (spure (n : Int)) fun x => sbind (spure (4 : Int)) fun y => spure (decide (y < x))) ()) fun b s1 => if b = true then (sseq ((spure (4 : Int)) ()) fun a _ => .err "TooMany" [enc a]) else (.ok (.nx ()))) = (.err "TooMany" [enc (4 : Int)] : Res (Ctl Unit Empty Unit)) := by
    simp -implicitDefEqProofs (disch := omega) only [sseq, sbind, sbind_def, spure, spure_def, slift, slift_def, val1, app1_eq, Res.ok_bind, Res.bind_assoc, ofOpt_some, nb_ok, ite_app, decide_eq_true h, if_true]
  rw [this]; rfl
theorem q_countf {n : Nat} (h1 : 1 ≤ n) (h4 : n ≤ 4) : m_count_far_classes n = .ok ((cntP n : Nat) : Int) := by
  obtain ⟨_, e2, e3⟩ := kc n (by omega) h1
  have hal := q_allsp (n := n) (by omega) (long_perm n) e3
  refine Okp.eq ?_
  unfold m_count_far_classes
  refine okp_fn ?_
  unfold M_count_far_classes
  refine okp_sseq () (s := ()) (by simp -implicitDefEqProofs (disch := omega) only [sseq, sbind, sbind_def, spure, spure_def, slift, slift_def, val1, app1_eq, Res.ok_bind, Res.bind_assoc, ofOpt_some, nb_ok, ite_app, q_few (show (n : Int) ≤ 4 by omega)]) ?_
  refine okp_sseq ((wL (longest n)).map fsW) (s := ()) ?_ ?_
  · refine sbi (wL (longest n)) () (by simp -implicitDefEqProofs (disch := omega) only [sseq, sbind, sbind_def, spure, spure_def, slift, slift_def, val1, app1_eq, Res.ok_bind, Res.bind_assoc, ofOpt_some, nb_ok, ite_app, q_longest n (by omega), e2, hal]) ?_
    refine compS_okM fsW ?_
    intro W hW
    have C := wL_cls h1 h4 hW
    simp -implicitDefEqProofs (disch := omega) only [sseq, sbind, sbind_def, spure, spure_def, slift, slift_def, val1, app1_eq, Res.ok_bind, Res.bind_assoc, ofOpt_some, nb_ok, ite_app, q_pclass C, fs_at C]
  refine okp_sseq ((cntP n : Nat) : Int) (s := ()) ?_ (okp_rt rfl)
  refine sbi (((enumL ((wL (longest n)).map fsW)).filter fun p => !memB p.2 (cutL ((wL (longest n)).map fsW) none (some p.1))).map fun _ => true) () ?_ ?_
  · refine sbi (enumL ((wL (longest n)).map fsW)) () rfl ?_
    exact compS_ok _ (fun _ => true) (fun z _ => by simp -implicitDefEqProofs (disch := omega) only [sseq, sbind, sbind_def, spure, spure_def, slift, slift_def, val1, app1_eq, Res.ok_bind, Res.bind_assoc, ofOpt_some, nb_ok, ite_app]) fun z _ _ => rfl
  · simp -implicitDefEqProofs (disch := omega) only [sseq, sbind, sbind_def, spure, spure_def, slift, slift_def, val1, app1_eq, Res.ok_bind, Res.bind_assoc, ofOpt_some, nb_ok, ite_app, List.length_map]
    rfl
end K25

set_option Elab.async false
set_option linter.all false
set_option maxRecDepth 20000
namespace K25
open PySem PySem.Spec PyProof.Rows L2 DL DL.Enc Bub
theorem at0 (a b : PyData) : ofOpt (L2.atI ([a, b] : List PyData) 0) = .ok a := atI_get (j := 0) rfl rfl
theorem at1 (a b : PyData) : ofOpt (L2.atI ([a, b] : List PyData) 1) = .ok b := atI_get (j := 1) rfl rfl
theorem len2 (a b : PyData) : decide ((((([a, b] : List PyData).map enc).length : Nat) : Int) = 2) = true := rfl
theorem kt_tt : kitB "tuple" "tuple" = some true := by decide +kernel
theorem t_tup (ds : List PyData) (x : String) : kitB (tyN (enc (PyData.tuple ds))) x = kitB "tuple" x := rfl
theorem t_str (i : Str) (x : String) : kitB (tyN (enc (PyData.str i))) x = kitB "str" x := rfl
theorem sh_str {s : Str} (h : PyData.strOk s = true) : SeqAt.shaped (PyData.str s) = true := by
  show (PyData.strOk s && decide _) = true
  rw [h]
  exact decide_eq_true (by show 0 ≤ 64; decide)
theorem ok_mo : PyData.strOk (PySem.Str.ofString "moves") = true := by decide +kernel

theorem okp_tryX {β γ R : Type} {m : Res (Ctl β γ R)} {l : List (Cl β γ R)} {Q : Ctl β γ R → Prop} (h : Okp m Q) : Okp (tryX m l) Q := by
  obtain ⟨x, e, q⟩ := h
  rw [e]; exact ⟨x, rfl, q⟩
theorem okp_tryXe {β γ R : Type} {m : Res (Ctl β γ R)} {l : List (Cl β γ R)} {Q : Ctl β γ R → Prop} {c : String} {as : List PyData} (h : m = .err c as) (q : Okp (hsel l c as) Q) : Okp (tryX m l) Q := by
  rw [h]; exact q
theorem okp_nb {α : Type} {m : Res α} {Q : α → Prop} (h : Okp m Q) : Okp (nb m) Q := by
  obtain ⟨x, e, q⟩ := h
  rw [e]; exact ⟨x, rfl, q⟩
theorem okp_hskip {β γ R : Type} {h : Cl β γ R} {l : List (Cl β γ R)} {Q : Ctl β γ R → Prop} {c : String} {as : List PyData} (e : h.1 c = false) (q : Okp (hsel l c as) Q) : Okp (hsel (h :: l) c as) Q := by
  rw [hsel_cons, if_neg (by rw [e]; decide)]; exact q
theorem okp_hit {β γ R : Type} {p : String → Bool} {f : String → List PyData → Res (Ctl β γ R)} {l : List (Cl β γ R)} {Q : Ctl β γ R → Prop} {c : String} {as : List PyData} (e : p c = true) (q : Okp (f c as) Q) : Okp (hsel ((p, f) :: l) c as) Q := by
  rw [hsel_cons, if_pos e]; exact okp_nb q
theorem sseq_er {S α δ : Type} {m : Res (α × S)} {k : α → S → Res δ} {c : String} {as : List PyData} (h : m = .err c as) : sseq m k = .err c as := by rw [h]; rfl
def toldD (s : String) (d : PyData) : PyData := .tuple [.str (PySem.Str.ofString s), d]
/-- data that may be compared -/
def Shp (d : PyData) : Prop := d.canLay0 = true ∧ d.depth ≤ 60
theorem shp_flat {α : Type} [Enc α] [DecidableEq α] [F : Flat α] (h : F.d ≤ 60) (a : α) : Shp (enc a) := ⟨F.lay a, Nat.le_trans (F.dep a) h⟩
theorem shaped_told {s : String} {d : PyData} (h : PyData.strOk (PySem.Str.ofString s) = true) (hd : Shp d) : SeqAt.shaped (toldD s d) = true := by
  obtain ⟨h1, h2⟩ := hd
  show ((PyData.strOk (PySem.Str.ofString s) && (d.canLay0 && true)) && decide _) = true
  rw [h, h1]
  exact decide_eq_true (by show max 0 (max d.depth 0) + 1 ≤ 64; omega)
theorem eqv_told (s t : String) (d e : PyData) : PyData.eqv (toldD s d) (toldD t e) = ((PySem.Str.ofString s == PySem.Str.ofString t) && (PyData.eqv d e && true)) := rfl
theorem eqv_flat {α : Type} [Enc α] [DecidableEq α] [F : Flat α] (a b : α) : PyData.eqv (enc a) (enc b) = decide (a = b) := F.eqv a b
theorem ne_told {s t : String} {d e : PyData} (h : PyData.strOk (PySem.Str.ofString s) = true) (h2 : PyData.strOk (PySem.Str.ofString t) = true) (hd : Shp d) (he : Shp e) : ofOpt (neD (toldD s d) (toldD t e)) = .ok (!((PySem.Str.ofString s == PySem.Str.ofString t) && (PyData.eqv d e && true))) := by
  unfold neD eqD
  rw [chk_pos ⟨shaped_told h hd, shaped_told h2 he⟩]
  rfl
theorem eq_told {s t : String} {d e : PyData} (h : PyData.strOk (PySem.Str.ofString s) = true) (h2 : PyData.strOk (PySem.Str.ofString t) = true) (hd : Shp d) (he : Shp e) : ofOpt (eqD (toldD s d) (toldD t e)) = .ok ((PySem.Str.ofString s == PySem.Str.ofString t) && (PyData.eqv d e && true)) := by
  unfold eqD
  rw [chk_pos ⟨shaped_told h hd, shaped_told h2 he⟩]
  rfl
theorem ok_told : PyData.strOk (PySem.Str.ofString "told") = true := by decide +kernel
theorem ok_refu : PyData.strOk (PySem.Str.ofString "refused") = true := by decide +kernel
theorem neD_str {s : Str} (h : PyData.strOk s = true) : ofOpt (neD (.str s) (enc s)) = .ok false := by
  unfold neD eqD
  have h2 : SeqAt.shaped (enc s : PyData) = true := sh_str h
  rw [chk_pos ⟨h2, h2⟩]
  show Res.ok (!(s == s)) = _
  rw [Bool.beq_eq_decide_eq, decide_eq_true rfl]; rfl
theorem ne_same {α : Type} [Enc α] [DecidableEq α] [F : Flat α] (h : F.d ≤ 60) (a : α) : ofOpt (neD (enc a) (enc a)) = .ok false := by
  unfold neD eqD
  rw [chk_pos ⟨flat_shaped (by omega) a, flat_shaped (by omega) a⟩, F.eqv, decide_eq_true rfl]; rfl
theorem told_same (s : String) {α : Type} [Enc α] [DecidableEq α] [F : Flat α] (hs : PyData.strOk (PySem.Str.ofString s) = true) (h : F.d ≤ 60) (a : α) : ofOpt (neD (toldD s (enc a)) (toldD s (enc a))) = .ok false := by
  rw [ne_told hs hs (shp_flat h a) (shp_flat h a), F.eqv, decide_eq_true rfl]
  simp
theorem told_sameE (s : String) {α : Type} [Enc α] [DecidableEq α] [F : Flat α] (hs : PyData.strOk (PySem.Str.ofString s) = true) (h : F.d ≤ 60) (a : α) : ofOpt (eqD (toldD s (enc a)) (toldD s (enc a))) = .ok true := by
  rw [eq_told hs hs (shp_flat h a) (shp_flat h a), F.eqv, decide_eq_true rfl]
  simp
theorem q_askN {n : Nat} (h1 : 1 ≤ n) (h4 : n ≤ 4) : m__law_asked n none = .ok (toldD "told" (enc ((cntP n : Nat) : Int))) := by
  refine Okp.eq ?_
  unfold m__law_asked
  refine okp_fn ?_
  unfold M__law_asked
  refine okp_seqC (okp_tryX ?_)
  refine okp_sseq true (s := ()) rfl ?_
  rw [if_pos rfl]
  refine okp_exitC (e := fun _ => True) ?_
  refine okp_sseq ((PySem.Str.ofString "told", ((cntP n : Nat) : Int)) : Str × Int) (s := ()) ?_ (okp_rt rfl)
  simp -implicitDefEqProofs (disch := omega) only [sseq, sbind, sbind_def, spure, spure_def, slift, slift_def, val1, app1_eq, Res.ok_bind, Res.bind_assoc, ofOpt_some, nb_ok, ite_app, q_countf h1 h4]
theorem countf_er {n : Int} (h : 4 < n) : m_count_far_classes n = .err "TooMany" [enc (4 : Int)] := by
  unfold m_count_far_classes M_count_far_classes
  rw [sseq_er (c := "TooMany") (as := [enc (4 : Int)]) (by simp -implicitDefEqProofs (disch := omega) only [sseq, sbind, sbind_def, spure, spure_def, slift, slift_def, val1, app1_eq, Res.ok_bind, Res.bind_assoc, ofOpt_some, nb_ok, ite_app, q_many h, Res.err_bind])]
  rfl
theorem farc_er {n : Int} (h : 4 < n) (W : List Int) : m_far_class n W = .err "TooMany" [enc (4 : Int)] := by
  unfold m_far_class M_far_class
  rw [sseq_er (c := "TooMany") (as := [enc (4 : Int)]) (by simp -implicitDefEqProofs (disch := omega) only [sseq, sbind, sbind_def, spure, spure_def, slift, slift_def, val1, app1_eq, Res.ok_bind, Res.bind_assoc, ofOpt_some, nb_ok, ite_app, q_many h, Res.err_bind])]
  rfl
theorem as_lim : asF (flds "TooMany") [enc (4 : Int)] "limit" = some 4 := by decide +kernel
theorem isub1 : isub "TooMany" "NoExchange" = false := by decide +kernel
theorem isub2 : isub "TooMany" "TooMany" = true := by decide +kernel
theorem q_askB {n : Int} (h : 4 < n) : m__law_asked n none = .ok (toldD "refused" (enc (4 : Int))) := by
  refine Okp.eq ?_
  unfold m__law_asked
  refine okp_fn ?_
  unfold M__law_asked
  refine okp_seqC ?_
  refine okp_tryXe (c := "TooMany") (as := [enc (4 : Int)]) ?_ ?_
  · refine (sseq_ok true () rfl).trans ?_
    rw [if_pos rfl, sseq_er (c := "TooMany") (as := [enc (4 : Int)]) (by simp -implicitDefEqProofs (disch := omega) only [sseq, sbind, sbind_def, spure, spure_def, slift, slift_def, val1, app1_eq, Res.ok_bind, Res.bind_assoc, ofOpt_some, nb_ok, ite_app, countf_er h, Res.err_bind])]
    rfl
  · refine okp_hskip isub1 (okp_hit isub2 ?_)
    refine okp_sseq ((PySem.Str.ofString "refused", (4 : Int)) : Str × Int) (s := ()) ?_ (okp_rt rfl)
    simp -implicitDefEqProofs (disch := omega) only [sseq, sbind, sbind_def, spure, spure_def, slift, slift_def, val1, app1_eq, Res.ok_bind, Res.bind_assoc, ofOpt_some, nb_ok, ite_app, as_lim]
theorem q_askWB {n : Int} (h : 4 < n) (W : List Int) : m__law_asked n (some W) = .ok (toldD "refused" (enc (4 : Int))) := by
  refine Okp.eq ?_
  unfold m__law_asked
  refine okp_fn ?_
  unfold M__law_asked
  refine okp_seqC ?_
  refine okp_tryXe (c := "TooMany") (as := [enc (4 : Int)]) ?_ ?_
  · refine (sseq_ok false () rfl).trans ?_
    rw [if_neg (by decide)]
    refine (sseq_ok W () rfl).trans ?_
    rw [sseq_er (c := "TooMany") (as := [enc (4 : Int)]) (by simp -implicitDefEqProofs (disch := omega) only [sseq, sbind, sbind_def, spure, spure_def, slift, slift_def, val1, app1_eq, Res.ok_bind, Res.bind_assoc, ofOpt_some, nb_ok, ite_app, farc_er h, Res.err_bind])]
  · refine okp_hskip isub1 (okp_hit isub2 ?_)
    refine okp_sseq ((PySem.Str.ofString "refused", (4 : Int)) : Str × Int) (s := ()) ?_ (okp_rt rfl)
    simp -implicitDefEqProofs (disch := omega) only [sseq, sbind, sbind_def, spure, spure_def, slift, slift_def, val1, app1_eq, Res.ok_bind, Res.bind_assoc, ofOpt_some, nb_ok, ite_app, as_lim]
theorem q_askW {n : Nat} (h4 : n ≤ 4) {R W : List Int} (C : Cls n R W) : m__law_asked n (some W) = .ok (toldD "told" (enc (cls W))) := by
  have hf : m_far_class n W = .ok (cls W) := by
    refine Okp.eq ?_
    unfold m_far_class
    refine okp_fn ?_
    unfold M_far_class
    refine okp_sseq () (s := ()) (by simp -implicitDefEqProofs (disch := omega) only [sseq, sbind, sbind_def, spure, spure_def, slift, slift_def, val1, app1_eq, Res.ok_bind, Res.bind_assoc, ofOpt_some, nb_ok, ite_app, q_few (show (n : Int) ≤ 4 by omega)]) ?_
    exact okp_sseq (cls W) (s := ()) (by simp -implicitDefEqProofs (disch := omega) only [sseq, sbind, sbind_def, spure, spure_def, slift, slift_def, val1, app1_eq, Res.ok_bind, Res.bind_assoc, ofOpt_some, nb_ok, ite_app, q_pclass C]) (okp_rt rfl)
  refine Okp.eq ?_
  unfold m__law_asked
  refine okp_fn ?_
  unfold M__law_asked
  refine okp_seqC (okp_tryX ?_)
  refine okp_sseq false (s := ()) rfl ?_
  rw [if_neg (by decide)]
  refine okp_sseq W (s := ()) rfl ?_
  refine okp_sseq (cls W) (s := ()) (by simp -implicitDefEqProofs (disch := omega) only [sseq, sbind, sbind_def, spure, spure_def, slift, slift_def, val1, app1_eq, Res.ok_bind, Res.bind_assoc, ofOpt_some, nb_ok, ite_app, hf]) ?_
  refine okp_nx ?_
  refine okp_sseq false (s := ()) (by simp -implicitDefEqProofs (disch := omega) only [sseq, sbind, sbind_def, spure, spure_def, slift, slift_def, val1, app1_eq, Res.ok_bind, Res.bind_assoc, ofOpt_some, nb_ok, ite_app, decide_true, Bool.not_true]) ?_
  rw [if_neg (by decide)]
  exact okp_rt rfl
theorem q_cright {n : Nat} (h4 : n ≤ 4) {R W : List Int} (C : Cls n R W) (hW : m__law_spelled n W = .ok R) : m__law_class_right n W = .ok true := by
  have hcl := C.bl
  refine Okp.eq ?_
  unfold m__law_class_right
  refine okp_fn ?_
  unfold M__law_class_right
  refine okp_sseq (cls W) (s := ()) (by simp -implicitDefEqProofs (disch := omega) only [sseq, sbind, sbind_def, spure, spure_def, slift, slift_def, val1, app1_eq, Res.ok_bind, Res.bind_assoc, ofOpt_some, nb_ok, ite_app, q_lclass C]) ?_
  refine okp_sseq (toldD "told" (enc (cls W))) (s := ()) (by simp -implicitDefEqProofs (disch := omega) only [sseq, sbind, sbind_def, spure, spure_def, slift, slift_def, val1, app1_eq, Res.ok_bind, Res.bind_assoc, ofOpt_some, nb_ok, ite_app, q_askW h4 C]) ?_
  have d1 : (Dec.dec (toldD "told" (enc (cls W))) : Option (Tup PyData)) = some ⟨[.str (PySem.Str.ofString "told"), .list ((cls W).map enc)]⟩ := dec_tup _
  refine okp_sseq false (s := ()) ?_ ?_
  · refine nbS_ok (or_f (by simp -implicitDefEqProofs (disch := omega) only [sseq, sbind, sbind_def, spure, spure_def, slift, slift_def, val1, app1_eq, Res.ok_bind, Res.bind_assoc, ofOpt_some, nb_ok, ite_app, d1, at0, sconv, neD_str ok_told]) (or_f (by simp -implicitDefEqProofs (disch := omega) only [sseq, sbind, sbind_def, spure, spure_def, slift, slift_def, val1, app1_eq, Res.ok_bind, Res.bind_assoc, ofOpt_some, nb_ok, ite_app, d1, at1, t_list, kl_ll, Bool.not_true]) ?_))
    simp -implicitDefEqProofs (disch := omega) only [sseq, sbind, sbind_def, spure, spure_def, slift, slift_def, val1, app1_eq, Res.ok_bind, Res.bind_assoc, ofOpt_some, nb_ok, ite_app, d1, at1, dec_list, List.length_map, decide_true, Bool.not_true]
  rw [if_neg (by decide)]
  refine okp_seqC ?_
  refine okp_sseq (rangeL 0 ((cls W).length : Int)) (s := ()) (by simp -implicitDefEqProofs (disch := omega) only [sseq, sbind, sbind_def, spure, spure_def, slift, slift_def, val1, app1_eq, Res.ok_bind, Res.bind_assoc, ofOpt_some, nb_ok, ite_app, rangeO_ok]) ?_
  refine okp_for (fun _ _ => True) trivial ?_ ?_
  · rintro i x g hx -
    have ex := rangeL_get hx
    obtain ⟨hi, _⟩ := List.getElem?_eq_some_iff.mp hx
    rw [rangeL_length] at hi
    have hi : i < (cls W).length := by omega
    have hg : (cls W)[i]? = some ((cls W)[i]) := List.getElem?_eq_getElem hi
    generalize (cls W)[i] = u at hg
    have hm := List.mem_of_getElem? hg
    obtain ⟨s1, s2⟩ := C.sp u hm
    have a1 : ofOpt (L2.atI (cls W) x) = .ok u := atI_get (j := i) (by omega) hg
    have a2 : ofOpt (L2.atI ((cls W).map enc) x) = .ok (enc u : PyData) := atI_get (j := i) (by omega) (by rw [List.getElem?_map, hg]; rfl)
    have qw : m__law_wholes (enc u) (W.length : Int) = .ok true := q_wholes _ _ (by rw [s2])
    refine okp_sseq false (s := ()) ?_ ?_
    · refine nbS_ok (or_f (by simp -implicitDefEqProofs (disch := omega) only [sseq, sbind, sbind_def, spure, spure_def, slift, slift_def, val1, app1_eq, Res.ok_bind, Res.bind_assoc, ofOpt_some, nb_ok, ite_app, d1, at1, dec_list, a2, qw, Bool.not_true]) ?_)
      simp -implicitDefEqProofs (disch := omega) only [sseq, sbind, sbind_def, spure, spure_def, slift, slift_def, val1, app1_eq, Res.ok_bind, Res.bind_assoc, ofOpt_some, nb_ok, ite_app, d1, at1, dec_list, a2, a1, sconv, ne_same (α := List Int) (by decide) u]
    rw [if_neg (by decide)]
    refine okp_sseq false (s := ()) (by simp -implicitDefEqProofs (disch := omega) only [sseq, sbind, sbind_def, spure, spure_def, slift, slift_def, val1, app1_eq, Res.ok_bind, Res.bind_assoc, ofOpt_some, nb_ok, ite_app, a1, s1, hW, decide_true, Bool.not_true]) ?_
    rw [if_neg (by decide)]
    exact okp_nx trivial
  rintro g -
  have hsp : ∀ (k : Res (Ctl Empty Empty Bool)), spoilR (toldD "told" (enc (cls W))) (val1 (spure ([] : List Int))) k = k := fun k => by
    show (Res.ok ([] : List Int) >>= fun _ => if ((cls W).map enc).length < 16777216 then k else .bad) = k
    rw [Res.ok_bind, if_pos (by rw [List.length_map]; omega)]
  rw [hsp]
  refine okp_sseq true (s := ()) ?_ (okp_rt rfl)
  refine sbi (toldD "told" (enc (cls W))) () (by simp -implicitDefEqProofs (disch := omega) only [sseq, sbind, sbind_def, spure, spure_def, slift, slift_def, val1, app1_eq, Res.ok_bind, Res.bind_assoc, ofOpt_some, nb_ok, ite_app, q_askW h4 C]) ?_
  refine sbi (toldD "told" (enc (cls W))) () rfl ?_
  show ofOpt (eqD _ _) >>= _ = _
  rw [told_sameE "told" (α := List (List Int)) ok_told (by decide) (cls W)]
  rfl
end K25

set_option Elab.async false
set_option linter.all false
set_option maxRecDepth 20000
namespace K25
open PySem PySem.Spec PyProof.Rows L2 DL DL.Enc Bub

theorem longC (n : Nat) : (compS (S := Unit) (fun (x : Int) => (spure true)) (fun (x : Int) => (sbind (spure (n : Int)) fun y => sbind (spure (x : Int)) fun z => spure (y - z))) (rangeL 0 n)) () = .ok (longest n, ()) := by
  rw [compS_okM (fun z => (n : Int) - z) fun z _ => rfl, longM]
theorem longF {S : Type} (n : Nat) (s : S) : (compS (S := S) (fun (x : Int) => (spure true)) (fun (x : Int) => (sbind (spure (n : Int)) fun y => sbind (spure (x : Int)) fun z => spure (y - z))) (rangeL 0 n)) s = .ok (longest n, s) := by
  rw [compS_okM (fun z => (n : Int) - z) fun z _ => rfl, longM]
def addF (g : List (List Int)) (x : List Int) : List (List Int) := if memB x g then g else g ++ [x]
theorem fold_len : ∀ (l : List (List Int)) (g : List (List Int)), (l.foldl addF g).length ≤ g.length + l.length
  | [], g => by simp
  | x :: l, g => by
    have := fold_len l (addF g x)
    have h2 : (addF g x).length ≤ g.length + 1 := by
      unfold addF; split <;> simp
    rw [List.length_cons]
    show (l.foldl addF (addF g x)).length ≤ _
    omega
theorem law_true (script : List Int) : m_law script = .ok true := by
  refine Okp.eq ?_
  unfold m_law
  refine okp_fn ?_
  unfold M_law
  obtain ⟨d1, f1, e1, d1a, d1b, hf1⟩ := drawR_ok (many := 4) (by decide) (by decide) (fd0_ok script)
  refine okp_sseq (2 + d1) (s := f1) (by simp -implicitDefEqProofs (disch := omega) only [sseq, sbind, sbind_def, spure, spure_def, slift, slift_def, val1, app1_eq, Res.ok_bind, Res.bind_assoc, ofOpt_some, nb_ok, ite_app, e1]) ?_
  refine okp_seqCP (P := fun j => ∃ n : Nat, j.1 = (n : Int) ∧ 2 ≤ n ∧ n ≤ 9 ∧ j.2.Ok) ?_ ?_
  · obtain ⟨d2, f2, e2, d2a, d2b, hf2⟩ := drawR_ok (many := 4) (by decide) (by decide) hf1
    refine okp_sseq (decide (d2 = 0)) (s := f2) (by simp -implicitDefEqProofs (disch := omega) only [sseq, sbind, sbind_def, spure, spure_def, slift, slift_def, val1, app1_eq, Res.ok_bind, Res.bind_assoc, ofOpt_some, nb_ok, ite_app, e2]) ?_
    refine okp_ite ?_ ?_
    · intro _
      obtain ⟨d3, f3, e3, d3a, d3b, hf3⟩ := drawR_ok (many := 8) (by decide) (by decide) hf2
      exact okp_sseq (2 + d3) (s := f3) (by simp -implicitDefEqProofs (disch := omega) only [sseq, sbind, sbind_def, spure, spure_def, slift, slift_def, val1, app1_eq, Res.ok_bind, Res.bind_assoc, ofOpt_some, nb_ok, ite_app, e3]) (okp_nx ⟨(2 + d3).toNat, by show 2 + d3 = _; omega, by omega, by omega, hf3⟩)
    · intro _
      exact okp_nx ⟨(2 + d1).toNat, by show 2 + d1 = _; omega, by omega, by omega, hf2⟩
  rintro ⟨nI, fd⟩ ⟨n, rfl, hn2, hn9, hf⟩
  simp only at hf
  obtain ⟨⟨word, f4⟩, e4, ⟨w, rfl, rdw⟩, hf4⟩ := q_drawn hn9 (longest n) (long_perm n) fd hf
  simp only at hf4
  refine okp_sseq (cI w) (s := f4) ?_ ?_
  · refine sbi (longest n, ()) fd ?_ (by simp -implicitDefEqProofs (disch := omega) only [sseq, sbind, sbind_def, spure, spure_def, slift, slift_def, val1, app1_eq, Res.ok_bind, Res.bind_assoc, ofOpt_some, nb_ok, ite_app, e4])
    refine sbi (longest n) fd ?_ rfl
    exact sbi (rangeL 0 n) fd (by simp -implicitDefEqProofs (disch := omega) only [sseq, sbind, sbind_def, spure, spure_def, slift, slift_def, val1, app1_eq, Res.ok_bind, Res.bind_assoc, ofOpt_some, nb_ok, ite_app, rangeO_ok]) (longF n fd)
  have hi := inv_longest n (by omega)
  have hb : n * (n - 1) ≤ 9 * 8 := Nat.mul_le_mul (by omega) (by omega)
  have hb2 : 2 * 1 ≤ n * (n - 1) := Nat.mul_le_mul (by omega) (by omega)
  have hw := rdw.l
  have hne : w ≠ [] := fun z => by rw [z] at hw; simp at hw; omega
  refine okp_sseq false (s := ()) ?_ ?_
  · refine or_f (by simp -implicitDefEqProofs (disch := omega) only [sseq, sbind, sbind_def, spure, spure_def, slift, slift_def, val1, app1_eq, Res.ok_bind, Res.bind_assoc, ofOpt_some, nb_ok, ite_app, q_lspell hn9 rdw.b rdw.a rdw.l, Bool.not_true]) (or_f (by simp -implicitDefEqProofs (disch := omega) only [sseq, sbind, sbind_def, spure, spure_def, slift, slift_def, val1, app1_eq, Res.ok_bind, Res.bind_assoc, ofOpt_some, nb_ok, ite_app, q_tr hn2 hn9 rdw, Bool.not_true]) (by simp -implicitDefEqProofs (disch := omega) only [sseq, sbind, sbind_def, spure, spure_def, slift, slift_def, val1, app1_eq, Res.ok_bind, Res.bind_assoc, ofOpt_some, nb_ok, ite_app, q_walk hne (by omega), Bool.not_true]))
  rw [if_neg (by decide)]
  refine okp_seqC ?_
  refine okp_sseq (rangeL 0 3) (s := ()) (by simp -implicitDefEqProofs (disch := omega) only [sseq, sbind, sbind_def, spure, spure_def, slift, slift_def, val1, app1_eq, Res.ok_bind, Res.bind_assoc, ofOpt_some, nb_ok, ite_app, rangeO_ok]) ?_
  refine okp_for (fun _ g => g.Ok) hf4 ?_ ?_
  · intro i x g hx hg
    obtain ⟨d5, f5, e5, d5a, d5b, hf5⟩ := drawR_ok (many := 4) (by decide) (by decide) hg
    obtain ⟨k, ek, k1, k4⟩ : ∃ k : Nat, 1 + d5 = (k : Int) ∧ 1 ≤ k ∧ k ≤ 4 := ⟨(1 + d5).toNat, by omega, by omega, by omega⟩
    refine okp_sseq (k : Int) (s := f5) (by simp -implicitDefEqProofs (disch := omega) only [sseq, sbind, sbind_def, spure, spure_def, slift, slift_def, val1, app1_eq, Res.ok_bind, Res.bind_assoc, ofOpt_some, nb_ok, ite_app, e5, ek]) ?_
    obtain ⟨⟨R, f6⟩, e6, hp, hf6⟩ := s_order k (by omega) f5 hf5
    simp only at hp hf6
    refine okp_sseq R (s := f6) (by simp -implicitDefEqProofs (disch := omega) only [sseq, sbind, sbind_def, spure, spure_def, slift, slift_def, val1, app1_eq, Res.ok_bind, Res.bind_assoc, ofOpt_some, nb_ok, ite_app, e6]) ?_
    refine okp_seqCP (P := fun j => j.Perm (jars 0 k)) ?_ ?_
    · refine okp_sseq (decide (x = 0)) (s := ()) (by simp -implicitDefEqProofs (disch := omega) only [sseq, sbind, sbind_def, spure, spure_def, slift, slift_def, val1, app1_eq, Res.ok_bind, Res.bind_assoc, ofOpt_some, nb_ok, ite_app]) ?_
      refine okp_ite ?_ ?_
      · intro _
        exact okp_sseq (longest k) (s := ()) (sbi (rangeL 0 k) () (by simp -implicitDefEqProofs (disch := omega) only [sseq, sbind, sbind_def, spure, spure_def, slift, slift_def, val1, app1_eq, Res.ok_bind, Res.bind_assoc, ofOpt_some, nb_ok, ite_app, rangeO_ok]) (longF k ())) (okp_nx (long_perm k))
      · intro _
        exact okp_nx hp
    intro G hG
    obtain ⟨⟨v, f7⟩, e7, ⟨u, rfl, ru⟩, hf7⟩ := q_drawn (n := k) (by omega) G hG f6 hf6
    simp only at hf7
    have C := cls_ok k1 k4 hG ru
    have sG : m__law_spelled k (cI u) = .ok G := by
      have := q_lspelled k (by omega) u ru.b
      rw [ru.a] at this; exact this
    refine okp_sseq false (s := f7) (by simp -implicitDefEqProofs (disch := omega) only [sseq, sbind, sbind_def, spure, spure_def, slift, slift_def, val1, app1_eq, Res.ok_bind, Res.bind_assoc, ofOpt_some, nb_ok, ite_app, e7, q_cright k4 C sG, Bool.not_true]) ?_
    rw [if_neg (by decide)]
    exact okp_nx hf7
  intro g hg
  obtain ⟨d8, f8, e8, d8a, d8b, hf8⟩ := drawR_ok (many := 4) (by decide) (by decide) hg
  obtain ⟨k, ek, k1, k4⟩ : ∃ k : Nat, 1 + d8 = (k : Int) ∧ 1 ≤ k ∧ k ≤ 4 := ⟨(1 + d8).toNat, by omega, by omega, by omega⟩
  refine okp_sseq (k : Int) (s := f8) (by simp -implicitDefEqProofs (disch := omega) only [sseq, sbind, sbind_def, spure, spure_def, slift, slift_def, val1, app1_eq, Res.ok_bind, Res.bind_assoc, ofOpt_some, nb_ok, ite_app, e8, ek]) ?_
  refine okp_sseq [] (s := ()) rfl ?_
  obtain ⟨c1, c2, c3⟩ := kc k (by omega) k1
  have hWl : (wL (longest k)).length ≤ 300 := by
    have := wL_len (long_perm k)
    omega
  refine okp_seqC ?_
  refine okp_sseq (wL (longest k)) (s := ()) ?_ ?_
  · refine sbi (some (wL (longest k))) () ?_ (by simp -implicitDefEqProofs (disch := omega) only [sseq, sbind, sbind_def, spure, spure_def, slift, slift_def, val1, app1_eq, Res.ok_bind, Res.bind_assoc, ofOpt_some, nb_ok, ite_app])
    refine sbi (longest k, ()) () ?_ (by simp -implicitDefEqProofs (disch := omega) only [sseq, sbind, sbind_def, spure, spure_def, slift, slift_def, val1, app1_eq, Res.ok_bind, Res.bind_assoc, ofOpt_some, nb_ok, ite_app, q_lall k1 k4])
    refine sbi (longest k) () ?_ rfl
    exact sbi (rangeL 0 k) () (by simp -implicitDefEqProofs (disch := omega) only [sseq, sbind, sbind_def, spure, spure_def, slift, slift_def, val1, app1_eq, Res.ok_bind, Res.bind_assoc, ofOpt_some, nb_ok, ite_app, rangeO_ok]) (longF k ())
  refine okp_for (fun i g => g = ((wL (longest k)).take i |>.map fsW).foldl addF []) rfl ?_ ?_
  · rintro i x g hx rfl
    have hm := List.mem_of_getElem? hx
    have C := wL_cls k1 k4 hm
    generalize hG : ((wL (longest k)).take i |>.map fsW).foldl addF [] = G
    have hGl : G.length ≤ 1000 := by
      rw [← hG]
      have h1 := fold_len ((wL (longest k)).take i |>.map fsW) []
      rw [List.length_map, List.length_take] at h1
      simp only [List.length_nil] at h1
      omega
    refine okp_sseq (fsW x) (s := ()) (by simp -implicitDefEqProofs (disch := omega) only [sseq, sbind, sbind_def, spure, spure_def, slift, slift_def, val1, app1_eq, Res.ok_bind, Res.bind_assoc, ofOpt_some, nb_ok, ite_app, q_lclass C, fs_at C]) ?_
    have hnext : ((wL (longest k)).take (i + 1) |>.map fsW).foldl addF [] = addF G (fsW x) := by
      rw [List.take_add_one, hx, List.map_append, List.foldl_append, hG]; rfl
    refine okp_sseq (!memB (fsW x) G) (s := ()) (by simp -implicitDefEqProofs (disch := omega) only [sseq, sbind, sbind_def, spure, spure_def, slift, slift_def, val1, app1_eq, Res.ok_bind, Res.bind_assoc, ofOpt_some, nb_ok, ite_app]) ?_
    cases hmb : memB (fsW x) G with
    | true =>
      rw [if_neg (by decide)]
      refine okp_nx ?_
      rw [hnext]; unfold addF; rw [if_pos hmb]
    | false =>
      rw [if_pos (by decide)]
      refine okp_sseq (fsW x) (s := ()) rfl ?_
      refine okp_bind (G ++ [fsW x]) (appO_ok (by omega)) (okp_nx ?_)
      rw [hnext]; unfold addF; rw [if_neg (by rw [hmb]; decide)]
  rintro G rfl
  rw [List.take_length]
  have hlen : ((((wL (longest k)).map fsW).foldl addF []).length : Int) = ((cntP k : Nat) : Int) := by
    rw [← c1]; rfl
  generalize ((wL (longest k)).map fsW).foldl addF [] = G at hlen
  refine okp_sseq (toldD "told" (enc ((cntP k : Nat) : Int))) (s := ()) (by simp -implicitDefEqProofs (disch := omega) only [sseq, sbind, sbind_def, spure, spure_def, slift, slift_def, val1, app1_eq, Res.ok_bind, Res.bind_assoc, ofOpt_some, nb_ok, ite_app, q_askN k1 k4]) ?_
  have d1 : (Dec.dec (toldD "told" (enc ((cntP k : Nat) : Int))) : Option (Tup PyData)) = some ⟨[.str (PySem.Str.ofString "told"), enc ((cntP k : Nat) : Int)]⟩ := dec_tup _
  refine okp_sseq false (s := ()) ?_ ?_
  · refine or_f ?_ ?_
    · refine sbi (toldD "told" (enc ((cntP k : Nat) : Int))) () rfl ?_
      refine sbi (toldD "told" (enc ((cntP k : Nat) : Int))) () ?_ ?_
      · show Res.ok (toldD "told" (enc ((G.length : Int))), ()) = _
        rw [hlen]
      · show ofOpt (neD _ _) >>= _ = _
        rw [told_same "told" (α := Int) ok_told (by decide)]; rfl
    · simp -implicitDefEqProofs (disch := omega) only [sseq, sbind, sbind_def, spure, spure_def, slift, slift_def, val1, app1_eq, Res.ok_bind, Res.bind_assoc, ofOpt_some, nb_ok, ite_app, d1, at1, show m__law_whole (enc ((cntP k : Nat) : Int)) = .ok true from q_whole _, Bool.not_true]
  rw [if_neg (by decide)]
  obtain ⟨d9, f9, e9, d9a, d9b, hf9⟩ := drawR_ok (many := 5) (by decide) (by decide) hf8
  obtain ⟨m, em, m5, m9⟩ : ∃ k : Nat, 5 + d9 = (k : Int) ∧ 5 ≤ k ∧ k ≤ 9 := ⟨(5 + d9).toNat, by omega, by omega, by omega⟩
  refine okp_sseq (m : Int) (s := f9) (by simp -implicitDefEqProofs (disch := omega) only [sseq, sbind, sbind_def, spure, spure_def, slift, slift_def, val1, app1_eq, Res.ok_bind, Res.bind_assoc, ofOpt_some, nb_ok, ite_app, e9, em]) ?_
  have hne4 : ofOpt (neD (toldD "refused" (enc (4 : Int))) (toldD "refused" (enc (4 : Int)))) = .ok false := told_same "refused" (α := Int) ok_refu (by decide) 4
  refine okp_sseq false (s := ()) ?_ ?_
  · refine or_f ?_ ?_
    · refine sbi (toldD "refused" (enc (4 : Int))) () (by simp -implicitDefEqProofs (disch := omega) only [sseq, sbind, sbind_def, spure, spure_def, slift, slift_def, val1, app1_eq, Res.ok_bind, Res.bind_assoc, ofOpt_some, nb_ok, ite_app, q_askB (show (4 : Int) < m by omega)]) ?_
      refine sbi (toldD "refused" (enc (4 : Int))) () rfl ?_
      show ofOpt (neD _ _) >>= _ = _
      rw [hne4]; rfl
    · refine sbi (toldD "told" (enc (8 : Int))) () ?_ ?_
      · have := q_askN (n := 4) (by decide) (by decide)
        rw [kc4] at this
        simp -implicitDefEqProofs (disch := omega) only [sseq, sbind, sbind_def, spure, spure_def, slift, slift_def, val1, app1_eq, Res.ok_bind, Res.bind_assoc, ofOpt_some, nb_ok, ite_app, show m__law_asked 4 none = .ok (toldD "told" (enc (8 : Int))) from this]
      refine sbi (toldD "told" (enc (8 : Int))) () rfl ?_
      show ofOpt (neD _ _) >>= _ = _
      rw [told_same "told" (α := Int) ok_told (by decide)]; rfl
  rw [if_neg (by decide)]
  obtain ⟨⟨R, f10⟩, e10, hp, hf10⟩ := s_order m (by omega) f9 hf9
  simp only at hp hf10
  obtain ⟨⟨v, f11⟩, e11, ⟨u, rfl, ru⟩, hf11⟩ := q_drawn (n := m) (by omega) R hp f10 hf10
  simp only at hf11
  refine okp_sseq false (s := f11) ?_ ?_
  · refine sbi (toldD "refused" (enc (4 : Int))) f11 ?_ ?_
    · simp -implicitDefEqProofs (disch := omega) only [sseq, sbind, sbind_def, spure, spure_def, slift, slift_def, val1, app1_eq, Res.ok_bind, Res.bind_assoc, ofOpt_some, nb_ok, ite_app, e10, e11, q_askWB (show (4 : Int) < m by omega) (cI u)]
    refine sbi (toldD "refused" (enc (4 : Int))) f11 rfl ?_
    show ofOpt (neD _ _) >>= _ = _
    rw [hne4]; rfl
  rw [if_neg (by decide)]
  have t1 : m_turned_spelling 3 [1, 2, 1] = .ok [2, 1, 2] := q_turn 3 (by decide) (by decide)
  have t2h : ∀ t, 1 ≤ t → t < 2 → itT 3 t [1, 2, 1] ≠ [1, 2, 1] := by
    intro t a b
    have : t = 1 := by omega
    subst this
    decide
  have t2 : m_turn_round 3 [1, 2, 1] = .ok 2 := q_round 3 (w := [1, 2, 1]) (m := 2) (by decide) (by decide) (by decide) (by decide) (by decide) t2h
  have t3 : m_turn_round 2 [1] = .ok 1 := q_round 2 (w := [1]) (m := 1) (by decide) (by decide) (by decide) (by decide) (by decide) (by intro t a b; omega)
  refine okp_sseq true (s := ()) ?_ (okp_rt rfl)
  refine and_t (by simp -implicitDefEqProofs (disch := omega) only [sseq, sbind, sbind_def, spure, spure_def, slift, slift_def, val1, app1_eq, Res.ok_bind, Res.bind_assoc, ofOpt_some, nb_ok, ite_app, t1, decide_true]) (and_t (by simp -implicitDefEqProofs (disch := omega) only [sseq, sbind, sbind_def, spure, spure_def, slift, slift_def, val1, app1_eq, Res.ok_bind, Res.bind_assoc, ofOpt_some, nb_ok, ite_app, t2, decide_true]) (by simp -implicitDefEqProofs (disch := omega) only [sseq, sbind, sbind_def, spure, spure_def, slift, slift_def, val1, app1_eq, Res.ok_bind, Res.bind_assoc, ofOpt_some, nb_ok, ite_app, t3, decide_true]))
end K25

set_option Elab.async false
set_option linter.all false
set_option maxRecDepth 100000
set_option maxHeartbeats 4000000
namespace K25
open PySem PySem.Spec PyProof.Rows L2 DL DL.Enc
section
theorem all_mk (hlaw : ∀ script, m_law script = .ok true) {P : Program} {w : World} {K : PySem.W.Frag} {h : Heap} {mg : Str → Option Value} {fa : Addr} (X : K.In h) (G : h.Ns mainGlobals mg) (hfa : mg "law" = some (.ref fa))
    {f6 : Addr} {oc6 kV6 dc6 pm6 cd6 ct6 : Value} {od6 an6 : Option Addr} {sl6 : Array (Option Value)}
    {f7 : Addr} {oc7 kV7 dc7 pm7 cd7 ct7 : Value} {od7 an7 : Option Addr} {sl7 : Array (Option Value)}
    {f8 : Addr} {oc8 kV8 dc8 pm8 cd8 ct8 : Value} {od8 an8 : Option Addr} {sl8 : Array (Option Value)}
    {f9 : Addr} {oc9 kV9 dc9 pm9 cd9 ct9 : Value} {od9 an9 : Option Addr} {sl9 : Array (Option Value)}
    {f10 : Addr} {oc10 kV10 dc10 pm10 cd10 ct10 : Value} {od10 an10 : Option Addr} {sl10 : Array (Option Value)}
    {f11 : Addr} {oc11 kV11 dc11 pm11 cd11 ct11 : Value} {od11 an11 : Option Addr} {sl11 : Array (Option Value)}
    {f12 : Addr} {oc12 kV12 dc12 pm12 cd12 ct12 : Value} {od12 an12 : Option Addr} {sl12 : Array (Option Value)}
    {f13 : Addr} {oc13 kV13 dc13 pm13 cd13 ct13 : Value} {od13 an13 : Option Addr} {sl13 : Array (Option Value)}
    {f14 : Addr} {oc14 kV14 dc14 pm14 cd14 ct14 : Value} {od14 an14 : Option Addr} {sl14 : Array (Option Value)}
    {f15 : Addr} {oc15 kV15 dc15 pm15 cd15 ct15 : Value} {od15 an15 : Option Addr} {sl15 : Array (Option Value)}
    {f18 : Addr} {oc18 kV18 dc18 pm18 cd18 ct18 : Value} {od18 an18 : Option Addr} {sl18 : Array (Option Value)}
    {f19 : Addr} {oc19 kV19 dc19 pm19 cd19 ct19 : Value} {od19 an19 : Option Addr} {sl19 : Array (Option Value)}
    {f22 : Addr} {oc22 kV22 dc22 pm22 cd22 ct22 : Value} {od22 an22 : Option Addr} {sl22 : Array (Option Value)}
    {f23 : Addr} {oc23 kV23 dc23 pm23 cd23 ct23 : Value} {od23 an23 : Option Addr} {sl23 : Array (Option Value)}
    {f24 : Addr} {oc24 kV24 dc24 pm24 cd24 ct24 : Value} {od24 an24 : Option Addr} {sl24 : Array (Option Value)}
    {f25 : Addr} {oc25 kV25 dc25 pm25 cd25 ct25 : Value} {od25 an25 : Option Addr} {sl25 : Array (Option Value)}
    {f26 : Addr} {oc26 kV26 dc26 pm26 cd26 ct26 : Value} {od26 an26 : Option Addr} {sl26 : Array (Option Value)}
    {f27 : Addr} {oc27 kV27 dc27 pm27 cd27 ct27 : Value} {od27 an27 : Option Addr} {sl27 : Array (Option Value)}
    {f29 : Addr} {oc29 kV29 dc29 pm29 cd29 ct29 : Value} {od29 an29 : Option Addr} {sl29 : Array (Option Value)}
    {f30 : Addr} {oc30 kV30 dc30 pm30 cd30 ct30 : Value} {od30 an30 : Option Addr} {sl30 : Array (Option Value)}
    {f31 : Addr} {oc31 kV31 dc31 pm31 cd31 ct31 : Value} {od31 an31 : Option Addr} {sl31 : Array (Option Value)}
    {f32 : Addr} {oc32 kV32 dc32 pm32 cd32 ct32 : Value} {od32 an32 : Option Addr} {sl32 : Array (Option Value)}
    {f33 : Addr} {oc33 kV33 dc33 pm33 cd33 ct33 : Value} {od33 an33 : Option Addr} {sl33 : Array (Option Value)}
    {f34 : Addr} {oc34 kV34 dc34 pm34 cd34 ct34 : Value} {od34 an34 : Option Addr} {sl34 : Array (Option Value)}
    {f35 : Addr} {oc35 kV35 dc35 pm35 cd35 ct35 : Value} {od35 an35 : Option Addr} {sl35 : Array (Option Value)}
    {f36 : Addr} {oc36 kV36 dc36 pm36 cd36 ct36 : Value} {od36 an36 : Option Addr} {sl36 : Array (Option Value)}
    {f37 : Addr} {oc37 kV37 dc37 pm37 cd37 ct37 : Value} {od37 an37 : Option Addr} {sl37 : Array (Option Value)}
    {f38 : Addr} {oc38 kV38 dc38 pm38 cd38 ct38 : Value} {od38 an38 : Option Addr} {sl38 : Array (Option Value)}
    {f39 : Addr} {oc39 kV39 dc39 pm39 cd39 ct39 : Value} {od39 an39 : Option Addr} {sl39 : Array (Option Value)}
    {f40 : Addr} {oc40 kV40 dc40 pm40 cd40 ct40 : Value} {od40 an40 : Option Addr} {sl40 : Array (Option Value)}
    {f41 : Addr} {oc41 kV41 dc41 pm41 cd41 ct41 : Value} {od41 an41 : Option Addr} {sl41 : Array (Option Value)}
    {f42 : Addr} {oc42 kV42 dc42 pm42 cd42 ct42 : Value} {od42 an42 : Option Addr} {sl42 : Array (Option Value)}
    {f43 : Addr} {oc43 kV43 dc43 pm43 cd43 ct43 : Value} {od43 an43 : Option Addr} {sl43 : Array (Option Value)}
    {f44 : Addr} {oc44 kV44 dc44 pm44 cd44 ct44 : Value} {od44 an44 : Option Addr} {sl44 : Array (Option Value)}
    {f45 : Addr} {oc45 kV45 dc45 pm45 cd45 ct45 : Value} {od45 an45 : Option Addr} {sl45 : Array (Option Value)}
    {t_FAR : PySem.Tok}
    {t_MOST_JARS : PySem.Tok}
    {t_MOST_TOLD : PySem.Tok}
    {C1 N1 : Addr} {nm1 q1 : Str} {bs1 bm1 sb1 : List Value} {sn1 : List Str} {ab1 : Bool} {co1 : Option Bool} {dd1 : Option Addr} {p1 r1 s1 t1 u1 : Option Value}
    {C2 N2 : Addr} {nm2 q2 : Str} {bs2 bm2 sb2 : List Value} {sn2 : List Str} {ab2 : Bool} {co2 : Option Bool} {dd2 : Option Addr} {p2 r2 s2 t2 u2 : Option Value}
    {fI2 : Addr} {ioc2 ikV2 idc2 ipm2 icd2 ict2 : Value} {iod2 ian2 : Option Addr} {isl2 : Array (Option Value)}
    {C3 N3 : Addr} {nm3 q3 : Str} {bs3 bm3 sb3 : List Value} {sn3 : List Str} {ab3 : Bool} {co3 : Option Bool} {dd3 : Option Addr} {p3 r3 s3 t3 u3 : Option Value}
    {fI3 : Addr} {ioc3 ikV3 idc3 ipm3 icd3 ict3 : Value} {iod3 ian3 : Option Addr} {isl3 : Array (Option Value)}
    (a6 : PySem.W.nsIn K mainGlobals "exchanged_at" = some (some (.ref f6)))
    (l6 : K.lookup f6 = some ⟨oc6, od6, .func (PySem.W.fnOf "exchanged_at" "exchanged_at" (defArgs s_exchanged_at) (defBody s_exchanged_at) (defScope s_exchanged_at) .none kV6 dc6 pm6 an6 cd6 ct6), sl6⟩)
    (c6 : PySem.W.codeIn K cd6 "exchanged_at" = true)
    (k6 : PySem.W.keepIn K (.ref f6) = true)
    (a7 : PySem.W.nsIn K mainGlobals "sorted_order" = some (some (.ref f7)))
    (l7 : K.lookup f7 = some ⟨oc7, od7, .func (PySem.W.fnOf "sorted_order" "sorted_order" (defArgs s_sorted_order) (defBody s_sorted_order) (defScope s_sorted_order) .none kV7 dc7 pm7 an7 cd7 ct7), sl7⟩)
    (c7 : PySem.W.codeIn K cd7 "sorted_order" = true)
    (k7 : PySem.W.keepIn K (.ref f7) = true)
    (a8 : PySem.W.nsIn K mainGlobals "wrong_jars" = some (some (.ref f8)))
    (l8 : K.lookup f8 = some ⟨oc8, od8, .func (PySem.W.fnOf "wrong_jars" "wrong_jars" (defArgs s_wrong_jars) (defBody s_wrong_jars) (defScope s_wrong_jars) .none kV8 dc8 pm8 an8 cd8 ct8), sl8⟩)
    (c8 : PySem.W.codeIn K cd8 "wrong_jars" = true)
    (k8 : PySem.W.keepIn K (.ref f8) = true)
    (a9 : PySem.W.nsIn K mainGlobals "last_members" = some (some (.ref f9)))
    (l9 : K.lookup f9 = some ⟨oc9, od9, .func (PySem.W.fnOf "last_members" "last_members" (defArgs s_last_members) (defBody s_last_members) (defScope s_last_members) .none kV9 dc9 pm9 an9 cd9 ct9), sl9⟩)
    (c9 : PySem.W.codeIn K cd9 "last_members" = true)
    (k9 : PySem.W.keepIn K (.ref f9) = true)
    (a10 : PySem.W.nsIn K mainGlobals "places_of" = some (some (.ref f10)))
    (l10 : K.lookup f10 = some ⟨oc10, od10, .func (PySem.W.fnOf "places_of" "places_of" (defArgs s_places_of) (defBody s_places_of) (defScope s_places_of) .none kV10 dc10 pm10 an10 cd10 ct10), sl10⟩)
    (c10 : PySem.W.codeIn K cd10 "places_of" = true)
    (k10 : PySem.W.keepIn K (.ref f10) = true)
    (a11 : PySem.W.nsIn K mainGlobals "first_members" = some (some (.ref f11)))
    (l11 : K.lookup f11 = some ⟨oc11, od11, .func (PySem.W.fnOf "first_members" "first_members" (defArgs s_first_members) (defBody s_first_members) (defScope s_first_members) .none kV11 dc11 pm11 an11 cd11 ct11), sl11⟩)
    (c11 : PySem.W.codeIn K cd11 "first_members" = true)
    (k11 : PySem.W.keepIn K (.ref f11) = true)
    (a12 : PySem.W.nsIn K mainGlobals "longest_order" = some (some (.ref f12)))
    (l12 : K.lookup f12 = some ⟨oc12, od12, .func (PySem.W.fnOf "longest_order" "longest_order" (defArgs s_longest_order) (defBody s_longest_order) (defScope s_longest_order) .none kV12 dc12 pm12 an12 cd12 ct12), sl12⟩)
    (c12 : PySem.W.codeIn K cd12 "longest_order" = true)
    (k12 : PySem.W.keepIn K (.ref f12) = true)
    (a13 : PySem.W.nsIn K mainGlobals "without_first" = some (some (.ref f13)))
    (l13 : K.lookup f13 = some ⟨oc13, od13, .func (PySem.W.fnOf "without_first" "without_first" (defArgs s_without_first) (defBody s_without_first) (defScope s_without_first) .none kV13 dc13 pm13 an13 cd13 ct13), sl13⟩)
    (c13 : PySem.W.codeIn K cd13 "without_first" = true)
    (k13 : PySem.W.keepIn K (.ref f13) = true)
    (a14 : PySem.W.nsIn K mainGlobals "count_spellings" = some (some (.ref f14)))
    (l14 : K.lookup f14 = some ⟨oc14, od14, .func (PySem.W.fnOf "count_spellings" "count_spellings" (defArgs s_count_spellings) (defBody s_count_spellings) (defScope s_count_spellings) .none kV14 dc14 pm14 an14 cd14 ct14), sl14⟩)
    (c14 : PySem.W.codeIn K cd14 "count_spellings" = true)
    (k14 : PySem.W.keepIn K (.ref f14) = true)
    (a15 : PySem.W.nsIn K mainGlobals "all_spellings" = some (some (.ref f15)))
    (l15 : K.lookup f15 = some ⟨oc15, od15, .func (PySem.W.fnOf "all_spellings" "all_spellings" (defArgs s_all_spellings) (defBody s_all_spellings) (defScope s_all_spellings) .none kV15 dc15 pm15 an15 cd15 ct15), sl15⟩)
    (c15 : PySem.W.codeIn K cd15 "all_spellings" = true)
    (k15 : PySem.W.keepIn K (.ref f15) = true)
    (a18 : PySem.W.nsIn K mainGlobals "may_move" = some (some (.ref f18)))
    (l18 : K.lookup f18 = some ⟨oc18, od18, .func (PySem.W.fnOf "may_move" "may_move" (defArgs s_may_move) (defBody s_may_move) (defScope s_may_move) .none kV18 dc18 pm18 an18 cd18 ct18), sl18⟩)
    (c18 : PySem.W.codeIn K cd18 "may_move" = true)
    (k18 : PySem.W.keepIn K (.ref f18) = true)
    (a19 : PySem.W.nsIn K mainGlobals "do_move" = some (some (.ref f19)))
    (l19 : K.lookup f19 = some ⟨oc19, od19, .func (PySem.W.fnOf "do_move" "do_move" (defArgs s_do_move) (defBody s_do_move) (defScope s_do_move) .none kV19 dc19 pm19 an19 cd19 ct19), sl19⟩)
    (c19 : PySem.W.codeIn K cd19 "do_move" = true)
    (k19 : PySem.W.keepIn K (.ref f19) = true)
    (a22 : PySem.W.nsIn K mainGlobals "turned_spelling" = some (some (.ref f22)))
    (l22 : K.lookup f22 = some ⟨oc22, od22, .func (PySem.W.fnOf "turned_spelling" "turned_spelling" (defArgs s_turned_spelling) (defBody s_turned_spelling) (defScope s_turned_spelling) .none kV22 dc22 pm22 an22 cd22 ct22), sl22⟩)
    (c22 : PySem.W.codeIn K cd22 "turned_spelling" = true)
    (k22 : PySem.W.keepIn K (.ref f22) = true)
    (a23 : PySem.W.nsIn K mainGlobals "turn_round" = some (some (.ref f23)))
    (l23 : K.lookup f23 = some ⟨oc23, od23, .func (PySem.W.fnOf "turn_round" "turn_round" (defArgs s_turn_round) (defBody s_turn_round) (defScope s_turn_round) .none kV23 dc23 pm23 an23 cd23 ct23), sl23⟩)
    (c23 : PySem.W.codeIn K cd23 "turn_round" = true)
    (k23 : PySem.W.keepIn K (.ref f23) = true)
    (a24 : PySem.W.nsIn K mainGlobals "check_few" = some (some (.ref f24)))
    (l24 : K.lookup f24 = some ⟨oc24, od24, .func (PySem.W.fnOf "check_few" "check_few" (defArgs s_check_few) (defBody s_check_few) (defScope s_check_few) .none kV24 dc24 pm24 an24 cd24 ct24), sl24⟩)
    (c24 : PySem.W.codeIn K cd24 "check_few" = true)
    (k24 : PySem.W.keepIn K (.ref f24) = true)
    (a25 : PySem.W.nsIn K mainGlobals "class_of" = some (some (.ref f25)))
    (l25 : K.lookup f25 = some ⟨oc25, od25, .func (PySem.W.fnOf "class_of" "class_of" (defArgs s_class_of) (defBody s_class_of) (defScope s_class_of) .none kV25 dc25 pm25 an25 cd25 ct25), sl25⟩)
    (c25 : PySem.W.codeIn K cd25 "class_of" = true)
    (k25 : PySem.W.keepIn K (.ref f25) = true)
    (a26 : PySem.W.nsIn K mainGlobals "far_class" = some (some (.ref f26)))
    (l26 : K.lookup f26 = some ⟨oc26, od26, .func (PySem.W.fnOf "far_class" "far_class" (defArgs s_far_class) (defBody s_far_class) (defScope s_far_class) .none kV26 dc26 pm26 an26 cd26 ct26), sl26⟩)
    (c26 : PySem.W.codeIn K cd26 "far_class" = true)
    (k26 : PySem.W.keepIn K (.ref f26) = true)
    (a27 : PySem.W.nsIn K mainGlobals "count_far_classes" = some (some (.ref f27)))
    (l27 : K.lookup f27 = some ⟨oc27, od27, .func (PySem.W.fnOf "count_far_classes" "count_far_classes" (defArgs s_count_far_classes) (defBody s_count_far_classes) (defScope s_count_far_classes) .none kV27 dc27 pm27 an27 cd27 ct27), sl27⟩)
    (c27 : PySem.W.codeIn K cd27 "count_far_classes" = true)
    (k27 : PySem.W.keepIn K (.ref f27) = true)
    (a29 : PySem.W.nsIn K mainGlobals "_law_feed" = some (some (.ref f29)))
    (l29 : K.lookup f29 = some ⟨oc29, od29, .func (PySem.W.fnOf "_law_feed" "_law_feed" (defArgs s__law_feed) (defBody s__law_feed) (defScope s__law_feed) .none kV29 dc29 pm29 an29 cd29 ct29), sl29⟩)
    (c29 : PySem.W.codeIn K cd29 "_law_feed" = true)
    (k29 : PySem.W.keepIn K (.ref f29) = true)
    (a30 : PySem.W.nsIn K mainGlobals "_law_draw" = some (some (.ref f30)))
    (l30 : K.lookup f30 = some ⟨oc30, od30, .func (PySem.W.fnOf "_law_draw" "_law_draw" (defArgs s__law_draw) (defBody s__law_draw) (defScope s__law_draw) .none kV30 dc30 pm30 an30 cd30 ct30), sl30⟩)
    (c30 : PySem.W.codeIn K cd30 "_law_draw" = true)
    (k30 : PySem.W.keepIn K (.ref f30) = true)
    (a31 : PySem.W.nsIn K mainGlobals "_law_whole" = some (some (.ref f31)))
    (l31 : K.lookup f31 = some ⟨oc31, od31, .func (PySem.W.fnOf "_law_whole" "_law_whole" (defArgs s__law_whole) (defBody s__law_whole) (defScope s__law_whole) .none kV31 dc31 pm31 an31 cd31 ct31), sl31⟩)
    (c31 : PySem.W.codeIn K cd31 "_law_whole" = true)
    (k31 : PySem.W.keepIn K (.ref f31) = true)
    (a32 : PySem.W.nsIn K mainGlobals "_law_wholes" = some (some (.ref f32)))
    (l32 : K.lookup f32 = some ⟨oc32, od32, .func (PySem.W.fnOf "_law_wholes" "_law_wholes" (defArgs s__law_wholes) (defBody s__law_wholes) (defScope s__law_wholes) .none kV32 dc32 pm32 an32 cd32 ct32), sl32⟩)
    (c32 : PySem.W.codeIn K cd32 "_law_wholes" = true)
    (k32 : PySem.W.keepIn K (.ref f32) = true)
    (a33 : PySem.W.nsIn K mainGlobals "_law_order" = some (some (.ref f33)))
    (l33 : K.lookup f33 = some ⟨oc33, od33, .func (PySem.W.fnOf "_law_order" "_law_order" (defArgs s__law_order) (defBody s__law_order) (defScope s__law_order) .none kV33 dc33 pm33 an33 cd33 ct33), sl33⟩)
    (c33 : PySem.W.codeIn K cd33 "_law_order" = true)
    (k33 : PySem.W.keepIn K (.ref f33) = true)
    (a34 : PySem.W.nsIn K mainGlobals "_law_swapped" = some (some (.ref f34)))
    (l34 : K.lookup f34 = some ⟨oc34, od34, .func (PySem.W.fnOf "_law_swapped" "_law_swapped" (defArgs s__law_swapped) (defBody s__law_swapped) (defScope s__law_swapped) .none kV34 dc34 pm34 an34 cd34 ct34), sl34⟩)
    (c34 : PySem.W.codeIn K cd34 "_law_swapped" = true)
    (k34 : PySem.W.keepIn K (.ref f34) = true)
    (a35 : PySem.W.nsIn K mainGlobals "_law_spelled" = some (some (.ref f35)))
    (l35 : K.lookup f35 = some ⟨oc35, od35, .func (PySem.W.fnOf "_law_spelled" "_law_spelled" (defArgs s__law_spelled) (defBody s__law_spelled) (defScope s__law_spelled) .none kV35 dc35 pm35 an35 cd35 ct35), sl35⟩)
    (c35 : PySem.W.codeIn K cd35 "_law_spelled" = true)
    (k35 : PySem.W.keepIn K (.ref f35) = true)
    (a36 : PySem.W.nsIn K mainGlobals "_law_wrong" = some (some (.ref f36)))
    (l36 : K.lookup f36 = some ⟨oc36, od36, .func (PySem.W.fnOf "_law_wrong" "_law_wrong" (defArgs s__law_wrong) (defBody s__law_wrong) (defScope s__law_wrong) .none kV36 dc36 pm36 an36 cd36 ct36), sl36⟩)
    (c36 : PySem.W.codeIn K cd36 "_law_wrong" = true)
    (k36 : PySem.W.keepIn K (.ref f36) = true)
    (a37 : PySem.W.nsIn K mainGlobals "_law_drawn_spelling" = some (some (.ref f37)))
    (l37 : K.lookup f37 = some ⟨oc37, od37, .func (PySem.W.fnOf "_law_drawn_spelling" "_law_drawn_spelling" (defArgs s__law_drawn_spelling) (defBody s__law_drawn_spelling) (defScope s__law_drawn_spelling) .none kV37 dc37 pm37 an37 cd37 ct37), sl37⟩)
    (c37 : PySem.W.codeIn K cd37 "_law_drawn_spelling" = true)
    (k37 : PySem.W.keepIn K (.ref f37) = true)
    (a38 : PySem.W.nsIn K mainGlobals "_law_all" = some (some (.ref f38)))
    (l38 : K.lookup f38 = some ⟨oc38, od38, .func (PySem.W.fnOf "_law_all" "_law_all" (defArgs s__law_all) (defBody s__law_all) (defScope s__law_all) .none kV38 dc38 pm38 an38 cd38 ct38), sl38⟩)
    (c38 : PySem.W.codeIn K cd38 "_law_all" = true)
    (k38 : PySem.W.keepIn K (.ref f38) = true)
    (a39 : PySem.W.nsIn K mainGlobals "_law_spelling_longest" = some (some (.ref f39)))
    (l39 : K.lookup f39 = some ⟨oc39, od39, .func (PySem.W.fnOf "_law_spelling_longest" "_law_spelling_longest" (defArgs s__law_spelling_longest) (defBody s__law_spelling_longest) (defScope s__law_spelling_longest) .none kV39 dc39 pm39 an39 cd39 ct39), sl39⟩)
    (c39 : PySem.W.codeIn K cd39 "_law_spelling_longest" = true)
    (k39 : PySem.W.keepIn K (.ref f39) = true)
    (a40 : PySem.W.nsIn K mainGlobals "_law_turned_right" = some (some (.ref f40)))
    (l40 : K.lookup f40 = some ⟨oc40, od40, .func (PySem.W.fnOf "_law_turned_right" "_law_turned_right" (defArgs s__law_turned_right) (defBody s__law_turned_right) (defScope s__law_turned_right) .none kV40 dc40 pm40 an40 cd40 ct40), sl40⟩)
    (c40 : PySem.W.codeIn K cd40 "_law_turned_right" = true)
    (k40 : PySem.W.keepIn K (.ref f40) = true)
    (a41 : PySem.W.nsIn K mainGlobals "_law_walk_right" = some (some (.ref f41)))
    (l41 : K.lookup f41 = some ⟨oc41, od41, .func (PySem.W.fnOf "_law_walk_right" "_law_walk_right" (defArgs s__law_walk_right) (defBody s__law_walk_right) (defScope s__law_walk_right) .none kV41 dc41 pm41 an41 cd41 ct41), sl41⟩)
    (c41 : PySem.W.codeIn K cd41 "_law_walk_right" = true)
    (k41 : PySem.W.keepIn K (.ref f41) = true)
    (a42 : PySem.W.nsIn K mainGlobals "_law_class" = some (some (.ref f42)))
    (l42 : K.lookup f42 = some ⟨oc42, od42, .func (PySem.W.fnOf "_law_class" "_law_class" (defArgs s__law_class) (defBody s__law_class) (defScope s__law_class) .none kV42 dc42 pm42 an42 cd42 ct42), sl42⟩)
    (c42 : PySem.W.codeIn K cd42 "_law_class" = true)
    (k42 : PySem.W.keepIn K (.ref f42) = true)
    (a43 : PySem.W.nsIn K mainGlobals "_law_asked" = some (some (.ref f43)))
    (l43 : K.lookup f43 = some ⟨oc43, od43, .func (PySem.W.fnOf "_law_asked" "_law_asked" (defArgs s__law_asked) (defBody s__law_asked) (defScope s__law_asked) .none kV43 dc43 pm43 an43 cd43 ct43), sl43⟩)
    (c43 : PySem.W.codeIn K cd43 "_law_asked" = true)
    (k43 : PySem.W.keepIn K (.ref f43) = true)
    (a44 : PySem.W.nsIn K mainGlobals "_law_class_right" = some (some (.ref f44)))
    (l44 : K.lookup f44 = some ⟨oc44, od44, .func (PySem.W.fnOf "_law_class_right" "_law_class_right" (defArgs s__law_class_right) (defBody s__law_class_right) (defScope s__law_class_right) .none kV44 dc44 pm44 an44 cd44 ct44), sl44⟩)
    (c44 : PySem.W.codeIn K cd44 "_law_class_right" = true)
    (k44 : PySem.W.keepIn K (.ref f44) = true)
    (a45 : PySem.W.nsIn K mainGlobals "law" = some (some (.ref f45)))
    (l45 : K.lookup f45 = some ⟨oc45, od45, .func (PySem.W.fnOf "law" "law" (defArgs s_law) (defBody s_law) (defScope s_law) .none kV45 dc45 pm45 an45 cd45 ct45), sl45⟩)
    (c45 : PySem.W.codeIn K cd45 "law" = true)
    (k45 : PySem.W.keepIn K (.ref f45) = true)
    (z_abs : PySem.W.nsIn K mainGlobals "abs" = some none)
    (z_all : PySem.W.nsIn K mainGlobals "all" = some none)
    (z_bool : PySem.W.nsIn K mainGlobals "bool" = some none)
    (z_enumerate : PySem.W.nsIn K mainGlobals "enumerate" = some none)
    (z_int : PySem.W.nsIn K mainGlobals "int" = some none)
    (z_isinstance : PySem.W.nsIn K mainGlobals "isinstance" = some none)
    (z_len : PySem.W.nsIn K mainGlobals "len" = some none)
    (z_list : PySem.W.nsIn K mainGlobals "list" = some none)
    (z_range : PySem.W.nsIn K mainGlobals "range" = some none)
    (z_sorted : PySem.W.nsIn K mainGlobals "sorted" = some none)
    (z_sum : PySem.W.nsIn K mainGlobals "sum" = some none)
    (z_tuple : PySem.W.nsIn K mainGlobals "tuple" = some none)
    (w_FAR : PySem.W.nsIn K mainGlobals "FAR" = some (some (.str "far" t_FAR)))
    (w_MOST_JARS : PySem.W.nsIn K mainGlobals "MOST_JARS" = some (some (.int 4 t_MOST_JARS)))
    (w_MOST_TOLD : PySem.W.nsIn K mainGlobals "MOST_TOLD" = some (some (.int 300 t_MOST_TOLD)))
    (aC1 : PySem.W.nsIn K mainGlobals "ShelfError" = some (some (.ref C1)))
    (xL1 : K.lookup C1 = some (excClassObj nm1 q1 C1 N1 bs1 bm1 true sn1 sb1 ab1 co1 dd1 p1 r1 s1 t1 u1 "ValueError.__new__"))
    (hv1 : PySem.HandSPX.refsVE bm1 = true)
    (sa1 : PySem.W.findIn K (.ref C1) "__setattr__" = some (some (.builtin "object.__setattr__")))
    (ga1 : PySem.W.findIn K (.ref C1) "__getattribute__" = some (some (.builtin "BaseException.__getattribute__")))
    (gg1 : PySem.W.findIn K (.ref C1) "__getattr__" = some none)
    (eC1 : PySem.W.subIn K (.ref C1) (.type "BaseException") = some true)
    (tC1 : PySem.W.typeIn K (.ref C1) = some (.type "type"))
    (kC1 : PySem.W.keepIn K (.ref C1) = true)
    (hC1 : PySem.W.hasDictIn K C1 = true)
    (hk1 : PySem.W.findIn K (.ref C1) "__class__" = some (some (.builtin "object.__class__")))
    (hm1 : PySem.W.mroIn K C1 (.type "object") = some true)
    (aC2 : PySem.W.nsIn K mainGlobals "NoExchange" = some (some (.ref C2)))
    (xL2 : K.lookup C2 = some (excClassObj nm2 q2 C2 N2 bs2 bm2 true sn2 sb2 ab2 co2 dd2 p2 r2 s2 t2 u2 "ValueError.__new__"))
    (hv2 : PySem.HandSPX.refsVE bm2 = true)
    (sa2 : PySem.W.findIn K (.ref C2) "__setattr__" = some (some (.builtin "object.__setattr__")))
    (ga2 : PySem.W.findIn K (.ref C2) "__getattribute__" = some (some (.builtin "BaseException.__getattribute__")))
    (gg2 : PySem.W.findIn K (.ref C2) "__getattr__" = some none)
    (eC2 : PySem.W.subIn K (.ref C2) (.type "BaseException") = some true)
    (tC2 : PySem.W.typeIn K (.ref C2) = some (.type "type"))
    (kC2 : PySem.W.keepIn K (.ref C2) = true)
    (hC2 : PySem.W.hasDictIn K C2 = true)
    (hk2 : PySem.W.findIn K (.ref C2) "__class__" = some (some (.builtin "object.__class__")))
    (hm2 : PySem.W.mroIn K C2 (.type "object") = some true)
    (no2_0 : PySem.W.findIn K (.ref C2) "at" = some none)
    (iC2 : PySem.W.findIn K (.ref C2) "__init__" = some (some (.ref fI2)))
    (tI2 : PySem.W.typeIn K (.ref fI2) = some (.type "function"))
    (il2 : K.lookup fI2 = some ⟨ioc2, iod2, .func (PySem.W.fnOf "__init__" "NoExchange.__init__" (defArgs (inClass (topS 2) 0)) (defBody (inClass (topS 2) 0)) (defScope (inClass (topS 2) 0)) .none ikV2 idc2 ipm2 ian2 icd2 ict2), isl2⟩)
    (ic2 : PySem.W.codeIn K icd2 "NoExchange.__init__" = true)
    (ik2 : PySem.W.keepIn K (.ref fI2) = true)
    (aC3 : PySem.W.nsIn K mainGlobals "TooMany" = some (some (.ref C3)))
    (xL3 : K.lookup C3 = some (excClassObj nm3 q3 C3 N3 bs3 bm3 true sn3 sb3 ab3 co3 dd3 p3 r3 s3 t3 u3 "ValueError.__new__"))
    (hv3 : PySem.HandSPX.refsVE bm3 = true)
    (sa3 : PySem.W.findIn K (.ref C3) "__setattr__" = some (some (.builtin "object.__setattr__")))
    (ga3 : PySem.W.findIn K (.ref C3) "__getattribute__" = some (some (.builtin "BaseException.__getattribute__")))
    (gg3 : PySem.W.findIn K (.ref C3) "__getattr__" = some none)
    (eC3 : PySem.W.subIn K (.ref C3) (.type "BaseException") = some true)
    (tC3 : PySem.W.typeIn K (.ref C3) = some (.type "type"))
    (kC3 : PySem.W.keepIn K (.ref C3) = true)
    (hC3 : PySem.W.hasDictIn K C3 = true)
    (hk3 : PySem.W.findIn K (.ref C3) "__class__" = some (some (.builtin "object.__class__")))
    (hm3 : PySem.W.mroIn K C3 (.type "object") = some true)
    (no3_0 : PySem.W.findIn K (.ref C3) "limit" = some none)
    (iC3 : PySem.W.findIn K (.ref C3) "__init__" = some (some (.ref fI3)))
    (tI3 : PySem.W.typeIn K (.ref fI3) = some (.type "function"))
    (il3 : K.lookup fI3 = some ⟨ioc3, iod3, .func (PySem.W.fnOf "__init__" "TooMany.__init__" (defArgs (inClass (topS 3) 0)) (defBody (inClass (topS 3) 0)) (defScope (inClass (topS 3) 0)) .none ikV3 idc3 ipm3 ian3 icd3 ict3), isl3⟩)
    (ic3 : PySem.W.codeIn K icd3 "TooMany.__init__" = true)
    (ik3 : PySem.W.keepIn K (.ref fI3) = true)
    (hn : PySem.W.specialIn K (.builtin "object.__class__") "__get__" = some (some (.builtin "getset_descriptor.__get__")))
    (ht : PySem.W.takesIn K (.builtin "object.__class__") = some true)
    (sb1_1 : PySem.W.subIn K (.ref C1) (.ref C1) = some true)
    (sb1_2 : PySem.W.subIn K (.ref C1) (.ref C2) = some false)
    (sb1_3 : PySem.W.subIn K (.ref C1) (.ref C3) = some false)
    (sb2_1 : PySem.W.subIn K (.ref C2) (.ref C1) = some true)
    (sb2_2 : PySem.W.subIn K (.ref C2) (.ref C2) = some true)
    (sb2_3 : PySem.W.subIn K (.ref C2) (.ref C3) = some false)
    (sb3_1 : PySem.W.subIn K (.ref C3) (.ref C1) = some true)
    (sb3_2 : PySem.W.subIn K (.ref C3) (.ref C2) = some false)
    (sb3_3 : PySem.W.subIn K (.ref C3) (.ref C3) = some true)
    : ∃ fd : FuncData, (∀ (s : Shared) (v : Value), BindsTo s fd ⟨[v], []⟩ [("script", v)]) ∧ ∀ base : Heap, K.In base → base.Ns mainGlobals mg → FnOk P w K mg base CX0 8 fa fd ["script"] (spLaw K) := by
  have e := hfa.symm.trans (PySem.W.mg_of X G a45)
  cases e
  have FL := fun_mk (st := s_law) l45 c45 k45
  have xf1 : XF K mg "ShelfError" C1 [] := xf_mk X G aC1 xL1 hv1 sa1 ga1 gg1 eC1 tC1 kC1 hC1 hk1 hn ht hm1 (fun f hf => by cases hf)
  have xf2 : XF K mg "NoExchange" C2 ["at"] := xf_mk X G aC2 xL2 hv2 sa2 ga2 gg2 eC2 tC2 kC2 hC2 hk2 hn ht hm2 (fun f hf => by rw [List.mem_singleton.mp hf]; exact no2_0)
  have xf3 : XF K mg "TooMany" C3 ["limit"] := xf_mk X G aC3 xL3 hv3 sa3 ga3 gg3 eC3 tC3 kC3 hC3 hk3 hn ht hm3 (fun f hf => by rw [List.mem_singleton.mp hf]; exact no3_0)
  let cl : String → Option (Addr × List Str) := fun c => if c = "ShelfError" then some (C1, []) else if c = "NoExchange" then some (C2, ["at"]) else if c = "TooMany" then some (C3, ["limit"]) else none
  have hcl : ∀ c C fl, cl c = some (C, fl) → (c = "ShelfError" ∧ C = C1 ∧ fl = ([] : List Str)) ∨ (c = "NoExchange" ∧ C = C2 ∧ fl = (["at"] : List Str)) ∨ (c = "TooMany" ∧ C = C3 ∧ fl = (["limit"] : List Str)) := by
    intro c C fl hc
    simp only [cl] at hc
    repeat' split at hc
    all_goals first | (simp at hc; obtain ⟨rfl, rfl⟩ := hc; simp_all) | (simp at hc)
  have T : ∀ base, Tx P w K mg base cl := fun base => by
    constructor
    case z_abs => exact PySem.W.mg_none_of X G z_abs
    case z_all => exact PySem.W.mg_none_of X G z_all
    case z_bool => exact PySem.W.mg_none_of X G z_bool
    case z_enumerate => exact PySem.W.mg_none_of X G z_enumerate
    case z_int => exact PySem.W.mg_none_of X G z_int
    case z_isinstance => exact PySem.W.mg_none_of X G z_isinstance
    case z_len => exact PySem.W.mg_none_of X G z_len
    case z_list => exact PySem.W.mg_none_of X G z_list
    case z_range => exact PySem.W.mg_none_of X G z_range
    case z_sorted => exact PySem.W.mg_none_of X G z_sorted
    case z_sum => exact PySem.W.mg_none_of X G z_sum
    case z_tuple => exact PySem.W.mg_none_of X G z_tuple
    case c_FAR => exact ⟨_, PySem.W.mg_of X G w_FAR⟩
    case c_MOST_JARS => exact ⟨_, PySem.W.mg_of X G w_MOST_JARS⟩
    case c_MOST_TOLD => exact ⟨_, PySem.W.mg_of X G w_MOST_TOLD⟩
    case x_ShelfError => exact ⟨C1, by simp [cl], xf1⟩
    case x_NoExchange => exact ⟨C2, by simp [cl], xm1_mk xf2 iC2 tI2 il2 ic2 ik2 (fun _ _ _ _ _ _ us hl => match us, hl with | [_, _], _ => rfl) ⟨rfl, rfl, rfl, by decide +kernel, rfl, by decide +kernel, by decide +kernel⟩ (fun A outer s H E cdv => pss_one (ps_ost (L2.pv 0) (L2.pv 1)))⟩
    case x_TooMany => exact ⟨C3, by simp [cl], xm1_mk xf3 iC3 tI3 il3 ic3 ik3 (fun _ _ _ _ _ _ us hl => match us, hl with | [_, _], _ => rfl) ⟨rfl, rfl, rfl, by decide +kernel, rfl, by decide +kernel, by decide +kernel⟩ (fun A outer s H E cdv => pss_one (ps_ost (L2.pv 0) (L2.pv 1)))⟩
    case xs => intro c C fl h1 D C2 fl2 h2; rcases hcl c C fl h1 with ⟨rfl, rfl, rfl⟩ | ⟨rfl, rfl, rfl⟩ | ⟨rfl, rfl, rfl⟩ <;> rcases hcl D C2 fl2 h2 with ⟨rfl, rfl, rfl⟩ | ⟨rfl, rfl, rfl⟩ | ⟨rfl, rfl, rfl⟩ <;> refine ⟨?_, ?_⟩ <;> first | exact kit_pair sb1_1 hC1 tC1 sb1_1 | exact exm_pair eC1 hC1 tC1 sb1_1 | exact kit_pair sb1_1 hC2 tC2 sb1_2 | exact exm_pair eC2 hC2 tC2 sb1_2 | exact kit_pair sb1_1 hC3 tC3 sb1_3 | exact exm_pair eC3 hC3 tC3 sb1_3 | exact kit_pair sb2_2 hC1 tC1 sb2_1 | exact exm_pair eC1 hC1 tC1 sb2_1 | exact kit_pair sb2_2 hC2 tC2 sb2_2 | exact exm_pair eC2 hC2 tC2 sb2_2 | exact kit_pair sb2_2 hC3 tC3 sb2_3 | exact exm_pair eC3 hC3 tC3 sb2_3 | exact kit_pair sb3_3 hC1 tC1 sb3_1 | exact exm_pair eC1 hC1 tC1 sb3_1 | exact kit_pair sb3_3 hC2 tC2 sb3_2 | exact exm_pair eC2 hC2 tC2 sb3_2 | exact kit_pair sb3_3 hC3 tC3 sb3_3 | exact exm_pair eC3 hC3 tC3 sb3_3
    case xf => intro c C fl h1; rcases hcl c C fl h1 with ⟨rfl, rfl, rfl⟩ | ⟨rfl, rfl, rfl⟩ | ⟨rfl, rfl, rfl⟩ <;> first | exact ⟨_, xf1⟩ | exact ⟨_, xf2⟩ | exact ⟨_, xf3⟩
    case fl => intro c C fl h1; rcases hcl c C fl h1 with ⟨rfl, rfl, rfl⟩ | ⟨rfl, rfl, rfl⟩ | ⟨rfl, rfl, rfl⟩ <;> rfl
    case f_exchanged_at => exact fnTx_mk X G a6 l6 c6 k6 (fun _ _ _ _ _ _ us hl => match us, hl with | [_, _], _ => rfl)
    case f_sorted_order => exact fnTx_mk X G a7 l7 c7 k7 (fun _ _ _ _ _ _ us hl => match us, hl with | [_], _ => rfl)
    case f_wrong_jars => exact fnTx_mk X G a8 l8 c8 k8 (fun _ _ _ _ _ _ us hl => match us, hl with | [_], _ => rfl)
    case f_last_members => exact fnTx_mk X G a9 l9 c9 k9 (fun _ _ _ _ _ _ us hl => match us, hl with | [_], _ => rfl)
    case f_places_of => exact fnTx_mk X G a10 l10 c10 k10 (fun _ _ _ _ _ _ us hl => match us, hl with | [_], _ => rfl)
    case f_first_members => exact fnTx_mk X G a11 l11 c11 k11 (fun _ _ _ _ _ _ us hl => match us, hl with | [_], _ => rfl)
    case f_longest_order => exact fnTx_mk X G a12 l12 c12 k12 (fun _ _ _ _ _ _ us hl => match us, hl with | [_], _ => rfl)
    case f_without_first => exact fnTx_mk X G a13 l13 c13 k13 (fun _ _ _ _ _ _ us hl => match us, hl with | [_, _], _ => rfl)
    case f_count_spellings => exact fnTx_mk X G a14 l14 c14 k14 (fun _ _ _ _ _ _ us hl => match us, hl with | [_], _ => rfl)
    case f_all_spellings => exact fnTx_mk X G a15 l15 c15 k15 (fun _ _ _ _ _ _ us hl => match us, hl with | [_], _ => rfl)
    case f_may_move => exact fnTx_mk X G a18 l18 c18 k18 (fun _ _ _ _ _ _ us hl => match us, hl with | [_, _, _], _ => rfl)
    case f_do_move => exact fnTx_mk X G a19 l19 c19 k19 (fun _ _ _ _ _ _ us hl => match us, hl with | [_, _, _], _ => rfl)
    case f_turned_spelling => exact fnTx_mk X G a22 l22 c22 k22 (fun _ _ _ _ _ _ us hl => match us, hl with | [_, _], _ => rfl)
    case f_turn_round => exact fnTx_mk X G a23 l23 c23 k23 (fun _ _ _ _ _ _ us hl => match us, hl with | [_, _], _ => rfl)
    case f_check_few => exact fnTx_mk X G a24 l24 c24 k24 (fun _ _ _ _ _ _ us hl => match us, hl with | [_], _ => rfl)
    case f_class_of => exact fnTx_mk X G a25 l25 c25 k25 (fun _ _ _ _ _ _ us hl => match us, hl with | [_], _ => rfl)
    case f_far_class => exact fnTx_mk X G a26 l26 c26 k26 (fun _ _ _ _ _ _ us hl => match us, hl with | [_, _], _ => rfl)
    case f_count_far_classes => exact fnTx_mk X G a27 l27 c27 k27 (fun _ _ _ _ _ _ us hl => match us, hl with | [_], _ => rfl)
    case f__law_feed => exact fnTx_mk X G a29 l29 c29 k29 (fun _ _ _ _ _ _ us hl => match us, hl with | [_], _ => rfl)
    case f__law_draw => exact fnTx_mk X G a30 l30 c30 k30 (fun _ _ _ _ _ _ us hl => match us, hl with | [_, _], _ => rfl)
    case f__law_whole => exact fnTx_mk X G a31 l31 c31 k31 (fun _ _ _ _ _ _ us hl => match us, hl with | [_], _ => rfl)
    case f__law_wholes => exact fnTx_mk X G a32 l32 c32 k32 (fun _ _ _ _ _ _ us hl => match us, hl with | [_, _], _ => rfl)
    case f__law_order => exact fnTx_mk X G a33 l33 c33 k33 (fun _ _ _ _ _ _ us hl => match us, hl with | [_, _], _ => rfl)
    case f__law_swapped => exact fnTx_mk X G a34 l34 c34 k34 (fun _ _ _ _ _ _ us hl => match us, hl with | [_, _], _ => rfl)
    case f__law_spelled => exact fnTx_mk X G a35 l35 c35 k35 (fun _ _ _ _ _ _ us hl => match us, hl with | [_, _], _ => rfl)
    case f__law_wrong => exact fnTx_mk X G a36 l36 c36 k36 (fun _ _ _ _ _ _ us hl => match us, hl with | [_], _ => rfl)
    case f__law_drawn_spelling => exact fnTx_mk X G a37 l37 c37 k37 (fun _ _ _ _ _ _ us hl => match us, hl with | [_, _], _ => rfl)
    case f__law_all => exact fnTx_mk X G a38 l38 c38 k38 (fun _ _ _ _ _ _ us hl => match us, hl with | [_], _ => rfl)
    case f__law_spelling_longest => exact fnTx_mk X G a39 l39 c39 k39 (fun _ _ _ _ _ _ us hl => match us, hl with | [_, _], _ => rfl)
    case f__law_turned_right => exact fnTx_mk X G a40 l40 c40 k40 (fun _ _ _ _ _ _ us hl => match us, hl with | [_, _], _ => rfl)
    case f__law_walk_right => exact fnTx_mk X G a41 l41 c41 k41 (fun _ _ _ _ _ _ us hl => match us, hl with | [_, _], _ => rfl)
    case f__law_class => exact fnTx_mk X G a42 l42 c42 k42 (fun _ _ _ _ _ _ us hl => match us, hl with | [_], _ => rfl)
    case f__law_asked => exact fnTx_mk X G a43 l43 c43 k43 (fun _ _ _ _ _ _ us hl => match us, hl with | [_, _], _ => rfl)
    case f__law_class_right => exact fnTx_mk X G a44 l44 c44 k44 (fun _ _ _ _ _ _ us hl => match us, hl with | [_, _], _ => rfl)
    case f_law => exact fnTx_mk X G a45 l45 c45 k45 (fun _ _ _ _ _ _ us hl => match us, hl with | [_], _ => rfl)
  exact ⟨_, fun s v => .of_eq rfl, fun base _ _ => def_law (T base) hlaw FL⟩
end
end K25

open PySem PySem.W PyProof.Rows
set_option maxRecDepth 100000 in
set_option maxHeartbeats 0 in
theorem PySem.Challenge.cw_spelledrows_k25_whole_turnings_and_far_c_holds : PySem.Challenge.rw_spelledrows_k25_whole_turnings_and_far_c.Holds := by
  w_on; o_law; k_head; (case hw => w_witness2)
  k_fill
  refine L2.walk_of (l := PySem.Challenge.rw_spelledrows_k25_whole_turnings_and_far_c) (n := 63) (k := 8) (x := "script") (CX := fun _ => L2.CX0) (sp := fun w => DL.spLaw _) rfl (by decide) rfl ⟨rfl, by decide, by decide⟩ (fun w h Y => PySem.W.kIn_of Y) ?F (fun _ _ a ns hl _ hS => ⟨a, ns, rfl, hS, Nat.le_trans hl (by decide), fun _ => rfl⟩) (fun _ _ _ _ _ h => h)
  case F =>
    intro w mg fa h KX G hmg
    refine' K25.all_mk K25.law_true KX G hmg ?a6 ?l6 ?c6 ?k6 ?a7 ?l7 ?c7 ?k7 ?a8 ?l8 ?c8 ?k8 ?a9 ?l9 ?c9 ?k9 ?a10 ?l10 ?c10 ?k10 ?a11 ?l11 ?c11 ?k11 ?a12 ?l12 ?c12 ?k12 ?a13 ?l13 ?c13 ?k13 ?a14 ?l14 ?c14 ?k14 ?a15 ?l15 ?c15 ?k15 ?a18 ?l18 ?c18 ?k18 ?a19 ?l19 ?c19 ?k19 ?a22 ?l22 ?c22 ?k22 ?a23 ?l23 ?c23 ?k23 ?a24 ?l24 ?c24 ?k24 ?a25 ?l25 ?c25 ?k25 ?a26 ?l26 ?c26 ?k26 ?a27 ?l27 ?c27 ?k27 ?a29 ?l29 ?c29 ?k29 ?a30 ?l30 ?c30 ?k30 ?a31 ?l31 ?c31 ?k31 ?a32 ?l32 ?c32 ?k32 ?a33 ?l33 ?c33 ?k33 ?a34 ?l34 ?c34 ?k34 ?a35 ?l35 ?c35 ?k35 ?a36 ?l36 ?c36 ?k36 ?a37 ?l37 ?c37 ?k37 ?a38 ?l38 ?c38 ?k38 ?a39 ?l39 ?c39 ?k39 ?a40 ?l40 ?c40 ?k40 ?a41 ?l41 ?c41 ?k41 ?a42 ?l42 ?c42 ?k42 ?a43 ?l43 ?c43 ?k43 ?a44 ?l44 ?c44 ?k44 ?a45 ?l45 ?c45 ?k45 ?z_abs ?z_all ?z_bool ?z_enumerate ?z_int ?z_isinstance ?z_len ?z_list ?z_range ?z_sorted ?z_sum ?z_tuple ?w_FAR ?w_MOST_JARS ?w_MOST_TOLD ?aC1 ?xL1 ?hv1 ?sa1 ?ga1 ?gg1 ?eC1 ?tC1 ?kC1 ?hC1 ?hk1 ?hm1 ?aC2 ?xL2 ?hv2 ?sa2 ?ga2 ?gg2 ?eC2 ?tC2 ?kC2 ?hC2 ?hk2 ?hm2 ?no2_0 ?iC2 ?tI2 ?il2 ?ic2 ?ik2 ?aC3 ?xL3 ?hv3 ?sa3 ?ga3 ?gg3 ?eC3 ?tC3 ?kC3 ?hC3 ?hk3 ?hm3 ?no3_0 ?iC3 ?tI3 ?il3 ?ic3 ?ik3 ?hn ?ht ?sb1_1 ?sb1_2 ?sb1_3 ?sb2_1 ?sb2_2 ?sb2_3 ?sb3_1 ?sb3_2 ?sb3_3
    (case a6 => first | k_is | rfl)
    (case l6 => first | k_is | rfl)
    (case c6 => first | k_is | rfl)
    (case k6 => first | k_is | rfl)
    (case a7 => first | k_is | rfl)
    (case l7 => first | k_is | rfl)
    (case c7 => first | k_is | rfl)
    (case k7 => first | k_is | rfl)
    (case a8 => first | k_is | rfl)
    (case l8 => first | k_is | rfl)
    (case c8 => first | k_is | rfl)
    (case k8 => first | k_is | rfl)
    (case a9 => first | k_is | rfl)
    (case l9 => first | k_is | rfl)
    (case c9 => first | k_is | rfl)
    (case k9 => first | k_is | rfl)
    (case a10 => first | k_is | rfl)
    (case l10 => first | k_is | rfl)
    (case c10 => first | k_is | rfl)
    (case k10 => first | k_is | rfl)
    (case a11 => first | k_is | rfl)
    (case l11 => first | k_is | rfl)
    (case c11 => first | k_is | rfl)
    (case k11 => first | k_is | rfl)
    (case a12 => first | k_is | rfl)
    (case l12 => first | k_is | rfl)
    (case c12 => first | k_is | rfl)
    (case k12 => first | k_is | rfl)
    (case a13 => first | k_is | rfl)
    (case l13 => first | k_is | rfl)
    (case c13 => first | k_is | rfl)
    (case k13 => first | k_is | rfl)
    (case a14 => first | k_is | rfl)
    (case l14 => first | k_is | rfl)
    (case c14 => first | k_is | rfl)
    (case k14 => first | k_is | rfl)
    (case a15 => first | k_is | rfl)
    (case l15 => first | k_is | rfl)
    (case c15 => first | k_is | rfl)
    (case k15 => first | k_is | rfl)
    (case a18 => first | k_is | rfl)
    (case l18 => first | k_is | rfl)
    (case c18 => first | k_is | rfl)
    (case k18 => first | k_is | rfl)
    (case a19 => first | k_is | rfl)
    (case l19 => first | k_is | rfl)
    (case c19 => first | k_is | rfl)
    (case k19 => first | k_is | rfl)
    (case a22 => first | k_is | rfl)
    (case l22 => first | k_is | rfl)
    (case c22 => first | k_is | rfl)
    (case k22 => first | k_is | rfl)
    (case a23 => first | k_is | rfl)
    (case l23 => first | k_is | rfl)
    (case c23 => first | k_is | rfl)
    (case k23 => first | k_is | rfl)
    (case a24 => first | k_is | rfl)
    (case l24 => first | k_is | rfl)
    (case c24 => first | k_is | rfl)
    (case k24 => first | k_is | rfl)
    (case a25 => first | k_is | rfl)
    (case l25 => first | k_is | rfl)
    (case c25 => first | k_is | rfl)
    (case k25 => first | k_is | rfl)
    (case a26 => first | k_is | rfl)
    (case l26 => first | k_is | rfl)
    (case c26 => first | k_is | rfl)
    (case k26 => first | k_is | rfl)
    (case a27 => first | k_is | rfl)
    (case l27 => first | k_is | rfl)
    (case c27 => first | k_is | rfl)
    (case k27 => first | k_is | rfl)
    (case a29 => first | k_is | rfl)
    (case l29 => first | k_is | rfl)
    (case c29 => first | k_is | rfl)
    (case k29 => first | k_is | rfl)
    (case a30 => first | k_is | rfl)
    (case l30 => first | k_is | rfl)
    (case c30 => first | k_is | rfl)
    (case k30 => first | k_is | rfl)
    (case a31 => first | k_is | rfl)
    (case l31 => first | k_is | rfl)
    (case c31 => first | k_is | rfl)
    (case k31 => first | k_is | rfl)
    (case a32 => first | k_is | rfl)
    (case l32 => first | k_is | rfl)
    (case c32 => first | k_is | rfl)
    (case k32 => first | k_is | rfl)
    (case a33 => first | k_is | rfl)
    (case l33 => first | k_is | rfl)
    (case c33 => first | k_is | rfl)
    (case k33 => first | k_is | rfl)
    (case a34 => first | k_is | rfl)
    (case l34 => first | k_is | rfl)
    (case c34 => first | k_is | rfl)
    (case k34 => first | k_is | rfl)
    (case a35 => first | k_is | rfl)
    (case l35 => first | k_is | rfl)
    (case c35 => first | k_is | rfl)
    (case k35 => first | k_is | rfl)
    (case a36 => first | k_is | rfl)
    (case l36 => first | k_is | rfl)
    (case c36 => first | k_is | rfl)
    (case k36 => first | k_is | rfl)
    (case a37 => first | k_is | rfl)
    (case l37 => first | k_is | rfl)
    (case c37 => first | k_is | rfl)
    (case k37 => first | k_is | rfl)
    (case a38 => first | k_is | rfl)
    (case l38 => first | k_is | rfl)
    (case c38 => first | k_is | rfl)
    (case k38 => first | k_is | rfl)
    (case a39 => first | k_is | rfl)
    (case l39 => first | k_is | rfl)
    (case c39 => first | k_is | rfl)
    (case k39 => first | k_is | rfl)
    (case a40 => first | k_is | rfl)
    (case l40 => first | k_is | rfl)
    (case c40 => first | k_is | rfl)
    (case k40 => first | k_is | rfl)
    (case a41 => first | k_is | rfl)
    (case l41 => first | k_is | rfl)
    (case c41 => first | k_is | rfl)
    (case k41 => first | k_is | rfl)
    (case a42 => first | k_is | rfl)
    (case l42 => first | k_is | rfl)
    (case c42 => first | k_is | rfl)
    (case k42 => first | k_is | rfl)
    (case a43 => first | k_is | rfl)
    (case l43 => first | k_is | rfl)
    (case c43 => first | k_is | rfl)
    (case k43 => first | k_is | rfl)
    (case a44 => first | k_is | rfl)
    (case l44 => first | k_is | rfl)
    (case c44 => first | k_is | rfl)
    (case k44 => first | k_is | rfl)
    (case a45 => first | k_is | rfl)
    (case l45 => first | k_is | rfl)
    (case c45 => first | k_is | rfl)
    (case k45 => first | k_is | rfl)
    (case z_abs => first | k_is | rfl)
    (case z_all => first | k_is | rfl)
    (case z_bool => first | k_is | rfl)
    (case z_enumerate => first | k_is | rfl)
    (case z_int => first | k_is | rfl)
    (case z_isinstance => first | k_is | rfl)
    (case z_len => first | k_is | rfl)
    (case z_list => first | k_is | rfl)
    (case z_range => first | k_is | rfl)
    (case z_sorted => first | k_is | rfl)
    (case z_sum => first | k_is | rfl)
    (case z_tuple => first | k_is | rfl)
    (case w_FAR => first | k_is | rfl)
    (case w_MOST_JARS => first | k_is | rfl)
    (case w_MOST_TOLD => first | k_is | rfl)
    (case aC1 => first | k_is | rfl)
    (case xL1 => first | k_is | rfl)
    (case hv1 => first | rfl | decide +kernel)
    (case sa1 => first | k_is | rfl)
    (case ga1 => first | k_is | rfl)
    (case gg1 => first | k_is | rfl)
    (case eC1 => first | k_is | rfl)
    (case tC1 => first | k_is | rfl)
    (case kC1 => first | k_is | rfl)
    (case hC1 => first | k_is | rfl)
    (case hk1 => first | k_is | rfl)
    (case hm1 => first | k_is | rfl)
    (case aC2 => first | k_is | rfl)
    (case xL2 => first | k_is | rfl)
    (case hv2 => first | rfl | decide +kernel)
    (case sa2 => first | k_is | rfl)
    (case ga2 => first | k_is | rfl)
    (case gg2 => first | k_is | rfl)
    (case eC2 => first | k_is | rfl)
    (case tC2 => first | k_is | rfl)
    (case kC2 => first | k_is | rfl)
    (case hC2 => first | k_is | rfl)
    (case hk2 => first | k_is | rfl)
    (case hm2 => first | k_is | rfl)
    (case no2_0 => first | k_is | rfl)
    (case iC2 => first | k_is | rfl)
    (case tI2 => first | k_is | rfl)
    (case il2 => first | k_is | rfl)
    (case ic2 => first | k_is | rfl)
    (case ik2 => first | k_is | rfl)
    (case aC3 => first | k_is | rfl)
    (case xL3 => first | k_is | rfl)
    (case hv3 => first | rfl | decide +kernel)
    (case sa3 => first | k_is | rfl)
    (case ga3 => first | k_is | rfl)
    (case gg3 => first | k_is | rfl)
    (case eC3 => first | k_is | rfl)
    (case tC3 => first | k_is | rfl)
    (case kC3 => first | k_is | rfl)
    (case hC3 => first | k_is | rfl)
    (case hk3 => first | k_is | rfl)
    (case hm3 => first | k_is | rfl)
    (case no3_0 => first | k_is | rfl)
    (case iC3 => first | k_is | rfl)
    (case tI3 => first | k_is | rfl)
    (case il3 => first | k_is | rfl)
    (case ic3 => first | k_is | rfl)
    (case ik3 => first | k_is | rfl)
    (case hn => first | k_is | rfl)
    (case ht => first | k_is | rfl)
    (case sb1_1 => first | k_is | rfl)
    (case sb1_2 => first | k_is | rfl)
    (case sb1_3 => first | k_is | rfl)
    (case sb2_1 => first | k_is | rfl)
    (case sb2_2 => first | k_is | rfl)
    (case sb2_3 => first | k_is | rfl)
    (case sb3_1 => first | k_is | rfl)
    (case sb3_2 => first | k_is | rfl)
    (case sb3_3 => first | k_is | rfl)
